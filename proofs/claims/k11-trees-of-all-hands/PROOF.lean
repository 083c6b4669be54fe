import PyProof.Rows.All
import Wide.All
import OpenK.AllK
import Wide.FinOn
import HandS.ForMost
import KE.KSortTupG
import HandS.Lambda
import HandS.Flow
import HandS.TupAny
import HandS.TupMul
import HandS.Style
import HandS.List
import PyProof.SumWalkG
import HandS.TupSets
import HandS.More
import PyProof.Rows.SortShellAny
import HandS.SortInts
import HandS.Wide
import HandS.TupLe
import HandS.Deep
import PyProof.Rows.SeqMore
import HandS.Iter
import HandS.Zip
import KE.GoesEnum
import HandS.Rev
import HandS.NoneIn
import HandS.Conv
import HandS.Nested
import KE.SortKeyHeap
import HandS.SortKw
import HandS.SetFor
import HandS.Strs
import PyProof.AutoSeq1
import HandS.Dict
import HandS.DictComp
import HandS.WordsDict
import HandS.Remove
import HandS.EndBits
import HandS.Defaults
import KE.KNestM
import PyProof.ReprLen
import PyProof.Rows.StrIntSpec
import HandS.WideBits
import KE.BitLaws
import PySem.Challenge.RW_beatferry_k11_trees_of_all_hands
set_option Elab.async false
set_option linter.all false
set_option maxRecDepth 100000
set_option maxHeartbeats 4000000
/-! B0: plain data, a small language of defs, its reckoning. -/
namespace B
open PySem

/-- plain data: ref n is the n-th object of the store -/
inductive D where
  | non
  | bl (b : Bool)
  | int (i : Int)
  | str (s : Str)
  | tup (ds : List D)
  | lst (ds : List D)
  | ref (n : Nat)
  deriving Inhabited

/-- an object of the store -/
inductive O where
  | lst (ds : List D)
  /-- a dict: its keys are numbers, or tuples of numbers -/
  | dci (kvs : List (Int × D))
  | dct (kvs : List (List Int × D))

abbrev Store := List O
abbrev Env := List (Option D)

mutual
def D.py : D → Option PyData
  | .non => some .none
  | .bl b => some (.bool b)
  | .int i => some (.int i)
  | .str s => some (.str s)
  | .tup ds => match D.pyL ds with | some xs => some (.tuple xs) | none => none
  | .lst ds => match D.pyL ds with | some xs => some (.list xs) | none => none
  | .ref _ => none
def D.pyL : List D → Option (List PyData)
  | [] => some []
  | d :: ds => match D.py d with
    | some x => match D.pyL ds with | some xs => some (x :: xs) | none => none
    | none => none
end

/-- what a ref shows, a list of things without refs -/
def D.see (st : Store) : D → D
  | .ref n => match st[n]? with | some (.lst ds) => .lst ds | _ => .ref n
  | d => d

def SL : Nat := 16777216
def WB : Nat := 2 ^ 1000

inductive BOp where
  | add | sub | mul | fdiv | mod | pow | shl | shr | band | bor | bxor
  deriving DecidableEq
inductive COp where
  | eq | ne | lt | le | gt | ge | isN | notN | in_ | notin
  deriving DecidableEq

/-- a target of names -/
inductive Tg where
  | nm (i : Nat)
  | tup (ts : List Tg)

inductive Sel where
  | arg (j : Nat)
  | dfl (k : Nat)
  deriving DecidableEq

/-- built-in functions -/
inductive Blt where
  | len | tuple | list (mat : Bool) | repr | abs | int | max2 | min2 | all | any | sorted (mat : Bool) | sum | maxL | minL
  deriving DecidableEq

mutual
inductive Ex where
  | nm (i : Nat)
  | cI (i : Int)
  | cB (b : Bool)
  | cN
  | cS (s : Str)
  | bin (o : BOp) (a b : Ex)
  | neg (a : Ex)
  | cmp (o : COp) (a b : Ex)
  | cmp2 (o p : COp) (a b c : Ex)
  | and (es : Exs)
  | or (es : Exs)
  | not (a : Ex)
  | ife (c : Tx) (a b : Ex)
  | tup (es : Exs)
  | lst (mat : Bool) (es : Exs)
  | idx (a i : Ex)
  | slc (mat : Bool) (a : Ex) (lo hi : Exo)
  | revT (a : Ex)
  | revL (mat : Bool) (a : Ex)
  | blt (f : Blt) (es : Exs)
  | app (o a : Ex)
  | ins (o i a : Ex)
  | call (f np nk : Nat) (sel : List Sel) (es ks : Exs)
  | tupR1 (a : Ex)
  | tupR2 (a b : Ex)
  | lisR1 (mat : Bool) (a : Ex)
  | lisR2 (mat : Bool) (a b : Ex)
  | lc (mat : Bool) (elt : Ex) (tg : Tg) (it : Itx) (c : Tx) (own : List (Str × Nat))
  | srtk (a : Ex) (f i j : Nat)
  | sset (mat : Bool) (a : Ex)
  | lset (a : Ex)
  | repL (mat : Bool) (es : Exs) (e : Ex)
  | ext (o a : Ex)
  | pop (o : Ex)
  | popI (o a : Ex)
  | rem (o a : Ex)
  | cnt (o a : Ex)
  | catM (a b : Ex)
  | dnew (t : Bool)
  | dget (one : Bool) (a : Ex) (ks : Exs)
  | dgetE (one : Bool) (a : Ex) (ks : Exs) (e : Ex)
  | din (neg one : Bool) (ks : Exs) (a : Ex)
  | dlen (a : Ex)
  | dcmp (k v : Ex) (tg : Tg) (it : Itx) (c : Tx) (own : List (Str × Nat))
inductive Tx where
  | yes
  | cmp (o : COp) (a b : Ex)
  | cmp2 (o p : COp) (a b c : Ex)
  | and (ts : Txs)
  | or (ts : Txs)
  | not (a : Tx)
  | tr (e : Ex)
  | din (neg one : Bool) (ks : Exs) (a : Ex)
inductive Txs where
  | nil
  | cons (t : Tx) (ts : Txs)
inductive Exo where
  | no
  | so (e : Ex)
inductive Exs where
  | nil
  | cons (e : Ex) (es : Exs)
inductive Itx where
  | rng1 (a : Ex)
  | rng2 (a b : Ex)
  | seq (e : Ex)
  | zip (a b : Ex)
  | rvsd (a : Ex)
  | enum (a : Ex)
end

mutual
inductive S where
  | set (i : Nat) (e : Ex)
  | setT (tg : Tg) (e : Ex)
  | par (is : List Nat) (es : Exs)
  | setI (o i e : Ex)
  | setII (o i o2 i2 : Ex) (es : Exs)
  | dput (one : Bool) (o : Ex) (ks : Exs) (e : Ex)
  | aug (i : Nat) (o : BOp) (e : Ex)
  | expr (e : Ex)
  | ret (e : Ex)
  | ife (c : Tx) (a b : Ss)
  | whl (c : Tx) (b : Ss)
  | for_ (tg : Tg) (it : Itx) (b : Ss)
  | brk
  | ctn
  | rais
inductive Ss where
  | nil
  | cons (s : S) (ss : Ss)
end

/-- a bounded loop's turns: at turn i, in this store: stuck, over, or an item -/
structure Itv where
  nth : Nat → Store → Option (Option D)
  len : Nat

def Itv.fix (ds : List D) : Itv := ⟨fun i _ => some ds[i]?, ds.length⟩
def zipD (xs ys : List D) : List D := List.zipWith (fun x y => .tup [x, y]) xs ys
def Itv.zlive (n k : Nat) (m : Nat) : Itv := ⟨fun i st => match st[n]? with
  | some (.lst ds) => (match st[k]? with | some (.lst es) => some (zipD ds es)[i]? | _ => none)
  | _ => none, m⟩
def Itv.live (n : Nat) (m : Nat) : Itv := ⟨fun i st => match st[n]? with | some (.lst ds) => some ds[i]? | _ => none, m⟩

inductive Fl where
  | nx | bk | ct | ret (d : D)

/-! ### the operators -/
def seqOf (st : Store) : D → Option (List D)
  | .tup ds => some ds
  | .lst ds => some ds
  | .ref n => match st[n]? with | some (.lst ds) => some ds | _ => none
  | _ => none

def lstOf (st : Store) : D → Option (List D)
  | .lst ds => some ds
  | .ref n => match st[n]? with | some (.lst ds) => some ds | _ => none
  | _ => none
def intsD : List D → Option (List Int)
  | [] => some []
  | .int i :: ds => match intsD ds with | some ns => some (i :: ns) | none => none
  | _ :: _ => none
def catL (x y : D) (st : Store) : Option (D × Store) := match lstOf st x with
  | some xs => match lstOf st y with
    | some ys => if xs.length + ys.length ≤ SL then some (.lst (xs ++ ys), st) else none
    | none => none
  | none => none
/-- list + list, laid in the store -/
def catLM (x y : D) (st : Store) : Option (D × Store) := match lstOf st x with
  | some xs => match lstOf st y with
    | some ys => if xs.length + ys.length ≤ SL then some (.ref st.length, st ++ [.lst (xs ++ ys)]) else none
    | none => none
  | none => none
def bop (o : BOp) (a b : D) (st : Store) : Option (D × Store) :=
  match o, a, b with
  | .add, .int i, .int j => some (.int (i + j), st)
  | .sub, .int i, .int j => some (.int (i - j), st)
  | .mul, .int i, .int j => if ((-(2 ^ 64) < i ∧ i < 2 ^ 64) ∨ (-(2 ^ 64) < j ∧ j < 2 ^ 64)) ∨ (i.natAbs < WB ∧ j.natAbs < WB) then some (.int (i * j), st) else none
  | .fdiv, .int i, .int j => if (j ≠ 0 ∧ j.natAbs < 1073741824) ∨ (0 < j ∧ j < 2 ^ 200) then some (.int (i.fdiv j), st) else none
  | .mod, .int i, .int j => if j ≠ 0 then some (.int (i.fmod j), st) else none
  | .pow, .int i, .int j => if (0 ≤ j ∧ j ≤ 1000000 ∧ i.natAbs < 2 ^ 64) ∨ (0 ≤ j ∧ j ≤ 1000 ∧ i.natAbs < WB) then some (.int (i ^ j.toNat), st) else none
  | .shl, .int i, .int j => if 0 ≤ j ∧ j ≤ 1000000 ∧ i.natAbs < 2 ^ 64 then some (.int (i * 2 ^ j.toNat), st) else none
  | .shr, .int i, .int j => if 0 ≤ j then some (.int (i / 2 ^ j.toNat), st) else none
  | .band, .int i, .int j => some (.int (Builtin.bitAnd i j), st)
  | .bor, .int i, .int j => some (.int (Builtin.bitOr i j), st)
  | .bxor, .int i, .int j => some (.int (Builtin.bitXor i j), st)
  | .add, .tup x, .tup y => if x.length + y.length ≤ SL then some (.tup (x ++ y), st) else none
  | .add, .lst x, y => catL (.lst x) y st
  | .add, .ref x, y => catL (.ref x) y st
  | .mul, .tup x, .int k => if -1000 ≤ k ∧ k ≤ 1000 ∧ x.length ≤ 1000 then some (.tup (List.replicate k.toNat x).flatten, st) else none
  | _, _, _ => none

/-- in, of data of any depth -/
def inD (a b : D) (st : Store) : Option Bool := match (a.see st).py, (b.see st).py with
  | some x, some (.list ys) => if SeqAt.shaped x = true ∧ SeqAt.shaped (.list ys) = true then some (ys.any fun z => PyData.eqv z x) else none
  | some x, some (.tuple ys) => if SeqAt.shaped x = true ∧ SeqAt.shaped (.tuple ys) = true then some (ys.any fun z => PyData.eqv z x) else none
  | _, _ => none
def ninD (a b : D) (st : Store) : Option Bool := match inD a b st with | some c => some (!c) | none => none
def cop (o : COp) (a b : D) (st : Store) : Option Bool :=
  match o with
  | .eq => match a, b with
    | .int i, .int j => some (decide (i = j))
    | .str i, .str j => some (decide (i = j))
    | .bl i, .bl j => some (decide (i = j))
    | a, b => match (a.see st).py, (b.see st).py with
      | some x, some y => if SeqAt.shaped x = true ∧ SeqAt.shaped y = true then some (PyData.eqv x y) else none
      | _, _ => none
  | .ne => match a, b with
    | .int i, .int j => some (!decide (i = j))
    | .str i, .str j => some (!decide (i = j))
    | .bl i, .bl j => some (!decide (i = j))
    | a, b => match (a.see st).py, (b.see st).py with
      | some x, some y => if SeqAt.shaped x = true ∧ SeqAt.shaped y = true then some (!PyData.eqv x y) else none
      | _, _ => none
  | .lt => match a, b with | .int i, .int j => some (decide (i < j)) | _, _ => none
  | .le => match a, b with | .int i, .int j => some (decide (i ≤ j)) | _, _ => none
  | .gt => match a, b with | .int i, .int j => some (decide (j < i)) | _, _ => none
  | .ge => match a, b with | .int i, .int j => some (decide (j ≤ i)) | _, _ => none
  | .isN => match a, b with
    | .non, .non => some true
    | .bl _, .non => some false
    | .int _, .non => some false
    | .str _, .non => some false
    | .tup _, .non => some false
    | .lst _, .non => some false
    | .ref _, .non => some false
    | .bl x, .bl y => some (decide (x = y))
    | _, _ => none
  | .notN => match a, b with
    | .non, .non => some false
    | .bl _, .non => some true
    | .int _, .non => some true
    | .str _, .non => some true
    | .tup _, .non => some true
    | .lst _, .non => some true
    | .ref _, .non => some true
    | .bl x, .bl y => some (!decide (x = y))
    | _, _ => none
  | .in_ => match a with
    | .int i => match seqOf st b with
      | some xs => match intsD xs with | some ns => some (decide (i ∈ ns)) | none => inD (.int i) b st
      | none => none
    | a => inD a b st
  | .notin => match a with
    | .int i => match seqOf st b with
      | some xs => match intsD xs with | some ns => some (!decide (i ∈ ns)) | none => ninD (.int i) b st
      | none => none
    | a => ninD a b st

/-- truth -/
def tru (st : Store) : D → Option Bool
  | .non => some false
  | .bl b => some b
  | .int i => some (i != 0)
  | .str s => if s.length ≤ SL then some (s.length != 0) else none
  | .tup ds => some (!ds.isEmpty)
  | .lst ds => some (!ds.isEmpty)
  | .ref n => match st[n]? with | some (.lst ds) => some (!ds.isEmpty) | _ => none

/-- the keys of a dict of the store's, numbers -/
def keysOf (d : D) (st : Store) : Option (List Int) := match d with
  | .ref n => match st[n]? with
    | some (.dci kvs) => if kvs.length ≤ SL then some (kvs.map (·.1)) else none
    | _ => none
  | _ => none
/-- a new list: kept as plain data, or laid in the store -/
def newL (mat : Bool) (ds : List D) (st : Store) : Option (D × Store) :=
  if mat then some (.ref st.length, st ++ [.lst ds]) else some (.lst ds, st)

def ixOf (n : Nat) (i : Int) : Option Nat := if 0 ≤ i then (if i < n then some i.toNat else none) else if -(n : Int) ≤ i then some (i + n).toNat else none

def idx (a i : D) (st : Store) : Option (D × Store) :=
  match i with
  | .int k => match seqOf st a with
    | some ds => match ixOf ds.length k with
      | some j => match ds[j]? with | some d => some (d, st) | none => none
      | none => none
    | none => none
  | _ => none

/-- where a part of a slice lies -/
def clip (n d : Nat) : Option Int → Nat
  | none => d
  | some v => (if v < 0 then max (v + (n : Int)) 0 else min v (n : Int)).toNat
def cutD (ds : List D) (lo hi : Option Int) : List D := (ds.drop (clip ds.length 0 lo)).take (clip ds.length ds.length hi - clip ds.length 0 lo)

def slc (mat : Bool) (a : D) (l h : Option Int) (st : Store) : Option (D × Store) :=
  match a with
  | .tup ds => some (.tup (cutD ds l h), st)
  | .lst ds => newL mat (cutD ds l h) st
  | .ref n => match st[n]? with | some (.lst ds) => newL mat (cutD ds l h) st | _ => none
  | _ => none
def intO (a : D) (st : Store) : Option (Option Int × Store) := match a with
  | .int i => some (some i, st)
  | _ => none

def revT (a : D) (st : Store) : Option (D × Store) :=
  match a with
  | .tup ds => some (.tup ds.reverse, st)
  | _ => none
def revL (mat : Bool) (a : D) (st : Store) : Option (D × Store) := match lstOf st a with
  | some ds => newL mat ds.reverse st
  | none => none
/-- a list of the store's -/
def asL (a : D) (st : Store) : Option (D × Store) :=
  match a with
  | .ref n => match st[n]? with | some (.lst _) => some (.ref n, st) | _ => none
  | _ => none

def bls : List D → Option (List Bool)
  | [] => some []
  | .bl b :: ds => match bls ds with | some bs => some (b :: bs) | none => none
  | _ :: _ => none

def cntT (bs : List Bool) : Int := (bs.map fun b => if b = true then (1 : Int) else 0).sum
def srtI (ns : List Int) : List Int := ns.mergeSort fun a b => decide (a ≤ b)
def maxI : List Int → Option Int
  | [] => none
  | n :: ns => some (ns.foldl (fun a b => if a < b then b else a) n)
def minI : List Int → Option Int
  | [] => none
  | n :: ns => some (ns.foldl (fun a b => if b < a then b else a) n)
def intsOf (d : D) (st : Store) : Option (List Int) := match lstOf st d with
  | some xs => intsD xs
  | none => none
/-- tuples of numbers, compared from the left -/
def lexI (a b : List Int) : Bool := !(PyProof.Rows.lexLt PyProof.Rows.itemOrd (b.map Sum.inl) (a.map Sum.inl))
def tupsD : List D → Option (List (List Int))
  | [] => some []
  | .tup ds :: r => match intsD ds with
    | some ns => match tupsD r with | some q => some (ns :: q) | none => none
    | none => none
  | _ :: _ => none
def tupsOf (d : D) (st : Store) : Option (List (List Int)) := match lstOf st d with
  | some xs => tupsD xs
  | none => none
def srtT (nss : List (List Int)) : List (List Int) := nss.mergeSort lexI
def tupE (ns : List Int) : D := .tup (ns.map D.int)
def bltin (f : Blt) (ds : List D) (st : Store) : Option (D × Store) :=
  match f, ds with
  | .len, [d] => match seqOf st d with
    | some xs => some (.int xs.length, st)
    | none => none
  | .tuple, [d] => match seqOf st d with
    | some xs => some (.tup xs, st)
    | none => none
  | .list mat, [d] => match seqOf st d with
    | some xs => newL mat xs st
    | none => none
  | .repr, [d] => match (d.see st).py with
    | some x => if x.showable = true ∧ x.depth ≤ 64 ∧ x.shown.length ≤ SL then some (.str x.shown, st) else none
    | none => none
  | .abs, [.int i] => some (.int (if i < 0 then -i else i), st)
  | .int, [.int i] => some (.int i, st)
  | .int, [.bl b] => some (.int (if b then 1 else 0), st)
  | .max2, [.int i, .int j] => some (.int (if j > i then j else i), st)
  | .min2, [.int i, .int j] => some (.int (if j < i then j else i), st)
  | .all, [d] => match lstOf st d with
    | some xs => match bls xs with | some bs => some (.bl (bs.all id), st) | none => none
    | none => none
  | .any, [d] => match lstOf st d with
    | some xs => match bls xs with | some bs => some (.bl (bs.any id), st) | none => none
    | none => none
  | .sorted mat, [d] => match intsOf d st with
    | some ns => newL mat ((srtI ns).map D.int) st
    | none => match tupsOf d st with
      | some nss => if (∀ ns ∈ nss, ns ≠ []) ∨ nss.length < 2 then newL mat ((srtT nss).map tupE) st else none
      | none => match keysOf d st with
        | some ks => newL mat ((srtI ks).map D.int) st
        | none => none
  | .sum, [d] => match intsOf d st with
    | some ns => some (.int ns.sum, st)
    | none => match lstOf st d with
      | some xs => match bls xs with | some bs => some (.int (cntT bs), st) | none => none
      | none => none
  | .maxL, [d] => match intsOf d st with
    | some ns => match maxI ns with | some m => some (.int m, st) | none => none
    | none => none
  | .minL, [d] => match intsOf d st with
    | some ns => match minI ns with | some m => some (.int m, st) | none => none
    | none => none
  | _, _ => none

def appD (o a : D) (st : Store) : Option (D × Store) :=
  match o with
  | .ref n => match st[n]? with
    | some (.lst ds) => if ds.length < SL then some (.non, st.set n (.lst (ds ++ [a]))) else none
    | _ => none
  | _ => none

def extD (o a : D) (st : Store) : Option (D × Store) :=
  match o with
  | .ref n => match st[n]? with
    | some (.lst ds) => match seqOf st a with
      | some es => if ds.length + es.length ≤ SL then some (.non, st.set n (.lst (ds ++ es))) else none
      | none => none
    | _ => none
  | _ => none
def popD (o : D) (st : Store) : Option (D × Store) :=
  match o with
  | .ref n => match st[n]? with
    | some (.lst ds) => match ds.getLast? with
      | some d => some (d, st.set n (.lst ds.dropLast))
      | none => none
    | _ => none
  | _ => none
def popID (o a : D) (st : Store) : Option (D × Store) :=
  match o, a with
  | .ref n, .int i => match st[n]? with
    | some (.lst ds) => match ixOf ds.length i with
      | some j => match ds[j]? with
        | some d => if -(2 ^ 62) ≤ i ∧ i < 2 ^ 62 then some (d, st.set n (.lst (ds.eraseIdx j))) else none
        | none => none
      | none => none
    | _ => none
  | _, _ => none
/-- list.remove of a number, of numbers -/
def remD (o a : D) (st : Store) : Option (D × Store) :=
  match o, a with
  | .ref n, .int k => match st[n]? with
    | some (.lst ds) => match intsD ds with
      | some ns => if k ∈ ns then some (.non, st.set n (.lst ((ns.erase k).map D.int))) else none
      | none => none
    | _ => none
  | _, _ => none
/-- a list -/
def asL2 (a : D) (st : Store) : Option (D × Store) := match lstOf st a with
  | some _ => some (a, st)
  | none => none
/-- list.count of a number, of numbers -/
def cntD (o a : D) (st : Store) : Option (D × Store) := match a with
  | .int k => match intsOf o st with
    | some ns => some (.int (ns.count k : Nat), st)
    | none => none
  | _ => none
def insAt (ds : List D) (i : Int) (a : D) : List D := ds.take i.toNat ++ [a] ++ ds.drop i.toNat
def insD (o i a : D) (st : Store) : Option (D × Store) :=
  match o, i with
  | .ref n, .int k => match st[n]? with
    | some (.lst ds) => if ds.length < SL ∧ 0 ≤ k ∧ k < 2 ^ 63 then some (.non, st.set n (.lst (insAt ds k a))) else none
    | _ => none
  | _, _ => none

def setD (o i a : D) (st : Store) : Option Store :=
  match o, i with
  | .ref n, .int k => match st[n]? with
    | some (.lst ds) => match ixOf ds.length k with
      | some j => some (st.set n (.lst (ds.set j a)))
      | none => none
    | _ => none
  | _, _ => none

/-! ### dicts -/
section
variable {κ : Type} [DecidableEq κ]
def lookA (kvs : List (κ × D)) (k : κ) : Option D := (kvs.find? fun kv => decide (kv.1 = k)).map (·.2)
def putA (kvs : List (κ × D)) (k : κ) (d : D) : List (κ × D) :=
  if (kvs.any fun kv => decide (kv.1 = k)) = true then kvs.map (fun kv => if kv.1 = k then (kv.1, d) else kv) else kvs ++ [(k, d)]
end
/-- a dict's key -/
inductive DK where
  | i (k : Int)
  | t (ks : List Int)
def keyD (one : Bool) (ds : List D) (st : Store) : Option (DK × Store) := match one with
  | true => match ds with | [.int k] => some (.i k, st) | _ => none
  | false => match intsD ds with | some ks => if ds.length ≤ SL then some (.t ks, st) else none | none => none
/-- what a dict holds at a key -/
def dgetO (a : D) (k : DK) (st : Store) : Option (Option D) := match a with
  | .ref n => match st[n]? with
    | some (.dci kvs) => (match k with | .i k => some (lookA kvs k) | _ => none)
    | some (.dct kvs) => (match k with | .t ks => some (lookA kvs ks) | _ => none)
    | _ => none
  | _ => none
def dgetD (a : D) (k : DK) (st : Store) : Option (D × Store) := match dgetO a k st with
  | some (some d) => some (d, st)
  | _ => none
def dgetE (a : D) (k : DK) (e : D) (st : Store) : Option (D × Store) := match dgetO a k st with
  | some o => some (o.getD e, st)
  | none => none
def dinV (neg : Bool) (k : DK) (a : D) (st : Store) : Option (D × Store) := match dgetO a k st with
  | some o => some (.bl (if neg then !o.isSome else o.isSome), st)
  | none => none
def dinT (neg : Bool) (k : DK) (a : D) (st : Store) : Option (Bool × Store) := match dgetO a k st with
  | some o => some (if neg then !o.isSome else o.isSome, st)
  | none => none
def dputD (a : D) (k : DK) (e : D) (st : Store) : Option Store := match a with
  | .ref n => match st[n]? with
    | some (.dci kvs) => (match k with | .i k => if kvs.length < SL then some (st.set n (.dci (putA kvs k e))) else none | _ => none)
    | some (.dct kvs) => (match k with | .t ks => if kvs.length < SL then some (st.set n (.dct (putA kvs ks e))) else none | _ => none)
    | _ => none
  | _ => none
def dlenD (a : D) (st : Store) : Option (D × Store) := match a with
  | .ref n => match st[n]? with
    | some (.dci kvs) => some (.int kvs.length, st)
    | _ => none
  | _ => none
def dnewD (t : Bool) (_ : List D) (st : Store) : Option (D × Store) := some (.ref st.length, st ++ [if t then .dct [] else .dci []])
def pairD (x y : D) (st : Store) : Option (D × Store) := match x with
  | .int k => some (.tup [.int k, y], st)
  | _ => none
/-- a dict of the store's -/
def asDc (a : D) (st : Store) : Option (D × Store) := match a with
  | .ref n => match st[n]? with
    | some (.dci _) => some (.ref n, st)
    | some (.dct _) => some (.ref n, st)
    | _ => none
  | _ => none
/-- pairs, told as a dict -/
def pairsI : List D → Option (List (Int × D))
  | [] => some []
  | .tup [.int k, y] :: r => match pairsI r with | some kvs => some ((k, y) :: kvs) | none => none
  | _ :: _ => none
def putAll (acc kvs : List (Int × D)) : List (Int × D) := kvs.foldl (fun acc kv => putA acc kv.1 kv.2) acc
def todD (x : D) (st : Store) : Option (D × Store) := match x with
  | .lst ds => match pairsI ds with
    | some kvs => some (.ref st.length, st ++ [.dci (putAll [] kvs)])
    | none => none
  | _ => none

/-! ### targets -/
mutual
def Tg.put : Tg → D → Env → Option Env
  | .nm i, d, env => if i < env.length then some (env.set i (some d)) else none
  | .tup ts, d, env => match d with
    | .tup ds => Tg.putL ts ds env
    | .lst ds => Tg.putL ts ds env
    | _ => none
def Tg.putL : List Tg → List D → Env → Option Env
  | [], [], env => some env
  | t :: ts, d :: ds, env => match Tg.put t d env with
    | some e => Tg.putL ts ds e
    | none => none
  | _, _, _ => none
end

def wipeE (env : Env) : List Nat → Env
  | [] => env
  | v :: vs => (wipeE env vs).set v none

def selD {α : Type} (ds : List α) (dfl : List α) : List Sel → Option (List α)
  | [] => some []
  | .arg j :: r => match ds[j]? with
    | some d => match selD ds dfl r with | some xs => some (d :: xs) | none => none
    | none => none
  | .dfl j :: r => match dfl[j]? with
    | some d => match selD ds dfl r with | some xs => some (d :: xs) | none => none
    | none => none

/-- a comprehension's turns -/
def lcGo (nth : Nat → Store → Option (Option D)) (f : D → Store → Option (Option D × Store)) : Nat → Nat → List D → Store → Option (List D × Store)
  | 0, _, _, _ => none
  | m + 1, i, acc, st => match nth i st with
    | none => none
    | some none => some (acc, st)
    | some (some x) => match f x st with
      | none => none
      | some (some d, s) => lcGo nth f m (i + 1) (acc ++ [d]) s
      | some (none, s) => lcGo nth f m (i + 1) acc s

def forGo (nth : Nat → Store → Option (Option D)) (f : D → Env → Store → Option (Fl × Env × Store)) : Nat → Nat → Env → Store → Option (Fl × Env × Store)
  | 0, _, _, _ => none
  | m + 1, i, env, st => match nth i st with
    | none => none
    | some none => some (.nx, env, st)
    | some (some x) => match f x env st with
      | none => none
      | some (.nx, e, s) => forGo nth f m (i + 1) e s
      | some (.ct, e, s) => forGo nth f m (i + 1) e s
      | some (.bk, e, s) => some (.nx, e, s)
      | some (.ret d, e, s) => some (.ret d, e, s)

def whlGo (c : Env → Store → Option (Bool × Store)) (f : Env → Store → Option (Fl × Env × Store)) : Nat → Env → Store → Option (Fl × Env × Store)
  | 0, _, _ => none
  | m + 1, env, st => match c env st with
    | none => none
    | some (false, s) => some (.nx, env, s)
    | some (true, s) => match f env s with
      | none => none
      | some (.nx, e, s') => whlGo c f m e s'
      | some (.ct, e, s') => whlGo c f m e s'
      | some (.bk, e, s') => some (.nx, e, s')
      | some (.ret d, e, s') => some (.ret d, e, s')

def rngD (lo : Int) (n : Nat) : List D := (List.range n).map fun (i : Nat) => D.int (lo + (i : Int))

def itSeq (d : D) (st : Store) : Option (Itv × Store) :=
  match d with
  | .tup ds => some (.fix ds, st)
  | .lst ds => some (.fix ds, st)
  | .ref n => match st[n]? with | some (.lst ds) => some (.live n ds.length, st) | _ => none
  | _ => none

def zipI (a b : D) (st : Store) : Option (Itv × Store) := match a, b with
  | .tup xs, .tup ys => some (.fix (zipD xs ys), st)
  | .lst xs, .lst ys => some (.fix (zipD xs ys), st)
  | .ref n, .ref k => (match st[n]? with
    | some (.lst xs) => (match st[k]? with | some (.lst ys) => some (.zlive n k (zipD xs ys).length, st) | _ => none)
    | _ => none)
  | _, _ => none
def rvsI (a : D) (st : Store) : Option (Itv × Store) := match a with
  | .tup xs => some (.fix xs.reverse, st)
  | .lst xs => some (.fix xs.reverse, st)
  | _ => none
abbrev CallF := Nat → List D → Store → Option (D × Store)

/-! ### how parts are put together -/
abbrev RF (α : Type) := Env → Store → Option (α × Store)
def vr (i : Nat) : RF D := fun env st => match env[i]? with | some (some d) => some (d, st) | _ => none
def cst (d : D) : RF D := fun _ st => some (d, st)
def b1 {α β : Type} (f : RF α) (op : α → Store → Option (β × Store)) : RF β := fun env st => match f env st with
  | some (x, s1) => op x s1
  | none => none
def b2 {α β γ : Type} (f : RF α) (g : RF β) (op : α → β → Store → Option (γ × Store)) : RF γ := fun env st => match f env st with
  | some (x, s1) => match g env s1 with
    | some (y, s2) => op x y s2
    | none => none
  | none => none
def b3 {α β γ δ : Type} (f : RF α) (g : RF β) (h : RF γ) (op : α → β → γ → Store → Option (δ × Store)) : RF δ := fun env st => match f env st with
  | some (x, s1) => match g env s1 with
    | some (y, s2) => match h env s2 with
      | some (z, s3) => op x y z s3
      | none => none
    | none => none
  | none => none
def bIf {α : Type} (c : RF Bool) (f g : RF α) : RF α := fun env st => match c env st with
  | some (true, s1) => f env s1
  | some (false, s1) => g env s1
  | none => none
def bAnd (f g : RF D) : RF D := fun env st => match f env st with
  | some (x, s1) => match tru s1 x with
    | some true => g env s1
    | some false => some (x, s1)
    | none => none
  | none => none
def bOr (f g : RF D) : RF D := fun env st => match f env st with
  | some (x, s1) => match tru s1 x with
    | some true => some (x, s1)
    | some false => g env s1
    | none => none
  | none => none
def negD (x : D) (st : Store) : Option (D × Store) := match x with
  | .int i => some (.int (-i), st)
  | _ => none
def copV (o : COp) (x y : D) (st : Store) : Option (D × Store) := match cop o x y st with | some c => some (.bl c, st) | none => none
def copT (o : COp) (x y : D) (st : Store) : Option (Bool × Store) := match cop o x y st with | some c => some (c, st) | none => none
def truT (x : D) (st : Store) : Option (Bool × Store) := match tru st x with | some c => some (c, st) | none => none
def notV (x : D) (st : Store) : Option (D × Store) := match tru st x with | some c => some (.bl (!c), st) | none => none
def notT (c : Bool) (st : Store) : Option (Bool × Store) := some (!c, st)
def tupD (ds : List D) (st : Store) : Option (D × Store) := if ds.length ≤ SL then some (.tup ds, st) else none
def lstD (mat : Bool) (ds : List D) (st : Store) : Option (D × Store) := if ds.length ≤ SL then newL mat ds st else none
def consD (x : D) (xs : List D) (st : Store) : Option (List D × Store) := some (x :: xs, st)
def rng1 (a : D) (st : Store) : Option (Itv × Store) := match a with
  | .int j => if -(2 ^ 62) ≤ j ∧ j < 2 ^ 62 then some (.fix (rngD 0 j.toNat), st) else none
  | _ => none
def rng2 (a b : D) (st : Store) : Option (Itv × Store) := match a, b with
  | .int i, .int j => if -(2 ^ 62) ≤ i ∧ i < 2 ^ 62 ∧ -(2 ^ 62) ≤ j ∧ j < 2 ^ 62 then some (.fix (rngD i (j - i).toNat), st) else none
  | _, _ => none
def RgD (a b : Int) : Prop := -(2 ^ 62) ≤ a ∧ a < 2 ^ 62 ∧ -(2 ^ 62) ≤ b ∧ b < 2 ^ 62 ∧ (b - a).toNat ≤ 16777216
instance (a b : Int) : Decidable (RgD a b) := by unfold RgD; infer_instance
def tupR1 (a : D) (st : Store) : Option (D × Store) := match a with
  | .int j => if RgD 0 j then some (.tup (rngD 0 j.toNat), st) else none
  | _ => none
def tupR2 (a b : D) (st : Store) : Option (D × Store) := match a, b with
  | .int i, .int j => if RgD i j then some (.tup (rngD i (j - i).toNat), st) else none
  | _, _ => none
def lisR1 (mat : Bool) (a : D) (st : Store) : Option (D × Store) := match a with
  | .int j => if RgD 0 j then newL mat (rngD 0 j.toNat) st else none
  | _ => none
def lisR2 (mat : Bool) (a b : D) (st : Store) : Option (D × Store) := match a, b with
  | .int i, .int j => if RgD i j then newL mat (rngD i (j - i).toNat) st else none
  | _, _ => none
def callD (dfl : List D) (call : CallF) (f np nk : Nat) (sel : List Sel) (xs ys : List D) (st : Store) : Option (D × Store) :=
  if xs.length = np ∧ ys.length = nk then match selD (xs ++ ys) dfl sel with
    | some as => call f as st
    | none => none
  else none
def lcStep (elt : RF D) (tg : Tg) (c : RF Bool) (env : Env) (x : D) (st : Store) : Option (Option D × Store) := match tg.put x env with
  | some e => match c e st with
    | some (true, s2) => match elt e s2 with
      | some (d, s3) => some (some d, s3)
      | none => none
    | some (false, s2) => some (none, s2)
    | none => none
  | none => none
def bLc (mat : Bool) (elt : RF D) (tg : Tg) (it : RF Itv) (c : RF Bool) (vs : List Nat) : RF D := fun env st => match it env st with
  | some (itv, s1) => match lcGo itv.nth (lcStep elt tg c (wipeE env vs)) (itv.len + 1) 0 [] s1 with
    | some (ds, s2) => if ds.length ≤ SL then newL mat ds s2 else none
    | none => none
  | none => none

def enumD (ds : List D) : List D := (List.range ds.length).zipWith (fun (i : Nat) d => .tup [.int (i : Int), d]) ds
def enI (a : D) (st : Store) : Option (Itv × Store) := match a with
  | .lst xs => some (.fix (enumD xs), st)
  | .tup xs => some (.fix (enumD xs), st)
  | _ => none
/-- a op b op2 c -/
def bCh (o p : COp) (f g h : RF D) : RF D := fun env st => match f env st with
  | some (x, s1) => match g env s1 with
    | some (y, s2) => match cop o x y s2 with
      | some true => match h env s2 with
        | some (z, s3) => copV p y z s3
        | none => none
      | some false => some (.bl false, s2)
      | none => none
    | none => none
  | none => none
/-- a written list times a number -/
def repD (mat : Bool) (x y : D) (st : Store) : Option (D × Store) := match x, y with
  | .lst ds, .int k => if 0 ≤ k ∧ k ≤ 1000 ∧ ds.length ≤ 1000 then newL mat (List.replicate k.toNat ds).flatten st else none
  | _, _ => none
/-- each number once -/
def ddI : List Int → List Int
  | [] => []
  | x :: r => if x ∈ r then ddI r else x :: ddI r
def usI (ns : List Int) : List Int := srtI (ddI ns)
def intsS (d : D) (st : Store) : Option (List Int) := match seqOf st d with
  | some xs => intsD xs
  | none => none
/-- sorted(set(a)) -/
def ssetD (mat : Bool) (d : D) (st : Store) : Option (D × Store) := match intsS d st with
  | some ns => if (ddI ns).length < 64 ∧ ns.length ≤ 4000 then newL mat ((usI ns).map D.int) st else none
  | none => none
/-- len(set(a)) -/
def lsetD (d : D) (st : Store) : Option (D × Store) := match intsS d st with
  | some ns => if ns.length ≤ 4000 then some (.int (ddI ns).length, st) else none
  | none => none
/-- sorted(a, key=lambda k: F(u, v, k)) -/
def keysD (call : CallF) (f : Nat) (p q : Int) : List D → Option (List Int)
  | [] => some []
  | .int x :: r => match call f [.int p, .int q, .int x] [] with
    | some (.int k, _) => match keysD call f p q r with
      | some ks => some (k :: ks)
      | none => none
    | _ => none
  | _ :: _ => none
def srtD (xs : List D) (ks : List Int) : List D := ((xs.zip ks).mergeSort fun a b => decide (a.2 ≤ b.2)).map (·.1)
def inE (env : Env) (i : Nat) : Option Int := match env[i]? with
  | some (some (.int p)) => some p
  | _ => none
def bSrtk (call : CallF) (f i j : Nat) (e : RF D) : RF D := fun env st => match e env st with
  | some (x, s1) => match inE env i, inE env j with
    | some p, some q => match seqOf s1 x with
      | some xs => match keysD call f p q xs with
        | some ks => some (.lst (srtD xs ks), s1)
        | none => none
      | none => none
    | _, _ => none
  | none => none

/-! ### expressions -/
section
variable (dfl : List D) (call : CallF)
mutual
def ev : Ex → RF D
  | .nm i => vr i
  | .cI i => cst (.int i)
  | .cB b => cst (.bl b)
  | .cN => cst .non
  | .cS s => cst (.str s)
  | .bin o a b => b2 (ev a) (ev b) (bop o)
  | .neg a => b1 (ev a) negD
  | .cmp o a b => b2 (ev a) (ev b) (copV o)
  | .cmp2 o p a b c => bCh o p (ev a) (ev b) (ev c)
  | .and es => evAnd es
  | .or es => evOr es
  | .not a => b1 (ev a) notV
  | .ife c a b => bIf (evT c) (ev a) (ev b)
  | .tup es => b1 (evs es) tupD
  | .lst mat es => b1 (evs es) (lstD mat)
  | .idx a i => b2 (ev a) (ev i) idx
  | .slc mat a lo hi => b3 (ev a) (evO lo) (evO hi) (slc mat)
  | .revT a => b1 (ev a) revT
  | .revL mat a => b1 (ev a) (revL mat)
  | .blt f es => b1 (evs es) (bltin f)
  | .app o a => b2 (b1 (ev o) asL) (ev a) appD
  | .ins o i a => b3 (b1 (ev o) asL) (ev i) (ev a) insD
  | .call f np nk sel es ks => b2 (evs es) (evs ks) (callD dfl call f np nk sel)
  | .tupR1 a => b1 (ev a) tupR1
  | .tupR2 a b => b2 (ev a) (ev b) tupR2
  | .lisR1 mat a => b1 (ev a) (lisR1 mat)
  | .lisR2 mat a b => b2 (ev a) (ev b) (lisR2 mat)
  | .lc mat elt tg it c own => bLc mat (ev elt) tg (evI it) (evT c) (own.map (·.2))
  | .srtk a f i j => bSrtk call f i j (ev a)
  | .sset mat a => b1 (ev a) (ssetD mat)
  | .lset a => b1 (ev a) lsetD
  | .repL mat es e => b2 (b1 (evs es) (lstD false)) (ev e) (repD mat)
  | .ext o a => b2 (b1 (ev o) asL) (ev a) extD
  | .pop o => b1 (b1 (ev o) asL) popD
  | .popI o a => b2 (b1 (ev o) asL) (ev a) popID
  | .rem o a => b2 (b1 (ev o) asL) (ev a) remD
  | .cnt o a => b2 (b1 (ev o) asL2) (ev a) cntD
  | .catM a b => b2 (ev a) (ev b) catLM
  | .dnew t => b1 (fun _ st => some ([], st)) (dnewD t)
  | .dget one a ks => b2 (ev a) (b1 (evs ks) (keyD one)) dgetD
  | .dgetE one a ks e => b3 (b1 (ev a) asDc) (b1 (evs ks) (keyD one)) (ev e) dgetE
  | .din neg one ks a => b2 (b1 (evs ks) (keyD one)) (ev a) (dinV neg)
  | .dlen a => b1 (ev a) dlenD
  | .dcmp k v tg it c own => b1 (bLc false (b2 (ev k) (ev v) pairD) tg (evI it) (evT c) (own.map (·.2))) todD
def evO : Exo → RF (Option Int)
  | .no => fun _ st => some (none, st)
  | .so e => b1 (ev e) intO
def evs : Exs → RF (List D)
  | .nil => fun _ st => some ([], st)
  | .cons e es => b2 (ev e) (evs es) consD
def evT : Tx → RF Bool
  | .yes => fun _ st => some (true, st)
  | .cmp o a b => b2 (ev a) (ev b) (copT o)
  | .cmp2 o p a b c => b1 (bCh o p (ev a) (ev b) (ev c)) truT
  | .and ts => evAll ts
  | .or ts => evAny ts
  | .not a => b1 (evT a) notT
  | .tr e => b1 (ev e) truT
  | .din neg one ks a => b2 (b1 (evs ks) (keyD one)) (ev a) (dinT neg)
def evAnd : Exs → RF D
  | .nil => fun _ _ => none
  | .cons e es => match es with
    | .nil => ev e
    | _ => bAnd (ev e) (evAnd es)
def evOr : Exs → RF D
  | .nil => fun _ _ => none
  | .cons e es => match es with
    | .nil => ev e
    | _ => bOr (ev e) (evOr es)
def evAll : Txs → RF Bool
  | .nil => fun _ st => some (true, st)
  | .cons t ts => bIf (evT t) (evAll ts) (fun _ st => some (false, st))
def evAny : Txs → RF Bool
  | .nil => fun _ st => some (false, st)
  | .cons t ts => bIf (evT t) (fun _ st => some (true, st)) (evAny ts)
def evI : Itx → RF Itv
  | .rng1 a => b1 (ev a) rng1
  | .rng2 a b => b2 (ev a) (ev b) rng2
  | .seq e => b1 (ev e) itSeq
  | .zip a b => b2 (ev a) (ev b) zipI
  | .rvsd a => b1 (ev a) rvsI
  | .enum a => b1 (ev a) enI
end

def parPut : List Nat → List D → Env → Option Env
  | [], [], env => some env
  | i :: is, d :: ds, env => if i < env.length then parPut is ds (env.set i (some d)) else none
  | _, _, _ => none

/-! ### statements -/
abbrev SF := Env → Store → Option (Fl × Env × Store)
def sSet (put : D → Env → Option Env) (f : RF D) : SF := fun env st => match f env st with
  | some (d, s1) => match put d env with | some e => some (.nx, e, s1) | none => none
  | none => none
def putN (i : Nat) (d : D) (env : Env) : Option Env := if i < env.length then some (env.set i (some d)) else none
def sPar (is : List Nat) (f : RF (List D)) : SF := fun env st => match f env st with
  | some (ds, s1) => match parPut is ds env with | some e => some (.nx, e, s1) | none => none
  | none => none
def sSetI (f o i : RF D) : SF := fun env st => match f env st with
  | some (d, s1) => match o env s1 with
    | some (x, s2) => match i env s2 with
      | some (k, s3) => match setD x k d s3 with | some s4 => some (.nx, env, s4) | none => none
      | none => none
    | none => none
  | none => none
def sPutD (f o : RF D) (i : RF DK) : SF := fun env st => match f env st with
  | some (d, s1) => match o env s1 with
    | some (x, s2) => match i env s2 with
      | some (k, s3) => match dputD x k d s3 with | some s4 => some (.nx, env, s4) | none => none
      | none => none
    | none => none
  | none => none
def put1 (o i : RF D) (d : D) : Env → Store → Option Store := fun env st => match o env st with
  | some (x, s2) => match i env s2 with
    | some (k, s3) => setD x k d s3
    | none => none
  | none => none
def sSetII (f o i o2 i2 : RF D) : SF := fun env st => match f env st with
  | some (.tup [x, y], s1) => match put1 o i x env s1 with
    | some s2 => match put1 o2 i2 y env s2 with
      | some s3 => some (.nx, env, s3)
      | none => none
    | none => none
  | _ => none
def augD (o : BOp) (x y : D) : Option D := match o, x, y with
  | .add, .int a, .int b => some (.int (a + b))
  | .sub, .int a, .int b => some (.int (a - b))
  | _, _, _ => none
def sAug (i : Nat) (o : BOp) (f : RF D) : SF := fun env st => match env[i]? with
  | some (some x) => match f env st with
    | some (y, s1) => match augD o x y with | some z => some (.nx, env.set i (some z), s1) | none => none
    | none => none
  | _ => none
def sExpr (f : RF D) : SF := fun env st => match f env st with
  | some (_, s1) => some (.nx, env, s1)
  | none => none
def sRet (f : RF D) : SF := fun env st => match f env st with
  | some (d, s1) => some (.ret d, env, s1)
  | none => none
def sIf (c : RF Bool) (f g : SF) : SF := fun env st => match c env st with
  | some (true, s1) => f env s1
  | some (false, s1) => g env s1
  | none => none
def forStep (tg : Tg) (b : SF) (x : D) (e : Env) (s : Store) : Option (Fl × Env × Store) := match tg.put x e with
  | some e' => b e' s
  | none => none
def sFor (tg : Tg) (it : RF Itv) (b : SF) : SF := fun env st => match it env st with
  | some (itv, s1) => forGo itv.nth (forStep tg b) (itv.len + 1) 0 env s1
  | none => none
def sSeq (f g : SF) : SF := fun env st => match f env st with
  | some (.nx, e, s1) => g e s1
  | r => r

variable (fu : Nat)
mutual
def ex : S → SF
  | .set i e => sSet (putN i) (ev dfl call e)
  | .setT tg e => sSet tg.put (ev dfl call e)
  | .par is es => sPar is (evs dfl call es)
  | .setI o i e => sSetI (ev dfl call e) (ev dfl call o) (ev dfl call i)
  | .setII o i o2 i2 es => sSetII (b1 (evs dfl call es) tupD) (ev dfl call o) (ev dfl call i) (ev dfl call o2) (ev dfl call i2)
  | .dput one o ks e => sPutD (ev dfl call e) (ev dfl call o) (b1 (evs dfl call ks) (keyD one))
  | .aug i o e => sAug i o (ev dfl call e)
  | .expr e => sExpr (ev dfl call e)
  | .ret e => sRet (ev dfl call e)
  | .ife c a b => sIf (evT dfl call c) (exs a) (exs b)
  | .whl c b => whlGo (evT dfl call c) (exs b) fu
  | .for_ tg it b => sFor tg (evI dfl call it) (exs b)
  | .brk => fun env st => some (.bk, env, st)
  | .ctn => fun env st => some (.ct, env, st)
  | .rais => fun _ _ => none
def exs : Ss → SF
  | .nil => fun env st => some (.nx, env, st)
  | .cons s ss => sSeq (ex s) (exs ss)
end
end

/-- a def: how many names it has, whether it lays something for its caller, its body -/
structure FD where
  np : Nat
  nn : Nat
  keep : Bool
  body : Ss

mutual
/-- no ref from n on -/
def D.lo (n : Nat) : D → Bool
  | .ref k => decide (k < n)
  | .tup ds => D.loL n ds
  | .lst ds => D.loL n ds
  | _ => true
def D.loL (n : Nat) : List D → Bool
  | [] => true
  | d :: ds => D.lo n d && D.loL n ds
end
def O.lo (n : Nat) : O → Bool
  | .lst ds => D.loL n ds
  | .dci kvs => kvs.all fun kv => kv.2.lo n
  | .dct kvs => kvs.all fun kv => kv.2.lo n
def belowS (n : Nat) : Store → Bool
  | [] => true
  | o :: st => o.lo n && belowS n st

/-- what was laid behind n becomes plain data (one list deep) -/
def D.frz1 (n : Nat) (st : Store) : D → Option D
  | .ref k => if k < n then some (.ref k) else match st[k]? with
    | some (.lst ds) => if D.loL n ds then some (.lst ds) else none
    | _ => none
  | .tup ds => if D.loL n ds then some (.tup ds) else none
  | .lst ds => if D.loL n ds then some (.lst ds) else none
  | d => some d

/-- behind a def's body: what it laid for itself is forgotten -/
def clean (n : Nat) (d : D) (st : Store) : Option (D × Store) :=
  match d.frz1 n st with
  | some d' => if belowS n (st.take n) then some (d', st.take n) else none
  | none => none

def startE (nn : Nat) (as : List D) : Env := as.map some ++ List.replicate (nn - as.length) none

def runF (tbl : List FD) (dfl : List D) (fu : Nat) : Nat → CallF
  | 0, _, _, _ => none
  | n + 1, f, as, st => match tbl[f]? with
    | none => none
    | some fd => if as.length = fd.np then
        match exs dfl (runF tbl dfl fu n) fu fd.body (startE fd.nn as) st with
        | some (.ret d, _, s1) => if fd.keep then some (d, s1) else clean st.length d s1
        | some (.nx, _, s1) => if fd.keep then some (.non, s1) else clean st.length .non s1
        | _ => none
      else none
end B
/-! B1: how plain data stands in the abstract heap. -/
namespace B
open PySem PySem.Spec PyProof.Rows L2

/-- where the store's objects stand; what may change -/
structure Rho where
  r : List Addr
  m : Addr → Prop
  sub : ∀ a ∈ r, m a
def Rho.push (rho : Rho) (p : Addr) : Rho := ⟨rho.r ++ [p], fun a => rho.m a ∨ a = p, fun a h => (List.mem_append.mp h).elim (fun z => .inl (rho.sub a z)) fun z => .inr (List.mem_singleton.mp z)⟩
/-- a list that nobody changes: none of the store's, or one of the written part -/
def FzL (K : PySem.W.Frag) (rho : Rho) (H : Hp) (a : Addr) (vs : List V) : Prop :=
  (Rd H a (.lst vs) ∧ ¬ rho.m a) ∨ ∃ (o : Obj) (its : Array Value) (n : Nat), K.lookup a = some o ∧ o.cls = .type "list" ∧ o.dict = none ∧ o.data = .seq its n ∧ its.size ≤ sizeLine ∧ Vals vs its.toList
theorem FzL.sq {K : PySem.W.Frag} {rho : Rho} {H : Hp} {a : Addr} {vs : List V} (h : FzL K rho H a vs) : SqL K H a vs := by
  rcases h with ⟨h, _⟩ | h
  · exact .inl h
  · exact .inr h

mutual
inductive Rep (K : PySem.W.Frag) (rho : Rho) (H : Hp) : D → V → Prop
  | non : Rep K rho H .non .non
  | bl (b : Bool) : Rep K rho H (.bl b) (.bl b)
  | int (i : Int) : Rep K rho H (.int i) (.int i)
  | str (s : Str) : Rep K rho H (.str s) (.str s)
  | tup {ds : List D} {vs : List V} {a : Addr} : SqT K H a vs → RepL K rho H ds vs → Rep K rho H (.tup ds) (.ref a)
  | lst {ds : List D} {vs : List V} {a : Addr} : FzL K rho H a vs → RepL K rho H ds vs → Rep K rho H (.lst ds) (.ref a)
  | ref {n : Nat} {a : Addr} : rho.r[n]? = some a → Rep K rho H (.ref n) (.ref a)
inductive RepL (K : PySem.W.Frag) (rho : Rho) (H : Hp) : List D → List V → Prop
  | nil : RepL K rho H [] []
  | cons {d : D} {v : V} {ds : List D} {vs : List V} : Rep K rho H d v → RepL K rho H ds vs → RepL K rho H (d :: ds) (v :: vs)
end

/-- the lambda's name; the table that its maker's code object bears -/
def lamQ : Str := "round_bits.<locals>.<lambda>"
def TbK (K : PySem.W.Frag) : List (Addr × Str) := K.filterMap fun p => match p.2.data with
  | .func fd => if fd.name = ("round_bits" : Str) then (match fd.code with
    | .ref c => (match K.lookup c with
      | some o => (match o.data with
        | .fields vs => (match (vs[11]? : Option Value) with | some (Value.ref P) => some (P, lamQ) | _ => none)
        | _ => none)
      | none => none)
    | _ => none) else none
  | _ => none
theorem TbK_q {K : PySem.W.Frag} {p : Addr × Str} (h : p ∈ TbK K) : p.2 = lamQ := by
  obtain ⟨x, _, e⟩ := List.mem_filterMap.mp h
  split at e
  · split at e
    · split at e
      · split at e
        · split at e
          · split at e
            · cases e; rfl
            · cases e
          · cases e
        · cases e
      · cases e
    · cases e
  · cases e
abbrev NoTbl (o : HO) : Prop := ∀ ps, o ≠ .tbl ps
theorem nt_lst {vs : List V} : NoTbl (.lst vs) := fun _ z => nomatch z
theorem nt_tup {vs : List V} : NoTbl (.tup vs) := fun _ z => nomatch z
theorem nt_frz {o : Obj} {u : HO} : NoTbl (.frz o u) := fun _ z => nomatch z
/-- nothing of its own stands there -/
def Fre (H : Hp) (a : Addr) : Prop := ∀ o, H a = some o → ¬ NoTbl o
theorem Fre.of {H : Hp} {a : Addr} (h : H a = none) : Fre H a := fun o e => by rw [h] at e; cases e
theorem Fre.no {H : Hp} {a : Addr} {o : HO} (f : Fre H a) (h : H a = some o) (n : NoTbl o) : False := f o h n
/-- the store's objects grow, others stay, new ones stood nowhere -/
structure Ext (rho : Rho) (H : Hp) (rho' : Rho) (H' : Hp) : Prop where
  pre : rho.r <+: rho'.r
  keep : ∀ a o, a ∉ rho.r → NoTbl o → H a = some o → H' a = some o
  new : ∀ a, rho'.m a → rho.m a ∨ Fre H a
  newr : ∀ a, a ∈ rho'.r → a ∈ rho.r ∨ Fre H a
  mon : ∀ a, rho.m a → rho'.m a
/-- what may change: lists and dicts -/
def Mb (o : HO) : Prop := (∃ vs, o = .lst vs) ∨ (∃ k, o = .dK k) ∨ ∃ k, o = .dT k
theorem Mb.l {vs : List V} : Mb (.lst vs) := .inl ⟨vs, rfl⟩
theorem nm_tup {vs : List V} : ¬ Mb (.tup vs) := fun h => by
  rcases h with ⟨_, e⟩ | ⟨_, e⟩ | ⟨_, e⟩ <;> cases e
theorem nm_frz {o : Obj} {u : HO} : ¬ Mb (.frz o u) := fun h => by
  rcases h with ⟨_, e⟩ | ⟨_, e⟩ | ⟨_, e⟩ <;> cases e
theorem Mb.nt {o : HO} (h : Mb o) : NoTbl o := by
  rcases h with ⟨_, e⟩ | ⟨_, e⟩ | ⟨_, e⟩ <;> (subst e; exact fun _ z => nomatch z)
def mkI (ks : List Int) (vs : List V) : List (Key × V) := List.zipWith (fun k v => (Sum.inl k, v)) ks vs
def mkT (ks : List (List Int)) (vs : List V) : List (List Key × V) := List.zipWith (fun k v => (k.map Sum.inl, v)) ks vs
/-- a store's object: what it holds, and how it stands in the heap -/
def O.ds : O → List D
  | .lst ds => ds
  | .dci kvs => kvs.map (·.2)
  | .dct kvs => kvs.map (·.2)
def O.ho (o : O) (vs : List V) : HO := match o with
  | .lst _ => .lst vs
  | .dci kvs => .dK (mkI (kvs.map (·.1)) vs)
  | .dct kvs => .dT (mkT (kvs.map (·.1)) vs)
theorem O.mb (o : O) (vs : List V) : Mb (o.ho vs) := by
  cases o with
  | lst ds => exact .inl ⟨_, rfl⟩
  | dci kvs => exact .inr (.inl ⟨_, rfl⟩)
  | dct kvs => exact .inr (.inr ⟨_, rfl⟩)
def Trk (rho : Rho) (H : Hp) : Prop := ∀ a, rho.m a → ∃ o, H a = some o ∧ Mb o

theorem Ext.refl (rho : Rho) (H : Hp) : Ext rho H rho H := ⟨List.prefix_refl _, fun _ _ _ _ h => h, fun _ h => .inl h, fun _ h => .inl h, fun _ h => h⟩
theorem Ext.trans {r0 r1 r2 : Rho} {H0 H1 H2 : Hp} (a : Ext r0 H0 r1 H1) (b : Ext r1 H1 r2 H2) : Ext r0 H0 r2 H2 where
  pre := a.pre.trans b.pre
  keep := fun x o hx hn h => by
    refine b.keep x o (fun hm => ?_) hn (a.keep x o hx hn h)
    rcases a.newr x hm with z | z
    · exact hx z
    · exact z.no h hn
  new := fun x hx => by
    rcases b.new x hx with z | z
    · exact a.new x z
    · by_cases hr : x ∈ r0.r
      · exact .inl (r0.sub x hr)
      · exact .inr fun o q n => z.no (a.keep x o hr n q) n
  newr := fun x hx => by
    rcases b.newr x hx with z | z
    · exact a.newr x z
    · by_cases hr : x ∈ r0.r
      · exact .inl hr
      · exact .inr fun o q n => z.no (a.keep x o hr n q) n
  mon := fun x hx => b.mon x (a.mon x hx)

section
variable {K : PySem.W.Frag} {rho rho' : Rho} {H H' : Hp}
theorem Trk.tup {a : Addr} {o : HO} (t : Trk rho H) (h : H a = some o) (n : ¬ Mb o) : a ∉ rho.r := fun hm => by
  obtain ⟨o2, q, m⟩ := t a (rho.sub a hm)
  rw [h] at q
  cases q
  exact n m
theorem sqT_ext {a : Addr} {vs : List V} (t : Trk rho H) (e : Ext rho H rho' H') (h : SqT K H a vs) : SqT K H' a vs := by
  rcases h with (h | ⟨o, h⟩) | h
  · exact .inl (.inl (e.keep a _ (t.tup h nm_tup) nt_tup h))
  · exact .inl (.inr ⟨o, e.keep a _ (t.tup h nm_frz) nt_frz h⟩)
  · exact .inr h
theorem fzL_ext {a : Addr} {vs : List V} (e : Ext rho H rho' H') (h : FzL K rho H a vs) : FzL K rho' H' a vs := by
  rcases h with ⟨h, hn⟩ | h
  · left
    have hs : ∃ o, H a = some o ∧ NoTbl o := by
      rcases h with h | ⟨o, h⟩
      · exact ⟨_, h, nt_lst⟩
      · exact ⟨_, h, nt_frz⟩
    refine ⟨?_, fun hm => ?_⟩
    · have hn' : a ∉ rho.r := fun z => hn (rho.sub a z)
      rcases h with h | ⟨o, h⟩
      · exact .inl (e.keep a _ hn' nt_lst h)
      · exact .inr ⟨o, e.keep a _ hn' nt_frz h⟩
    · rcases e.new a hm with z | z
      · exact hn z
      · obtain ⟨o, q, n⟩ := hs
        exact z.no q n
  · exact .inr h
mutual
theorem Rep.ext (t : Trk rho H) (e : Ext rho H rho' H') : ∀ {d : D} {v : V}, Rep K rho H d v → Rep K rho' H' d v
  | _, _, .non => .non
  | _, _, .bl b => .bl b
  | _, _, .int i => .int i
  | _, _, .str s => .str s
  | _, _, .tup h r => .tup (sqT_ext t e h) (RepL.ext t e r)
  | _, _, .lst h r => .lst (fzL_ext e h) (RepL.ext t e r)
  | _, _, .ref h => .ref (by
      obtain ⟨r, hr⟩ := e.pre
      rw [← hr, List.getElem?_append_left (List.getElem?_eq_some_iff.mp h).1]
      exact h)
theorem RepL.ext (t : Trk rho H) (e : Ext rho H rho' H') : ∀ {ds : List D} {vs : List V}, RepL K rho H ds vs → RepL K rho' H' ds vs
  | _, _, .nil => .nil
  | _, _, .cons a b => .cons (Rep.ext t e a) (RepL.ext t e b)
end
theorem RepL.length : ∀ {ds : List D} {vs : List V}, RepL K rho H ds vs → ds.length = vs.length
  | _, _, .nil => rfl
  | _, _, .cons _ b => by simp only [List.length_cons, RepL.length b]
theorem RepL.get : ∀ {ds : List D} {vs : List V} {i : Nat} {d : D}, RepL K rho H ds vs → ds[i]? = some d → ∃ v, vs[i]? = some v ∧ Rep K rho H d v
  | _, _, _, _, .nil, h => by simp at h
  | _, _, 0, _, .cons a _, h => by simp at h; subst h; exact ⟨_, rfl, a⟩
  | _, _, i + 1, _, .cons _ b, h => by
    obtain ⟨v, h1, h2⟩ := RepL.get (i := i) b (by simpa using h)
    exact ⟨v, by simpa using h1, h2⟩
theorem RepL.append : ∀ {ds es : List D} {vs ws : List V}, RepL K rho H ds vs → RepL K rho H es ws → RepL K rho H (ds ++ es) (vs ++ ws)
  | _, _, _, _, .nil, h => h
  | _, _, _, _, .cons a b, h => .cons a (RepL.append b h)
theorem RepL.take : ∀ {ds : List D} {vs : List V} (n : Nat), RepL K rho H ds vs → RepL K rho H (ds.take n) (vs.take n)
  | _, _, 0, _ => .nil
  | _, _, n + 1, .nil => .nil
  | _, _, n + 1, .cons a b => .cons a (RepL.take n b)
theorem RepL.drop : ∀ {ds : List D} {vs : List V} (n : Nat), RepL K rho H ds vs → RepL K rho H (ds.drop n) (vs.drop n)
  | _, _, 0, h => h
  | _, _, n + 1, .nil => .nil
  | _, _, n + 1, .cons a b => RepL.drop n b
theorem RepL.set : ∀ {ds : List D} {vs : List V} {d : D} {v : V} (n : Nat), RepL K rho H ds vs → Rep K rho H d v → RepL K rho H (ds.set n d) (vs.set n v)
  | _, _, _, _, _, .nil, _ => .nil
  | _, _, _, _, 0, .cons _ b, h => .cons h b
  | _, _, _, _, n + 1, .cons a b, h => .cons a (RepL.set n b h)
theorem RepL.reverse {ds : List D} {vs : List V} (h : RepL K rho H ds vs) : RepL K rho H ds.reverse vs.reverse := by
  induction ds generalizing vs with
  | nil => cases h; exact .nil
  | cons d ds ih =>
    cases h with
    | cons a b =>
      rw [List.reverse_cons, List.reverse_cons]
      exact (ih b).append (.cons a .nil)
theorem RepL.flat (k : Nat) {ds : List D} {vs : List V} (h : RepL K rho H ds vs) : RepL K rho H (List.replicate k ds).flatten (List.replicate k vs).flatten := by
  induction k with
  | zero => exact .nil
  | succ k ih => rw [List.replicate_succ, List.replicate_succ, List.flatten_cons, List.flatten_cons]; exact h.append ih

/-! plain data is data that == and repr speak of -/
mutual
theorem Rep.dp : ∀ {d : D} {v : V} {x : PyData}, Rep K rho H d v → d.py = some x → Dp K H v x
  | _, _, _, .non, h => by cases h; exact .non
  | _, _, _, .bl b, h => by cases h; exact .bl b
  | _, _, _, .int i, h => by cases h; exact .int i
  | _, _, _, .str s, h => by cases h; exact .str s
  | .tup ds, _, _, .tup hs r, h => by
    unfold D.py at h
    split at h
    · rename_i xs hx
      cases h
      exact .tup hs (RepL.dp r hx)
    · cases h
  | .lst ds, _, _, .lst hs r, h => by
    unfold D.py at h
    split at h
    · rename_i xs hx
      cases h
      exact .lst hs.sq (RepL.dp r hx)
    · cases h
  | _, _, _, .ref _, h => by cases h
theorem RepL.dp : ∀ {ds : List D} {vs : List V} {xs : List PyData}, RepL K rho H ds vs → D.pyL ds = some xs → DpAll K H vs xs
  | _, _, _, .nil, h => by cases h; exact .nil
  | d :: ds, _, _, .cons a b, h => by
    unfold D.pyL at h
    split at h
    · rename_i x hx
      split at h
      · rename_i xs hxs
        cases h
        exact .cons (Rep.dp a hx) (RepL.dp b hxs)
      · cases h
    · cases h
end
end

/-- the store stands in the heap -/
structure StoreRep (K : PySem.W.Frag) (rho : Rho) (H : Hp) (st : Store) : Prop where
  len : rho.r.length = st.length
  nd : rho.r.Nodup
  trk : Trk rho H
  ob : ∀ (n : Nat) (o : O) (a : Addr), st[n]? = some o → rho.r[n]? = some a → ∃ vs, H a = some (o.ho vs) ∧ RepL K rho H o.ds vs
  tab : LamX.Tabs (TbK K) H

theorem tabs_new {T : List (Addr × Str)} {H : Hp} {p : Addr} {o : HO} (t : LamX.Tabs T H) (hp : H p = none) : LamX.Tabs T (upd H p o) := t.ext fun b u h => by rw [upd_ne (ne_of_none h hp)]; exact h
theorem tabs_wr {T : List (Addr × Str)} {H : Hp} {a : Addr} {o' o : HO} (t : LamX.Tabs T H) (ha : H a = some o') (mb : Mb o') : LamX.Tabs T (upd H a o) := fun p hp => by
  obtain ⟨ps, h1, h2, h3⟩ := t p hp
  refine ⟨ps, ?_, h2, fun pos cv hc => ?_⟩
  · rw [upd_ne (fun e => by rw [e, ha] at h1; cases h1; rcases mb with ⟨_, e⟩ | ⟨_, e⟩ | ⟨_, e⟩ <;> cases e)]
    exact h1
  · obtain ⟨c, e1, e2⟩ := h3 pos cv hc
    refine ⟨c, e1, ?_⟩
    rw [upd_ne (fun e => by rw [e, ha] at e2; unfold LamX.CodeO at e2; cases e2; rcases mb with ⟨_, e⟩ | ⟨_, e⟩ | ⟨_, e⟩ <;> cases e)]
    exact e2
section
variable {K : PySem.W.Frag} {rho rho' : Rho} {H H' : Hp} {st : Store}
theorem StoreRep.at (s : StoreRep K rho H st) {n : Nat} {ds : List D} {v : V} (r : Rep K rho H (.ref n) v) (h : st[n]? = some (.lst ds)) : ∃ a vs, v = .ref a ∧ rho.r[n]? = some a ∧ H a = some (.lst vs) ∧ RepL K rho H ds vs := by
  cases r with
  | ref hr =>
    obtain ⟨vs, h1, h2⟩ := s.ob n (.lst ds) _ h hr
    exact ⟨_, vs, rfl, hr, h1, h2⟩
theorem StoreRep.obl (s : StoreRep K rho H st) (n : Nat) (ds : List D) (a : Addr) (h : st[n]? = some (.lst ds)) (hr : rho.r[n]? = some a) : ∃ vs, H a = some (.lst vs) ∧ RepL K rho H ds vs := s.ob n (.lst ds) a h hr
theorem StoreRep.not_m {p : Addr} (s : StoreRep K rho H st) (hp : H p = none) : ¬ rho.m p := fun hm => by
  obtain ⟨vs, h, _⟩ := s.trk p hm
  rw [hp] at h; cases h
theorem upd_dom {a p : Addr} {o : HO} (h : upd H p o a = none) : H a = none := by
  by_cases e : a = p
  · subst e; rw [upd_same] at h; cases h
  · rw [upd_ne e] at h; exact h
/-- something untold is laid -/
theorem Ext.tmp {p : Addr} {o : HO} (hp : H p = none) : Ext rho H rho (upd H p o) :=
  ⟨List.prefix_refl _, fun a u _ _ h => by rw [upd_ne (ne_of_none h hp)]; exact h, fun _ h => .inl h, fun _ h => .inl h, fun _ h => h⟩
theorem StoreRep.tmp {p : Addr} {o : HO} (s : StoreRep K rho H st) (hp : H p = none) : StoreRep K rho (upd H p o) st where
  len := s.len
  nd := s.nd
  trk := fun a ha => by
    obtain ⟨vs, h, mb⟩ := s.trk a ha
    exact ⟨vs, by rw [upd_ne (ne_of_none h hp)]; exact h, mb⟩
  ob := fun n ds a h1 h2 => by
    obtain ⟨vs, h3, h4⟩ := s.ob n ds a h1 h2
    exact ⟨vs, by rw [upd_ne (ne_of_none h3 hp)]; exact h3, h4.ext s.trk (Ext.tmp hp)⟩
  tab := tabs_new s.tab hp
theorem Ext.push {p : Addr} {o : HO} (hp : H p = none) : Ext rho H (rho.push p) (upd H p o) :=
  ⟨List.prefix_append _ _, fun a u _ _ h => by rw [upd_ne (ne_of_none h hp)]; exact h, fun a h => by
    rcases h with z | z
    · exact .inl z
    · rw [z]; exact .inr (.of hp), fun a h => by
    rcases List.mem_append.mp h with z | z
    · exact .inl z
    · rw [List.mem_singleton.mp z]; exact .inr (.of hp), fun _ h => .inl h⟩
theorem StoreRep.pushO {p : Addr} {o : O} {vs : List V} (s : StoreRep K rho H st) (hp : H p = none) (r : RepL K rho H o.ds vs) : StoreRep K (rho.push p) (upd H p (o.ho vs)) (st ++ [o]) where
  len := by simp [Rho.push, s.len]
  nd := List.nodup_append.mpr ⟨s.nd, (List.pairwise_singleton _ _), fun a ha b hb => by rw [List.mem_singleton.mp hb]; intro e; subst e; exact s.not_m hp (rho.sub _ ha)⟩
  trk := fun a ha => by
    rcases ha with z | z
    · obtain ⟨ws, h, mb⟩ := s.trk a z
      exact ⟨ws, by rw [upd_ne (ne_of_none h hp)]; exact h, mb⟩
    · rw [z]; exact ⟨_, upd_same, o.mb vs⟩
  ob := fun n es a h1 h2 => by
    have hE : Ext rho H (rho.push p) (upd H p (o.ho vs)) := Ext.push hp
    have h2 : (rho.r ++ [p])[n]? = some a := h2
    by_cases hn : n < st.length
    · rw [List.getElem?_append_left hn] at h1
      rw [List.getElem?_append_left (by rw [s.len]; exact hn)] at h2
      obtain ⟨ws, h3, h4⟩ := s.ob n es a h1 h2
      exact ⟨ws, by rw [upd_ne (ne_of_none h3 hp)]; exact h3, h4.ext s.trk hE⟩
    · have hn' : n = st.length := by
        have := (List.getElem?_eq_some_iff.mp h1).1
        simp at this; omega
      subst hn'
      rw [List.getElem?_concat_length] at h1
      rw [← s.len, List.getElem?_concat_length] at h2
      cases h1; cases h2
      exact ⟨vs, upd_same, r.ext s.trk hE⟩
  tab := tabs_new s.tab hp
theorem StoreRep.push {p : Addr} {ds : List D} {vs : List V} (s : StoreRep K rho H st) (hp : H p = none) (r : RepL K rho H ds vs) : StoreRep K (rho.push p) (upd H p (.lst vs)) (st ++ [.lst ds]) := s.pushO (o := .lst ds) hp r
theorem Ext.wr {a : Addr} {o : HO} (ha : a ∈ rho.r) : Ext rho H rho (upd H a o) :=
  ⟨List.prefix_refl _, fun b u hb _ h => by
    have : b ≠ a := fun e => hb (e ▸ ha)
    rw [upd_ne this]; exact h, fun _ h => .inl h, fun _ h => .inl h, fun _ h => h⟩
theorem StoreRep.setO {n : Nat} {a : Addr} {o : O} {vs : List V} (s : StoreRep K rho H st) (ha : rho.r[n]? = some a) (r : RepL K rho H o.ds vs) : StoreRep K rho (upd H a (o.ho vs)) (st.set n o) where
  len := by rw [List.length_set]; exact s.len
  nd := s.nd
  trk := fun b hb => by
    by_cases e : b = a
    · subst e; exact ⟨_, upd_same, o.mb vs⟩
    · obtain ⟨ws, h, mb⟩ := s.trk b hb
      exact ⟨ws, by rw [upd_ne e]; exact h, mb⟩
  ob := fun m es b h1 h2 => by
    have hE : Ext rho H rho (upd H a (o.ho vs)) := Ext.wr (List.mem_of_getElem? ha)
    by_cases hm : m = n
    · subst hm
      rw [ha] at h2; cases h2
      have hl : m < st.length := by rw [← s.len]; exact (List.getElem?_eq_some_iff.mp ha).1
      rw [List.getElem?_set_self hl] at h1
      cases h1
      exact ⟨vs, upd_same, r.ext s.trk hE⟩
    · rw [List.getElem?_set_ne (Ne.symm hm)] at h1
      obtain ⟨ws, h3, h4⟩ := s.ob m es b h1 h2
      have hb : b ≠ a := fun e => by
        subst e
        obtain ⟨l1, e1⟩ := List.getElem?_eq_some_iff.mp ha
        obtain ⟨l2, e2⟩ := List.getElem?_eq_some_iff.mp h2
        exact hm ((List.getElem_inj s.nd).mp (e2.trans e1.symm))
      exact ⟨ws, by rw [upd_ne hb]; exact h3, h4.ext s.trk hE⟩
  tab := by
    obtain ⟨ws, h, mb⟩ := s.trk a (rho.sub a (List.mem_of_getElem? ha))
    exact tabs_wr s.tab h mb
theorem StoreRep.set {n : Nat} {a : Addr} {ds : List D} {vs : List V} (s : StoreRep K rho H st) (ha : rho.r[n]? = some a) (r : RepL K rho H ds vs) : StoreRep K rho (upd H a (.lst vs)) (st.set n (.lst ds)) := s.setO (o := .lst ds) ha r
end

/-- the names' values -/
structure EnvRep (K : PySem.W.Frag) (rho : Rho) (H : Hp) (sg : L2.St) (env : Env) : Prop where
  len : sg.length = env.length
  at_ : ∀ (i : Nat) (d : D), env[i]? = some (some d) → ∃ v, sg[i]? = some (some v) ∧ Rep K rho H d v
theorem EnvRep.ext {K : PySem.W.Frag} {rho rho' : Rho} {H H' : Hp} {sg : L2.St} {env : Env} (t : Trk rho H) (e : Ext rho H rho' H') (r : EnvRep K rho H sg env) : EnvRep K rho' H' sg env :=
  ⟨r.len, fun i d h => let ⟨v, h1, h2⟩ := r.at_ i d h; ⟨v, h1, h2.ext t e⟩⟩
theorem EnvRep.set {K : PySem.W.Frag} {rho : Rho} {H : Hp} {sg : L2.St} {env : Env} {i : Nat} {d : D} {v : V} (r : EnvRep K rho H sg env) (h : Rep K rho H d v) : EnvRep K rho H (sg.set i (some v)) (env.set i (some d)) where
  len := by rw [List.length_set, List.length_set]; exact r.len
  at_ := fun j e hj => by
    by_cases hi : j = i
    · subst hi
      by_cases hl : j < env.length
      · rw [List.getElem?_set_self hl] at hj
        cases hj
        exact ⟨v, by rw [List.getElem?_set_self (by rw [r.len]; exact hl)], h⟩
      · rw [List.getElem?_eq_none (by rw [List.length_set]; omega)] at hj
        cases hj
    · rw [List.getElem?_set_ne (Ne.symm hi)] at hj
      obtain ⟨w, h1, h2⟩ := r.at_ j e hj
      exact ⟨w, by rw [List.getElem?_set_ne (Ne.symm hi)]; exact h1, h2⟩
theorem EnvRep.forget {K : PySem.W.Frag} {rho : Rho} {H : Hp} {sg : L2.St} {env : Env} (i : Nat) (r : EnvRep K rho H sg env) : EnvRep K rho H (sg.set i none) (env.set i none) where
  len := by rw [List.length_set, List.length_set]; exact r.len
  at_ := fun j e hj => by
    by_cases hi : j = i
    · subst hi
      by_cases hl : j < env.length
      · rw [List.getElem?_set_self hl] at hj
        cases hj
      · rw [List.getElem?_eq_none (by rw [List.length_set]; omega)] at hj
        cases hj
    · rw [List.getElem?_set_ne (Ne.symm hi)] at hj
      obtain ⟨w, h1, h2⟩ := r.at_ j e hj
      exact ⟨w, by rw [List.getElem?_set_ne (Ne.symm hi)]; exact h1, h2⟩
theorem EnvRep.wipe {K : PySem.W.Frag} {rho : Rho} {H : Hp} {sg : L2.St} {env : Env} (r : EnvRep K rho H sg env) : ∀ vs : List Nat, EnvRep K rho H (L2.wipe sg vs) (wipeE env vs)
  | [] => r
  | v :: vs => (r.wipe vs).forget v
end B
/-! B2: what a reckoning says of the code: parts put together. -/
namespace B
open PySem PySem.Spec PyProof.Rows L2

/-- the code does what f reckons, its end as rel has it -/
def TXg {α β : Type} (K : PySem.W.Frag) (rel : Rho → Hp → α → β → Prop) (f : RF α) : L2.St → Hp → (β → Hp → Prop) → Prop := fun sg H Q =>
  ∃ (rho : Rho) (env : Env) (st : Store) (x : α) (st' : Store), EnvRep K rho H sg env ∧ StoreRep K rho H st ∧ f env st = some (x, st') ∧
    ∀ (rho' : Rho) (H' : Hp) (v : β), Ext rho H rho' H' → StoreRep K rho' H' st' → rel rho' H' x v → Q v H'
abbrev TXe (K : PySem.W.Frag) (f : RF D) : TE := TXg K (Rep K) f
abbrev TXa (K : PySem.W.Frag) (f : RF (List D)) : TA := TXg K (RepL K) f
abbrev TXt (K : PySem.W.Frag) (f : RF Bool) : TT := TXg K (fun _ _ b c => b = c) f

/-- what is wanted behind an operation -/
def Kn {α β : Type} (K : PySem.W.Frag) (rel : Rho → Hp → α → β → Prop) (rho : Rho) (H : Hp) (x : α) (st' : Store) (Q : β → Hp → Prop) : Prop :=
  ∀ (rho' : Rho) (H' : Hp) (v : β), Ext rho H rho' H' → StoreRep K rho' H' st' → rel rho' H' x v → Q v H'
def Mono {α β : Type} (rel : Rho → Hp → α → β → Prop) : Prop := ∀ (rho : Rho) (H : Hp) (rho' : Rho) (H' : Hp) (x : α) (v : β), Trk rho H → Ext rho H rho' H' → rel rho H x v → rel rho' H' x v
theorem mono_rep {K : PySem.W.Frag} : Mono (Rep K) := fun _ _ _ _ _ _ t e r => r.ext t e
theorem mono_repL {K : PySem.W.Frag} : Mono (RepL K) := fun _ _ _ _ _ _ t e r => r.ext t e

section
variable {K : PySem.W.Frag} {α β γ δ α' β' γ' δ' : Type} {sg : L2.St} {H : Hp}
variable {ra : Rho → Hp → α → α' → Prop} {rb : Rho → Hp → β → β' → Prop} {rc : Rho → Hp → γ → γ' → Prop} {rd : Rho → Hp → δ → δ' → Prop}
variable {f : RF α} {g : RF β} {h : RF γ}

theorem tx_b1 {op : α → Store → Option (β × Store)} {Q : β' → Hp → Prop} (r : α' → Hp → (β' → Hp → Prop) → Prop)
    (hr : ∀ (rho : Rho) (H : Hp) (st : Store) (x : α) (u : α') (z : β) (st' : Store), StoreRep K rho H st → ra rho H x u → op x st = some (z, st') → Kn K rb rho H z st' Q → r u H Q)
    (w : TXg K rb (b1 f op) sg H Q) : TXg K ra f sg H fun u H1 => r u H1 Q := by
  obtain ⟨rho, env, st, z, st', hE, hS, hf, hQ⟩ := w
  unfold b1 at hf
  split at hf
  · rename_i x s1 e1
    exact ⟨rho, env, st, x, s1, hE, hS, e1, fun rho1 H1 u x1 S1 r1 => hr rho1 H1 s1 x u z st' S1 r1 hf fun rho2 H2 v x2 S2 r2 => hQ rho2 H2 v (x1.trans x2) S2 r2⟩
  · cases hf
theorem tx_b2 {op : α → β → Store → Option (γ × Store)} {Q : γ' → Hp → Prop} (ma : Mono ra) (r : α' → β' → Hp → (γ' → Hp → Prop) → Prop)
    (hr : ∀ (rho : Rho) (H : Hp) (st : Store) (x : α) (u : α') (y : β) (v : β') (z : γ) (st' : Store), StoreRep K rho H st → ra rho H x u → rb rho H y v → op x y st = some (z, st') → Kn K rc rho H z st' Q → r u v H Q)
    (w : TXg K rc (b2 f g op) sg H Q) : TXg K ra f sg H fun u H1 => TXg K rb g sg H1 fun v H2 => r u v H2 Q := by
  obtain ⟨rho, env, st, z, st', hE, hS, hf, hQ⟩ := w
  unfold b2 at hf
  split at hf
  · rename_i x s1 e1
    split at hf
    · rename_i y s2 e2
      exact ⟨rho, env, st, x, s1, hE, hS, e1, fun rho1 H1 u x1 S1 r1 => ⟨rho1, env, s1, y, s2, hE.ext hS.trk x1, S1, e2, fun rho2 H2 v x2 S2 r2 =>
        hr rho2 H2 s2 x u y v z st' S2 (ma _ _ _ _ _ _ S1.trk x2 r1) r2 hf fun rho3 H3 w x3 S3 r3 => hQ rho3 H3 w ((x1.trans x2).trans x3) S3 r3⟩⟩
    · cases hf
  · cases hf
theorem tx_b3 {op : α → β → γ → Store → Option (δ × Store)} {Q : δ' → Hp → Prop} (ma : Mono ra) (mb : Mono rb) (r : α' → β' → γ' → Hp → (δ' → Hp → Prop) → Prop)
    (hr : ∀ (rho : Rho) (H : Hp) (st : Store) (x : α) (u : α') (y : β) (v : β') (t : γ) (q : γ') (z : δ) (st' : Store), StoreRep K rho H st → ra rho H x u → rb rho H y v → rc rho H t q → op x y t st = some (z, st') → Kn K rd rho H z st' Q → r u v q H Q)
    (w : TXg K rd (b3 f g h op) sg H Q) : TXg K ra f sg H fun u H1 => TXg K rb g sg H1 fun v H2 => TXg K rc h sg H2 fun q H3 => r u v q H3 Q := by
  obtain ⟨rho, env, st, z, st', hE, hS, hf, hQ⟩ := w
  unfold b3 at hf
  split at hf
  · rename_i x s1 e1
    split at hf
    · rename_i y s2 e2
      split at hf
      · rename_i t s3 e3
        exact ⟨rho, env, st, x, s1, hE, hS, e1, fun rho1 H1 u x1 S1 r1 => ⟨rho1, env, s1, y, s2, hE.ext hS.trk x1, S1, e2, fun rho2 H2 v x2 S2 r2 =>
          ⟨rho2, env, s2, t, s3, hE.ext hS.trk (x1.trans x2), S2, e3, fun rho3 H3 q x3 S3 r3 =>
          hr rho3 H3 s3 x u y v t q z st' S3 (ma _ _ _ _ _ _ S1.trk (x2.trans x3) r1) (mb _ _ _ _ _ _ S2.trk x3 r2) r3 hf fun rho4 H4 w x4 S4 r4 => hQ rho4 H4 w (((x1.trans x2).trans x3).trans x4) S4 r4⟩⟩⟩
      · cases hf
    · cases hf
  · cases hf
theorem tx_if {c : RF Bool} {f g : RF α} {Q : α' → Hp → Prop} (w : TXg K ra (bIf c f g) sg H Q) : TXt K c sg H fun b H1 => if b = true then TXg K ra f sg H1 Q else TXg K ra g sg H1 Q := by
  obtain ⟨rho, env, st, z, st', hE, hS, hf, hQ⟩ := w
  unfold bIf at hf
  split at hf
  · rename_i s1 e1
    refine ⟨rho, env, st, true, s1, hE, hS, e1, fun rho1 H1 u x1 S1 r1 => ?_⟩
    cases r1
    refine iteT ?_
    exact ⟨rho1, env, s1, z, st', hE.ext hS.trk x1, S1, hf, fun rho2 H2 v x2 S2 r2 => hQ rho2 H2 v (x1.trans x2) S2 r2⟩
  · rename_i s1 e1
    refine ⟨rho, env, st, false, s1, hE, hS, e1, fun rho1 H1 u x1 S1 r1 => ?_⟩
    cases r1
    refine iteF ?_
    exact ⟨rho1, env, s1, z, st', hE.ext hS.trk x1, S1, hf, fun rho2 H2 v x2 S2 r2 => hQ rho2 H2 v (x1.trans x2) S2 r2⟩
  · cases hf
end

theorem sizeSL : SL = sizeLine := by rw [sizeLine_eq]; rfl

section
variable {K : PySem.W.Frag} {rho : Rho} {H : Hp} {st st' : Store}
/-- a value that stands as it is -/
theorem Kn.same {d : D} {v : V} {Q : VK} (S : StoreRep K rho H st) (r : Rep K rho H d v) (k : Kn K (Rep K) rho H d st Q) : Q v H := k rho H v (.refl _ _) S r
theorem Kn.sameT {b : Bool} {Q : Bool → Hp → Prop} (S : StoreRep K rho H st) (k : Kn K (fun _ _ b c => b = c) rho H b st Q) : Q b H := k rho H b (.refl _ _) S rfl
/-- a new tuple -/
theorem Kn.newT {ds : List D} {vs : List V} {Q : VK} {p : Addr} (S : StoreRep K rho H st) (r : RepL K rho H ds vs) (k : Kn K (Rep K) rho H (.tup ds) st Q) (hp : H p = none) : Q (.ref p) (upd H p (.tup vs)) :=
  k rho _ _ (Ext.tmp hp) (S.tmp hp) (.tup (.inl (.inl upd_same)) (r.ext S.trk (Ext.tmp hp)))
/-- a new list -/
theorem Kn.newL {mat : Bool} {ds : List D} {d : D} {vs : List V} {Q : VK} {p : Addr} (S : StoreRep K rho H st) (r : RepL K rho H ds vs) (e : B.newL mat ds st = some (d, st')) (k : Kn K (Rep K) rho H d st' Q) (hp : H p = none) : Q (.ref p) (upd H p (.lst vs)) := by
  unfold B.newL at e
  cases mat with
  | true =>
    rw [if_pos rfl] at e
    cases e
    exact k (rho.push p) _ _ (Ext.push hp) (S.push hp r) (.ref (by show (rho.r ++ [p])[st.length]? = _; rw [← S.len, List.getElem?_concat_length]))
  | false =>
    rw [if_neg Bool.false_ne_true] at e
    cases e
    exact k rho _ _ (Ext.tmp hp) (S.tmp hp) (.lst (.inl ⟨.inl upd_same, S.not_m hp⟩) (r.ext S.trk (Ext.tmp hp)))
/-- what a thing shows as a sequence -/
theorem seq_rep {d : D} {v : V} {ds : List D} (S : StoreRep K rho H st) (r : Rep K rho H d v) (h : seqOf st d = some ds) : ∃ a vs, v = .ref a ∧ (SqL K H a vs ∨ SqT K H a vs) ∧ RepL K rho H ds vs := by
  cases r with
  | tup hs rl => cases h; exact ⟨_, _, rfl, .inr hs, rl⟩
  | lst hs rl => cases h; exact ⟨_, _, rfl, .inl hs.sq, rl⟩
  | ref hr =>
    simp only [seqOf] at h
    split at h
    · rename_i ds' e2
      cases h
      obtain ⟨vs, h1, h2⟩ := S.obl _ _ _ e2 hr
      exact ⟨_, vs, rfl, .inl (SqL.of h1), h2⟩
    · cases h
  | non => cases h
  | bl b => cases h
  | int i => cases h
  | str s => cases h
theorem lst_rep {d : D} {v : V} {ds : List D} (S : StoreRep K rho H st) (r : Rep K rho H d v) (h : lstOf st d = some ds) : ∃ a vs, v = .ref a ∧ SqL K H a vs ∧ RepL K rho H ds vs := by
  cases r with
  | lst hs rl => cases h; exact ⟨_, _, rfl, hs.sq, rl⟩
  | ref hr =>
    simp only [lstOf] at h
    split at h
    · rename_i ds' e2
      cases h
      obtain ⟨vs, h1, h2⟩ := S.obl _ _ _ e2 hr
      exact ⟨_, vs, rfl, SqL.of h1, h2⟩
    · cases h
  | tup hs rl => cases h
  | non => cases h
  | bl b => cases h
  | int i => cases h
  | str s => cases h
theorem see_dp {d : D} {v : V} {x : PyData} (S : StoreRep K rho H st) (r : Rep K rho H d v) (h : (d.see st).py = some x) : Dp K H v x := by
  cases r with
  | ref hr =>
    simp only [D.see] at h
    split at h
    · rename_i ds e2
      obtain ⟨vs, h1, h2⟩ := S.obl _ _ _ e2 hr
      unfold D.py at h
      split at h
      · rename_i xs hx
        cases h
        exact .lst (SqL.of h1) (h2.dp hx)
      · cases h
    · cases h
  | non => exact Rep.dp (rho := rho) .non h
  | bl b => exact Rep.dp (rho := rho) (.bl b) h
  | int i => exact Rep.dp (rho := rho) (.int i) h
  | str s => exact Rep.dp (rho := rho) (.str s) h
  | tup hs rl => exact Rep.dp (.tup hs rl) h
  | lst hs rl => exact Rep.dp (.lst hs rl) h
theorem tru_rep {d : D} {v : V} {c : Bool} (S : StoreRep K rho H st) (r : Rep K rho H d v) (h : tru st d = some c) : TruV K v H c := by
  cases r with
  | non => cases h; exact rfl
  | bl b => cases h; exact rfl
  | int i => cases h; exact rfl
  | str s =>
    simp only [tru] at h
    split at h
    · rename_i hl
      cases h
      refine ⟨by rw [← sizeSL]; exact hl, ?_⟩
      cases hs : s.length with
      | zero => rfl
      | succ n => simp; omega
    · cases h
  | tup hs rl =>
    cases h
    refine .inr (.inl ⟨_, hs, ?_⟩)
    cases rl <;> rfl
  | lst hs rl =>
    cases h
    refine .inl ⟨_, hs.sq, ?_⟩
    cases rl <;> rfl
  | ref hr =>
    simp only [tru] at h
    split at h
    · rename_i ds e2
      cases h
      obtain ⟨vs, h1, h2⟩ := S.obl _ _ _ e2 hr
      refine .inl ⟨_, SqL.of h1, ?_⟩
      cases h2 <;> rfl
    · cases h
end
end B
/-! B25: rules that the layer lacks: an empty tuple so many times, a tuple turned about. -/
namespace B
open PySem PySem.Spec PyProof.Rows L2 HT
theorem tuple_mulE (l : Addr) (items : Array Value) (n : Nat) (sl : Array (Option Value)) (dd : Option Addr) (x : Int) (u : Tok) (c0 : (decide (x < -(2 ^ 63)) || decide (x ≥ 2 ^ 63)) = false)
    (c1 : (items.isEmpty || x == 1) = true) :
    Meets (Builtin.«tuple.__mul__» ⟨[.ref l, .int x u], []⟩) (fun _ R s => s.heap.get? l = some { cls := .type "tuple", dict := dd, data := .seq items n, slots := sl } ∧ R (.ok (.ret (Value.ref l))) s) :=
  .of_wp fun prog w A R s h => by
    obtain ⟨hp, g, d, tk, os⟩ := s
    obtain ⟨hl, h⟩ := h
    have f1 := AutoSeq1.idx_int
    wp_walk using wpAny_loadPart' hl
    refine wpAny_ite_false (decide_eq_false (by rw [c0]; exact Bool.false_ne_true)) ?_
    wp_walk using wpAny_loadPart' hl
    all_goals exact ⟨_, rfl, h⟩
theorem tuple_mul0 (l : Addr) (items : Array Value) (n : Nat) (sl : Array (Option Value)) (dd : Option Addr) (x : Int) (u : Tok) (c0 : (decide (x < -(2 ^ 63)) || decide (x ≥ 2 ^ 63)) = false)
    (c1 : (items.isEmpty || x == 1) = false) (c2 : (decide (x ≤ 0) || items.isEmpty) = true) :
    Meets (Builtin.«tuple.__mul__» ⟨[.ref l, .int x u], []⟩) (fun _ R s => s.heap.get? l = some { cls := .type "tuple", dict := dd, data := .seq items n, slots := sl } ∧
      R (.ok (.ret (Value.ref s.heap.objs.size))) { s with heap := s.heap.push { cls := Value.type "tuple", data := Data.seq #[] }, toks := s.toks }) :=
  .of_wp fun prog w A R s h => by
    obtain ⟨hp, g, d, tk, os⟩ := s
    obtain ⟨hl, h⟩ := h
    have f1 := AutoSeq1.idx_int
    wp_walk using wpAny_loadPart' hl
    refine wpAny_ite_false (decide_eq_false (by rw [c0]; exact Bool.false_ne_true)) ?_
    wp_walk using wpAny_loadPart' hl
    exact ⟨_, rfl, h⟩
section
variable {X : Cx}
theorem mul_one : OpR X (binaryOp .Mult) (fun x y H Q => ∃ l xs, x = V.ref l ∧ y = V.int 1 ∧ SqT X.K H l xs ∧ Q (.ref l) H) := by
  intro pins s sg H x y v u Q I rx ry h
  obtain ⟨l, xs, rfl, rfl, hT, q⟩ := h
  cases rx
  obtain ⟨t, rfl⟩ := ry
  obtain ⟨its, r, ⟨⟨cls, dd, data, sl⟩, ho, hc, n, hd⟩, hs⟩ := I.tuple hT
  simp only at hc hd
  subst hc hd
  have c1 : (its.toArray.isEmpty || (1 : Int) == 1) = true := by rw [Bool.or_eq_true]; exact .inr rfl
  exact wpAny_binaryOp_repeat_ref (T := "tuple") (U := "int") (by decide) ⟨_, ho, rfl⟩ (fun s' => typeIs_int s' 1 t) noFill_tuple_mul F.fills_int_mul F.slot_int_rmul repeat_tuple F.slot_int_index.lookup
    (call_meets F.slot_int_rmul (typeIs_int s 1 t) F.entry_int_rmul (F.args_int_rmul_2 _ _) (int_rmul_tuple 1 t l its.toArray n dd sl)
      ⟨ho, rfl, ⟨_, ho, rfl⟩, call_meets F.slot_tuple_mul ⟨_, ho, rfl⟩ F.entry_tuple_mul (F.args_tuple_mul_2 _ _) (tuple_mulE l its.toArray n sl dd 1 t (by decide) c1) ⟨ho, ⟨.ref l, H, I, rfl, q⟩⟩⟩)
theorem mul_zero : OpR X (binaryOp .Mult) (fun x y H Q => ∃ l k xs, x = V.ref l ∧ y = V.int k ∧ SqT X.K H l xs ∧ xs ≠ [] ∧ -(2 ^ 63) ≤ k ∧ k ≤ 0 ∧ ∀ p, H p = none → Q (.ref p) (upd H p (.tup []))) := by
  intro pins s sg H x y v u Q I rx ry h
  obtain ⟨l, k, xs, rfl, rfl, hT, hne, h1, h2, q⟩ := h
  cases rx
  obtain ⟨t, rfl⟩ := ry
  obtain ⟨its, r, ⟨⟨cls, dd, data, sl⟩, ho, hc, n, hd⟩, hs⟩ := I.tuple hT
  simp only at hc hd
  subst hc hd
  have hle : its.length = xs.length := r.length.symm
  have hi : its.toArray.isEmpty = false := by
    cases its with
    | nil => exact absurd (List.eq_nil_of_length_eq_zero hle.symm) hne
    | cons a b => rfl
  have c0 : (decide (k < -(2 ^ 63)) || decide (k ≥ 2 ^ 63)) = false := by
    rw [decide_eq_false (by omega), decide_eq_false (by omega)] <;> rfl
  have c1 : (its.toArray.isEmpty || k == 1) = false := by
    rw [hi, Bool.false_or]
    exact beq_eq_false_iff_ne.mpr (by omega)
  have c2 : (decide (k ≤ 0) || its.toArray.isEmpty) = true := by
    rw [decide_eq_true h2, Bool.true_or]
  refine wpAny_binaryOp_repeat_ref (T := "tuple") (U := "int") (by decide) ⟨_, ho, rfl⟩ (fun s' => typeIs_int s' k t) noFill_tuple_mul F.fills_int_mul F.slot_int_rmul repeat_tuple F.slot_int_index.lookup
    (call_meets F.slot_int_rmul (typeIs_int s k t) F.entry_int_rmul (F.args_int_rmul_2 _ _) (int_rmul_tuple k t l its.toArray n dd sl)
      ⟨ho, rfl, ⟨_, ho, rfl⟩, call_meets F.slot_tuple_mul ⟨_, ho, rfl⟩ F.entry_tuple_mul (F.args_tuple_mul_2 _ _) (tuple_mul0 l its.toArray n sl dd k t c0 c1 c2) ⟨ho, ?_⟩⟩)
  refine ⟨.ref s.heap.objs.size, _, I.laid (t' := s.toks) (o := .tup []) (fun b ob q => Heap.get?_push_of_some _ q) (Nat.le_refl _) ?_, rfl, q _ (I.hok.fresh (Nat.le_refl _))⟩
  exact ⟨Nat.zero_le _, [], .nil, IsTup.new _ _⟩
theorem mul_nil : OpR X (binaryOp .Mult) (fun x y H Q => ∃ l k, x = V.ref l ∧ y = V.int k ∧ SqT X.K H l [] ∧ -(2 ^ 63) ≤ k ∧ k < 2 ^ 63 ∧ Q (.ref l) H) := by
  intro pins s sg H x y v u Q I rx ry h
  obtain ⟨l, k, rfl, rfl, hT, h1, h2, q⟩ := h
  cases rx
  obtain ⟨t, rfl⟩ := ry
  obtain ⟨its, r, ⟨⟨cls, dd, data, sl⟩, ho, hc, n, hd⟩, hs⟩ := I.tuple hT
  simp only at hc hd
  subst hc hd
  cases r
  have c0 : (decide (k < -(2 ^ 63)) || decide (k ≥ 2 ^ 63)) = false := by
    rw [decide_eq_false (by omega), decide_eq_false (by omega)] <;> rfl
  exact wpAny_binaryOp_repeat_ref (T := "tuple") (U := "int") (by decide) ⟨_, ho, rfl⟩ (fun s' => typeIs_int s' k t) noFill_tuple_mul F.fills_int_mul F.slot_int_rmul repeat_tuple F.slot_int_index.lookup
    (call_meets F.slot_int_rmul (typeIs_int s k t) F.entry_int_rmul (F.args_int_rmul_2 _ _) (int_rmul_tuple k t l ([] : List Value).toArray n dd sl)
      ⟨ho, rfl, ⟨_, ho, rfl⟩, call_meets F.slot_tuple_mul ⟨_, ho, rfl⟩ F.entry_tuple_mul (F.args_tuple_mul_2 _ _) (tuple_mulE l ([] : List Value).toArray n sl dd k t c0 rfl) ⟨ho, ⟨.ref l, H, I, rfl, q⟩⟩⟩)
end
section
variable {prog : Program} {w : World} {A : Around} {E : Value → Shared → Prop} {s : Shared}
theorem rev_places (n : Nat) : Builtin.Slice.sliceAdjust none none (-1) (n : Int) = ((n : Int) - 1, -1) ∧ Builtin.Slice.slicePlaces ((n : Int) - 1) (-1) (-1) = n := by
  refine ⟨?_, ?_⟩
  · unfold Builtin.Slice.sliceAdjust
    simp
  · unfold Builtin.Slice.slicePlaces
    rw [if_neg (by decide)]
    by_cases h : (n : Int) - 1 > -1
    · rw [if_pos h]
      have : ((n : Int) - 1 - -1 - 1) / (- -1) + 1 = n := by simp
      rw [this]
      rfl
    · rw [if_neg h]
      have : n = 0 := by omega
      subst this
      rfl
theorem fm_map {α β : Type} {f : α → Option β} {g : α → β} : ∀ {l : List α}, (∀ m, m ∈ l → f m = some (g m)) → l.filterMap f = l.map g
  | [], _ => rfl
  | m :: l, h => by
    rw [List.filterMap_cons, h m (List.mem_cons_self ..), List.map_cons, fm_map fun k hk => h k (List.mem_cons_of_mem _ hk)]
theorem rev_pick (xs : Array Value) : ((List.range xs.size).filterMap fun (m : Nat) => xs[((xs.size : Int) - 1 + (m : Int) * -1).toNat]?).toArray = xs.toList.reverse.toArray := by
  congr 1
  rw [fm_map (g := fun m => xs.toList.reverse.getD m default) fun m hm => ?_]
  · apply List.ext_getElem?
    intro i
    by_cases hi : i < xs.size
    · rw [List.getElem?_map, List.getElem?_range hi]
      have h2 : i < xs.toList.reverse.length := by simpa using hi
      rw [List.getElem?_eq_getElem h2]
      simp only [Option.map_some, List.getD_eq_getElem?_getD, List.getElem?_eq_getElem h2, Option.getD_some]
    · rw [List.getElem?_eq_none (by simpa using hi), List.getElem?_eq_none (by simpa using hi)]
  · have hm' := List.mem_range.mp hm
    have e1 : ((xs.size : Int) - 1 + (m : Int) * -1).toNat = xs.size - 1 - m := by omega
    have h1 : xs.size - 1 - m < xs.size := by omega
    have h2 : m < xs.toList.reverse.length := by simpa using hm'
    rw [e1, Array.getElem?_eq_getElem h1, List.getD_eq_getElem?_getD, List.getElem?_eq_getElem h2, List.getElem_reverse]
    simp
theorem sliceApplied_rev {sl : Addr} {t : Tok} {n : Nat} {Q : Int × Int × Nat → Shared → Prop} (hs : s.heap.IsSliceOf sl .none .none (.int (-1) t))
    (h : Q ((n : Int) - 1, -1, n) s) : wpAny (model prog w) A (Builtin.Slice.sliceApplied (.ref sl) (pure (n : Int))) Q E s := by
  obtain ⟨os, hos, hcs, hds⟩ := id hs
  unfold Builtin.Slice.sliceApplied Builtin.Slice.sliceFields
  refine wpAny_bind (wpAny_bind (wpAny_field hos hds (x := .none) rfl (wpAny_bind (wpAny_field hos hds (x := .none) rfl (wpAny_bind (wpAny_field hos hds (x := .int (-1) t) rfl (wpAny_pure ?_)))))))
  refine wpAny_bind (slicePart_int ?_)
  show wpAny _ _ (if ((-1 : Int) == 0) = true then _ else _) _ _ s
  rw [if_neg (by decide)]
  refine wpAny_bind (slicePart_none (wpAny_bind (slicePart_none (wpAny_bind (wpAny_pure ?_)))))
  show wpAny _ _ (match Builtin.Slice.sliceAdjust none none (-1) (n : Int) with | (lo, hi) => pure (lo, (-1 : Int), Builtin.Slice.slicePlaces lo hi (-1))) _ _ s
  rw [(rev_places n).1]
  show wpAny _ _ (pure ((n : Int) - 1, (-1 : Int), Builtin.Slice.slicePlaces ((n : Int) - 1) (-1) (-1))) _ _ s
  rw [(rev_places n).2]
  exact wpAny_pure h
theorem getItem_tuple_rev {t sl : Addr} {items : Array Value} {tk : Tok} {Q : Value → Shared → Prop} (ht : IsTup s.heap t items) (hs : s.heap.IsSliceOf sl .none .none (.int (-1) tk))
    (h : Q (.ref s.heap.objs.size) { s with heap := s.heap.push { cls := .type "tuple", data := .seq items.toList.reverse.toArray } })
    (hsz : items.size ≤ sizeLine) : wpAny (model prog w) A (getItem (.ref t) (.ref sl)) Q E s := by
  have htake : sizeOk (.seq items.toList.reverse.toArray) := by
    show items.toList.reverse.toArray.size ≤ sizeLine
    rw [List.size_toArray, List.length_reverse, Array.length_toList]
    exact hsz
  obtain ⟨os, hos, hcs, hds⟩ := id hs
  have hTs : s.TypeIs (.ref sl) "slice" := ⟨os, hos, hcs⟩
  unfold getItem
  try with_reducible refine wpAny_holding ?_
  first | refine wpAny_bind (wpAny_pure ?_) | skip
  refine wpAny_bind (wpAny_sequenceKey ht.typeIs (by decide) ?_)
  refine wpAny_bind (wpAny_callSpecial?_slot (name := Str.ofString "__getitem__") ht.typeIs PyProof.Rows.slot_tuple_getitem
    (wpAny_call_entry PyProof.Rows.slot_tuple_getitem ht.typeIs entry_tuple_getitem ?_ (args_tuple_getitem _ _)))
  show wpAny _ _ (Builtin.Tuple.tupleItemsOf (.ref t) >>= _) _ _ s
  refine wpAny_bind (tupleItemsOf_ ht ?_)
  refine wpAny_bind (wpAny_typeOf hTs ?_)
  rw [if_pos (by decide)]
  refine wpAny_bind (sliceApplied_rev hs ?_)
  have hno : ¬ (((items.size : Int) - 1 == 0 && (-1 : Int) == 1 && items.size == items.size) = true) := by
    intro q
    rw [Bool.and_eq_true, Bool.and_eq_true] at q
    exact absurd q.1.2 (by decide)
  show wpAny _ _ (if ((items.size : Int) - 1 == 0 && (-1 : Int) == 1 && items.size == items.size) = true then _ else _) _ _ s
  rw [if_neg hno, rev_pick]
  first
    | exact wpAny_bind (m := Builtin.Tuple.tupleExact _) (wpAny_newObj_type (wpAny_pure ⟨_, rfl, wpAny_pure h⟩) htake)
    | exact wpAny_bind (m := Builtin.Tuple.tupleExact _) (wpAny_newObj_type (wpAny_bind (wpAny_pure (wpAny_pure ⟨_, rfl, wpAny_pure h⟩))) htake)
end
section
variable {X : Cx}
def tRevT (K : PySem.W.Frag) (te : TE) : TE := fun sg H Q => te sg H fun x H1 => ∃ a xs, x = V.ref a ∧ SqT K H1 a xs ∧ ∀ p, H1 p = none → Q (.ref p) (upd H1 p (.tup xs.reverse))
theorem pe_revT {e : Expr} {te : TE} {k : Nat} {p1 p2 p3 pos : Pos} (he : PE X e te) : PE X (.Subscript e (.Slice none none (some (.UnaryOp .USub (.Constant (.int 1) k p1) p2)) p3) pos) (tRevT X.K te) := by
  refine ⟨fun pins s sg H Q I h => ?_⟩
  refine Subscript_ (thn (he.run pins s sg H _ I h) fun v s1 ⟨x, H1, I1, r1, q1⟩ => ?_)
  obtain ⟨a, xs, ex, hx, q⟩ := q1
  subst ex
  cases r1
  have hst : PE X (.UnaryOp .USub (.Constant (.int 1) k p1) p2) (tUn (rU fun i => .int (-i)) (tC (.int 1))) := pe_un un_neg pe_int
  refine wpAny_Slice (thn (po_none.run pins s1 sg H1 (fun o H2 => o = none ∧ H2 = H1) I1 ⟨rfl, rfl⟩) fun vl s2 ⟨l, H2, I2, pl, el, e2⟩ => ?_)
  subst el e2
  refine thn (po_none.run pins s2 sg H2 (fun o H3 => o = none ∧ H3 = H2) I2 ⟨rfl, rfl⟩) fun vu s3 ⟨u, H3, I3, pu, eu, e3⟩ => ?_
  subst eu e3
  refine thn ((po_some hst).run pins s3 sg H3 (fun o H4 => o = some (-1) ∧ H4 = H3) I3 ⟨1, rfl, -1, rfl, rfl, rfl⟩) fun vs s4 ⟨o, H4, I4, ps, eo, e4⟩ => ?_
  subst eo e4
  have I5 : Inv X pins sg H4 { s4 with heap := s4.heap.push { cls := .type "slice", data := .fields #[vl, vu, vs] } } := I4.kept (t' := s4.toks) fun b ob q => Heap.get?_push_of_some _ q
  obtain ⟨its, r, ht, hz⟩ := I5.tuple hx
  have hlen := r.length
  cases pl
  cases pu
  cases ps
  rename_i tk _
  show wpAny (model X.prog X.w) X.A (subscriptTail e (.Slice none none (some (.UnaryOp .USub (.Constant (.int 1) k p1) p2)) p3) (.ref a) (.ref s4.heap.objs.size)) (EP X pins sg Q) X.xe { s4 with heap := s4.heap.push { cls := .type "slice", data := .fields #[.none, .none, .int (-1) tk] } }
  refine tail_any (ops := [.ref a, .ref s4.heap.objs.size]) ht.typeIs (PyProof.Rows.slot_tuple_getitem.lookup) ?_ (by with_unfolding_all rfl)
  refine getItem_tuple_rev ht (Heap.IsSliceOf.new _ .none .none _) ?_ (by rw [List.size_toArray]; omega)
  exact ⟨.ref _, _, I5.laid (t' := s4.toks) (o := .tup xs.reverse) (fun b ob q => Heap.get?_push_of_some _ q) (Nat.le_refl _) ⟨by rw [List.length_reverse]; exact hz, _, by rw [List.toList_toArray]; exact r.reverse, IsTup.new _ _⟩, rfl, q _ (I5.hok.fresh (Nat.le_refl _))⟩
end
end B
/-! B26: the sum of a list of truths. -/
namespace B
open PySem PySem.Spec PyProof.Rows L2
section
variable {prog : Program} {w : World} {A : Around} {R : Result → Shared → Prop} {I : Addr} {fp wr : List Addr} {n : Nat} {P : Nat → Value → Prop} {St : Nat → Heap → Prop}
def bv (bs : Nat → Bool) (i : Nat) : Int := if bs i = true then 1 else 0
theorem bv_bd (bs : Nat → Bool) : ∀ i, 0 ≤ preSum (bv bs) i ∧ preSum (bv bs) i ≤ i
  | 0 => by simp [preSum]
  | i + 1 => by
    have h := bv_bd bs i
    have h2 : 0 ≤ bv bs i ∧ bv bs i ≤ 1 := by unfold bv; split <;> decide
    simp only [preSum]
    omega
theorem wp_if {α : Type} {prog : Program} {w : World} {A : Around} {s : Shared} {c : Bool} {a b : Sem α} {Q : α → Shared → Prop} {E : Value → Shared → Prop} (hc : c = true) (h : wpAny (model prog w) A a Q E s) : wpAny (model prog w) A (if c = true then a else b) Q E s := by
  rw [if_pos hc]; exact h
theorem sumB_loop (W : Walks prog w A.in1 I fp wr n P St) (bs : Nat → Bool) (hval : ∀ i v, P i v → v = .bool (bs i)) (hn : n ≤ 16777216) (S : Addr) (hSf : S ∉ fp) :
    ∀ (k i : Nat) (s : Shared) (tA : Tok) (c : Nat), n - i = k → i ≤ n → St i s.heap → s.heap.get? S = some { cls := .type "list", dict := none, data := .seq #[.int (preSum (bv bs) i) tA] c, slots := #[] } →
    (∀ h' tk t', (∀ b o, b ∉ wr → b ≠ S → s.heap.get? b = some o → h'.get? b = some o) → R (.ok (.ret (.int (preSum (bv bs) n) t'))) { s with heap := h', toks := tk }) →
    codeAny (model prog w) A (.builtin "sum.loop" ⟨[.ref I, .ref S, rawInt 0, rawInt 0], []⟩) R s := by
  have hSw : S ∉ wr := fun h => hSf (W.sub _ h)
  intro k
  induction k with
  | zero =>
    intro i s tA c hk hi hst hS hR
    obtain rfl : i = n := by omega
    refine codeAny_builtin F.entry_sum_loop ?_
    rw [Around.under_plainId F.plain_sum_loop _]
    show wpAny _ A.in1 (seqItems? (.ref S) >>= _) _ _ s
    refine wpAny_bind (wpAny_seqItems hS rfl ?_)
    show wpAny _ A.in1 (tryCatch (pyNext (.ref I)) _ >>= _) _ _ s
    exact wpAny_bind (wpAny_tryCatch (W.done s _ _ hst fun h' tk hk' => wpAny_pure (hR h' tk tA fun b o hbw _ e => hk' b o hbw e)))
  | succ k ih =>
    intro i s tA c hk hi hst hS hR
    have hlt : i < n := by omega
    have hb := bv_bd bs i
    refine codeAny_builtin F.entry_sum_loop ?_
    rw [Around.under_plainId F.plain_sum_loop _]
    show wpAny _ A.in1 (seqItems? (.ref S) >>= _) _ _ s
    refine wpAny_bind (wpAny_seqItems hS rfl ?_)
    show wpAny _ A.in1 (tryCatch (pyNext (.ref I)) _ >>= _) _ _ s
    refine wpAny_bind (wpAny_tryCatch (W.item i s _ _ hlt hst fun v h' tk hP hst' hk' => ?_))
    obtain rfl := hval i v hP
    have hS' := hk' S _ hSw hS
    have hc : ((decide (-(2 ^ 63) ≤ bv bs i) && decide (bv bs i < 2 ^ 63)) && (decide (-(2 ^ 63) ≤ preSum (bv bs) i + bv bs i) && decide (preSum (bv bs) i + bv bs i < 2 ^ 63))) = true := by
      have h2 : 0 ≤ bv bs i ∧ bv bs i ≤ 1 := by unfold bv; split <;> decide
      simp only [Bool.and_eq_true, decide_eq_true_eq]
      omega
    show wpAny _ A.in1 (if (_ : Bool) = true then (mkInt (preSum (bv bs) i + bv bs i) >>= _) else _) _ _ _
    refine wp_if hc ?_
    refine wpAny_bind (wpAny_mkInt ?_)
    show wpAny _ A.in1 (updateSeq S (fun _ => #[.int (preSum (bv bs) i + bv bs i) tk]) >>= _) _ _ _
    refine wpAny_bind (wpAny_updateSeq hS' rfl (wpAny_pure ⟨plainId_quiet F.plain_sum_loop _, ih (i + 1) _ tk _ (by omega) hlt (W.frame _ _ _ hst' fun b hb o e => ?_) (Heap.get?_update_self _ hS' rfl) fun h'' tk'' t'' hk'' => ?_⟩))
    · exact (Heap.get?_update_other _ _ fun h : S = b => hSf (h ▸ hb)).trans e
    · exact hR h'' tk'' t'' fun b o hbw hbS e => hk'' b o hbw hbS ((Heap.get?_update_other _ _ (Ne.symm hbS)).trans (hk' b o hbw e))
end
section
variable {prog : Program} {w : World} {A : Around} {E : Value → Shared → Prop} {s : Shared}
theorem call_sumB {x : Value} {Q : Value → Shared → Prop}
    (h : wpAny (model prog w) A.in1 (pyIter x) (fun it s₂ => ∃ I fp wr n P St bs, it = .ref I ∧ Walks prog w A.in1 I fp wr n P St ∧ St 0 s₂.heap ∧ (∀ b ∈ fp, b < s₂.heap.objs.size) ∧
      (∀ i v, P i v → v = .bool (bs i)) ∧ n ≤ 16777216 ∧
      ∀ h' tk t', (∀ b o, b ∉ wr → s₂.heap.get? b = some o → h'.get? b = some o) → Q (.int (preSum (bv bs) n) t') { s₂ with heap := h', toks := tk }) E s) :
    wpAny (model prog w) A (call (.builtin "sum") [x]) Q E s := by
  refine call_function_tree F.kind_sum F.plain_sum F.entry_sum (F.args_sum1 _) ?_
  unfold Builtin.«sum»
  simp only [List.length_cons, List.length_nil]
  rw [if_neg (by decide)]
  refine wpAny_bind (wpAny_of_eq (show Builtin.Builtins.bindParams "sum" ["start"] 0 { } = pure [none] from rfl) ?_)
  refine wpAny_bind (wpAny_mono h (fun it s₂ h₂ => ?_) fun _ _ e => e)
  obtain ⟨I, fp, wr, n, P, St, bs, rfl, W, hst, hfp, hval, hn, hQ⟩ := h₂
  refine wpAny_bind (wpAny_mkInt ?_)
  refine wpAny_bind (wpAny_pure ?_)
  simp only [List.forIn_cons, List.forIn_nil]
  refine wpAny_bind (wpAny_bind (wpAny_bind (wpAny_isInstance (T := "int") (b := false) (typeIs_int _ _ _) PySem.sub_int_str ?_)))
  simp only [Bool.false_eq_true, if_false]
  refine wpAny_pure (wpAny_bind (wpAny_bind (wpAny_isInstance (T := "int") (b := false) (typeIs_int _ _ _) PySem.sub_int_bytes ?_)))
  simp only [Bool.false_eq_true, if_false]
  refine wpAny_pure (wpAny_bind (wpAny_bind (wpAny_isInstance (T := "int") (b := false) (typeIs_int _ _ _) PySem.sub_int_bytearray ?_)))
  simp only [Bool.false_eq_true, if_false]
  refine wpAny_pure (wpAny_pure (wpAny_bind (wpAny_newObj_type ?_)))
  have hSf : s₂.heap.objs.size ∉ fp := fun hm => Nat.lt_irrefl _ (hfp _ hm)
  exact wpAny_pure ⟨plainId_quiet F.plain_sum_loop _, sumB_loop W bs hval hn s₂.heap.objs.size hSf n 0 _ s₂.toks 0 rfl (Nat.zero_le _)
    (W.frame _ _ _ hst fun b _ o e => Heap.get?_push_of_some _ e) (Heap.get?_push_size _ rfl) fun h' tk t' hk => hQ h' tk t' fun b o hbw e => hk b o hbw (Nat.ne_of_lt (Heap.lt_size e)) (Heap.get?_push_of_some _ e)⟩
end
theorem bv_sum (bs : List Bool) : ∀ i, i ≤ bs.length → preSum (bv fun i => bs.getD i false) i = cntT (bs.take i)
  | 0, _ => rfl
  | i + 1, h => by
    have e : bs.take (i + 1) = bs.take i ++ [bs.getD i false] := by
      rw [List.take_succ, List.getElem?_eq_getElem (by omega), List.getD_eq_getElem?_getD, List.getElem?_eq_getElem (by omega)]; rfl
    rw [preSum, bv_sum bs i (by omega), e]
    unfold cntT bv
    rw [List.map_append, List.sum_append]
    simp
def rSumB (K : PySem.W.Frag) : List V → Hp → VK → Prop := fun vs H Q => ∃ (a : Addr) (bs : List Bool), vs = [V.ref a] ∧ SqL K H a (bs.map V.bl) ∧ Q (.int (cntT bs)) H
theorem cr_sumB {X : Cx} (hc : X.calm = true) : CallR X (.builtin "sum") (rSumB X.K) := by
  intro pins s σ H vs us Q I r h
  obtain ⟨a, bs, rfl, hs, q⟩ := h
  obtain ⟨its, rv, hl, hz⟩ := I.list hs
  rw [Vals.ref1 r]
  have hb := rv.bls
  have hlen : its.length = bs.length := by rw [hb, List.length_map]
  refine call_sumB (iter_any hl.isList fun s₂ e2 st hne => ?_)
  subst e2
  have hlt : a < s.heap.objs.size := by obtain ⟨_, e, _⟩ := hl.isList; exact Heap.lt_size e
  refine ⟨_, _, _, _, _, _, fun i => bs.getD i false, rfl, Walks.list (A := X.A.in1) (I.ok.hd hc) _ a hne its.toArray, st, fun b hb2 => ?_, fun i v hv => ?_, ?_, fun h' tk t' hk => ?_⟩
  · show b < (s.heap.push _).objs.size
    rw [Heap.size_push]
    rcases List.mem_cons.mp hb2 with rfl | hb2
    · exact Nat.lt_succ_self _
    · rw [List.mem_singleton.mp hb2]; exact Nat.lt_succ_of_lt hlt
  · have hv : its[i]? = some v := by simpa using hv
    rw [hb, List.getElem?_map] at hv
    cases e : bs[i]? with
    | none => rw [e] at hv; cases hv
    | some b =>
      rw [e] at hv
      cases hv
      show Value.bool b = Value.bool (bs.getD i false)
      rw [List.getD_eq_getElem?_getD, e]; rfl
  · rw [List.length_map] at hz
    rw [List.size_toArray, hlen]
    exact hz
  · refine ⟨.int _, H, I.kept fun b o eo => hk b o (fun hmem => ?_) (Heap.get?_push_of_some _ eo), ⟨t', ?_⟩, q⟩
    · rw [List.mem_singleton] at hmem
      exact absurd (hmem ▸ Heap.lt_size eo) (Nat.lt_irrefl _)
    · rw [List.size_toArray, hlen, bv_sum bs bs.length (Nat.le_refl _), List.take_length]
end B
/-! B27: sorted of a list of tuples of numbers, any number of them. -/
namespace B
open PySem PySem.Spec PyProof.Rows L2

theorem lexI_trans (a b c : List Int) (h1 : lexI a b = true) (h2 : lexI b c = true) : lexI a c = true := by
  unfold lexI at *
  rw [Bool.not_eq_true'] at *
  cases h : lexLt itemOrd (c.map Sum.inl) (a.map Sum.inl) with
  | false => rfl
  | true => rcases (listOrd itemOrd).negTrans _ (b.map Sum.inl) _ h with z | z
            · exact absurd (z.symm.trans h2) (by simp)
            · exact absurd (z.symm.trans h1) (by simp)
theorem inl_map_inj : ∀ {a b : List Int}, a.map (Sum.inl : Int → Int ⊕ List Nat) = b.map Sum.inl → a = b
  | [], [], _ => rfl
  | [], _ :: _, h => by simp at h
  | _ :: _, [], h => by simp at h
  | x :: a, y :: b, h => by
    rw [List.map_cons, List.map_cons] at h
    injection h with h1 h2
    rw [Sum.inl.inj h1, inl_map_inj h2]
theorem lexI_anti (a b : List Int) (h1 : lexI a b = true) (h2 : lexI b a = true) : a = b := by
  unfold lexI at *
  rw [Bool.not_eq_true'] at *
  exact inl_map_inj ((listOrd itemOrd).total _ _ h2 h1)
theorem lexI_total (a b : List Int) : (lexI a b || lexI b a) = true := by
  unfold lexI
  cases h : lexLt itemOrd (b.map Sum.inl) (a.map Sum.inl) with
  | false => rfl
  | true =>
    have : lexLt itemOrd (a.map Sum.inl) (b.map Sum.inl) = false := KeyOrd.klt_asymm (O := listOrd itemOrd) h
    rw [this]
    rfl
theorem srtT_eq {ns ns' : List (List Int)} (p : ns'.Perm ns) (h : ns'.Pairwise (fun a b => lexI a b = true)) : ns' = srtT ns := by
  unfold srtT
  exact List.Perm.eq_of_pairwise (le := fun a b => lexI a b = true) (fun a b _ _ h1 h2 => lexI_anti a b h1 h2) h (List.pairwise_mergeSort lexI_trans lexI_total ns) (p.trans (List.mergeSort_perm ns _).symm)

/-- these are tuples of these numbers -/
inductive TupA (K : PySem.W.Frag) (H : Hp) : List V → List (List Int) → Prop
  | nil : TupA K H [] []
  | cons {a : Addr} {ns : List Int} {xs : List V} {nss : List (List Int)} : SqT K H a (ns.map V.int) → TupA K H xs nss → TupA K H (.ref a :: xs) (ns :: nss)
theorem TupA.length {K : PySem.W.Frag} {H : Hp} : ∀ {xs : List V} {nss : List (List Int)}, TupA K H xs nss → xs.length = nss.length
  | _, _, .nil => rfl
  | _, _, .cons _ t => by rw [List.length_cons, List.length_cons, t.length]
theorem TupA.mem {K : PySem.W.Frag} {H : Hp} : ∀ {xs : List V} {nss : List (List Int)}, TupA K H xs nss → ∀ x ∈ xs, ∃ a ns, x = .ref a ∧ ns ∈ nss ∧ SqT K H a (ns.map V.int)
  | _, _, .nil, x, h => by cases h
  | _, _, .cons r t, x, h => by
    rcases List.mem_cons.mp h with e | h
    · exact ⟨_, _, e, List.mem_cons_self .., r⟩
    · obtain ⟨a, ns, e, h1, h2⟩ := t.mem x h
      exact ⟨a, ns, e, List.mem_cons_of_mem _ h1, h2⟩
def rSortedTA (K : PySem.W.Frag) : List V → Hp → VK → Prop := fun vs H Q => ∃ (a : Addr) (xs : List V) (nss : List (List Int)), vs = [V.ref a] ∧ SqL K H a xs ∧ TupA K H xs nss ∧ ((∀ ns ∈ nss, ns ≠ []) ∨ nss.length < 2) ∧
  ∀ (ys : List V) (ms : List (List Int)) (p : Addr), TupA K H ys ms → ms.Perm nss → ms.Pairwise (fun a b => lexI a b = true) → H p = none → Q (.ref p) (upd H p (.lst ys))
theorem tup_items : ∀ {us : List Value} {ns : List Int} (i : Nat), IntsAre us ns → tupItems (fun _ => false) i us = some (ns.map Sum.inl)
  | _, _, _, .nil => rfl
  | _, _, i, .cons n t h => by
    have ih := tup_items (i + 1) h
    show (if false = true then none else (tupItems (fun _ => false) (i + 1) _).map (Sum.inl n :: ·)) = _
    rw [ih]
    rfl
theorem key_of {h : Heap} {v : Value} {ns : List Int} (t : TS.TupInts h v ns) : G.tupKeyC h (fun _ => false) v = some (ns.map Sum.inl) := by
  obtain ⟨a, xs, rfl, ⟨o, ho, hc, n, hd⟩, hi⟩ := t
  unfold G.tupKeyC G.isTupObj
  simp only [ho, hc, beq_self_eq_true, if_true]
  unfold tupKey
  simp only [ho, hd]
  exact tup_items 0 hi
theorem tups_firsts {h : Heap} : ∀ {vs : List Value}, (∀ v ∈ vs, ∃ ns, TS.TupInts h v ns ∧ ns ≠ []) → ∃ fs, TupsOf h (fun _ => false) vs fs
  | [], _ => ⟨[], .nil⟩
  | v :: vs, hv => by
    obtain ⟨fs, hf⟩ := tups_firsts fun u hu => hv u (List.mem_cons_of_mem _ hu)
    obtain ⟨ns, ⟨a, xs, rfl, ⟨o, ho, hc, n, hd⟩, hi⟩, hne⟩ := hv v (List.mem_cons_self ..)
    obtain ⟨m, r, rfl⟩ : ∃ m r, ns = m :: r := by
      cases ns with
      | nil => exact absurd rfl hne
      | cons m r => exact ⟨m, r, rfl⟩
    obtain ⟨us, hus⟩ : ∃ us, us = xs.toList := ⟨_, rfl⟩
    rw [← hus] at hi
    cases hi with
    | cons _ t hr =>
      rename_i us'
      refine ⟨.int m t :: fs, .cons ⟨a, o, xs, n, rfl, ho, hc, hd, ?_, fun _ => ⟨m, t, rfl⟩, fun z => absurd z Bool.false_ne_true⟩ hf⟩
      rw [← Array.getElem?_toList, ← hus]
      rfl
theorem bk_TupA {K : PySem.W.Frag} {H : Hp} : ∀ {us : List Value} {f : Value → List Int}, (∀ u ∈ us, ∃ a, u = Value.ref a ∧ SqT K H a ((f u).map V.int)) → TupA K H (us.map bkV) (us.map f)
  | [], _, _ => .nil
  | u :: us, f, h => by
    obtain ⟨a, e, hs⟩ := h u (List.mem_cons_self ..)
    rw [List.map_cons, List.map_cons]
    have hb : bkV u = .ref a := by rw [e]; rfl
    rw [hb]
    exact .cons hs (bk_TupA fun y hy => h y (List.mem_cons_of_mem _ hy))
theorem TupA_is {X : Cx} {pins : List (Addr × Obj)} {σ : L2.St} {H : Hp} {s : Shared} (I : Inv X pins σ H s) : ∀ {xs : List V} {nss : List (List Int)} {us : List Value}, TupA X.K H xs nss → Vals xs us → nss = us.map (TS.intsOf s.heap) ∧ ∀ u ∈ us, ∃ a, u = Value.ref a ∧ SqT X.K H a ((TS.intsOf s.heap u).map V.int)
  | _, _, _, .nil, .nil => ⟨rfl, fun u hu => absurd hu List.not_mem_nil⟩
  | _, _, _, .cons (a := a) hs t, .cons r1 r2 => by
    obtain ⟨h1, h2⟩ := TupA_is I t r2
    cases r1
    have hi := (tupI_raw I hs).ints
    refine ⟨?_, fun u hu => ?_⟩
    · rw [List.map_cons, hi, ← h1]
    · rcases List.mem_cons.mp hu with e | hu
      · subst e
        exact ⟨a, rfl, by rw [hi]; exact hs⟩
      · exact h2 u hu
theorem cr_sortedTA {X : Cx} : CallR X (.builtin "sorted") (rSortedTA X.K) := by
  intro pins s σ H vs us Q I r h
  obtain ⟨a, xs, nss, rfl, hs, hx, hne, q⟩ := h
  obtain ⟨its, rv, hl, hz⟩ := I.list hs
  rw [Vals.ref1 r]
  obtain ⟨e1, e2⟩ := TupA_is I hx rv
  have hT : ∀ v ∈ its, TS.TupInts s.heap v (TS.intsOf s.heap v) := fun v hv => by
    obtain ⟨b, e, hb⟩ := e2 v hv
    rw [e] at hb ⊢
    exact tupI_raw I hb
  have hkey : ∀ v ∈ its, G.tupKeyC s.heap (fun _ => false) v = some ((TS.intsOf s.heap v).map Sum.inl) := fun v hv => key_of (hT v hv)
  have hK := G.tupKeys (h := s.heap) (shape := fun _ => false) (vs := its) fun v hv => ⟨_, hkey v hv⟩
  refine G.sortedG (κ := G.tupKindC s.heap (fun _ => false)) (kd := tuples' true) hl.isList hK (fun s₂ k => G.tupC_ltAt (s := s₂) true k) (fun h2 A' E' s₂ Q' k hq => ?_) (by rw [← rv.length]; exact hz) fun st' hp hsr _ => ?_
  · obtain ⟨fs, hf⟩ := tups_firsts (h := s.heap) (vs := its) fun v hv => ⟨_, hT v hv, by
      rcases hne with hne | hlt
      · exact hne _ (by rw [e1]; exact List.mem_map.mpr ⟨v, hv, rfl⟩)
      · rw [e1, List.length_map] at hlt; omega⟩
    exact tup_kind (s := s₂) (by rw [G.TupsOf.length hf]; omega) (G.TupsOf.keep k hf) hq
  · obtain ⟨ep, he'⟩ := PyProof.Rows.sortedAll_at s.heap its ((arrOf st').map (·.2))
    have hpl : (arrOf st').toList.Perm (its.zip its) := by
      have := hp.toList
      rwa [pairsOf_toList] at this
    have hm : ∀ p ∈ (arrOf st').toList, p.1 = p.2 ∧ p.1 ∈ its := fun p hp' => mem_zip_self (hpl.mem_iff.mp hp')
    have ho : ((arrOf st').map (·.2)).toList = (arrOf st').toList.map (·.1) := by
      rw [Array.toList_map]
      exact List.map_congr_left fun p hp' => (hm p hp').1.symm
    have hperm : ((arrOf st').toList.map (·.1)).Perm its := by
      have := hpl.map (·.1)
      rwa [List.map_fst_zip (Nat.le_refl _)] at this
    have h3 : ∀ u ∈ (arrOf st').toList.map (·.1), ∃ a, u = Value.ref a ∧ SqT X.K H a ((TS.intsOf s.heap u).map V.int) := fun u hu => e2 u (hperm.mem_iff.mp hu)
    have hlen : (((arrOf st').toList.map (·.1)).map bkV).length ≤ sizeLine := by
      rw [List.length_map, hperm.length_eq, ← rv.length]
      exact hz
    refine ⟨.ref _, upd H (s.heap.objs.size + 1) (.lst (((arrOf st').toList.map (·.1)).map bkV)), I.laid (t' := s.toks) (fun _ _ => PyProof.Rows.sortedAll_old) (Nat.le_succ _) ⟨hlen, (arrOf st').toList.map (·.1), ep, bkV_vals fun u hu => (h3 u hu).imp fun _ h => h.1, ?_⟩, rfl, q _ _ _ (bk_TupA h3) ?_ ?_ (I.hok.fresh (Nat.le_succ _))⟩
    · have ea : (((arrOf st').toList.map (·.1)).toArray : Array Value) = (arrOf st').map (·.2) := by rw [← ho]
      rw [ea]
      exact he'
    · rw [e1]
      exact hperm.map _
    · rw [List.map_map, List.pairwise_map]
      refine List.pairwise_iff_getElem.mpr fun i j hi hj hij => ?_
      have hsz : (arrOf st').size = (pairsOf its).size := hp.size_eq
      have hle := hsr i j (Nat.le_of_lt hij) (by rw [← hsz]; simpa using hj)
      have kk : ∀ (i : Nat) (hi : i < (arrOf st').toList.length), KK (G.tupKindC s.heap (fun _ => false)) (arrOf st') i = ((TS.intsOf s.heap (arrOf st').toList[i].1).map Sum.inl : List (Int ⊕ List Nat)) := fun i hi => by
        unfold KK
        rw [← Array.getElem?_toList, List.getElem?_eq_getElem hi]
        show (G.tupKeyC s.heap (fun _ => false) (arrOf st').toList[i].1).getD [] = _
        rw [hkey _ (hm _ (List.getElem_mem hi)).2]
        rfl
      rw [kk i hi, kk j hj] at hle
      show (!_) = true
      rw [Bool.not_eq_true']
      exact hle
section
variable {K : PySem.W.Frag} {rho : Rho} {H : Hp} {st : Store}
theorem ints_repT : ∀ {ds : List D} {vs : List V} {ks : List Int}, RepL K rho H ds vs → intsD ds = some ks → vs = ks.map V.int
  | [], _, _, h, e => by cases h; cases e; rfl
  | d :: ds, _, _, h, e => by
    cases h with
    | cons a b =>
      cases a with
      | int i =>
        simp only [intsD] at e
        split at e
        · rename_i ns h1
          cases e
          rw [ints_repT b h1, List.map_cons]
        · cases e
      | _ => simp [intsD] at e
theorem repT_ints : ∀ ns : List Int, RepL K rho H (ns.map D.int) (ns.map V.int)
  | [] => .nil
  | n :: ns => .cons (.int n) (repT_ints ns)
theorem tupsD_rep : ∀ {ds : List D} {vs : List V} {nss : List (List Int)}, RepL K rho H ds vs → tupsD ds = some nss → TupA K H vs nss
  | [], _, _, h, e => by cases h; cases e; exact .nil
  | d :: ds, _, _, h, e => by
    cases h with
    | cons a b =>
      unfold tupsD at e
      split at e
      · rename_i q; cases q
      · rename_i es r0 e0
        cases e0
        split at e
        · rename_i ns hn
          split at e
          · rename_i q hq
            cases e
            cases a with
            | tup hs rl =>
              have ev := ints_repT rl hn
              subst ev
              exact .cons hs (tupsD_rep b hq)
          · cases e
        · cases e
      · cases e
theorem tups_rep {d : D} {v : V} {nss : List (List Int)} (S : StoreRep K rho H st) (r : Rep K rho H d v) (h : tupsOf d st = some nss) : ∃ a xs, v = .ref a ∧ SqL K H a xs ∧ TupA K H xs nss := by
  unfold tupsOf at h
  split at h
  · rename_i ds hd
    obtain ⟨a, vs, e, hq, rl⟩ := lst_rep S r hd
    exact ⟨a, vs, e, hq, tupsD_rep rl h⟩
  · cases h
theorem tups_repL : ∀ {vs : List V} (nss : List (List Int)), TupA K H vs nss → RepL K rho H (nss.map tupE) vs
  | _, _, .nil => .nil
  | _, _, .cons hs t => .cons (.tup hs (repT_ints _)) (tups_repL _ t)
end
end B
/-! B28: sorted of a dict whose keys are numbers, any number of them. -/
namespace B
open PySem PySem.Spec PyProof.Rows L2
theorem cr_sortedDI {X : Cx} (hcalm : X.calm = true) : CallR X (.builtin "sorted") (fun xs H Q => ∃ (a : Addr) (kvs : List (Key × V)) (ks : List Int), xs = [.ref a] ∧ H a = some (.dK kvs) ∧ kvs.map (·.1) = ks.map Sum.inl ∧ ks.length ≤ sizeLine ∧
    ∀ (ys : List Int) (p : Addr), ys.Perm ks → ys.Pairwise (· ≤ ·) → H p = none → Q (.ref p) (upd H p (.lst (ys.map V.int)))) := by
  intro pins s σ H xs us Q I r q
  obtain ⟨a, kvs, ks, ex, hd, hks, h64, q⟩ := q
  subst ex
  obtain ⟨u, eu, rx⟩ := vals1 r
  subst eu
  cases rx
  obtain ⟨z, lo, vs, rel, dd⟩ := dk_rd I.hok (.of hd)
  obtain ⟨ep, hat⟩ := dd.dictAt
  have hkeys : vs.map (·.1) = ks.map Sum.inl := rel.keys.symm.trans hks
  have hl : vs.length = ks.length := by
    have e := congrArg List.length hkeys
    rw [List.length_map, List.length_map] at e
    exact e
  have h16 : vs.length ≤ sizeLine := by rw [hl]; exact h64
  refine Calls.call_function_entry PyProof.Rows.kind_sorted PyProof.Rows.plain_sorted PyProof.Rows.entry_sorted (PyProof.Rows.args_sorted1 _) ?_
  unfold Builtin.«sorted»
  refine wpAny_bind (m := checkCount "sorted" 1 1 _) (wpAny_pure ?_)
  refine wpAny_bind (PySem.W.kdu_collect (A := X.A.in1) (PySem.W.kdl_dict (knd := mixKind X.prog X.w) (kvs := vs) (ep := ep) lo) (I.ok.hd hcalm) hat h16 fun h' tk acc hk hacc => ?_)
  have hal : acc.toList.length = ks.length := by rw [Array.length_toList, hacc.1, hl]
  have hS : IntsAre acc.toList ks := ints_each hal fun j v e => by
    obtain ⟨k, x, e1, e2⟩ := hacc.2 j v (by rw [← Array.getElem?_toList]; exact e)
    have e3 : (vs.map (·.1))[j]? = some k := by rw [List.getElem?_map, e1]; rfl
    rw [hkeys, List.getElem?_map] at e3
    cases e4 : ks[j]? with
    | none => rw [e4] at e3; cases e3
    | some y =>
      rw [e4] at e3
      have e5 : Sum.inl y = k := Option.some.inj e3
      subst e5
      rcases keyIs_shape (show keyIs (Sum.inl y) v = true from e2) with ⟨i, t, ek, ev⟩ | ⟨z, t, ek, ev⟩
      · cases ek
        exact ⟨y, t, rfl, ev⟩
      · cases ek
  have I1 : Inv X pins σ H { s with heap := h', toks := tk } := I.kept hk
  refine wpAny_bind (wpAny_newList ?_ (by rw [hal]; exact h64))
  have hoL : (h'.push (seqObj "list" acc.toList.toArray 0)).get? h'.objs.size = some (seqObj "list" acc.toList.toArray 0) := Heap.get?_push_size _ rfl
  show wpAny _ _ _ _ _ { s with heap := h'.push (seqObj "list" acc.toList.toArray 0), toks := tk }
  refine wpAny_bind (wpAny_holding (wpAny_call_entry PyProof.Rows.slot_list_sort ⟨_, hoL, rfl⟩ PyProof.Rows.entry_list_sort
    (PyProof.Rows.list_sort_treeAny (s := { s with heap := h'.push (seqObj "list" acc.toList.toArray 0), toks := tk }) hoL hS (by rw [hal]; exact h64) fun out ys g1 g2 g3 => ⟨_, rfl, ?_⟩) (PyProof.Rows.args_list_sort _)))
  obtain ⟨e', he'⟩ := PyProof.Rows.sortedHeap_at (vs := acc.toList) (out := out) hoL
  have hlen : (ys.map V.int).length ≤ sizeLine := by
    rw [List.length_map, g2.length_eq]
    exact h64
  refine wpAny_pure ⟨_, rfl, .ref h'.objs.size, upd H h'.objs.size (.lst (ys.map V.int)), I1.laid (t' := tk) (fun b u e => ?_) (Nat.le_refl _)
    (show ObjOk X.prog X.w _ _ _ (.lst (ys.map V.int)) from ⟨hlen, out.toList, e', vals_of_ints g1, by rw [Array.toArray_toList]; exact he'⟩), rfl, q ys _ g2 g3 (I1.hok.fresh (Nat.le_refl _))⟩
  have hb : b < h'.objs.size := Heap.lt_size e
  rw [PyProof.Rows.sortedHeap_old (Nat.ne_of_lt hb) (by rw [size_push']; exact Nat.lt_succ_of_lt hb)]
  exact Heap.get?_push_of_some _ e
theorem keys_rep {K : PySem.W.Frag} {rho : Rho} {H : Hp} {st : Store} {d : D} {v : V} {ks : List Int} (S : StoreRep K rho H st) (r : Rep K rho H d v) (h : keysOf d st = some ks) : ∃ a kvs, v = .ref a ∧ H a = some (.dK kvs) ∧ kvs.map (·.1) = ks.map (Sum.inl : Int → Key) ∧ ks.length ≤ SL := by
  unfold keysOf at h
  split at h
  case h_2 => cases h
  rename_i n
  split at h
  case h_2 => cases h
  rename_i kvs e
  split at h
  case isFalse => cases h
  rename_i hl
  cases h
  cases r with
  | ref hr =>
    obtain ⟨vs, h1, h2⟩ := S.ob _ _ _ e hr
    have hl2 : kvs.length = vs.length := by have := h2.length; rwa [O.ds, List.length_map] at this
    refine ⟨_, _, rfl, h1, ?_, by rw [List.length_map]; exact hl⟩
    show (mkI (kvs.map (·.1)) vs).map (·.1) = _
    unfold mkI
    rw [List.map_zipWith]
    have key : ∀ (ks : List Int) (vs : List V), ks.length = vs.length → List.zipWith (fun (k : Int) (_ : V) => (Sum.inl k : Key)) ks vs = ks.map Sum.inl := by
      intro ks
      induction ks with
      | nil => intro vs _; rfl
      | cons k ks ih =>
        intro vs e
        cases vs with
        | nil => cases e
        | cons v vs => rw [List.zipWith_cons_cons, List.map_cons, ih vs (Nat.succ.inj e)]
    exact key _ _ (by rw [List.length_map]; exact hl2)
end B
/-! B3: the operations. -/
namespace B
open PySem PySem.Spec PyProof.Rows L2

def BOp.py : BOp → Operator
  | .add => .Add | .sub => .Sub | .mul => .Mult | .fdiv => .FloorDiv | .mod => .Mod | .pow => .Pow | .shl => .LShift | .shr => .RShift | .band => .BitAnd | .bor => .BitOr | .bxor => .BitXor
def COp.py : COp → CmpOp
  | .eq => .Eq | .ne => .NotEq | .lt => .Lt | .le => .LtE | .gt => .Gt | .ge => .GtE | .isN => .Is | .notN => .IsNot | .in_ => .In | .notin => .NotIn

/-- two values upon which op is reckoned -/
def RD2 (K : PySem.W.Frag) (op : D → D → Store → Option (D × Store)) : R2 := fun u v H Q => ∃ (rho : Rho) (st : Store) (x y z : D) (st' : Store),
  StoreRep K rho H st ∧ Rep K rho H x u ∧ Rep K rho H y v ∧ op x y st = some (z, st') ∧ Kn K (Rep K) rho H z st' Q
def RD1 (K : PySem.W.Frag) (op : D → Store → Option (D × Store)) : V → Hp → VK → Prop := fun u H Q => ∃ (rho : Rho) (st : Store) (x z : D) (st' : Store),
  StoreRep K rho H st ∧ Rep K rho H x u ∧ op x st = some (z, st') ∧ Kn K (Rep K) rho H z st' Q
def RDa (K : PySem.W.Frag) (op : List D → Store → Option (D × Store)) : List V → Hp → VK → Prop := fun us H Q => ∃ (rho : Rho) (st : Store) (xs : List D) (z : D) (st' : Store),
  StoreRep K rho H st ∧ RepL K rho H xs us ∧ op xs st = some (z, st') ∧ Kn K (Rep K) rho H z st' Q
section
variable {X : Cx}
theorem cat_nil {vs : List V} {xs ys : List D} (h : xs = []) : xs ++ ys = ys := by rw [h]; rfl
/-- list + list, tracked or not -/
def rCatW (K : PySem.W.Frag) : R2 := fun x y H Q => ∃ a b xs ys, x = .ref a ∧ y = .ref b ∧ SqL K H a xs ∧ SqL K H b ys ∧ xs.length + ys.length ≤ sizeLine ∧ ∀ p, H p = none → Q (.ref p) (upd H p (.lst (xs ++ ys)))
theorem op_catW : OpR X (binaryOp .Add) (rCatW X.K) := by
  intro pins s σ H x y v u Q I rx ry h
  obtain ⟨a, b, xs, ys, rfl, rfl, ha, hb, hz, q⟩ := h
  cases rx
  cases ry
  obtain ⟨its, r1, ⟨o, n, ho, hc, hdd, hd⟩, z1⟩ := I.list ha
  obtain ⟨its2, r2, ⟨o2, n2, ho2, hc2, hdd2, hd2⟩, z2⟩ := I.list hb
  obtain ⟨cls, dd, data, sl⟩ := o
  obtain ⟨cls2, dd2, data2, sl2⟩ := o2
  simp only at hc hd hc2 hd2
  subst hc hd hc2 hd2
  have ez : its.toArray.size + its2.toArray.size ≤ sizeLine := by
    rw [List.size_toArray, List.size_toArray, ← r1.length, ← r2.length]
    exact hz
  refine concat_meets ⟨_, ho, rfl⟩ ⟨_, ho2, rfl⟩ noFill_list_add seq_list_add PySem.F.slot_list_add PySem.F.entry_list_add (PySem.F.args_list_add_2 _ _) (list_addW a b its.toArray its2.toArray n n2 dd dd2 sl sl2 ez) ⟨ho, ho2, ?_⟩
  have ea : its.toArray ++ its2.toArray = (its ++ its2).toArray := by simp
  rw [ea]
  exact ⟨.ref _, _, I.lnew (t' := s.toks) (r1.append r2) (by rw [List.length_append]; omega), rfl, q _ I.fresh⟩
theorem op_catL {pins : List (Addr × Obj)} {s : Shared} {sg : L2.St} {H : Hp} {u v : V} {uu vv : Value} {Q : VK} {rho : Rho} {st st' : Store} {x y z : D} (I : Inv X pins sg H s) (ru : RelV u uu) (rv : RelV v vv) (S : StoreRep X.K rho H st) (rx : Rep X.K rho H x u) (ry : Rep X.K rho H y v) (ho : catL x y st = some (z, st')) (k : Kn X.K (Rep X.K) rho H z st' Q) :
    wpAny (model X.prog X.w) X.A (binaryOp .Add uu vv) (EP X pins sg Q) X.xe s := by
  unfold catL at ho
  split at ho
  · rename_i xs hx
    split at ho
    · rename_i ys hy
      split at ho
      · rename_i hl
        cases ho
        obtain ⟨a, vs, rfl, h1, r1⟩ := lst_rep S rx hx
        obtain ⟨b, ws, rfl, h2, r2⟩ := lst_rep S ry hy
        exact op_catW pins s sg H _ _ uu vv Q I ru rv ⟨a, b, vs, ws, rfl, rfl, h1, h2, by rw [← r1.length, ← r2.length, ← sizeSL]; exact hl, fun p hp => k.newL (mat := false) S (r1.append r2) rfl hp⟩
      · cases ho
    · cases ho
  · cases ho
theorem op_catLM : OpR X (binaryOp .Add) (RD2 X.K catLM) := by
  intro pins s sg H u v uu vv Q I ru rv h
  obtain ⟨rho, st, x, y, z, st', S, rx, ry, ho, k⟩ := h
  unfold catLM at ho
  split at ho
  · rename_i xs hx
    split at ho
    · rename_i ys hy
      split at ho
      · rename_i hl
        cases ho
        obtain ⟨a, vs, rfl, h1, r1⟩ := lst_rep S rx hx
        obtain ⟨b, ws, rfl, h2, r2⟩ := lst_rep S ry hy
        exact op_catW pins s sg H _ _ uu vv Q I ru rv ⟨a, b, vs, ws, rfl, rfl, h1, h2, by rw [← r1.length, ← r2.length, ← sizeSL]; exact hl, fun p hp => k.newL (mat := true) S (r1.append r2) rfl hp⟩
      · cases ho
    · cases ho
  · cases ho
def CPowX (i j : Int) : Prop := (0 ≤ j ∧ j ≤ 1000000 ∧ i.natAbs < 2 ^ 64) ∨ (0 ≤ j ∧ j ≤ 1000 ∧ i.natAbs < WB)
theorem bits_WB {i : Int} (h : i.natAbs < WB) : (Builtin.Int.intBits i : Int) ≤ 1000 := by
  have h2 : i.natAbs.log2 < 1000 := PySem.Flt.log2_lt_of (by decide) h
  unfold Builtin.Int.intBits
  split <;> omega
theorem op_powX : OpR X (binaryOp .Pow) (rI CPowX fun i j => .int (i ^ j.toNat)) := opI fun i j _ _ _ _ _ hc q => by
  rcases hc with hc | hc
  · exact pow_int_small hc.1 hc.2.1 hc.2.2 q
  · have hb := bits_WB hc.2.2
    have hm : (Builtin.Int.intBits i : Int) * j ≤ 1000 * 1000 := Int.mul_le_mul hb hc.2.1 hc.1 (by decide)
    exact pow_int hc.1 (Int.le_trans hm (by decide)) q
def CMulX (i j : Int) : Prop := ((-(2 ^ 64) < i ∧ i < 2 ^ 64) ∨ (-(2 ^ 64) < j ∧ j < 2 ^ 64)) ∨ (i.natAbs < WB ∧ j.natAbs < WB)
theorem op_mulX : OpR X (binaryOp .Mult) (rI CMulX fun i j => .int (i * j)) := opI fun i j _ _ _ _ _ hc q => by
  rcases hc with hc | hc
  · exact mul_int q (show CMul i j from hc).ok
  · exact mul_int q (wide_mul (i := i) (j := j) (a := 1000) (b := 1000) hc.1 hc.2 (by decide) (by decide) (by decide)).ok
def CDivX (_ j : Int) : Prop := (j ≠ 0 ∧ j.natAbs < 1073741824) ∨ (0 < j ∧ j < 2 ^ 200)
theorem op_fdivX : OpR X (binaryOp .FloorDiv) (rI CDivX fun i j => .int (i.fdiv j)) := opI fun i j _ _ _ _ _ hc q => by
  rcases hc with hc | hc
  · exact floordiv_int hc.1 q (.inl (PyProof.noPylong_small hc.2))
  · have h1 : (0 : Int) < j := hc.1
    have h2 : j.natAbs < 2 ^ 200 := by
      have := hc.2
      omega
    exact floordiv_int (by omega) q (.inl (PyProof.noPylong_of_log2 (Nat.lt_of_lt_of_le (PySem.Flt.log2_lt_of (by decide) h2) (by decide))))
theorem op_bop (o : BOp) : OpR X (binaryOp o.py) (RD2 X.K (bop o)) := by
  intro pins s sg H u v uu vv Q I ru rv h
  obtain ⟨rho, st, x, y, z, st', S, rx, ry, ho, k⟩ := h
  unfold bop at ho
  split at ho
  case h_1 i j => cases ho; cases rx; cases ry; exact op_add pins s sg H _ _ _ _ Q I ru rv ⟨i, j, rfl, rfl, k.same S (.int _)⟩
  case h_2 i j => cases ho; cases rx; cases ry; exact op_sub pins s sg H _ _ _ _ Q I ru rv ⟨i, j, rfl, rfl, k.same S (.int _)⟩
  case h_3 i j => split at ho <;> cases ho; rename_i hc; cases rx; cases ry; exact op_mulX pins s sg H _ _ _ _ Q I ru rv ⟨i, j, rfl, rfl, hc, k.same S (.int _)⟩
  case h_4 i j => split at ho <;> cases ho; rename_i hc; cases rx; cases ry; exact op_fdivX pins s sg H _ _ _ _ Q I ru rv ⟨i, j, rfl, rfl, hc, k.same S (.int _)⟩
  case h_5 i j => split at ho <;> cases ho; rename_i hc; cases rx; cases ry; exact op_modN pins s sg H _ _ _ _ Q I ru rv ⟨i, j, rfl, rfl, hc, k.same S (.int _)⟩
  case h_6 i j => split at ho <;> cases ho; rename_i hc; cases rx; cases ry; exact op_powX pins s sg H _ _ _ _ Q I ru rv ⟨i, j, rfl, rfl, hc, k.same S (.int _)⟩
  case h_7 i j => split at ho <;> cases ho; rename_i hc; cases rx; cases ry; exact op_shl pins s sg H _ _ _ _ Q I ru rv ⟨i, j, rfl, rfl, hc, k.same S (.int _)⟩
  case h_8 i j => split at ho <;> cases ho; rename_i hc; cases rx; cases ry; exact op_shr pins s sg H _ _ _ _ Q I ru rv ⟨i, j, rfl, rfl, hc, k.same S (.int _)⟩
  case h_9 i j => cases ho; cases rx; cases ry; exact op_and pins s sg H _ _ _ _ Q I ru rv ⟨i, j, rfl, rfl, k.same S (.int _)⟩
  case h_10 i j => cases ho; cases rx; cases ry; exact op_or pins s sg H _ _ _ _ Q I ru rv ⟨i, j, rfl, rfl, k.same S (.int _)⟩
  case h_11 i j => cases ho; cases rx; cases ry; exact op_xor pins s sg H _ _ _ _ Q I ru rv ⟨i, j, rfl, rfl, k.same S (.int _)⟩
  case h_12 xs ys =>
    split at ho <;> cases ho
    rename_i hc
    cases rx with
    | tup hx rlx =>
      cases ry with
      | tup hy rly =>
        rename_i vs a ws b
        refine op_catA pins s sg H _ _ _ _ Q I ru rv ⟨a, b, vs, ws, rfl, rfl, hx, hy, ?_, fun e => ?_, fun e e2 => ?_, fun e e2 p hp => ?_⟩
        · rw [← rlx.length, ← rly.length, ← sizeSL]; exact hc
        · subst e
          cases rlx
          exact k.same S (.tup hy rly)
        · subst e2
          cases rly
          rw [List.append_nil] at k
          exact k.same S (.tup hx rlx)
        · exact k.newT S (rlx.append rly) hp
  case h_13 xs => exact op_catL I ru rv S rx ry ho k
  case h_14 xs => exact op_catL I ru rv S rx ry ho k
  case h_15 xs i =>
    split at ho <;> cases ho
    rename_i hc
    cases ry
    cases rx with
    | tup hx rlx =>
      rename_i vs a
      by_cases hne : vs = []
      · subst hne
        exact mul_nil pins s sg H _ _ _ _ Q I ru rv ⟨a, i, rfl, rfl, hx, by omega, by omega, by
          cases rlx
          have e : (List.replicate i.toNat ([] : List D)).flatten = [] := by simp
          rw [e] at k
          exact k.same S (.tup hx .nil)⟩
      · by_cases h1 : i = 1
        · subst h1
          have e : (List.replicate (1 : Int).toNat xs).flatten = xs := by simp
          rw [e] at k
          exact mul_one pins s sg H _ _ _ _ Q I ru rv ⟨a, vs, rfl, rfl, hx, k.same S (.tup hx rlx)⟩
        · by_cases h0 : i ≤ 0
          · have e : (List.replicate i.toNat xs).flatten = [] := by
              rw [Int.toNat_of_nonpos h0]; rfl
            rw [e] at k
            exact mul_zero pins s sg H _ _ _ _ Q I ru rv ⟨a, i, vs, rfl, rfl, hx, hne, by omega, h0, fun p hp => k.newT S .nil hp⟩
          · exact op_repT pins s sg H _ _ _ _ Q I ru rv ⟨a, i, vs, rfl, rfl, hx, hne, by omega, hc.2.1, by rw [← rlx.length]; exact hc.2.2, fun p hp => k.newT S (rlx.flat _) hp⟩
  case h_16 => cases ho

theorem un_negD : UnR X (unaryOp .USub) (RD1 X.K negD) := by
  intro pins s sg H u uu Q I ru h
  obtain ⟨rho, st, x, z, st', S, rx, ho, k⟩ := h
  unfold negD at ho
  split at ho
  · rename_i i
    cases ho; cases rx
    exact un_neg pins s sg H _ _ Q I ru ⟨i, rfl, k.same S (.int _)⟩
  · cases ho
theorem isB_rep {K : PySem.W.Frag} {rho : Rho} {H : Hp} {d e : D} {v u : V} {st : Store} {c : Bool} (r : Rep K rho H d v) (q : Rep K rho H e u) (h : cop .isN d e st = some c) : (u = .non ∧ decide (v = .non) = c) ∨ ∃ a b, v = .bl a ∧ u = .bl b ∧ decide (a = b) = c := by
  unfold cop at h
  simp only at h
  split at h <;> first | (cases h; cases r; cases q; exact .inl ⟨rfl, rfl⟩) | (cases h; cases r; cases q; exact .inr ⟨_, _, rfl, rfl, rfl⟩) | cases h
theorem notB_rep {K : PySem.W.Frag} {rho : Rho} {H : Hp} {d e : D} {v u : V} {st : Store} {c : Bool} (r : Rep K rho H d v) (q : Rep K rho H e u) (h : cop .notN d e st = some c) : (u = .non ∧ (!decide (v = .non)) = c) ∨ ∃ a b, v = .bl a ∧ u = .bl b ∧ (!decide (a = b)) = c := by
  unfold cop at h
  simp only at h
  split at h <;> first | (cases h; cases r; cases q; exact .inl ⟨rfl, rfl⟩) | (cases h; cases r; cases q; exact .inr ⟨_, _, rfl, rfl, rfl⟩) | cases h
theorem ints_rep {K : PySem.W.Frag} {rho : Rho} {H : Hp} : ∀ {ds : List D} {vs : List V} {ns : List Int}, RepL K rho H ds vs → intsD ds = some ns → vs = ns.map V.int
  | [], _, _, .nil, h => by cases h; rfl
  | .int b :: ds, _, _, .cons a r, h => by
    unfold intsD at h
    split at h
    · rename_i bs e
      cases h
      cases a
      rw [ints_rep r e]
      rfl
    · cases h
  | .non :: ds, _, _, _, h => by cases h
  | .bl _ :: ds, _, _, _, h => by cases h
  | .str _ :: ds, _, _, _, h => by cases h
  | .tup _ :: ds, _, _, _, h => by cases h
  | .lst _ :: ds, _, _, _, h => by cases h
  | .ref _ :: ds, _, _, _, h => by cases h
theorem ints_flat (ns : List Int) : (ns.map V.int).all flatV = true := by
  rw [List.all_eq_true]
  intro x hx
  obtain ⟨i, _, rfl⟩ := List.mem_map.mp hx
  rfl
theorem inV_ints (i : Int) (ns : List Int) : inV (.int i) (ns.map V.int) = decide (i ∈ ns) := by
  induction ns with
  | nil => rfl
  | cons n ns ih =>
    unfold inV at ih ⊢
    rw [List.map_cons, List.any_cons, ih]
    have e : eqV (.int n) (.int i) = decide (n = i) := by simp only [eqV]; by_cases z : n = i <;> simp [z]
    rw [e]
    by_cases h : n = i
    · subst h; simp
    · have h' : ¬ i = n := fun z => h z.symm
      simp [h, h']
def rInT (K : PySem.W.Frag) : R2 := fun x y H Q => ∃ d ds, Dp K H x d ∧ Dp K H y (.tuple ds) ∧ SeqAt.shaped d = true ∧ SeqAt.shaped (.tuple ds) = true ∧ Q (.bl (ds.any fun z => PyData.eqv z d)) H
def rNotInT (K : PySem.W.Frag) : R2 := fun x y H Q => ∃ d ds, Dp K H x d ∧ Dp K H y (.tuple ds) ∧ SeqAt.shaped d = true ∧ SeqAt.shaped (.tuple ds) = true ∧ Q (.bl (!ds.any fun z => PyData.eqv z d)) H
theorem op_inT (hu : X.A.units + 65 < cLine) : OpR X (compareOp .In) (rInT X.K) := by
  intro pins s σ H x y v u Q I rx ry h
  obtain ⟨d, ds, hd, he, sd, se, q⟩ := h
  obtain ⟨as, r1⟩ := Dp.reads I d x v hd rx
  obtain ⟨bs, r2⟩ := Dp.reads I (.tuple ds) y u he ry
  exact SeqAt.in_tuple_reads r2 r1 (SeqAt.canLay_of_shaped se) (SeqAt.canLay_of_shaped sd) (room_in_shaped sd hu) ⟨.bl _, H, I, rfl, q⟩
theorem op_notInT (hu : X.A.units + 65 < cLine) : OpR X (compareOp .NotIn) (rNotInT X.K) := by
  intro pins s σ H x y v u Q I rx ry h
  obtain ⟨d, ds, hd, he, sd, se, q⟩ := h
  obtain ⟨as, r1⟩ := Dp.reads I d x v hd rx
  obtain ⟨bs, r2⟩ := Dp.reads I (.tuple ds) y u he ry
  exact SeqAt.notIn_tuple_reads r2 r1 (SeqAt.canLay_of_shaped se) (SeqAt.canLay_of_shaped sd) (room_in_shaped sd hu) ⟨.bl _, H, I, rfl, q⟩
/-- in, of data of any depth -/
theorem op_inX (hu : X.A.units + 65 < cLine) : OpR X (compareOp .In) (fun u v H Q => ∃ (rho : Rho) (st : Store) (x y : D) (c : Bool), StoreRep X.K rho H st ∧ Rep X.K rho H x u ∧ Rep X.K rho H y v ∧ inD x y st = some c ∧ Q (.bl c) H) := by
  intro pins s sg H u v uu vv Q I ru rv h
  obtain ⟨rho, st, x, y, c, S, rx, ry, ho, q⟩ := h
  unfold inD at ho
  split at ho
  · rename_i a ys ha hb
    split at ho
    · rename_i hs
      cases ho
      exact op_inD hu pins s sg H u v uu vv Q I ru rv ⟨a, ys, see_dp S rx ha, see_dp S ry hb, hs.1, hs.2, q⟩
    · cases ho
  · rename_i a ys ha hb
    split at ho
    · rename_i hs
      cases ho
      exact op_inT hu pins s sg H u v uu vv Q I ru rv ⟨a, ys, see_dp S rx ha, see_dp S ry hb, hs.1, hs.2, q⟩
    · cases ho
  · cases ho
theorem op_ninX (hu : X.A.units + 65 < cLine) : OpR X (compareOp .NotIn) (fun u v H Q => ∃ (rho : Rho) (st : Store) (x y : D) (c : Bool), StoreRep X.K rho H st ∧ Rep X.K rho H x u ∧ Rep X.K rho H y v ∧ ninD x y st = some c ∧ Q (.bl c) H) := by
  intro pins s sg H u v uu vv Q I ru rv h
  obtain ⟨rho, st, x, y, c, S, rx, ry, ho, q⟩ := h
  unfold ninD inD at ho
  split at ho
  · rename_i c2 ho2
    cases ho
    split at ho2
    · rename_i a ys ha hb
      split at ho2
      · rename_i hs
        cases ho2
        exact op_notInD hu pins s sg H u v uu vv Q I ru rv ⟨a, ys, see_dp S rx ha, see_dp S ry hb, hs.1, hs.2, q⟩
      · cases ho2
    · rename_i a ys ha hb
      split at ho2
      · rename_i hs
        cases ho2
        exact op_notInT hu pins s sg H u v uu vv Q I ru rv ⟨a, ys, see_dp S rx ha, see_dp S ry hb, hs.1, hs.2, q⟩
      · cases ho2
    · cases ho2
  · cases ho
/-- a comparison of two values -/
theorem op_cop (hu : X.A.units + 65 < cLine) (o : COp) : OpR X (compareOp o.py) (fun u v H Q => ∃ (rho : Rho) (st : Store) (x y : D) (c : Bool), StoreRep X.K rho H st ∧ Rep X.K rho H x u ∧ Rep X.K rho H y v ∧ cop o x y st = some c ∧ Q (.bl c) H) := by
  intro pins s sg H u v uu vv Q I ru rv h
  obtain ⟨rho, st, x, y, c, S, rx, ry, ho, q⟩ := h
  cases o with
  | eq =>
    simp only [cop] at ho
    split at ho
    · rename_i i j; cases ho; cases rx; cases ry; exact op_eq pins s sg H _ _ _ _ Q I ru rv ⟨rfl, by simpa using q⟩
    · rename_i i j; cases ho; cases rx; cases ry; exact op_eq pins s sg H _ _ _ _ Q I ru rv ⟨rfl, by simpa using q⟩
    · rename_i i j; cases ho; cases rx; cases ry; exact op_eq pins s sg H _ _ _ _ Q I ru rv ⟨rfl, by simpa using q⟩
    · split at ho
      · rename_i a b ha hb
        split at ho
        · rename_i hs
          cases ho
          exact op_eqD (by omega) pins s sg H u v uu vv Q I ru rv ⟨a, b, see_dp S rx ha, see_dp S ry hb, hs.1, hs.2, q⟩
        · cases ho
      · cases ho
  | ne =>
    simp only [cop] at ho
    split at ho
    · rename_i i j; cases ho; cases rx; cases ry; exact op_ne pins s sg H _ _ _ _ Q I ru rv ⟨rfl, by simpa using q⟩
    · rename_i i j; cases ho; cases rx; cases ry; exact op_ne pins s sg H _ _ _ _ Q I ru rv ⟨rfl, by simpa using q⟩
    · rename_i i j; cases ho; cases rx; cases ry; exact op_ne pins s sg H _ _ _ _ Q I ru rv ⟨rfl, by simpa using q⟩
    · split at ho
      · rename_i a b ha hb
        split at ho
        · rename_i hs
          cases ho
          exact op_neD (by omega) pins s sg H u v uu vv Q I ru rv ⟨a, b, see_dp S rx ha, see_dp S ry hb, hs.1, hs.2, q⟩
        · cases ho
      · cases ho
  | lt =>
    simp only [cop] at ho
    split at ho <;> cases ho
    rename_i i j
    cases rx; cases ry
    exact op_lt pins s sg H _ _ _ _ Q I ru rv ⟨i, j, rfl, rfl, q⟩
  | le =>
    simp only [cop] at ho
    split at ho <;> cases ho
    rename_i i j
    cases rx; cases ry
    exact op_le pins s sg H _ _ _ _ Q I ru rv ⟨i, j, rfl, rfl, q⟩
  | gt =>
    simp only [cop] at ho
    split at ho <;> cases ho
    rename_i i j
    cases rx; cases ry
    exact op_gt pins s sg H _ _ _ _ Q I ru rv ⟨i, j, rfl, rfl, q⟩
  | ge =>
    simp only [cop] at ho
    split at ho <;> cases ho
    rename_i i j
    cases rx; cases ry
    exact op_ge pins s sg H _ _ _ _ Q I ru rv ⟨i, j, rfl, rfl, q⟩
  | isN =>
    rcases isB_rep rx ry ho with ⟨e1, e2⟩ | ⟨a, b, e1, e2, e3⟩
    · exact op_isN pins s sg H u v uu vv Q I ru rv ⟨e1, by rw [e2]; exact q⟩
    · exact op_is_bl pins s sg H u v uu vv Q I ru rv ⟨a, b, e1, e2, by rw [e3]; exact q⟩
  | notN =>
    rcases notB_rep rx ry ho with ⟨e1, e2⟩ | ⟨a, b, e1, e2, e3⟩
    · exact op_notN pins s sg H u v uu vv Q I ru rv ⟨e1, by rw [e2]; exact q⟩
    · exact op_isnot_bl pins s sg H u v uu vv Q I ru rv ⟨a, b, e1, e2, by rw [e3]; exact q⟩
  | in_ =>
    simp only [cop] at ho
    split at ho
    · rename_i i
      split at ho
      · rename_i xs hx
        split at ho
        · rename_i ns hn
          cases ho
          cases rx
          obtain ⟨a, vs, rfl, hsq, rl⟩ := seq_rep S ry hx
          have e := ints_rep rl hn
          subst e
          exact op_in_seq pins s sg H _ _ uu vv Q I ru rv ⟨a, _, rfl, hsq, rfl, ints_flat ns, by rw [if_neg Bool.false_ne_true, inV_ints]; exact q⟩
        · exact op_inX hu pins s sg H u v uu vv Q I ru rv ⟨rho, st, _, y, c, S, rx, ry, ho, q⟩
      · cases ho
    · exact op_inX hu pins s sg H u v uu vv Q I ru rv ⟨rho, st, _, y, c, S, rx, ry, ho, q⟩
  | notin =>
    simp only [cop] at ho
    split at ho
    · rename_i i
      split at ho
      · rename_i xs hx
        split at ho
        · rename_i ns hn
          cases ho
          cases rx
          obtain ⟨a, vs, rfl, hsq, rl⟩ := seq_rep S ry hx
          have e := ints_rep rl hn
          subst e
          exact op_notIn_seq pins s sg H _ _ uu vv Q I ru rv ⟨a, _, rfl, hsq, rfl, ints_flat ns, by rw [if_pos rfl, inV_ints]; exact q⟩
        · exact op_ninX hu pins s sg H u v uu vv Q I ru rv ⟨rho, st, _, y, c, S, rx, ry, ho, q⟩
      · cases ho
    · exact op_ninX hu pins s sg H u v uu vv Q I ru rv ⟨rho, st, _, y, c, S, rx, ry, ho, q⟩

theorem op_copV (hu : X.A.units + 65 < cLine) (o : COp) : OpR X (compareOp o.py) (RD2 X.K (copV o)) := by
  intro pins s sg H u v uu vv Q I ru rv h
  obtain ⟨rho, st, x, y, z, st', S, rx, ry, ho, k⟩ := h
  unfold copV at ho
  split at ho
  · rename_i c hc
    cases ho
    exact op_cop hu o pins s sg H u v uu vv Q I ru rv ⟨rho, st, x, y, c, S, rx, ry, hc, k.same S (.bl _)⟩
  · cases ho

/-! ### places and parts -/
theorem ixOf_eq (n : Nat) (i : Int) : ixOf n i = ixN n i := rfl
theorem ix_D : IxR X (RD2 X.K idx) := by
  intro value slice pins s sg H u v uu vv Q I ru rv h hsub
  obtain ⟨rho, st, x, y, z, st', S, rx, ry, ho, k⟩ := h
  unfold idx at ho
  split at ho
  · rename_i i
    split at ho
    · rename_i ds hd
      split at ho
      · rename_i j hj
        split at ho
        · rename_i d he
          cases ho
          cases ry
          obtain ⟨a, vs, rfl, hsq, rl⟩ := seq_rep S rx hd
          obtain ⟨w, hw, rw'⟩ := rl.get he
          have hat : atI vs i = some w := by
            unfold atI
            rw [← rl.length, ← ixOf_eq, hj]
            exact hw
          exact ix_seq value slice pins s sg H _ _ _ _ Q I ru rv (hsq.elim (fun q => .inl ⟨a, vs, i, w, rfl, rfl, q, hat, k.same S rw'⟩) fun q => .inr (.inl ⟨a, vs, i, w, rfl, rfl, q, hat, k.same S rw'⟩)) hsub
        · cases ho
      · cases ho
    · cases ho
  · cases ho
theorem clip_eq (n d : Nat) (o : Option Int) : clip n d o = HT.sIx n d o := by
  cases o with
  | none => rfl
  | some v =>
    have h := HT.clip_eq v n d
    unfold clip
    simp only
    rw [h]
    rfl
theorem cut_eq {K : PySem.W.Frag} {rho : Rho} {H : Hp} {ds : List D} {vs : List V} (r : RepL K rho H ds vs) (lo hi : Option Int) : RepL K rho H (cutD ds lo hi) (cutV vs lo hi) := by
  unfold cutD cutV
  rw [clip_eq, clip_eq, r.length]
  exact (r.drop _).take _
/-- a slice, by its parts -/
def RDs (K : PySem.W.Frag) (mat : Bool) : V → Option Int → Option Int → Hp → VK → Prop := fun u lo hi H Q => ∃ (rho : Rho) (st : Store) (x z : D) (st' : Store),
  StoreRep K rho H st ∧ Rep K rho H x u ∧ slc mat x lo hi st = some (z, st') ∧ Kn K (Rep K) rho H z st' Q
theorem sl_D (mat : Bool) : SlR X (RDs X.K mat) := by
  intro pins s sg H u uu vl vu lo hi sl Q I ru hs pl pu w
  obtain ⟨rho, st, x, z, st', S, rx, ho, k⟩ := w
  unfold slc at ho
  split at ho
  · rename_i ds
    cases ho
    cases rx with
    | tup hq rl =>
      rename_i vs a
      refine sl_tupA pins s sg H _ uu vl vu lo hi sl Q I ru hs pl pu ⟨a, vs, rfl, hq, fun e => ?_, fun _ p hp => k.newT S (cut_eq rl lo hi) hp⟩
      have hc : cutD ds lo hi = ds := by
        unfold cutD
        rw [clip_eq, clip_eq, rl.length, e.1, e.2, List.drop_zero, Nat.sub_zero, ← rl.length, List.take_length]
      rw [hc] at k
      exact k.same S (.tup hq rl)
  · rename_i ds
    cases rx with
    | lst hq rl =>
      rename_i vs a
      exact sl_list pins s sg H _ uu vl vu lo hi sl Q I ru hs pl pu ⟨a, vs, rfl, hq.sq, fun p hp => k.newL S (cut_eq rl lo hi) ho hp⟩
  · rename_i n
    split at ho
    · rename_i ds e2
      obtain ⟨a, vs, rfl, _, h1, rl⟩ := S.at rx e2
      exact sl_list pins s sg H _ uu vl vu lo hi sl Q I ru hs pl pu ⟨a, vs, rfl, SqL.of h1, fun p hp => k.newL S (cut_eq rl lo hi) ho hp⟩
    · cases ho
  · cases ho

/-! ### built-in functions -/
theorem bls_rep {K : PySem.W.Frag} {rho : Rho} {H : Hp} : ∀ {ds : List D} {vs : List V} {bs : List Bool}, RepL K rho H ds vs → bls ds = some bs → vs = bs.map V.bl
  | [], _, _, .nil, h => by cases h; rfl
  | .bl b :: ds, _, _, .cons a r, h => by
    unfold bls at h
    split at h
    · rename_i bs e
      cases h
      cases a
      rw [bls_rep r e]
      rfl
    · cases h
  | .non :: ds, _, _, _, h => by cases h
  | .int _ :: ds, _, _, _, h => by cases h
  | .str _ :: ds, _, _, _, h => by cases h
  | .tup _ :: ds, _, _, _, h => by cases h
  | .lst _ :: ds, _, _, _, h => by cases h
  | .ref _ :: ds, _, _, _, h => by cases h
def Blt.val : Blt → Value
  | .len => .builtin "len" | .tuple => .type "tuple" | .list _ => .type "list" | .repr => .builtin "repr" | .abs => .builtin "abs" | .int => .type "int" | .max2 => .builtin "max" | .min2 => .builtin "min" | .all => .builtin "all" | .any => .builtin "any" | .sorted _ => .builtin "sorted" | .sum => .builtin "sum" | .maxL => .builtin "max" | .minL => .builtin "min"
end
mutual
theorem noDict : ∀ {d : D} {x : PyData}, d.py = some x → x.hasDict = false
  | .non, _, h => by cases h; rfl
  | .bl _, _, h => by cases h; rfl
  | .int _, _, h => by cases h; rfl
  | .str _, _, h => by cases h; rfl
  | .ref _, _, h => by cases h
  | .tup ds, _, h => by
    unfold D.py at h
    split at h
    · rename_i xs e
      cases h
      exact noDictL e
    · cases h
  | .lst ds, _, h => by
    unfold D.py at h
    split at h
    · rename_i xs e
      cases h
      exact noDictL e
    · cases h
theorem noDictL : ∀ {ds : List D} {xs : List PyData}, D.pyL ds = some xs → PyData.hasDictAll xs = false
  | [], _, h => by cases h; rfl
  | d :: ds, _, h => by
    unfold D.pyL at h
    split at h
    · rename_i x e
      split at h
      · rename_i xs e2
        cases h
        show (PyData.hasDict x || PyData.hasDictAll xs) = false
        rw [noDict e, noDictL e2]
        rfl
      · cases h
    · cases h
end
section
variable {X : Cx}
theorem repr_D (hg : X.A.guards = some []) (hu : X.A.units + 66 < cLine) : CallR X (.builtin "repr") (fun us H Q => ∃ v x, us = [v] ∧ Dp X.K H v x ∧ x.hasDict = false ∧ x.showable = true ∧ x.depth ≤ 64 ∧ x.shown.length ≤ sizeLine ∧ Q (.str x.shown) H) := by
  intro pins s sg H us uus Q I ru w
  obtain ⟨v, x, rfl, dp, hnd, hsh, hdp, hsz, q⟩ := w
  obtain ⟨uv, rfl, rv⟩ := ru.one
  obtain ⟨as, rd⟩ := Dp.reads I x v uv dp rv
  have big : ∀ a, uv = .ref a → wpAny (model X.prog X.w) X.A (call (.builtin "repr") [uv]) (EP X pins sg Q) X.xe s := fun a e => by
    subst e
    exact repr_of_reads' rd hsh (PyData.noDict_hsm hnd) hg (by omega) (fun _ _ e => e) (fun h' u tk hk => ⟨.str x.shown, H, I.kept hk, ⟨_, rfl⟩, q⟩) hsz
  cases dp with
  | non => cases rv; exact PySem.P.repr_of_none ⟨.str _, H, I.tok _, ⟨_, rfl⟩, q⟩
  | bl b => cases rv; exact PySem.P.repr_of_bool ⟨.str _, H, I.tok _, ⟨_, rfl⟩, by cases b <;> exact q⟩
  | int i =>
    obtain ⟨t, rfl⟩ := rv
    exact PySem.P.repr_of_int (by simpa [PyData.showable] using hsh) ⟨.str _, H, I.tok _, ⟨_, rfl⟩, q⟩
  | str z =>
    obtain ⟨t, rfl⟩ := rv
    exact PySem.P.repr_of_str ⟨.str _, H, I.tok _, ⟨_, rfl⟩, q⟩ hsz
  | lst h1 h2 => cases rv; exact big _ rfl
  | tup h1 h2 => cases rv; exact big _ rfl
theorem intsOf_of {d : D} {st : Store} {ns : List Int} (h : intsOf d st = some ns) : ∃ xs, lstOf st d = some xs ∧ intsD xs = some ns := by
  unfold intsOf at h
  split at h
  · rename_i xs e
    exact ⟨xs, e, h⟩
  · cases h
theorem ints_repL {K : PySem.W.Frag} {rho : Rho} {H : Hp} : ∀ ns : List Int, RepL K rho H (ns.map D.int) (ns.map V.int)
  | [] => .nil
  | n :: ns => .cons (.int n) (ints_repL ns)
theorem srtI_eq {ns ns' : List Int} (p : ns'.Perm ns) (h : ns'.Pairwise (· ≤ ·)) : ns' = srtI ns := by
  unfold srtI
  refine List.Perm.eq_of_pairwise (le := (· ≤ ·)) (fun a b _ _ h1 h2 => Int.le_antisymm h1 h2) h ?_ (p.trans (List.mergeSort_perm ns _).symm)
  refine List.Pairwise.imp (fun h => of_decide_eq_true h) (List.pairwise_mergeSort (fun a b c h1 h2 => ?_) (fun a b => ?_) ns)
  · simp only [decide_eq_true_eq] at h1 h2 ⊢
    omega
  · simp only [Bool.or_eq_true, decide_eq_true_eq]
    omega
theorem maxI_is {ns : List Int} {m : Int} (h : maxI ns = some m) : m ∈ ns ∧ ∀ y ∈ ns, y ≤ m := by
  cases ns with
  | nil => cases h
  | cons n ns =>
    simp only [maxI, Option.some.injEq] at h
    subst h
    induction ns generalizing n with
    | nil => simp
    | cons x xs ih =>
      simp only [List.foldl_cons]
      obtain ⟨h1, h2⟩ := ih (if n < x then x else n)
      refine ⟨?_, fun y hy => ?_⟩
      · rcases List.mem_cons.mp h1 with e | e
        · rw [e]; split <;> simp
        · simp [e]
      · have h3 := h2 _ (List.mem_cons_self ..)
        rcases List.mem_cons.mp hy with e | hy
        · subst e; refine Int.le_trans ?_ h3; split <;> omega
        · rcases List.mem_cons.mp hy with e | hy
          · subst e; refine Int.le_trans ?_ h3; split <;> omega
          · exact h2 _ (List.mem_cons_of_mem _ hy)
theorem minI_is {ns : List Int} {m : Int} (h : minI ns = some m) : m ∈ ns ∧ ∀ y ∈ ns, m ≤ y := by
  cases ns with
  | nil => cases h
  | cons n ns =>
    simp only [minI, Option.some.injEq] at h
    subst h
    induction ns generalizing n with
    | nil => simp
    | cons x xs ih =>
      simp only [List.foldl_cons]
      obtain ⟨h1, h2⟩ := ih (if x < n then x else n)
      refine ⟨?_, fun y hy => ?_⟩
      · rcases List.mem_cons.mp h1 with e | e
        · rw [e]; split <;> simp
        · simp [e]
      · have h3 := h2 _ (List.mem_cons_self ..)
        rcases List.mem_cons.mp hy with e | hy
        · subst e; refine Int.le_trans h3 ?_; split <;> omega
        · rcases List.mem_cons.mp hy with e | hy
          · subst e; refine Int.le_trans h3 ?_; split <;> omega
          · exact h2 _ (List.mem_cons_of_mem _ hy)
theorem call_blt (hg : X.A.guards = some []) (hu : X.A.units + 66 < cLine) (hc : X.calm = true) (f : Blt) : CallR X f.val (RDa X.K (bltin f)) := by
  intro pins s sg H us uus Q I ru w
  obtain ⟨rho, st, xs, z, st', S, rx, ho, k⟩ := w
  unfold bltin at ho
  split at ho
  case h_1 d =>
    split at ho
    · rename_i ds hd
      cases ho
      cases rx with
      | cons r1 r2 =>
        cases r2
        obtain ⟨a, vs, rfl, hsq, rl⟩ := seq_rep S r1 hd
        exact call_len_seq pins s sg H _ uus Q I ru ⟨a, vs, rfl, hsq, by rw [← rl.length]; exact k.same S (.int _)⟩
    · cases ho
  case h_2 d =>
    split at ho
    · rename_i ds hd
      cases ho
      cases rx with
      | cons r1 r2 =>
        cases r2
        obtain ⟨a, vs, rfl, hsq, rl⟩ := seq_rep S r1 hd
        exact call_tuple_of pins s sg H _ uus Q I ru ⟨a, vs, rfl, hsq.elim (fun q => .inl ⟨q, fun p hp => k.newT S rl hp⟩) fun q => .inr ⟨q, k.same S (.tup q rl)⟩⟩
    · cases ho
  case h_3 mat d =>
    split at ho
    · rename_i ds hd
      cases rx with
      | cons r1 r2 =>
        cases r2
        obtain ⟨a, vs, rfl, hsq, rl⟩ := seq_rep S r1 hd
        exact call_list_of pins s sg H _ uus Q I ru ⟨a, vs, rfl, hsq, fun p hp => k.newL S rl ho hp⟩
    · cases ho
  case h_4 d =>
    split at ho
    · rename_i x hx
      split at ho
      · rename_i hs
        cases ho
        cases rx with
        | cons r1 r2 =>
          cases r2
          have dp := see_dp S r1 hx
          exact repr_D hg hu pins s sg H _ uus Q I ru ⟨_, x, rfl, dp, noDict hx, hs.1, hs.2.1, by rw [← sizeSL]; exact hs.2.2, k.same S (.str _)⟩
      · cases ho
    · cases ho
  case h_5 i =>
    cases ho
    cases rx with
    | cons r1 r2 => cases r2; cases r1; exact call_abs pins s sg H _ uus Q I ru ⟨i, rfl, k.same S (.int _)⟩
  case h_6 i =>
    cases ho
    cases rx with
    | cons r1 r2 => cases r2; cases r1; exact call_int1 pins s sg H _ uus Q I ru (.inl ⟨i, rfl, k.same S (.int _)⟩)
  case h_7 b =>
    cases ho
    cases rx with
    | cons r1 r2 => cases r2; cases r1; exact call_int1 pins s sg H _ uus Q I ru (.inr ⟨b, rfl, k.same S (.int _)⟩)
  case h_8 i j =>
    cases ho
    cases rx with
    | cons r1 r2 => cases r1; cases r2 with
      | cons r3 r4 => cases r3; cases r4; exact call_max2 hc pins s sg H _ uus Q I ru ⟨i, j, rfl, k.same S (.int _)⟩
  case h_9 i j =>
    cases ho
    cases rx with
    | cons r1 r2 => cases r1; cases r2 with
      | cons r3 r4 => cases r3; cases r4; exact call_min2 hc pins s sg H _ uus Q I ru ⟨i, j, rfl, k.same S (.int _)⟩
  case h_10 d =>
    split at ho
    · rename_i ds hd
      split at ho
      · rename_i bs hb
        cases ho
        cases rx with
        | cons r1 r2 =>
          cases r2
          obtain ⟨a, vs, rfl, hsq, rl⟩ := lst_rep S r1 hd
          have e := bls_rep rl hb
          subst e
          exact cr_all hc pins s sg H _ uus Q I ru ⟨a, bs, rfl, hsq, k.same S (.bl _)⟩
      · cases ho
    · cases ho
  case h_11 d =>
    split at ho
    · rename_i ds hd
      split at ho
      · rename_i bs hb
        cases ho
        cases rx with
        | cons r1 r2 =>
          cases r2
          obtain ⟨a, vs, rfl, hsq, rl⟩ := lst_rep S r1 hd
          have e := bls_rep rl hb
          subst e
          exact cr_any hc pins s sg H _ uus Q I ru ⟨a, bs, rfl, hsq, k.same S (.bl _)⟩
      · cases ho
    · cases ho
  case h_12 mat d =>
    split at ho
    · rename_i ns hn
      obtain ⟨xs, hd, hi⟩ := intsOf_of hn
      cases rx with
      | cons r1 r2 =>
        cases r2
        obtain ⟨a, vs, rfl, hsq, rl⟩ := lst_rep S r1 hd
        have e := ints_rep rl hi
        subst e
        refine cr_sortedI pins s sg H _ uus Q I ru ⟨a, ns, rfl, hsq, fun ns' p hp hs hq => ?_⟩
        have e : ns' = srtI ns := srtI_eq hp hs
        subst e
        exact k.newL S (ints_repL _) ho hq
    · split at ho
      · rename_i nss hn
        split at ho
        · rename_i hne
          cases rx with
          | cons r1 r2 =>
            cases r2
            obtain ⟨a, xs, rfl, hsq, ht⟩ := tups_rep S r1 hn
            refine cr_sortedTA pins s sg H _ uus Q I ru ⟨a, xs, nss, rfl, hsq, ht, hne, fun ys ms p hy hp hs hq => ?_⟩
            have e : ms = srtT nss := srtT_eq hp hs
            subst e
            exact k.newL S (tups_repL _ hy) ho hq
        · cases ho
      · split at ho
        · rename_i ks hn
          cases rx with
          | cons r1 r2 =>
            cases r2
            obtain ⟨a, kvs, rfl, hd, hk, hz⟩ := keys_rep S r1 hn
            refine cr_sortedDI hc pins s sg H _ uus Q I ru ⟨a, kvs, ks, rfl, hd, hk, by rw [← sizeSL]; exact hz, fun ns' p hp hs hq => ?_⟩
            have e : ns' = srtI ks := srtI_eq hp hs
            subst e
            exact k.newL S (ints_repL _) ho hq
        · cases ho
  case h_13 d =>
    split at ho
    · rename_i ns hn
      obtain ⟨xs, hd, hi⟩ := intsOf_of hn
      cases ho
      cases rx with
      | cons r1 r2 =>
        cases r2
        obtain ⟨a, vs, rfl, hsq, rl⟩ := lst_rep S r1 hd
        have e := ints_rep rl hi
        subst e
        exact cr_sum hc pins s sg H _ uus Q I ru ⟨a, ns, rfl, hsq, k.same S (.int _)⟩
    · split at ho
      · rename_i ds hd
        split at ho
        · rename_i bs hb
          cases ho
          cases rx with
          | cons r1 r2 =>
            cases r2
            obtain ⟨a, vs, rfl, hsq, rl⟩ := lst_rep S r1 hd
            have e := bls_rep rl hb
            subst e
            exact cr_sumB hc pins s sg H _ uus Q I ru ⟨a, bs, rfl, hsq, k.same S (.int _)⟩
        · cases ho
      · cases ho
  case h_14 d =>
    split at ho
    · rename_i ns hn
      obtain ⟨xs, hd, hi⟩ := intsOf_of hn
      split at ho
      · rename_i m hm
        cases ho
        obtain ⟨m1, m2⟩ := maxI_is hm
        cases rx with
        | cons r1 r2 =>
          cases r2
          obtain ⟨a, vs, rfl, hsq, rl⟩ := lst_rep S r1 hd
          have e := ints_rep rl hi
          subst e
          exact cr_max hc pins s sg H _ uus Q I ru ⟨a, ns, rfl, hsq, List.length_pos_of_mem m1, fun m' h1 h2 => by
            have e : m' = m := Int.le_antisymm (m2 _ h1) (h2 _ m1)
            subst e
            exact k.same S (.int _)⟩
      · cases ho
    · cases ho
  case h_15 d =>
    split at ho
    · rename_i ns hn
      obtain ⟨xs, hd, hi⟩ := intsOf_of hn
      split at ho
      · rename_i m hm
        cases ho
        obtain ⟨m1, m2⟩ := minI_is hm
        cases rx with
        | cons r1 r2 =>
          cases r2
          obtain ⟨a, vs, rfl, hsq, rl⟩ := lst_rep S r1 hd
          have e := ints_rep rl hi
          subst e
          exact cr_min hc pins s sg H _ uus Q I ru ⟨a, ns, rfl, hsq, List.length_pos_of_mem m1, fun m' h1 h2 => by
            have e : m' = m := Int.le_antisymm (h2 _ m1) (m2 _ h1)
            subst e
            exact k.same S (.int _)⟩
      · cases ho
    · cases ho
  case h_16 => cases ho
end
end B
/-! B4: rules for the code over reckonings: calls, walked things, comprehensions. -/
namespace B
open PySem PySem.Spec PyProof.Rows L2

/-! ### weaker readings -/
theorem PE.of {X : Cx} {e : Expr} {t t' : TE} (h : PE X e t) (w : ∀ sg H Q, t' sg H Q → t sg H Q) : PE X e t' := ⟨fun pins s sg H Q I q => h.run pins s sg H Q I (w _ _ _ q)⟩
theorem PT.of {X : Cx} {e : Expr} {t t' : TT} (h : PT X e t) (w : ∀ sg H Q, t' sg H Q → t sg H Q) : PT X e t' := ⟨fun pins s sg H Q I q => h.run pins s sg H Q I (w _ _ _ q)⟩
theorem PW.of {X : Cx} {e : Expr} {t t' : TT} (h : PW X e t) (w : ∀ sg H Q, t' sg H Q → t sg H Q) : PW X e t' := ⟨fun wh pins s sg H Q I q => h.run wh pins s sg H Q I (w _ _ _ q)⟩
theorem PA.of {X : Cx} {e : List Expr} {t t' : TA} (h : PA X e t) (w : ∀ sg H Q, t' sg H Q → t sg H Q) : PA X e t' := ⟨fun p pins s sg H Q I q => h.run p pins s sg H Q I (w _ _ _ q)⟩
theorem PK.of {X : Cx} {e : List Keyword} {t t' : TA} (h : PK X e t) (w : ∀ sg H Q, t' sg H Q → t sg H Q) : PK X e t' := ⟨fun p pins s sg H Q I q => h.run p pins s sg H Q I (w _ _ _ q)⟩
theorem PO.of {X : Cx} {e : Option Expr} {t t' : TO} (h : PO X e t) (w : ∀ sg H Q, t' sg H Q → t sg H Q) : PO X e t' := ⟨fun pins s sg H Q I q => h.run pins s sg H Q I (w _ _ _ q)⟩
theorem PS.of {X : Cx} {e : Stmt} {t t' : TS} (h : PS X e t) (w : ∀ D sg H, t' D sg H → t D sg H) : PS X e t' := ⟨fun pins s sg H D I q => h.run pins s sg H D I (w _ _ _ q)⟩
theorem PSs.of {X : Cx} {e : List Stmt} {t t' : TS} (h : PSs X e t) (w : ∀ D sg H, t' D sg H → t D sg H) : PSs X e t' := ⟨fun pins s sg H D I q => h.run pins s sg H D I (w _ _ _ q)⟩
theorem PG.of {X : Cx} {e : Expr} {t t' : TG} (h : PG X e t) (w : ∀ v sg H Q, t' v sg H Q → t v sg H Q) : PG X e t' := ⟨fun pins s sg H v u Q I r q => h.run pins s sg H v u Q I r (w _ _ _ _ q)⟩
theorem PGs.of {X : Cx} {e : List Expr} {t t' : TGs} (h : PGs X e t) (w : ∀ v sg H Q, t' v sg H Q → t v sg H Q) : PGs X e t' := ⟨fun pins s sg H v u Q I r q => h.run pins s sg H v u Q I r (w _ _ _ _ q)⟩
theorem PI.of {X : Cx} {g e : Expr} {t t' : TI} (h : PI X g e t) (w : ∀ sg H R, t' sg H R → t sg H R) : PI X g e t' := ⟨fun pins s sg H R I q => h.run pins s sg H R I (w _ _ _ q)⟩

/-! ### plain arguments -/
def notStar : Expr → Bool
  | .Starred .. => false
  | _ => true
theorem star_cons {e : Expr} {es : List Expr} {env : PySem.Env} (h : notStar e = true) : starEach (e :: es) env = (false, eval e env) :: starEach es env := by
  cases e <;> first | rfl | cases h
theorem star_any {pos : Pos} {env : PySem.Env} : ∀ {es : List Expr}, es.all notStar = true → (backTo pos (starEach es env)).any (·.1) = false
  | [], _ => rfl
  | e :: es, h => by
    rw [List.all_cons, Bool.and_eq_true] at h
    rw [star_cons h.1]
    show (false || (backTo pos (starEach es env)).any (·.1)) = false
    rw [star_any h.2]
    rfl
def kwName : Keyword → Option Str
  | ⟨n, _, _⟩ => n
def kwVal : Keyword → Expr
  | ⟨_, v, _⟩ => v
theorem kw_all {pos : Pos} {env : PySem.Env} : ∀ {kws : List Keyword} {ks : List Str}, kws.map kwName = ks.map some →
    (backToKw pos (keywordEach kws env)).all (·.1.isSome) = true ∧ (backToKw pos (keywordEach kws env)).any (·.1.isNone) = false ∧ (backToKw pos (keywordEach kws env)).filterMap (·.1) = ks
  | [], [], _ => ⟨rfl, rfl, rfl⟩
  | [], _ :: _, h => by cases h
  | _ :: _, [], h => by cases h
  | ⟨n, v, p⟩ :: kws, k :: ks, h => by
    rw [List.map_cons, List.map_cons] at h
    injection h with h1 h2
    have e : n = some k := h1
    subst e
    obtain ⟨a, b, c⟩ := kw_all (pos := pos) (env := env) h2
    refine ⟨?_, ?_, ?_⟩
    · show (true && (backToKw pos (keywordEach kws env)).all (·.1.isSome)) = true
      rw [a]; rfl
    · show (false || (backToKw pos (keywordEach kws env)).any (·.1.isNone)) = false
      rw [b]; rfl
    · show k :: (backToKw pos (keywordEach kws env)).filterMap (·.1) = k :: ks
      rw [c]

/-! ### a def that may be called -/
structure FnG (P : Program) (w : World) (K : PySem.W.Frag) (mg : Str → Option Value) (base : Heap) (k : Nat) (f : Addr) (fd : FuncData) (ps : List Str) (sp : List V → Hp → VK → Prop) : Prop where
  run : ∀ (A : Around) (outer : List PySem.Env) (s : Shared) (H : Hp) (args : Args) (us : List Value) (vs : List V) (Q : VK), Room k A → A.guards = some [] → Env0 P w K mg base A outer s H → BindsTo s fd args (ps.zip us) → Vals vs us → sp vs H Q →
    codeAny (model P w) A (.call (.ref f) args) (CR CX0 outer P w H s Q E0) s

/-- how the n-th def's call is reckoned -/
def spC (K : PySem.W.Frag) (call : CallF) (f : Nat) : List V → Hp → VK → Prop := fun vs H Q => ∃ (rho : Rho) (st : Store) (as : List D) (d : D) (st' : Store),
  StoreRep K rho H st ∧ RepL K rho H as vs ∧ call f as st = some (d, st') ∧ Kn K (Rep K) rho H d st' Q

structure Shp where
  np : Nat
  ks : List Str
  sel : List Sel
  deriving DecidableEq
structure FnS where
  name : Str
  ps : List Str
  shs : List Shp
structure Ctx where
  N : List Str
  dfl : List D
  blts : List Str
  fns : List FnS
  lam : Bool

/-- a default's value -/
def D.sv : D → V
  | .int i => .int i
  | .bl b => .bl b
  | .str s => .str s
  | _ => .non
def D.scal : D → Bool
  | .int _ => true | .bl _ => true | .str _ => true | .non => true | _ => false
theorem Rep.scal {K : PySem.W.Frag} {rho : Rho} {H : Hp} : ∀ {d : D}, d.scal = true → Rep K rho H d d.sv
  | .int i, _ => .int i
  | .bl b, _ => .bl b
  | .str s, _ => .str s
  | .non, _ => .non
  | .tup _, h => by cases h
  | .lst _, h => by cases h
  | .ref _, h => by cases h
/-- a call of this shape binds the parameters so -/
def ShpOk (K : PySem.W.Frag) (fd : FuncData) (ps : List Str) (dfl : List D) (sh : Shp) : Prop :=
  ∃ dvs : List Value, Vals (dfl.map D.sv) dvs ∧ ∀ (s : Shared) (us ws zs : List Value), K.In s.heap → us.length = sh.np → ws.length = sh.ks.length → selD (us ++ ws) dvs sh.sel = some zs → BindsTo s fd ⟨us, sh.ks.zip ws⟩ (ps.zip zs)

theorem sel_rep {K : PySem.W.Frag} {rho : Rho} {H : Hp} {dfl ds : List D} {vs : List V} (hd : ∀ d ∈ dfl, d.scal = true) (r : RepL K rho H ds vs) : ∀ {sel : List Sel} {as : List D}, selD ds dfl sel = some as → ∃ ws, selD vs (dfl.map D.sv) sel = some ws ∧ RepL K rho H as ws
  | [], as, h => by cases h; exact ⟨[], rfl, .nil⟩
  | .arg j :: sel, as, h => by
    unfold selD at h
    split at h
    · rename_i d e
      split at h
      · rename_i xs e2
        cases h
        obtain ⟨v, hv, rv⟩ := r.get e
        obtain ⟨ws, hw, rw'⟩ := sel_rep hd r e2
        refine ⟨v :: ws, ?_, .cons rv rw'⟩
        simp only [selD, hv, hw]
      · cases h
    · cases h
  | .dfl j :: sel, as, h => by
    unfold selD at h
    split at h
    · rename_i d e
      split at h
      · rename_i xs e2
        cases h
        obtain ⟨ws, hw, rw'⟩ := sel_rep hd r e2
        refine ⟨d.sv :: ws, ?_, .cons (Rep.scal (hd d (List.mem_of_getElem? e))) rw'⟩
        have : (dfl.map D.sv)[j]? = some d.sv := by rw [List.getElem?_map, e]; rfl
        simp only [selD, this, hw]
      · cases h
    · cases h
theorem sel_vals {vs dv : List V} {us du : List Value} (r : Vals vs us) (q : Vals dv du) : ∀ {sel : List Sel} {ws : List V}, selD vs dv sel = some ws → ∃ zs, selD us du sel = some zs ∧ Vals ws zs
  | [], ws, h => by cases h; exact ⟨[], rfl, .nil⟩
  | .arg j :: sel, ws, h => by
    unfold selD at h
    split at h
    · rename_i d e
      split at h
      · rename_i xs e2
        cases h
        obtain ⟨u, hu, ru⟩ := r.get e
        obtain ⟨zs, hz, rz⟩ := sel_vals r q e2
        refine ⟨u :: zs, ?_, .cons ru rz⟩
        simp only [selD, hu, hz]
      · cases h
    · cases h
  | .dfl j :: sel, ws, h => by
    unfold selD at h
    split at h
    · rename_i d e
      split at h
      · rename_i xs e2
        cases h
        obtain ⟨u, hu, ru⟩ := q.get e
        obtain ⟨zs, hz, rz⟩ := sel_vals r q e2
        refine ⟨u :: zs, ?_, .cons ru rz⟩
        simp only [selD, hu, hz]
      · cases h
    · cases h

/-- the f-th def as the module has it -/
structure FnX (X : Cx) (dfl : List D) (n : Nat) (call : CallF) (f : Nat) (F : FnS) : Prop where
  ex : ∃ (a : Addr) (fd : FuncData), X.mg F.name = some (.ref a) ∧ PySem.W.keepIn X.K (.ref a) = true ∧ (∀ sh ∈ F.shs, ShpOk X.K fd F.ps dfl sh) ∧ FnG X.prog X.w X.K X.mg X.base (4 * n) a fd F.ps (spC X.K call f)

/-- where a piece of code runs; sc: the names as its block has them -/
structure Cok (C : Ctx) (X : Cx) (n : Nat) (call : CallF) (sc : Scope) : Prop where
  N : X.N = C.N
  nd : X.N.Nodup
  calm : X.calm = true
  xe : X.xe = fun _ _ => False
  room : Room (4 * n + 3) X.A
  guards : X.A.guards = some []
  kind : X.env.scope.kind = .function
  gl : ∀ x, sc.names.lookup x = some .globalImplicit → Gl X x
  vis : ∀ x, (sc.names.lookup x = some .local ∨ sc.names.lookup x = some .cell ∨ sc.names.lookup x = some .free) → Vis X.env.scope x
  loc : ∀ x, sc.names.lookup x = some .local → X.env.scope.names.lookup x = some .local
  sto : ∀ x, (sc.names.lookup x = some .local ∨ sc.names.lookup x = some .cell) → Loc X.env.scope x ∧ (X.fn x = true ∨ X.env.scope.names.lookup x = some .local)
  fre : ∀ x, (sc.names.lookup x = some .cell ∨ sc.names.lookup x = some .free) → (X.env.scope.names.lookup x = some .cell ∨ X.env.scope.names.lookup x = some .free)
  blt : ∀ x ∈ C.blts, X.mg x = none
  dfl : ∀ d ∈ C.dfl, d.scal = true
  fns : ∀ (f : Nat) (F : FnS), C.fns[f]? = some F → FnX X C.dfl n call f F
  lam : C.lam = true → ∃ c P : Addr, X.env.code = .ref c ∧ LamX.TabB X.base X.mg c P ∧ (P, lamQ) ∈ TbK X.K ∧ X.env.qual ++ ("<lambda>" : Str) = lamQ

section
variable {C : Ctx} {X : Cx} {n : Nat} {call : CallF} {sc : Scope}
theorem Cok.units (c : Cok C X n call sc) : X.A.units + 66 < cLine := by have := c.room.un; omega
theorem evs0 {K : PySem.W.Frag} {sg : L2.St} {H : Hp} {Q : List V → Hp → Prop} (h : TXa K (fun _ st => some ([], st)) sg H Q) : Q [] H := by
  obtain ⟨rho, env, st, xs, st', hE, hS, hf, k⟩ := h
  cases hf
  exact k rho H [] (.refl _ _) hS .nil
/-- f(a, .., k = v, ..) -/
theorem pe_callR {f np nk : Nat} {F : FnS} {sh : Shp} {x : Str} {p pos : Pos} {es : List Expr} {kws : List Keyword} {fa fk : RF (List D)} {dfl : List D} (hfn : FnX X dfl n call f F) (hdf : ∀ d ∈ dfl, d.scal = true) (hro : Room (4 * n) X.A) (hgu : X.A.guards = some []) (hsh : sh ∈ F.shs) (hx : x = F.name) (hg : Gl X x)
    (hdb : (x == ("__debug__" : Str)) = false) (hst : es.all notStar = true) (hnp : np = sh.np) (hnk : nk = sh.ks.length) (hks : kws.map kwName = sh.ks.map some) (ha : PA X es (TXa X.K fa)) (hk : PK X kws (TXa X.K fk))
    (ha0 : es = [] → fa = fun _ st => some ([], st)) (hk0 : kws = [] → fk = fun _ st => some ([], st)) :
    PE X (.Call (.Name x p) es kws pos) (TXe X.K (b2 fa fk (callD dfl call f np nk sh.sel))) := by
  refine ⟨fun pins s sg H Q I h => ?_⟩
  subst hx hnp hnk
  obtain ⟨a, fd, hm, hkp, hshp, G⟩ := hfn.ex
  obtain ⟨dvs, hdv, hb⟩ := hshp sh hsh
  obtain ⟨q1, q2, q3⟩ := kw_all (pos := pos) (env := X.env) hks
  have hany : (backTo pos (starEach es X.env)).any (·.1) = false := star_any hst
  have h := tx_b2 (K := X.K) mono_repL (fun us ws H1 Q1 => ∃ (rho : Rho) (st : Store) (xs ys : List D) (z : D) (st' : Store), StoreRep X.K rho H1 st ∧ RepL X.K rho H1 xs us ∧ RepL X.K rho H1 ys ws ∧ callD dfl call f sh.np sh.ks.length sh.sel xs ys st = some (z, st') ∧ Kn X.K (Rep X.K) rho H1 z st' Q1)
    (fun rho H1 st xs us ys ws z st' S1 r1 r2 e k => ⟨rho, st, xs, ys, z, st', S1, r1, r2, e, k⟩) h
  refine wpAny_Call_Name_kw (ld_glob I hg hm ?_ hdb)
  -- behind the arguments
  have fin : ∀ (us ws : List Value) (vs zs : List V) (s2 : Shared) (H2 : Hp), Inv X pins sg H2 s2 → Vals vs us → Vals zs ws →
      (∃ (rho : Rho) (st : Store) (xs ys : List D) (z : D) (st' : Store), StoreRep X.K rho H2 st ∧ RepL X.K rho H2 xs vs ∧ RepL X.K rho H2 ys zs ∧ callD dfl call f sh.np sh.ks.length sh.sel xs ys st = some (z, st') ∧ Kn X.K (Rep X.K) rho H2 z st' Q) →
      wpAny (model X.prog X.w) X.A (PySem.call (.ref a) us (sh.ks.zip ws)) (EP X pins sg Q) X.xe s2 := by
    intro us ws vs zs s2 H2 I2 rv rz hq
    obtain ⟨rho, st, xs, ys, z, st', S, r1, r2, e, k⟩ := hq
    unfold callD at e
    split at e
    · rename_i hl
      split at e
      · rename_i as es
        obtain ⟨wv, hw, rw'⟩ := sel_rep hdf (r1.append r2) es
        obtain ⟨zv, hz, rz'⟩ := sel_vals (rv.append rz) hdv hw
        have l1 : us.length = sh.np := by rw [← rv.length, ← r1.length]; exact hl.1
        have l2 : ws.length = sh.ks.length := by rw [← rz.length, ← r2.length]; exact hl.2
        refine wpAny_call (codeAny_mono (G.run X.A X.stack s2 H2 ⟨us, sh.ks.zip ws⟩ zv wv Q hro hgu I2.env0 (hb s2 us ws zv I2.kIn l1 l2 hz) rz' ⟨rho, st, as, z, st', S, rw', e, k⟩) fun r s' hq => ?_)
        cases r with
        | error e => exact hq.elim
        | ok fl =>
          cases fl with
          | ret u => exact I2.after hq
          | next => exact hq.elim
          | brk => exact hq.elim
          | cont => exact hq.elim
      · cases e
    · cases e
  cases es with
  | nil =>
    have e0 := ha0 rfl
    subst e0
    have h1 := evs0 h
    cases kws with
    | nil =>
      have e1 := hk0 rfl
      subst e1
      have h2 := evs0 h1
      have hks0 : sh.ks = [] := by
        cases e : sh.ks with
        | nil => rfl
        | cons k ks => rw [e] at hks; cases hks
      have q := fin [] [] [] [] s H I .nil .nil h2
      rw [hks0] at q
      exact PySem.W.callWith_K0 I.kIn hkp q
    | cons kw kws =>
      refine PySem.W.callWith_KW0 (h₀ := X.base) I.ok.mod.kin hkp q1 (thn (hk.run pos pins s sg H _ I h1) fun ws s2 ⟨zs, H2, I2, rz, q⟩ => ⟨I2.kIn, ?_⟩) (by rw [q2]; rfl)
      rw [q3]
      exact fin [] ws [] zs s2 H2 I2 .nil rz q
  | cons e es =>
    have hst' : notStar e = true ∧ es.all notStar = true := by rwa [List.all_cons, Bool.and_eq_true] at hst
    cases kws with
    | nil =>
      have e1 := hk0 rfl
      subst e1
      have hks0 : sh.ks = [] := by
        cases e : sh.ks with
        | nil => rfl
        | cons k ks => rw [e] at hks; cases hks
      refine PySem.W.callWith_K (h₀ := X.base) I.ok.mod.kin hkp (thn (ha.run pos pins s sg H _ I h) fun us s1 ⟨vs, H1, I1, r, q⟩ => ⟨I1.kIn, ?_⟩) (star_cons hst'.1) (star_any hst'.2)
      have q' := fin us [] vs [] s1 H1 I1 r .nil (evs0 q)
      rw [hks0] at q'
      exact q'
    | cons kw kws =>
      refine PySem.W.callWith_KW (h₀ := X.base) I.ok.mod.kin hkp q1 (thn (ha.run pos pins s sg H _ I h) fun us s1 ⟨vs, H1, I1, r, q⟩ => ?_) (by rw [hany, q2]; rfl) (star_cons hst'.1)
      refine thn (hk.run pos pins s1 sg H1 _ I1 q) fun ws s2 ⟨zs, H2, I2, rz, q'⟩ => ⟨I2.kIn, ?_⟩
      rw [q3]
      exact fin us ws vs zs s2 H2 I2 r rz q'
theorem pe_callG {f np nk : Nat} {F : FnS} {sh : Shp} {x : Str} {p pos : Pos} {es : List Expr} {kws : List Keyword} {fa fk : RF (List D)} (c : Cok C X n call sc) (hF : C.fns[f]? = some F) (hsh : sh ∈ F.shs) (hx : x = F.name) (hg : Gl X x)
    (hdb : (x == ("__debug__" : Str)) = false) (hst : es.all notStar = true) (hnp : np = sh.np) (hnk : nk = sh.ks.length) (hks : kws.map kwName = sh.ks.map some) (ha : PA X es (TXa X.K fa)) (hk : PK X kws (TXa X.K fk))
    (ha0 : es = [] → fa = fun _ st => some ([], st)) (hk0 : kws = [] → fk = fun _ st => some ([], st)) :
    PE X (.Call (.Name x p) es kws pos) (TXe X.K (b2 fa fk (callD C.dfl call f np nk sh.sel))) :=
  pe_callR (c.fns f F hF) c.dfl (c.room.mono (by omega)) c.guards hsh hx hg hdb hst hnp hnk hks ha hk ha0 hk0
end
end B
/-! B45: enumerate of a tuple -/
namespace B
open PySem PySem.Spec PyProof.Rows L2
open PySem.Sem (wp)
theorem meets_enumerate_newT {v : Value} {o : Obj} {H : Heap → Prop} (B : Begins v o H) :
    Meets (Builtin.«enumerate.__new__» ⟨[.type "enumerate", v], []⟩) (fun _ R s => H s.heap ∧
      R (.ok (.ret (.ref (s.heap.push o).objs.size))) { s with heap := (s.heap.push o).push { cls := .type "enumerate", data := .fields #[.none, .bool false, .ref s.heap.objs.size, rawInt 0, .none, .none] } }) :=
  .of_wp fun prog w A R s h => by
    obtain ⟨hp, g, d, tk, os⟩ := s; obtain ⟨h1, h⟩ := h
    have hsub := sub_enumerate
    have q1 : ∀ {A' : Around} {E : Value → Shared → Prop} {Q : Value → Shared → Prop}, Q (.ref hp.objs.size) ⟨hp.push o, g, d, tk, os⟩ → wpAny (model prog w) A' (pyIter v) Q E ⟨hp, g, d, tk, os⟩ :=
      fun q => B.iter prog w _ _ ⟨hp, g, d, tk, os⟩ _ h1 q
    wp_walk using q1
    refine wpAny_stack_any fun st => wpAny_pure ?_
    split
    · rename_i c _ _ _ _ _
      cases (c == Value.type "enumerate")
      · wp_walk using q1
        exact ⟨_, rfl, h⟩
      · wp_walk using q1
        exact ⟨_, rfl, h⟩
    · wp_walk using q1
      exact ⟨_, rfl, h⟩
section
variable {prog : Program} {w : World} {A : Around} {E : Value → Shared → Prop} {s : Shared}
theorem enum_beginsT {v : Value} {o : Obj} {H : Heap → Prop} {Q : Value → Shared → Prop} (B : Begins v o H) (h1 : H s.heap)
    (h : ∀ h', IsEnum h' (s.heap.objs.size + 1) s.heap.objs.size 0 .none → h'.get? s.heap.objs.size = some o → h'.objs.size = s.heap.objs.size + 2 →
      (∀ b o, s.heap.get? b = some o → h'.get? b = some o) → Q (.ref (s.heap.objs.size + 1)) { s with heap := h' }) :
    wpAny (model prog w) A (call (.type "enumerate") [v]) Q E s := by
  refine callType_new F.called_enumerate (by decide) (F.typeCall_enumerate_1 _) (F.newCall_enumerate_1 _) (fun obj => F.args_object_init_2 obj _) F.entry_enumerate_new
    (meets_enumerate_newT B) ⟨h1, ?_⟩
  have hz : (s.heap.push o).objs.size = s.heap.objs.size + 1 := Heap.size_push ..
  show _ ∧ _
  rw [hz]
  have he : IsEnum ((s.heap.push o).push { cls := .type "enumerate", data := .fields #[.none, .bool false, .ref s.heap.objs.size, rawInt 0, .none, .none] }) (s.heap.objs.size + 1) s.heap.objs.size 0 .none := by
    have := Heap.get?_push_size (s.heap.push o) (o := { cls := .type "enumerate", data := .fields #[.none, .bool false, .ref s.heap.objs.size, rawInt 0, .none, .none] }) rfl
    rw [hz] at this; exact this
  refine ⟨⟨_, he, rfl⟩, h _ he (Heap.get?_push_of_some _ (Heap.get?_push_size _ B.free)) (by rw [Heap.size_push, hz]) fun b o x => Heap.get?_push_of_some _ (Heap.get?_push_of_some _ x)⟩
end
def IteT (K : PySem.W.Frag) (a : Addr) : It :=
  ⟨fun i H => ∃ (xs : List V) (x : V), SqT K H a xs ∧ xs[i]? = some x, fun i H v H' => ∃ T x, v = .ref T ∧ H T = none ∧ H' = upd H T (.tup [.int (i : Nat), x]) ∧ ∀ xs, SqT K H a xs → xs[i]? = some x, fun i H => ∃ xs : List V, SqT K H a xs ∧ xs.length ≤ i⟩
theorem turn_enumT {P : Program} {w : World} {K : PySem.W.Frag} {elts : List Expr} {kk : Nat} {tpos : Pos} (a e it : Addr) (hai : a ≠ it) (hea : e ≠ a) :
    Turn P w K (.Tuple elts kk tpos) (IteT K a) [e, it] e (fun i h => (∃ old, IsEnum h e it ((i : Nat) : Int) old) ∧ h.IsTupleIter it a i ∧ e ≠ it) where
  mem := by simp
  obj := fun i h st b hb => by
    obtain ⟨⟨old, he⟩, ⟨o, ho, hc, hd⟩, _⟩ := st
    have e' : b = e ∨ b = it := by simpa using hb
    rcases e' with z | z
    · rw [z]; exact ⟨_, he, fun v q => nomatch q⟩
    · rw [z]; exact ⟨o, ho, fun v q => by rw [hd] at q; cases q⟩
  keep := fun i h h' st k => let ⟨⟨old, he⟩, hi, hne⟩ := st; ⟨⟨old, k e (by simp) _ he⟩, hi.at fun o q => k it (by simp) o q, hne⟩
  item := by
    intro X hP hw hK hc i pins s σ H E I hf st hg
    subst hP hw hK
    obtain ⟨⟨old, he⟩, hit, hne⟩ := st
    obtain ⟨xs, x, hq, hx⟩ := hg
    obtain ⟨its, rv, p, hz⟩ := I.tuple hq
    obtain ⟨u, hu, ru⟩ := rv.get hx
    have hel : e < s.heap.objs.size := Heap.lt_size he
    have hil : it < s.heap.objs.size := by obtain ⟨_, q, _⟩ := hit; exact Heap.lt_size q
    have hlt : i < its.toArray.size := by
      have := (List.getElem?_eq_some_iff.mp hu).1
      simpa using this
    have hh1 : X.A.in1.handled = none := (I.ok.hd hc)
    have D := Draws.tuple (prog := X.prog) (w := X.w) (A := X.A.in1) hh1 it a hai its.toArray
    have hef : e ∉ [it, a] := fun q => by
      simp only [List.mem_cons, List.not_mem_nil, or_false] at q
      rcases q with q | q
      · exact hne q
      · exact hea q
    refine wpAny_pyNext_enum_itemD D he ⟨hit, p⟩ hlt hne hef fun x' h' tk hx' ho hst' hT hsz hk => ?_
    have : x' = u := by
      have h1 : its.toArray[i]? = some u := by simpa using hu
      rw [h1] at hx'
      exact (Option.some.inj hx').symm
    subst this
    have hit' := hst'.1
    refine ⟨_, rfl, wpAny_letOwnedTupleGo_enum (s := { s with heap := h', toks := tk + 1 }) ho fun h'' he' sb => ?_⟩
    have hT2 : h''.get? s.heap.objs.size = some { cls := .type "tuple", data := .seq #[.int i tk, x'] } := (sb.2 _ (Nat.ne_of_gt hel)).trans hT
    have new : ObjOk X.prog X.w (upd H s.heap.objs.size (.tup [.int (i : Nat), x])) h'' s.heap.objs.size (.tup [.int (i : Nat), x]) :=
      ⟨by show 2 ≤ sizeLine; decide, [.int i tk, x'], .cons ⟨_, rfl⟩ (.cons ru .nil), ⟨_, hT2, rfl, _, rfl⟩⟩
    have I1 : Inv X pins σ (upd H s.heap.objs.size (.tup [.int (i : Nat), x])) { s with heap := h'', toks := tk + 1 } :=
      I.turnedNew (ch := [e, it]) (fun b ob hb q => (sb.2 b (fun z => hb (by simp [z]))).trans (hk b ob (fun z => hb (by simp [z])) (fun z => hb (by simp [z])) q)) hf (Nat.le_refl _) new
    refine ⟨.ref s.heap.objs.size, _, I1, rfl, ⟨_, x, rfl, I.hok.fresh (Nat.le_refl _), rfl, fun ys hy => by rw [I.tuple_inj hy hq]; exact hx⟩, ⟨⟨x', ?_⟩, hit'.at fun o q => (sb.2 it (Ne.symm hne)).trans q, hne⟩, fun b hb => ?_⟩
    · have e1 : ((i + 1 : Nat) : Int) = (i : Int) + 1 := by omega
      rw [e1]; exact he'
    · have hb' : b < s.heap.objs.size := by
        have e' : b = e ∨ b = it := by simpa using hb
        rcases e' with z | z
        · rw [z]; exact hel
        · rw [z]; exact hil
      rw [upd_ne (Nat.ne_of_lt hb')]
      exact (hf b hb).1
  done := by
    intro X hP hw hK hc i pins s σ H E I hf st hg
    subst hP hw hK
    obtain ⟨⟨old, he⟩, hit, hne⟩ := st
    obtain ⟨xs, hq, hx⟩ := hg
    obtain ⟨its, rv, p, hz⟩ := I.tuple hq
    obtain ⟨f0, f1, f2, f3, f4, f5⟩ := hf it (by simp)
    have hl := rv.length
    have hT : s.TypeIs (.ref e) "enumerate" := ⟨_, he, rfl⟩
    unfold pyNext
    refine wpAny_bind (wpAny_attempt (wpAny_callSpecial?_slot (name := Str.ofString "__next__") hT F.slot_enumerate_next
      (wpAny_call_entry F.slot_enumerate_next hT F.entry_enumerate_next ?_ (F.args_enumerate_next_1 _))))
    show wpAny _ _ (field (.ref e) 2 >>= _) _ _ _
    refine wpAny_bind (wpAny_field he rfl (x := .ref it) rfl ?_)
    refine wpAny_bind (wpAny_nextOf_tuple_end (show X.A.in1.handled = none from I.ok.hd hc) hit p (by simp; omega) fun h' x he' hx' => ?_)
    obtain ⟨o, ho, hc⟩ := hx'
    refine wpAny_bind (wpAny_isInstance (T := "StopIteration") (b := true) ⟨o, ho, hc⟩ isSubtype_stop ?_)
    exact wpAny_pure ⟨rfl, I.turned (t' := s.toks) (fun b o hb q => he' b o hb q) f0 f1 f3 f4 f5⟩
  self := fun A i s Q E st h => let ⟨⟨_, he⟩, _⟩ := st; wpAny_pyIter_enum he h
def iEnumA (K : PySem.W.Frag) (ta : TA) : TI := fun σ H R => ta σ H fun vs H1 => ∃ a xs, vs = [.ref a] ∧ ((SqL K H1 a xs ∧ R (Ite K a) H1) ∨ (SqT K H1 a xs ∧ R (IteT K a) H1))
theorem pi_enumA {X : Cx} {e : Expr} {ta : TA} {p pos tpos : Pos} {elts : List Expr} {kk : Nat} (hg : Gl X "enumerate") (hm : X.mg "enumerate" = none) (ha : PA X [e] ta) (hs : starEach [e] X.env = [(false, eval e X.env)] := by rfl) :
    PI X (.Tuple elts kk tpos) (.Call (.Name "enumerate" p) [e] [] pos) (iEnumA X.K ta) := by
  refine ⟨fun pins s σ H R I h => ?_⟩
  refine Call_ (ld_blt I hg hm boot_enumerate (PyProof.Rows.callWith_type1 (thn (ha.run pos pins s σ H _ I h) fun us s1 ⟨vs, H1, I1, r1, q1⟩ => ?_) hs rfl))
  obtain ⟨a, xs, ex, q1⟩ := q1
  subst ex
  cases r1 with
  | cons r rr =>
    cases rr
    cases r
    have fr : ∀ b ∈ [s1.heap.objs.size + 1, s1.heap.objs.size], FpOk X pins H1 b := fun b hb => by
      have e' : b = s1.heap.objs.size + 1 ∨ b = s1.heap.objs.size := by simpa using hb
      have hle : s1.heap.objs.size ≤ b := by
        rcases e' with z | z
        · rw [z]; exact Nat.le_add_right _ _
        · rw [z]; exact Nat.le_refl _
      exact I1.fpOk hle (I1.hok.fresh hle)
    rcases q1 with ⟨hq, q⟩ | ⟨hq, q⟩
    · obtain ⟨its, rv, p', hz⟩ := I1.list hq
      refine call_enumerate_list p'.isList fun h' he hit hsz hk => wpAny_pyIter_enum he ?_
      have I2 : Inv X pins σ H1 { s1 with heap := h' } := I1.kept (t' := s1.toks) hk
      exact ⟨s1.heap.objs.size + 1, [s1.heap.objs.size + 1, s1.heap.objs.size], _, _, H1, rfl, I2, turn_enum a (s1.heap.objs.size + 1) s1.heap.objs.size, ⟨⟨.none, he⟩, hit, Nat.succ_ne_self _⟩, fr, q⟩
    · obtain ⟨its, rv, p', hz⟩ := I1.tuple hq
      obtain ⟨o1, ho1, _⟩ := id p'
      have hlt : a < s1.heap.objs.size := Heap.lt_size ho1
      refine enum_beginsT (begins_tuple a its.toArray) p' fun h' he hit hsz hk => wpAny_pyIter_enum he ?_
      have I2 : Inv X pins σ H1 { s1 with heap := h' } := I1.kept (t' := s1.toks) hk
      exact ⟨s1.heap.objs.size + 1, [s1.heap.objs.size + 1, s1.heap.objs.size], _, _, H1, rfl, I2, turn_enumT a (s1.heap.objs.size + 1) s1.heap.objs.size (Nat.ne_of_lt hlt) (Nat.ne_of_gt (Nat.lt_succ_of_lt hlt)), ⟨⟨.none, he⟩, ⟨_, hit, rfl, rfl⟩, Nat.succ_ne_self _⟩, fr, q⟩
end B
/-! B5: targets, walked things, comprehensions. -/
namespace B
open PySem PySem.Spec PyProof.Rows L2

/-! ### targets -/
mutual
def Tg.slots : Tg → List Nat
  | .nm i => [i]
  | .tup ts => Tg.slotsL ts
def Tg.slotsL : List Tg → List Nat
  | [] => []
  | t :: ts => Tg.slots t ++ Tg.slotsL ts
end
/-- what a store of d there leaves -/
def gX (K : PySem.W.Frag) (f : D → Env → Option Env) (sl : List Nat) : TG := fun v sg H Q => ∃ (rho : Rho) (env : Env) (d : D) (env' : Env), EnvRep K rho H sg env ∧ Rep K rho H d v ∧ f d env = some env' ∧
  ∀ sg' : L2.St, EnvRep K rho H sg' env' → (∀ i, i ∉ sl → sg'[i]? = sg[i]?) → Q sg' H
def gXs (K : PySem.W.Frag) (f : List D → Env → Option Env) (sl : List Nat) : TGs := fun vs sg H Q => ∃ (rho : Rho) (env : Env) (ds : List D) (env' : Env), EnvRep K rho H sg env ∧ RepL K rho H ds vs ∧ f ds env = some env' ∧
  ∀ sg' : L2.St, EnvRep K rho H sg' env' → (∀ i, i ∉ sl → sg'[i]? = sg[i]?) → Q sg' H
theorem assign_cons {e : Expr} {es : List Expr} {env : PySem.Env} (h : notStar e = true) : assignEach (e :: es) env = (false, assign e env) :: assignEach es env := by
  cases e <;> first | rfl | cases h
theorem assign_plain {env : PySem.Env} : ∀ {es : List Expr}, es.all notStar = true → (assignEach es env).length = es.length ∧ (assignEach es env).findIdx? (·.1) = none
  | [], _ => ⟨rfl, rfl⟩
  | e :: es, h => by
    rw [List.all_cons, Bool.and_eq_true] at h
    obtain ⟨h1, h2⟩ := assign_plain (env := env) h.2
    rw [assign_cons h.1]
    refine ⟨by rw [List.length_cons, List.length_cons, h1], ?_⟩
    rw [List.findIdx?_cons]
    simp only [Bool.false_eq_true, if_false]
    rw [h2]
    rfl
mutual
def ckG (N : List Str) (sc : Scope) : Tg → Expr → Bool
  | .nm i, e => match e with
    | .Name x _ => decide (N[i]? = some x) && (match sc.names.lookup x with | some .local => true | some .cell => true | _ => false)
    | _ => false
  | .tup ts, e => match e with
    | .Tuple es _ _ => es.all notStar && ckGs N sc ts es
    | _ => false
def ckGs (N : List Str) (sc : Scope) : List Tg → List Expr → Bool
  | [], [] => true
  | t :: ts, e :: es => ckG N sc t e && ckGs N sc ts es
  | _, _ => false
end
section
variable {C : Ctx} {X : Cx} {n : Nat} {call : CallF} {sc : Scope}
theorem ckGs_len {N : List Str} : ∀ {ts : List Tg} {es : List Expr}, ckGs N sc ts es = true → ts.length = es.length
  | [], [], _ => rfl
  | t :: ts, e :: es, h => by
    unfold ckGs at h
    rw [Bool.and_eq_true] at h
    rw [List.length_cons, List.length_cons, ckGs_len h.2]
  | [], _ :: _, h => by cases h
  | _ :: _, [], h => by cases h
theorem putL_len : ∀ {ts : List Tg} {ds : List D} {env env' : Env}, Tg.putL ts ds env = some env' → ds.length = ts.length
  | [], [], _, _, _ => rfl
  | t :: ts, d :: ds, env, env', h => by
    unfold Tg.putL at h
    split at h
    · rw [List.length_cons, List.length_cons, putL_len h]
    · cases h
  | [], _ :: _, _, _, h => by cases h
  | _ :: _, [], _, _, h => by cases h
mutual
theorem put_len : ∀ {t : Tg} {d : D} {env env' : Env}, t.put d env = some env' → env'.length = env.length
  | .nm i, d, env, env', h => by
    unfold Tg.put at h
    split at h
    · cases h; exact List.length_set ..
    · cases h
  | .tup ts, d, env, env', h => by
    unfold Tg.put at h
    split at h
    · exact putL_elen h
    · exact putL_elen h
    · cases h
theorem putL_elen : ∀ {ts : List Tg} {ds : List D} {env env' : Env}, Tg.putL ts ds env = some env' → env'.length = env.length
  | [], [], _, _, h => by cases h; rfl
  | t :: ts, d :: ds, env, env', h => by
    unfold Tg.putL at h
    split at h
    · rename_i e he
      rw [putL_elen h, put_len he]
    · cases h
  | [], _ :: _, _, _, h => by cases h
  | _ :: _, [], _, _, h => by cases h
end
theorem lk_sto {x : Str} (h : (match sc.names.lookup x with | some .local => true | some .cell => true | _ => false) = true) : sc.names.lookup x = some .local ∨ sc.names.lookup x = some .cell := by
  split at h
  · exact .inl (by assumption)
  · exact .inr (by assumption)
  · cases h
theorem pg_or {X : Cx} {e : Expr} {t1 t2 : TG} (a : PG X e t1) (b : PG X e t2) : PG X e (fun v σ H Q => t1 v σ H Q ∨ t2 v σ H Q) :=
  ⟨fun pins s σ H v u Q I r hw => hw.elim (a.run pins s σ H v u Q I r) (b.run pins s σ H v u Q I r)⟩
mutual
theorem pg_X (c : Cok C X n call sc) : ∀ (t : Tg) (e : Expr), ckG C.N sc t e = true → PG X e (gX X.K t.put t.slots)
  | .nm i, e, h => by
    unfold ckG at h
    split at h
    · rename_i x p
      rw [Bool.and_eq_true, decide_eq_true_eq] at h
      obtain ⟨h1, h2⟩ := c.sto x (lk_sto h.2)
      refine PG.of (pg_name (i := i) c.nd (by rw [c.N]; exact h.1) h1 h2) fun v sg H Q w => ?_
      obtain ⟨rho, env, d, env', hE, r, e, k⟩ := w
      unfold Tg.put at e
      split at e
      · cases e
        exact k _ (hE.set r) fun j hj => by
          have : j ≠ i := fun z => hj (by rw [z]; exact List.mem_singleton.mpr rfl)
          rw [List.getElem?_set_ne (Ne.symm this)]
      · cases e
    · cases h
  | .tup ts, e, h => by
    unfold ckG at h
    split at h
    · rename_i es kk p
      rw [Bool.and_eq_true] at h
      obtain ⟨h1, h2⟩ := assign_plain (env := X.env) h.1
      refine PG.of (pg_or (pg_tup c.calm (pgs_X c ts es h.1 h.2) h1 h2) (pg_unl c.calm (pgs_X c ts es h.1 h.2) h1 h2)) fun v sg H Q w => ?_
      obtain ⟨rho, env, d, env', hE, r, e, k⟩ := w
      unfold Tg.put at e
      split at e
      · rename_i ds
        cases r with
        | tup hs rl =>
          rename_i vs a
          exact .inl ⟨a, vs, rfl, hs, by rw [← rl.length, putL_len e, ckGs_len h.2], rho, env, ds, env', hE, rl, e, k⟩
      · rename_i ds
        cases r with
        | lst hs rl =>
          rename_i vs a
          exact .inr ⟨a, vs, rfl, hs.sq, by rw [← rl.length, putL_len e, ckGs_len h.2], rho, env, ds, env', hE, rl, e, k⟩
      · cases e
    · cases h
theorem pgs_X (c : Cok C X n call sc) : ∀ (ts : List Tg) (es : List Expr), es.all notStar = true → ckGs C.N sc ts es = true → PGs X es (gXs X.K (Tg.putL ts) (Tg.slotsL ts))
  | [], [], _, _ => PGs.of pgs_nil fun vs sg H Q w => by
    obtain ⟨rho, env, ds, env', hE, r, e, k⟩ := w
    cases r with
    | nil =>
      cases e
      exact ⟨rfl, k sg hE fun _ _ => rfl⟩
    | cons _ _ => cases e
  | t :: ts, e :: es, hst, h => by
    unfold ckGs at h
    rw [Bool.and_eq_true] at h
    rw [List.all_cons, Bool.and_eq_true] at hst
    refine PGs.of (pgs_cons (pg_X c t e h.1) (pgs_X c ts es hst.2 h.2) (by rw [assign_cons hst.1]; rfl)) fun vs sg H Q w => ?_
    obtain ⟨rho, env, ds, env', hE, r, e, k⟩ := w
    cases r with
    | nil => cases e
    | cons r1 r2 =>
      rename_i d v ds vs
      unfold Tg.putL at e
      split at e
      · rename_i e1 he1
        refine ⟨v, vs, rfl, rho, env, d, e1, hE, r1, he1, fun sg1 hE1 hs1 => ⟨rho, e1, ds, env', hE1, r2, e, fun sg2 hE2 hs2 => k sg2 hE2 fun i hi => ?_⟩⟩
        have hi : i ∉ Tg.slots t ++ Tg.slotsL ts := hi
        rw [List.mem_append, not_or] at hi
        rw [hs2 i hi.2, hs1 i hi.1]
      · cases e
  | [], _ :: _, _, h => by cases h
  | _ :: _, [], _, h => by cases h
end
end

/-! ### walked things -/
/-- the walk J yields what itv tells -/
def ItOk (K : PySem.W.Frag) (rho0 : Rho) (H0 : Hp) (itv : Itv) (J : It) : Prop := ∀ (rho : Rho) (H : Hp) (st : Store), Ext rho0 H0 rho H → StoreRep K rho H st → ∀ i : Nat,
  (itv.nth i st = some none → J.stop i H) ∧ ∀ d, itv.nth i st = some (some d) → J.go i H ∧ ∀ x H', J.yld i H x H' → Ext rho H rho H' ∧ StoreRep K rho H' st ∧ Rep K rho H' d x
abbrev TXi (K : PySem.W.Frag) (f : RF Itv) : TI := TXg K (ItOk K) f
theorem ItOk.ext {K : PySem.W.Frag} {rho0 rho1 : Rho} {H0 H1 : Hp} {itv : Itv} {J : It} (h : ItOk K rho0 H0 itv J) (e : Ext rho0 H0 rho1 H1) : ItOk K rho1 H1 itv J := fun rho H st e2 S => h rho H st (e.trans e2) S

theorem rngD_get (lo : Int) (n i : Nat) : (rngD lo n)[i]? = if i < n then some (.int (lo + i)) else none := by
  unfold rngD
  by_cases h : i < n
  · rw [if_pos h, List.getElem?_map, List.getElem?_range h]
    rfl
  · rw [if_neg h, List.getElem?_eq_none (by simpa using h)]
theorem it_rng {K : PySem.W.Frag} {rho : Rho} {H : Hp} (lo : Int) (n : Nat) : ItOk K rho H (.fix (rngD lo n)) (Itr lo n) := by
  intro rho1 H1 st _ S i
  refine ⟨fun h => ?_, fun d h => ?_⟩
  · have h : some (rngD lo n)[i]? = some none := h
    rw [rngD_get] at h
    split at h
    · cases h
    · rename_i hi
      exact Nat.le_of_not_lt hi
  · have h : some (rngD lo n)[i]? = some (some d) := h
    rw [rngD_get] at h
    split at h
    · rename_i hi
      cases h
      refine ⟨hi, fun x H' y => ?_⟩
      obtain ⟨e1, e2⟩ := y
      subst e1 e2
      exact ⟨.refl _ _, S, .int _⟩
    · cases h
theorem it_lst {K : PySem.W.Frag} {rho : Rho} {H : Hp} {ds : List D} {vs : List V} {a : Addr} (t : Trk rho H) (h : FzL K rho H a vs) (r : RepL K rho H ds vs) : ItOk K rho H (.fix ds) (Itl K a) := by
  intro rho1 H1 st e S i
  have h1 := fzL_ext e h
  have r1 := r.ext t e
  refine ⟨fun q => ?_, fun d q => ?_⟩
  · have q : some ds[i]? = some none := q
    exact ⟨vs, h1.sq, by rw [← r1.length]; exact List.getElem?_eq_none_iff.mp (Option.some.inj q)⟩
  · have q : some ds[i]? = some (some d) := q
    obtain ⟨v, hv, rv⟩ := r1.get (Option.some.inj q)
    refine ⟨⟨vs, v, h1.sq, hv⟩, fun x H' y => ?_⟩
    obtain ⟨e1, y⟩ := y
    subst e1
    have := y vs h1.sq
    rw [hv] at this
    cases this
    exact ⟨.refl _ _, S, rv⟩
theorem it_tup {K : PySem.W.Frag} {rho : Rho} {H : Hp} {ds : List D} {vs : List V} {a : Addr} (t : Trk rho H) (h : SqT K H a vs) (r : RepL K rho H ds vs) : ItOk K rho H (.fix ds) (Itt K a) := by
  intro rho1 H1 st e S i
  have h1 := sqT_ext t e h
  have r1 := r.ext t e
  refine ⟨fun q => ?_, fun d q => ?_⟩
  · have q : some ds[i]? = some none := q
    exact ⟨vs, h1, by rw [← r1.length]; exact List.getElem?_eq_none_iff.mp (Option.some.inj q)⟩
  · have q : some ds[i]? = some (some d) := q
    obtain ⟨v, hv, rv⟩ := r1.get (Option.some.inj q)
    refine ⟨⟨vs, v, h1, hv⟩, fun x H' y => ?_⟩
    obtain ⟨e1, y⟩ := y
    subst e1
    have := y vs h1
    rw [hv] at this
    cases this
    exact ⟨.refl _ _, S, rv⟩
theorem it_live {K : PySem.W.Frag} {rho : Rho} {H : Hp} {n m : Nat} {a : Addr} (h : rho.r[n]? = some a) : ItOk K rho H (.live n m) (Itl K a) := by
  intro rho1 H1 st e S i
  have hr : rho1.r[n]? = some a := by
    obtain ⟨r, hr⟩ := e.pre
    rw [← hr, List.getElem?_append_left (List.getElem?_eq_some_iff.mp h).1]
    exact h
  refine ⟨fun q => ?_, fun d q => ?_⟩
  · have q : (match st[n]? with | some (O.lst ds) => some ds[i]? | _ => none) = some none := q
    split at q
    · rename_i ds e2
      obtain ⟨vs, h1, h2⟩ := S.obl n ds a e2 hr
      exact ⟨vs, SqL.of h1, by rw [← h2.length]; exact List.getElem?_eq_none_iff.mp (Option.some.inj q)⟩
    · cases q
  · have q : (match st[n]? with | some (O.lst ds) => some ds[i]? | _ => none) = some (some d) := q
    split at q
    · rename_i ds e2
      obtain ⟨vs, h1, h2⟩ := S.obl n ds a e2 hr
      obtain ⟨v, hv, rv⟩ := h2.get (Option.some.inj q)
      refine ⟨⟨vs, v, SqL.of h1, hv⟩, fun x H' y => ?_⟩
      obtain ⟨e1, y⟩ := y
      subst e1
      have := y vs (SqL.of h1)
      rw [hv] at this
      cases this
      exact ⟨.refl _ _, S, rv⟩
    · cases q

section
variable {X : Cx} {tg : Expr}
/-- a list or a tuple, as it comes -/
theorem pi_seq {l : Expr} {tl : TE} (hl : PE X l tl) : PI X tg l (fun sg H R => tl sg H fun x H1 => ∃ a, x = .ref a ∧ (((∃ xs, SqL X.K H1 a xs) ∧ R (Itl X.K a) H1) ∨ ((∃ xs, SqT X.K H1 a xs) ∧ R (Itt X.K a) H1))) := by
  refine ⟨fun pins s sg H R I h => ?_⟩
  refine thn (hl.run pins s sg H _ I h) fun v s1 ⟨x, H1, I1, r1, q1⟩ => ?_
  obtain ⟨a, e, q⟩ := q1
  subst e
  have hv : v = Value.ref a := r1
  subst hv
  have fp : ∀ b ∈ [s1.heap.objs.size], FpOk X pins H1 b := fun b hb => by
    have e : b = s1.heap.objs.size := List.mem_singleton.mp hb
    subst e
    exact I1.fpOk (Nat.le_refl _) (I1.hok.fresh (Nat.le_refl _))
  rcases q with ⟨⟨xs, hq⟩, q⟩ | ⟨⟨xs, hq⟩, q⟩
  · obtain ⟨its, rv, p, hz⟩ := I1.list hq
    exact wpAny_pyIter_list p.isList ⟨s1.heap.objs.size, [s1.heap.objs.size], _, _, H1, rfl, I1.kept (t' := s1.toks) fun b o e => Heap.get?_push_of_some _ e, turn_list a _, ⟨_, Heap.get?_push_size _ rfl, rfl, rfl⟩, fp, q⟩
  · obtain ⟨its, rv, p, hz⟩ := I1.tuple hq
    exact wpAny_pyIter_tuple (show s1.heap.IsTuple a its.toArray from p) ⟨s1.heap.objs.size, [s1.heap.objs.size], _, _, H1, rfl, I1.kept (t' := s1.toks) fun b o e => Heap.get?_push_of_some _ e, turn_tuple a _, ⟨_, Heap.get?_push_size _ rfl, rfl, rfl⟩, fp, q⟩
theorem pi_seqX {l : Expr} {f : RF D} (hl : PE X l (TXe X.K f)) : PI X tg l (TXi X.K (b1 f itSeq)) := by
  refine PI.of (pi_seq hl) fun sg H R w => ?_
  refine tx_b1 (K := X.K) (rb := ItOk X.K) (fun u H1 Q => ∃ a, u = V.ref a ∧ (((∃ xs, SqL X.K H1 a xs) ∧ Q (Itl X.K a) H1) ∨ ((∃ xs, SqT X.K H1 a xs) ∧ Q (Itt X.K a) H1))) (fun rho H st x u z st' S rx ho k => ?_) w
  unfold itSeq at ho
  split at ho
  · cases ho
    cases rx with
    | tup hs rl => exact ⟨_, rfl, .inr ⟨⟨_, hs⟩, k rho H _ (.refl _ _) S (it_tup S.trk hs rl)⟩⟩
  · cases ho
    cases rx with
    | lst hs rl => exact ⟨_, rfl, .inl ⟨⟨_, hs.sq⟩, k rho H _ (.refl _ _) S (it_lst S.trk hs rl)⟩⟩
  · split at ho
    · rename_i n ds e
      cases ho
      obtain ⟨a, vs, rfl, hr, h1, rl⟩ := S.at rx e
      exact ⟨a, rfl, .inl ⟨⟨vs, SqL.of h1⟩, k rho H _ (.refl _ _) S (it_live hr)⟩⟩
    · cases ho
  · cases ho
theorem pi_rng1X {e : Expr} {p pos : Pos} {f : RF D} (hg : Gl X "range") (hm : X.mg "range" = none) (he : PE X e (TXe X.K f)) (hst : notStar e = true) : PI X tg (.Call (.Name "range" p) [e] [] pos) (TXi X.K (b1 f rng1)) := by
  refine PI.of (pi_range1 hg hm (pa_cons he pa_nil (star_cons hst)) (star_cons hst)) fun sg H R w => ?_
  refine tx_b1 (K := X.K) (rb := ItOk X.K) (fun u H1 Q => ∃ j : Int, [u] = [V.int j] ∧ -(2 ^ 62) ≤ j ∧ j < 2 ^ 62 ∧ Q (Itr 0 j.toNat) H1) (fun rho H st x u z st' S rx ho k => ?_) w
  unfold rng1 at ho
  split at ho
  · rename_i j
    split at ho
    · rename_i hb
      cases ho
      cases rx
      exact ⟨j, rfl, hb.1, hb.2, k rho H _ (.refl _ _) S (it_rng 0 _)⟩
    · cases ho
  · cases ho
theorem pi_rng2X {e1 e2 : Expr} {p pos : Pos} {f g : RF D} (hg : Gl X "range") (hm : X.mg "range" = none) (he1 : PE X e1 (TXe X.K f)) (he2 : PE X e2 (TXe X.K g)) (hs1 : notStar e1 = true) (hs2 : notStar e2 = true) : PI X tg (.Call (.Name "range" p) [e1, e2] [] pos) (TXi X.K (b2 f g rng2)) := by
  refine PI.of (pi_range2 hg hm (pa_cons he1 (pa_cons he2 pa_nil (star_cons hs2)) (star_cons hs1)) (by rw [star_cons hs1, star_cons hs2]; rfl) (star_cons hs2)) fun sg H R w => ?_
  refine tx_b2 (K := X.K) (rc := ItOk X.K) mono_rep (fun u v H1 Q => ∃ i j : Int, [u, v] = [V.int i, V.int j] ∧ (-(2 ^ 62) ≤ i ∧ i < 2 ^ 62 ∧ -(2 ^ 62) ≤ j ∧ j < 2 ^ 62) ∧ Q (Itr i (j - i).toNat) H1) (fun rho H st x u y v z st' S rx ry ho k => ?_) w
  unfold rng2 at ho
  split at ho
  · rename_i i j
    split at ho
    · rename_i hb
      cases ho
      cases rx
      cases ry
      exact ⟨i, j, rfl, hb, k rho H _ (.refl _ _) S (it_rng i _)⟩
    · cases ho
  · cases ho
theorem it_zipL {K : PySem.W.Frag} {rho : Rho} {H : Hp} {ds es : List D} {vs ws : List V} {a b : Addr} (t : Trk rho H) (h : FzL K rho H a vs) (h2 : FzL K rho H b ws) (r : RepL K rho H ds vs) (r2 : RepL K rho H es ws) : ItOk K rho H (.fix (zipD ds es)) (Itz K a b) := by
  intro rho1 H1 st e S i
  have h1 := (fzL_ext e h).sq
  have h2 := (fzL_ext e h2).sq
  have r1 := r.ext t e
  have r2 := r2.ext t e
  refine ⟨fun q => ?_, fun d q => ?_⟩
  · have q : some (zipD ds es)[i]? = some none := q
    have q := List.getElem?_eq_none_iff.mp (Option.some.inj q)
    unfold zipD at q
    rw [List.length_zipWith, r1.length, r2.length] at q
    exact ⟨vs, ws, h1, h2, by omega⟩
  · have q : some (zipD ds es)[i]? = some (some d) := q
    have q := Option.some.inj q
    unfold zipD at q
    rw [List.getElem?_zipWith_eq_some] at q
    obtain ⟨x, y, hx, hy, rfl⟩ := q
    obtain ⟨v, hv, rv⟩ := r1.get hx
    obtain ⟨w, hw, rw'⟩ := r2.get hy
    refine ⟨⟨vs, ws, v, w, h1, h2, hv, hw⟩, fun z H' y' => ?_⟩
    obtain ⟨T, x', y'', rfl, hT, rfl, e1, e2⟩ := y'
    have := e1 vs h1
    rw [hv] at this
    cases this
    have := e2 ws h2
    rw [hw] at this
    cases this
    exact ⟨Ext.tmp hT, S.tmp hT, .tup (.inl (.inl upd_same)) (.cons (rv.ext S.trk (Ext.tmp hT)) (.cons (rw'.ext S.trk (Ext.tmp hT)) .nil))⟩
theorem it_zipT {K : PySem.W.Frag} {rho : Rho} {H : Hp} {ds es : List D} {vs ws : List V} {a b : Addr} (t : Trk rho H) (h : SqT K H a vs) (h2 : SqT K H b ws) (r : RepL K rho H ds vs) (r2 : RepL K rho H es ws) : ItOk K rho H (.fix (zipD ds es)) (RZ.ItzT K a b) := by
  intro rho1 H1 st e S i
  have h1 := sqT_ext t e h
  have h2 := sqT_ext t e h2
  have r1 := r.ext t e
  have r2 := r2.ext t e
  refine ⟨fun q => ?_, fun d q => ?_⟩
  · have q : some (zipD ds es)[i]? = some none := q
    have q := List.getElem?_eq_none_iff.mp (Option.some.inj q)
    unfold zipD at q
    rw [List.length_zipWith, r1.length, r2.length] at q
    exact ⟨vs, ws, h1, h2, by omega⟩
  · have q : some (zipD ds es)[i]? = some (some d) := q
    have q := Option.some.inj q
    unfold zipD at q
    rw [List.getElem?_zipWith_eq_some] at q
    obtain ⟨x, y, hx, hy, rfl⟩ := q
    obtain ⟨v, hv, rv⟩ := r1.get hx
    obtain ⟨w, hw, rw'⟩ := r2.get hy
    refine ⟨⟨vs, ws, v, w, h1, h2, hv, hw⟩, fun z H' y' => ?_⟩
    obtain ⟨T, x', y'', rfl, hT, rfl, e1, e2⟩ := y'
    have := e1 vs h1
    rw [hv] at this
    cases this
    have := e2 ws h2
    rw [hw] at this
    cases this
    exact ⟨Ext.tmp hT, S.tmp hT, .tup (.inl (.inl upd_same)) (.cons (rv.ext S.trk (Ext.tmp hT)) (.cons (rw'.ext S.trk (Ext.tmp hT)) .nil))⟩
theorem it_zipR {K : PySem.W.Frag} {rho : Rho} {H : Hp} {n k m : Nat} {a b : Addr} (h : rho.r[n]? = some a) (hk : rho.r[k]? = some b) : ItOk K rho H (.zlive n k m) (Itz K a b) := by
  intro rho1 H1 st e S i
  have hr : rho1.r[n]? = some a := by
    obtain ⟨r, hr⟩ := e.pre
    rw [← hr, List.getElem?_append_left (List.getElem?_eq_some_iff.mp h).1]
    exact h
  have hrk : rho1.r[k]? = some b := by
    obtain ⟨r, hr⟩ := e.pre
    rw [← hr, List.getElem?_append_left (List.getElem?_eq_some_iff.mp hk).1]
    exact hk
  refine ⟨fun q => ?_, fun d q => ?_⟩
  · have q : (match st[n]? with | some (O.lst ds) => (match st[k]? with | some (O.lst es) => some (zipD ds es)[i]? | _ => none) | _ => none) = some none := q
    split at q
    · rename_i ds e2
      split at q
      · rename_i es e3
        obtain ⟨vs, h1, r1⟩ := S.obl n ds a e2 hr
        obtain ⟨ws, h2, r2⟩ := S.obl k es b e3 hrk
        have q := List.getElem?_eq_none_iff.mp (Option.some.inj q)
        unfold zipD at q
        rw [List.length_zipWith, r1.length, r2.length] at q
        exact ⟨vs, ws, SqL.of h1, SqL.of h2, by omega⟩
      · cases q
    · cases q
  · have q : (match st[n]? with | some (O.lst ds) => (match st[k]? with | some (O.lst es) => some (zipD ds es)[i]? | _ => none) | _ => none) = some (some d) := q
    split at q
    · rename_i ds e2
      split at q
      · rename_i es e3
        obtain ⟨vs, h1, r1⟩ := S.obl n ds a e2 hr
        obtain ⟨ws, h2, r2⟩ := S.obl k es b e3 hrk
        have q := Option.some.inj q
        unfold zipD at q
        rw [List.getElem?_zipWith_eq_some] at q
        obtain ⟨x, y, hx, hy, rfl⟩ := q
        obtain ⟨v, hv, rv⟩ := r1.get hx
        obtain ⟨w, hw, rw'⟩ := r2.get hy
        refine ⟨⟨vs, ws, v, w, SqL.of h1, SqL.of h2, hv, hw⟩, fun z H' y' => ?_⟩
        obtain ⟨T, x', y'', rfl, hT, rfl, e1, e2⟩ := y'
        have := e1 vs (SqL.of h1)
        rw [hv] at this
        cases this
        have := e2 ws (SqL.of h2)
        rw [hw] at this
        cases this
        exact ⟨Ext.tmp hT, S.tmp hT, .tup (.inl (.inl upd_same)) (.cons (rv.ext S.trk (Ext.tmp hT)) (.cons (rw'.ext S.trk (Ext.tmp hT)) .nil))⟩
      · cases q
    · cases q
theorem pi_zipX {e1 e2 : Expr} {elts : List Expr} {kk : Nat} {tpos p pos : Pos} {f g : RF D} (hg : Gl X "zip") (hm : X.mg "zip" = none) (he1 : PE X e1 (TXe X.K f)) (he2 : PE X e2 (TXe X.K g)) (hs1 : notStar e1 = true) (hs2 : notStar e2 = true) : PI X (.Tuple elts kk tpos) (.Call (.Name "zip" p) [e1, e2] [] pos) (TXi X.K (b2 f g zipI)) := by
  refine PI.of (RZ.pi_zipA hg hm (pa_cons he1 (pa_cons he2 pa_nil (star_cons hs2)) (star_cons hs1)) (star_cons hs1) (by rw [star_cons hs2]; rfl)) fun sg H R w => ?_
  refine tx_b2 (K := X.K) (rc := ItOk X.K) mono_rep (fun u v H1 Q => ∃ a b xs ys, [u, v] = [V.ref a, V.ref b] ∧ ((SqL X.K H1 a xs ∧ SqL X.K H1 b ys ∧ Q (Itz X.K a b) H1) ∨ (SqT X.K H1 a xs ∧ SqT X.K H1 b ys ∧ Q (RZ.ItzT X.K a b) H1))) (fun rho H st x u y v z st' S rx ry ho k => ?_) w
  unfold zipI at ho
  split at ho
  · cases ho
    cases rx with
    | tup hs rl =>
      cases ry with
      | tup hs2 rl2 => exact ⟨_, _, _, _, rfl, .inr ⟨hs, hs2, k rho H _ (.refl _ _) S (it_zipT S.trk hs hs2 rl rl2)⟩⟩
  · cases ho
    cases rx with
    | lst hs rl =>
      cases ry with
      | lst hs2 rl2 => exact ⟨_, _, _, _, rfl, .inl ⟨hs.sq, hs2.sq, k rho H _ (.refl _ _) S (it_zipL S.trk hs hs2 rl rl2)⟩⟩
  · split at ho
    · rename_i n2 k2 _ xs e
      split at ho
      · rename_i ys e2
        cases ho
        obtain ⟨a, vs, rfl, hr, h1, rl⟩ := S.at rx e
        obtain ⟨b, ws, rfl, hr2, h2, rl2⟩ := S.at ry e2
        exact ⟨_, _, _, _, rfl, .inl ⟨SqL.of h1, SqL.of h2, k rho H _ (.refl _ _) S (it_zipR hr hr2)⟩⟩
      · cases ho
    · cases ho
  · cases ho
theorem it_enL {K : PySem.W.Frag} {rho : Rho} {H : Hp} {ds : List D} {vs : List V} {a : Addr} (t : Trk rho H) (h : FzL K rho H a vs) (r : RepL K rho H ds vs) : ItOk K rho H (.fix (enumD ds)) (Ite K a) := by
  intro rho1 H1 st e S i
  have h1 := (fzL_ext e h).sq
  have r1 := r.ext t e
  refine ⟨fun q => ?_, fun d q => ?_⟩
  · have q : some (enumD ds)[i]? = some none := q
    have q := List.getElem?_eq_none_iff.mp (Option.some.inj q)
    unfold enumD at q
    rw [List.length_zipWith, List.length_range, Nat.min_self, r1.length] at q
    exact ⟨vs, h1, q⟩
  · have q : some (enumD ds)[i]? = some (some d) := q
    have q := Option.some.inj q
    unfold enumD at q
    rw [List.getElem?_zipWith_eq_some] at q
    obtain ⟨x, y, hx, hy, rfl⟩ := q
    obtain ⟨hx1, hx2⟩ := List.getElem?_eq_some_iff.mp hx
    rw [List.getElem_range] at hx2
    subst hx2
    obtain ⟨v, hv, rv⟩ := r1.get hy
    refine ⟨⟨vs, v, h1, hv⟩, fun z H' y' => ?_⟩
    obtain ⟨T, x', rfl, hT, rfl, e1⟩ := y'
    have := e1 vs h1
    rw [hv] at this
    cases this
    exact ⟨Ext.tmp hT, S.tmp hT, .tup (.inl (.inl upd_same)) (.cons (.int _) (.cons (rv.ext S.trk (Ext.tmp hT)) .nil))⟩
theorem it_enT {K : PySem.W.Frag} {rho : Rho} {H : Hp} {ds : List D} {vs : List V} {a : Addr} (t : Trk rho H) (h : SqT K H a vs) (r : RepL K rho H ds vs) : ItOk K rho H (.fix (enumD ds)) (IteT K a) := by
  intro rho1 H1 st e S i
  have h1 := sqT_ext t e h
  have r1 := r.ext t e
  refine ⟨fun q => ?_, fun d q => ?_⟩
  · have q : some (enumD ds)[i]? = some none := q
    have q := List.getElem?_eq_none_iff.mp (Option.some.inj q)
    unfold enumD at q
    rw [List.length_zipWith, List.length_range, Nat.min_self, r1.length] at q
    exact ⟨vs, h1, q⟩
  · have q : some (enumD ds)[i]? = some (some d) := q
    have q := Option.some.inj q
    unfold enumD at q
    rw [List.getElem?_zipWith_eq_some] at q
    obtain ⟨x, y, hx, hy, rfl⟩ := q
    obtain ⟨hx1, hx2⟩ := List.getElem?_eq_some_iff.mp hx
    rw [List.getElem_range] at hx2
    subst hx2
    obtain ⟨v, hv, rv⟩ := r1.get hy
    refine ⟨⟨vs, v, h1, hv⟩, fun z H' y' => ?_⟩
    obtain ⟨T, x', rfl, hT, rfl, e1⟩ := y'
    have := e1 vs h1
    rw [hv] at this
    cases this
    exact ⟨Ext.tmp hT, S.tmp hT, .tup (.inl (.inl upd_same)) (.cons (.int _) (.cons (rv.ext S.trk (Ext.tmp hT)) .nil))⟩
theorem pi_enX {e1 : Expr} {elts : List Expr} {kk : Nat} {tpos p pos : Pos} {f : RF D} (hg : Gl X "enumerate") (hm : X.mg "enumerate" = none) (he1 : PE X e1 (TXe X.K f)) (hs1 : notStar e1 = true) : PI X (.Tuple elts kk tpos) (.Call (.Name "enumerate" p) [e1] [] pos) (TXi X.K (b1 f enI)) := by
  refine PI.of (pi_enumA hg hm (pa_cons he1 pa_nil (star_cons hs1)) (star_cons hs1)) fun sg H R w => ?_
  refine tx_b1 (K := X.K) (rb := ItOk X.K) (fun u H1 Q => ∃ a xs, [u] = [V.ref a] ∧ ((SqL X.K H1 a xs ∧ Q (Ite X.K a) H1) ∨ (SqT X.K H1 a xs ∧ Q (IteT X.K a) H1))) (fun rho H st x u z st' S rx ho k => ?_) w
  unfold enI at ho
  split at ho
  · cases ho
    cases rx with
    | lst hs rl => exact ⟨_, _, rfl, .inl ⟨hs.sq, k rho H _ (.refl _ _) S (it_enL S.trk hs rl)⟩⟩
  · cases ho
    cases rx with
    | tup hs rl => exact ⟨_, _, rfl, .inr ⟨hs, k rho H _ (.refl _ _) S (it_enT S.trk hs rl)⟩⟩
  · cases ho
theorem rev_get {α : Type} {l : List α} {i : Nat} (h : i < l.length) : l.reverse[i]? = l[l.length - 1 - i]? := by
  rw [List.getElem?_reverse h]
theorem it_rvL {K : PySem.W.Frag} {rho : Rho} {H : Hp} {ds : List D} {vs : List V} {a : Addr} (t : Trk rho H) (h : FzL K rho H a vs) (r : RepL K rho H ds vs) : ItOk K rho H (.fix ds.reverse) (L2.Itv K a vs.length) := by
  intro rho1 H1 st e S i
  have h1 := fzL_ext e h
  have r1 := r.ext t e
  refine ⟨fun q => ?_, fun d q => ?_⟩
  · have q : some ds.reverse[i]? = some none := q
    have q := List.getElem?_eq_none_iff.mp (Option.some.inj q)
    rw [List.length_reverse, r1.length] at q
    exact q
  · have q : some ds.reverse[i]? = some (some d) := q
    have q := Option.some.inj q
    have hi := (List.getElem?_eq_some_iff.mp q).1
    rw [List.length_reverse] at hi
    rw [rev_get hi] at q
    obtain ⟨v, hv, rv⟩ := r1.get q
    rw [r1.length] at hv hi
    refine ⟨⟨hi, vs, v, h1.sq, hv⟩, fun x H' y => ?_⟩
    obtain ⟨e1, y⟩ := y
    subst e1
    have := y vs h1.sq
    rw [hv] at this
    cases this
    exact ⟨.refl _ _, S, rv⟩
theorem it_rvT {K : PySem.W.Frag} {rho : Rho} {H : Hp} {ds : List D} {vs : List V} {a : Addr} (t : Trk rho H) (h : SqT K H a vs) (r : RepL K rho H ds vs) : ItOk K rho H (.fix ds.reverse) (RT.ItvT K a vs.length) := by
  intro rho1 H1 st e S i
  have h1 := sqT_ext t e h
  have r1 := r.ext t e
  refine ⟨fun q => ?_, fun d q => ?_⟩
  · have q : some ds.reverse[i]? = some none := q
    have q := List.getElem?_eq_none_iff.mp (Option.some.inj q)
    rw [List.length_reverse, r1.length] at q
    exact q
  · have q : some ds.reverse[i]? = some (some d) := q
    have q := Option.some.inj q
    have hi := (List.getElem?_eq_some_iff.mp q).1
    rw [List.length_reverse] at hi
    rw [rev_get hi] at q
    obtain ⟨v, hv, rv⟩ := r1.get q
    rw [r1.length] at hv hi
    refine ⟨⟨hi, vs, v, h1, hv⟩, fun x H' y => ?_⟩
    obtain ⟨e1, y⟩ := y
    subst e1
    have := y vs h1
    rw [hv] at this
    cases this
    exact ⟨.refl _ _, S, rv⟩
theorem pi_rvX {e1 : Expr} {tgt : Expr} {p pos : Pos} {f : RF D} (hg : Gl X "reversed") (hm : X.mg "reversed" = none) (he1 : PE X e1 (TXe X.K f)) (hs1 : notStar e1 = true) : PI X tgt (.Call (.Name "reversed" p) [e1] [] pos) (TXi X.K (b1 f rvsI)) := by
  refine PI.of (RT.pi_revA hg hm he1 (star_cons hs1)) fun sg H R w => ?_
  refine tx_b1 (K := X.K) (rb := ItOk X.K) (fun u H1 Q => ∃ (a : Addr) (xs : List V), u = V.ref a ∧ ((SqL X.K H1 a xs ∧ Q (L2.Itv X.K a xs.length) H1) ∨ (SqT X.K H1 a xs ∧ Q (RT.ItvT X.K a xs.length) H1))) (fun rho H st x u z st' S rx ho k => ?_) w
  unfold rvsI at ho
  split at ho
  · cases ho
    cases rx with
    | tup hs rl => exact ⟨_, _, rfl, .inr ⟨hs, k rho H _ (.refl _ _) S (it_rvT S.trk hs rl)⟩⟩
  · cases ho
    cases rx with
    | lst hs rl => exact ⟨_, _, rfl, .inl ⟨hs.sq, k rho H _ (.refl _ _) S (it_rvL S.trk hs rl)⟩⟩
  · cases ho
end
end B
/-! B6: comprehensions. -/
namespace B
open PySem PySem.Spec PyProof.Rows L2

/-! ### a list that is being made -/
def Rho.mark (rho : Rho) (p : Addr) : Rho := ⟨rho.r, fun a => rho.m a ∨ a = p, fun a h => .inl (rho.sub a h)⟩
def Rho.drop (rho : Rho) (p : Addr) (h : p ∉ rho.r) : Rho := ⟨rho.r, fun a => rho.m a ∧ a ≠ p, fun a ha => ⟨rho.sub a ha, fun e => h (e ▸ ha)⟩⟩
def Rho.adopt (rho : Rho) (p : Addr) (h : rho.m p) : Rho := ⟨rho.r ++ [p], rho.m, fun a ha => (List.mem_append.mp ha).elim (rho.sub a) fun z => by rw [List.mem_singleton.mp z]; exact h⟩

section
variable {K : PySem.W.Frag} {rho rho' : Rho} {H : Hp} {st : Store}
theorem fzL_re {a : Addr} {vs : List V} (hm : ∀ a, rho'.m a → rho.m a) (h : FzL K rho H a vs) : FzL K rho' H a vs := by
  rcases h with ⟨h, n⟩ | h
  · exact .inl ⟨h, fun z => n (hm a z)⟩
  · exact .inr h
mutual
theorem Rep.re (hr : ∀ (n : Nat) (a : Addr), rho.r[n]? = some a → rho'.r[n]? = some a) (hm : ∀ a, rho'.m a → rho.m a) : ∀ {d : D} {v : V}, Rep K rho H d v → Rep K rho' H d v
  | _, _, .non => .non
  | _, _, .bl b => .bl b
  | _, _, .int i => .int i
  | _, _, .str s => .str s
  | _, _, .tup h r => .tup h (RepL.re hr hm r)
  | _, _, .lst h r => .lst (fzL_re hm h) (RepL.re hr hm r)
  | _, _, .ref h => .ref (hr _ _ h)
theorem RepL.re (hr : ∀ (n : Nat) (a : Addr), rho.r[n]? = some a → rho'.r[n]? = some a) (hm : ∀ a, rho'.m a → rho.m a) : ∀ {ds : List D} {vs : List V}, RepL K rho H ds vs → RepL K rho' H ds vs
  | _, _, .nil => .nil
  | _, _, .cons a b => .cons (Rep.re hr hm a) (RepL.re hr hm b)
end
theorem StoreRep.drop {p : Addr} (S : StoreRep K rho H st) (h : p ∉ rho.r) : StoreRep K (rho.drop p h) H st where
  len := S.len
  nd := S.nd
  trk := fun a ha => S.trk a ha.1
  ob := fun n ds a h1 h2 => by
    obtain ⟨vs, h3, h4⟩ := S.ob n ds a h1 h2
    exact ⟨vs, h3, RepL.re (rho := rho) (rho' := rho.drop p h) (fun _ _ e => e) (fun a (z : rho.m a ∧ a ≠ p) => z.1) h4⟩
  tab := S.tab
theorem StoreRep.adopt {p : Addr} {ds : List D} {vs : List V} (S : StoreRep K rho H st) (h : rho.m p) (hn : p ∉ rho.r) (hp : H p = some (.lst vs)) (r : RepL K rho H ds vs) : StoreRep K (rho.adopt p h) H (st ++ [.lst ds]) where
  len := by simp [Rho.adopt, S.len]
  nd := List.nodup_append.mpr ⟨S.nd, (List.pairwise_singleton _ _), fun a ha b hb => by rw [List.mem_singleton.mp hb]; intro e; subst e; exact hn ha⟩
  trk := S.trk
  ob := fun n es a h1 h2 => by
    have hre : ∀ (n : Nat) (a : Addr), rho.r[n]? = some a → (rho.adopt p h).r[n]? = some a := fun n a e => by
      show (rho.r ++ [p])[n]? = some a
      rw [List.getElem?_append_left (List.getElem?_eq_some_iff.mp e).1]
      exact e
    have h2 : (rho.r ++ [p])[n]? = some a := h2
    by_cases hl : n < st.length
    · rw [List.getElem?_append_left hl] at h1
      rw [List.getElem?_append_left (by rw [S.len]; exact hl)] at h2
      obtain ⟨ws, h3, h4⟩ := S.ob n es a h1 h2
      exact ⟨ws, h3, h4.re hre fun _ z => z⟩
    · have hn' : n = st.length := by
        have := (List.getElem?_eq_some_iff.mp h1).1
        simp at this; omega
      subst hn'
      rw [List.getElem?_concat_length] at h1
      rw [← S.len, List.getElem?_concat_length] at h2
      cases h1; cases h2
      exact ⟨vs, hp, r.re hre fun _ z => z⟩
  tab := S.tab

/-! what is untold changes -/
mutual
theorem Rep.wrM {p : Addr} {us us' : List V} (hm : rho.m p) (hp : H p = some (.lst us)) : ∀ {d : D} {v : V}, Rep K rho H d v → Rep K rho (upd H p (.lst us')) d v
  | _, _, .non => .non
  | _, _, .bl b => .bl b
  | _, _, .int i => .int i
  | _, _, .str s => .str s
  | _, _, .tup h r => .tup (by
      rcases h with (h | ⟨o, h⟩) | h
      · exact .inl (.inl (by rw [upd_ne (ne_of h hp fun z => nomatch z)]; exact h))
      · exact .inl (.inr ⟨o, by rw [upd_ne (ne_of h hp fun z => nomatch z)]; exact h⟩)
      · exact .inr h) (RepL.wrM hm hp r)
  | _, _, .lst h r => .lst (by
      rcases h with ⟨h, n⟩ | h
      · rename_i a
        have ne : a ≠ p := fun e => n (e ▸ hm)
        left
        refine ⟨?_, n⟩
        rcases h with h | ⟨o, h⟩
        · exact .inl (by rw [upd_ne ne]; exact h)
        · exact .inr ⟨o, by rw [upd_ne ne]; exact h⟩
      · exact .inr h) (RepL.wrM hm hp r)
  | _, _, .ref h => .ref h
theorem RepL.wrM {p : Addr} {us us' : List V} (hm : rho.m p) (hp : H p = some (.lst us)) : ∀ {ds : List D} {vs : List V}, RepL K rho H ds vs → RepL K rho (upd H p (.lst us')) ds vs
  | _, _, .nil => .nil
  | _, _, .cons a b => .cons (Rep.wrM hm hp a) (RepL.wrM hm hp b)
end
theorem StoreRep.wrM {p : Addr} {us us' : List V} (S : StoreRep K rho H st) (hm : rho.m p) (hn : p ∉ rho.r) (hp : H p = some (.lst us)) : StoreRep K rho (upd H p (.lst us')) st where
  len := S.len
  nd := S.nd
  trk := fun a ha => by
    by_cases e : a = p
    · subst e; exact ⟨_, upd_same, .l⟩
    · obtain ⟨vs, h, mb⟩ := S.trk a ha
      exact ⟨vs, by rw [upd_ne e]; exact h, mb⟩
  ob := fun n ds a h1 h2 => by
    obtain ⟨vs, h3, h4⟩ := S.ob n ds a h1 h2
    have ne : a ≠ p := fun e => hn (e ▸ List.mem_of_getElem? h2)
    exact ⟨vs, by rw [upd_ne ne]; exact h3, h4.wrM hm hp⟩
  tab := tabs_wr S.tab hp .l
theorem EnvRep.wrM {p : Addr} {us us' : List V} {sg : L2.St} {env : Env} (E : EnvRep K rho H sg env) (hm : rho.m p) (hp : H p = some (.lst us)) : EnvRep K rho (upd H p (.lst us')) sg env :=
  ⟨E.len, fun i d h => let ⟨v, h1, h2⟩ := E.at_ i d h; ⟨v, h1, h2.wrM hm hp⟩⟩
end

theorem lcGo_len {nth : Nat → Store → Option (Option D)} {f : D → Store → Option (Option D × Store)} : ∀ {m i : Nat} {acc ds : List D} {st st' : Store}, lcGo nth f m i acc st = some (ds, st') → acc.length ≤ ds.length
  | 0, _, _, _, _, _, h => by cases h
  | m + 1, i, acc, ds, st, st', h => by
    unfold lcGo at h
    split at h
    · cases h
    · cases h; exact Nat.le_refl _
    · split at h
      · cases h
      · have := lcGo_len h
        rw [List.length_append] at this
        exact Nat.le_trans (Nat.le_add_right _ _) this
      · exact lcGo_len h
theorem wipe_same : ∀ {vs : List Nat} {a b : L2.St}, (∀ i, i ∉ vs → a[i]? = b[i]?) → a.length = b.length → L2.wipe a vs = L2.wipe b vs := by
  intro vs
  induction vs with
  | nil =>
    intro a b h _
    exact List.ext_getElem? fun i => h i (by simp)
  | cons v vs ih =>
    intro a b h hl
    show (L2.wipe a vs).set v none = (L2.wipe b vs).set v none
    apply List.ext_getElem?
    intro i
    by_cases hv : i = v
    · subst hv
      by_cases hi : i < a.length
      · rw [List.getElem?_set_self (by rw [L2.wipe_length]; exact hi), List.getElem?_set_self (by rw [L2.wipe_length, ← hl]; exact hi)]
      · rw [List.getElem?_eq_none (by rw [List.length_set, L2.wipe_length]; omega), List.getElem?_eq_none (by rw [List.length_set, L2.wipe_length]; omega)]
    · rw [List.getElem?_set_ne (Ne.symm hv), List.getElem?_set_ne (Ne.symm hv)]
      by_cases hm : i ∈ vs
      · have w : ∀ (vs : List Nat) (a b : L2.St), a.length = b.length → i ∈ vs → (L2.wipe a vs)[i]? = (L2.wipe b vs)[i]? := by
          intro vs
          induction vs with
          | nil => intro a b _ z; cases z
          | cons u us ih2 =>
            intro a b hl z
            show ((L2.wipe a us).set u none)[i]? = ((L2.wipe b us).set u none)[i]?
            by_cases hu : i = u
            · subst hu
              by_cases hi : i < a.length
              · rw [List.getElem?_set_self (by rw [L2.wipe_length]; exact hi), List.getElem?_set_self (by rw [L2.wipe_length, ← hl]; exact hi)]
              · rw [List.getElem?_eq_none (by rw [List.length_set, L2.wipe_length]; omega), List.getElem?_eq_none (by rw [List.length_set, L2.wipe_length]; omega)]
            · rw [List.getElem?_set_ne (Ne.symm hu), List.getElem?_set_ne (Ne.symm hu)]
              exact ih2 a b hl ((List.mem_cons.mp z).elim (fun e => absurd e hu) id)
        exact w vs a b hl hm
      · have o : ∀ (vs : List Nat) (a : L2.St), i ∉ vs → (L2.wipe a vs)[i]? = a[i]? := by
          intro vs
          induction vs with
          | nil => intro a _; rfl
          | cons u us ih2 =>
            intro a z
            rw [List.mem_cons, not_or] at z
            show ((L2.wipe a us).set u none)[i]? = _
            rw [List.getElem?_set_ne (Ne.symm z.1)]
            exact ih2 a z.2
        rw [o vs a hm, o vs b hm]
        exact h i (by rw [List.mem_cons, not_or]; exact ⟨hv, hm⟩)
theorem wipe_twice (a : L2.St) (vs : List Nat) : L2.wipe (L2.wipe a vs) vs = L2.wipe a vs := by
  apply List.ext_getElem?
  intro i
  by_cases hm : i ∈ vs
  · have w : ∀ (vs : List Nat) (b : L2.St), i ∈ vs → i < b.length → (L2.wipe b vs)[i]? = some none := by
      intro vs
      induction vs with
      | nil => intro b z _; cases z
      | cons u us ih =>
        intro b z hl
        show ((L2.wipe b us).set u none)[i]? = _
        by_cases hu : i = u
        · subst hu
          rw [List.getElem?_set_self (by rw [L2.wipe_length]; exact hl)]
        · rw [List.getElem?_set_ne (Ne.symm hu)]
          exact ih b ((List.mem_cons.mp z).elim (fun e => absurd e hu) id) hl
    by_cases hi : i < a.length
    · rw [w vs _ hm (by rw [L2.wipe_length]; exact hi), w vs _ hm hi]
    · rw [List.getElem?_eq_none (by rw [L2.wipe_length, L2.wipe_length]; omega), List.getElem?_eq_none (by rw [L2.wipe_length]; omega)]
  · have o : ∀ (vs : List Nat) (a : L2.St), i ∉ vs → (L2.wipe a vs)[i]? = a[i]? := by
      intro vs
      induction vs with
      | nil => intro a _; rfl
      | cons u us ih2 =>
        intro a z
        rw [List.mem_cons, not_or] at z
        show ((L2.wipe a us).set u none)[i]? = _
        rw [List.getElem?_set_ne (Ne.symm z.1)]
        exact ih2 a z.2
    rw [o vs _ hm]

section
variable {K : PySem.W.Frag}
theorem tx_lc {mat : Bool} {elt : RF D} {tg : Tg} {it : RF Itv} {c : RF Bool} {vs : List Nat} {sg : L2.St} {H : Hp} {Q : VK} (hsl : ∀ i ∈ tg.slots, i ∈ vs) (w : TXe K (bLc mat elt tg it c vs) sg H Q) :
    tLc (TXi K it) (gX K tg.put tg.slots) (TXt K c) (TXe K elt) vs sg H Q := by
  obtain ⟨rho, env, st, d, st', hE, hS, hf, hQ⟩ := w
  unfold bLc at hf
  split at hf
  case h_2 => cases hf
  rename_i itv s1 e1
  split at hf
  case h_2 => cases hf
  rename_i ds s2 e2
  split at hf
  case isFalse => cases hf
  rename_i hlen
  refine ⟨rho, env, st, itv, s1, hE, hS, e1, fun rho1 H1 J x1 S1 hJ => ?_⟩
  intro A hA
  have hE1 := hE.ext hS.trk x1
  have notA : ∀ a o, H1 a = some o → a ≠ A := fun a o h e => by rw [e, hA] at h; cases h
  refine ⟨fun i m Hc => ∃ (rc : Rho) (stc : Store) (acc : List D) (av : List V), Ext rho1 H1 rc Hc ∧ StoreRep K rc Hc stc ∧ EnvRep K rc Hc sg env ∧ rc.m A ∧ A ∉ rc.r ∧ Hc A = some (.lst av) ∧ RepL K rc Hc acc av ∧
    lcGo itv.nth (lcStep elt tg c (wipeE env vs)) m i acc stc = some (ds, s2), ⟨itv.len + 1, ?_⟩, fun i m Hc hW => ?_⟩
  · have x2 : Ext rho1 H1 (rho1.mark A) (upd H1 A (.lst [])) := ⟨List.prefix_refl _, fun a o _ _ h => by rw [upd_ne (notA a o h)]; exact h, fun a h => h.elim .inl fun e => .inr (.of (e ▸ hA)), fun a h => .inl h, fun a h => .inl h⟩
    have hnA : A ∉ rho1.r := fun h => S1.not_m hA (rho1.sub A h)
    refine ⟨rho1.mark A, s1, [], [], x2, ?_, hE1.ext S1.trk x2, .inr rfl, hnA, upd_same, .nil, e2⟩
    exact ⟨S1.len, S1.nd, fun a ha => by
      by_cases e : a = A
      · rw [e]; exact ⟨_, upd_same, .l⟩
      · obtain ⟨ws, h, mb⟩ := S1.trk a (ha.elim id fun z => absurd z e)
        exact ⟨ws, by rw [upd_ne e]; exact h, mb⟩, fun n es a h1 h2 => by
      obtain ⟨ws, h3, h4⟩ := S1.ob n es a h1 h2
      exact ⟨ws, by rw [upd_ne (notA a _ h3)]; exact h3, h4.ext S1.trk x2⟩, tabs_new S1.tab hA⟩
  · obtain ⟨rc, stc, acc, av, xc, Sc, Ec, hm, hn, hAc, hacc, hgo⟩ := hW
    cases m with
    | zero => cases hgo
    | succ k =>
      unfold lcGo at hgo
      obtain ⟨j1, j2⟩ := hJ rc Hc stc xc Sc i
      split at hgo
      · cases hgo
      · rename_i e3
        cases hgo
        refine .inl ⟨j1 e3, ?_⟩
        unfold newL at hf
        cases mat with
        | true =>
          rw [if_pos rfl] at hf
          cases hf
          refine hQ (rc.adopt A hm) Hc _ (x1.trans ⟨xc.pre.trans (List.prefix_append _ _), xc.keep, xc.new, fun a ha => ?_, xc.mon⟩) (Sc.adopt hm hn hAc hacc) (.ref ?_)
          · rcases List.mem_append.mp ha with z | z
            · exact xc.newr a z
            · rw [List.mem_singleton.mp z]; exact .inr (.of hA)
          · show (rc.r ++ [A])[s2.length]? = _
            rw [← Sc.len, List.getElem?_concat_length]
        | false =>
          rw [if_neg Bool.false_ne_true] at hf
          cases hf
          refine hQ (rc.drop A hn) Hc _ (x1.trans ⟨xc.pre, xc.keep, fun a h => xc.new a h.1, xc.newr, fun a h => ⟨xc.mon a h, fun e => ?_⟩⟩) (Sc.drop hn) (.lst (.inl ⟨.inl hAc, fun z => z.2 rfl⟩) (RepL.re (rho := rc) (rho' := rc.drop A hn) (fun _ _ e => e) (fun a (z : rc.m a ∧ a ≠ A) => z.1) hacc))
          obtain ⟨ws, q, _⟩ := S1.trk a h
          exact notA a _ q e
      · rename_i x e3
        obtain ⟨jg, jy⟩ := j2 x e3
        refine .inr ⟨jg, fun H' => ∃ (rc : Rho) (stc : Store) (acc : List D) (av : List V), Ext rho1 H1 rc H' ∧ StoreRep K rc H' stc ∧ EnvRep K rc H' sg env ∧ rc.m A ∧ A ∉ rc.r ∧ H' A = some (.lst av) ∧ RepL K rc H' acc av ∧
          lcGo itv.nth (lcStep elt tg c (wipeE env vs)) k (i + 1) acc stc = some (ds, s2), fun H' hN => ⟨k, Nat.lt_succ_self _, hN⟩, fun y H' hy => ?_⟩
        obtain ⟨xy, Sy, ry⟩ := jy y H' hy
        have hAy : H' A = some (.lst av) := xy.keep A _ hn nt_lst hAc
        have Ey := Ec.ext Sc.trk xy
        have accy := hacc.ext Sc.trk xy
        -- the step
        cases hst : lcStep elt tg c (wipeE env vs) x stc with
        | none => rw [hst] at hgo; cases hgo
        | some p =>
          obtain ⟨od, sn⟩ := p
          rw [hst] at hgo
          unfold lcStep at hst
          split at hst
          case h_2 => cases hst
          rename_i env2 hput
          refine ⟨rc, wipeE env vs, x, env2, Ey.wipe vs, ry, hput, fun sg2 E2 hs2 => ⟨?_, ?_⟩⟩
          · have hl : sg2.length = (L2.wipe sg vs).length := by
              have hl2 : env2.length = (wipeE env vs).length := put_len hput
              rw [E2.len, hl2, ← (Ey.wipe vs).len]
            rw [wipe_same (b := L2.wipe sg vs) (fun i hi => hs2 i fun z => hi (hsl i z)) hl, wipe_twice]
          · split at hst
            · rename_i s3 hc
              split at hst
              case h_2 => cases hst
              rename_i dd s4 he
              injection hst with hst
              injection hst with hst1 hst2
              subst hst1 hst2
              refine ⟨rc, env2, stc, true, s3, E2, Sy, hc, fun rho3 H3 b x3 S3 hb => ?_⟩
              cases hb
              refine iteT ⟨rho3, env2, s3, dd, s4, E2.ext Sy.trk x3, S3, he, fun rho4 H4 z x4 S4 r4 => ?_⟩
              have x34 := x3.trans x4
              have hA4 : H4 A = some (.lst av) := x34.keep A _ hn nt_lst hAy
              have hm4 : rho4.m A := x34.mon A hm
              have hn4 : A ∉ rho4.r := fun q => (x34.newr A q).elim hn fun q2 => q2.no hAy nt_lst
              have hlt := lcGo_len hgo
              rw [List.length_append, List.length_singleton] at hlt
              have acc4 := accy.ext Sy.trk x34
              refine ⟨av, hA4, by rw [← acc4.length, ← sizeSL]; omega, rho4, s4, acc ++ [dd], av ++ [z], ?_, S4.wrM hm4 hn4 hA4, (Ey.ext Sy.trk x34).wrM hm4 hA4, hm4, hn4, upd_same, (acc4.append (.cons r4 .nil)).wrM hm4 hA4, hgo⟩
              have xx := (xc.trans xy).trans x34
              exact ⟨xx.pre, fun a o h1 hn h2 => by rw [upd_ne (notA a o h2)]; exact xx.keep a o h1 hn h2, xx.new, xx.newr, xx.mon⟩
            · rename_i s3 hc
              cases hst
              refine ⟨rc, env2, stc, false, sn, E2, Sy, hc, fun rho3 H3 b x3 S3 hb => ?_⟩
              cases hb
              refine iteF ⟨rho3, sn, acc, av, (xc.trans xy).trans x3, S3, Ey.ext Sy.trk x3, x3.mon A hm, (fun q => (x3.newr A q).elim hn fun q2 => q2.no hAy nt_lst), x3.keep A _ hn nt_lst hAy, accy.ext Sy.trk x3, hgo⟩
            · cases hst
end
end B
/-! B7: the written expression is the reckoned one. -/
namespace B
open PySem PySem.Spec PyProof.Rows L2

def opIs : BOp → Operator → Bool
  | .add, .Add => true | .sub, .Sub => true | .mul, .Mult => true | .fdiv, .FloorDiv => true | .mod, .Mod => true | .pow, .Pow => true | .shl, .LShift => true | .shr, .RShift => true
  | .band, .BitAnd => true | .bor, .BitOr => true | .bxor, .BitXor => true | _, _ => false
theorem opIs_eq {o : BOp} {p : Operator} (h : opIs o p = true) : p = o.py := by
  cases o <;> cases p <;> first | rfl | cases h
def copIs : COp → CmpOp → Bool
  | .eq, .Eq => true | .ne, .NotEq => true | .lt, .Lt => true | .le, .LtE => true | .gt, .Gt => true | .ge, .GtE => true | .isN, .Is => true | .notN, .IsNot => true | .in_, .In => true | .notin, .NotIn => true | _, _ => false
theorem copIs_eq {o : COp} {p : CmpOp} (h : copIs o p = true) : p = o.py := by
  cases o <;> cases p <;> first | rfl | cases h
def notSet : Expr → Bool
  | .Set .. => false
  | _ => true
def notSlice : Expr → Bool
  | .Slice .. => false
  | _ => true
theorem mark_of {op : CmpOp} {e : Expr} (h : notSet e = true) : behindInMarks op e = false := by
  cases e <;> first | rfl | cases h
theorem plain_ix {e : Expr} (h : notSlice e = true) : PlainIx e := by
  cases e <;> first | (intro _ _; rfl) | cases h
theorem folded_of {e : Expr} {env : PySem.Env} (h : notSet e = true) : ∀ x, foldedSetIterable e env x = pure x := by
  cases e <;> first | (intro _; rfl) | cases h
def isVis (sc : Scope) (x : Str) : Bool := match sc.names.lookup x with | some .local => true | some .cell => true | some .free => true | _ => false
def isGl (sc : Scope) (x : Str) : Bool := match sc.names.lookup x with | some .globalImplicit => true | _ => false
theorem isVis_of {sc : Scope} {x : Str} (h : isVis sc x = true) : sc.names.lookup x = some .local ∨ sc.names.lookup x = some .cell ∨ sc.names.lookup x = some .free := by
  unfold isVis at h
  split at h
  · exact .inl (by assumption)
  · exact .inr (.inl (by assumption))
  · exact .inr (.inr (by assumption))
  · cases h
theorem isGl_of {sc : Scope} {x : Str} (h : isGl sc x = true) : sc.names.lookup x = some .globalImplicit := by
  unfold isGl at h
  split at h
  · assumption
  · cases h
/-- a test that is its value's truth -/
def plainT : Expr → Bool
  | .UnaryOp .. => false
  | .BoolOp .. => false
  | .IfExp .. => false
  | .Compare .. => false
  | _ => true
theorem plainT_of {e : Expr} {env : PySem.Env} (h : plainT e = true) : ∀ whole, isTrue e env whole = (do let v ← whole; standAt e.pos; holding [v] (truthy v)) := by
  cases e <;> first | (intro _; rfl) | cases h
def baseOk : Expr → Bool
  | .Call .. => false
  | _ => true
theorem base_of {e : Expr} {a : Str} {env : PySem.Env} (h : baseOk e = true) : attributeBase e a env (eval e env) = eval e env := by
  cases e <;> first | rfl | cases h
def Blt.nm : Blt → Str
  | .len => "len" | .tuple => "tuple" | .list _ => "list" | .repr => "repr" | .abs => "abs" | .int => "int" | .max2 => "max" | .min2 => "min" | .all => "all" | .any => "any" | .sorted _ => "sorted" | .sum => "sum" | .maxL => "max" | .minL => "min"
theorem blt_boot (f : Blt) : bootBuiltins f.nm = some f.val := by
  cases f <;> first | decide +kernel | exact PySem.boot_len | rfl
theorem blt_ne (f : Blt) : f.nm ≠ ("__name__" : Str) ∧ (f.nm == ("__debug__" : Str)) = false := by
  cases f <;> first | exact ⟨by decide, by decide⟩ | exact ⟨(by decide : ("sorted" : Str) ≠ ("__name__" : Str)), (by decide : (("sorted" : Str) == ("__debug__" : Str)) = false)⟩ | exact ⟨(by decide : ("list" : Str) ≠ ("__name__" : Str)), (by decide : (("list" : Str) == ("__debug__" : Str)) = false)⟩
def isYes : Tx → Bool
  | .yes => true
  | _ => false
def kwNames : List Keyword → Option (List Str)
  | [] => some []
  | ⟨some n, _, _⟩ :: r => match kwNames r with | some ks => some (n :: ks) | none => none
  | ⟨none, _, _⟩ :: _ => none
theorem kwNames_of : ∀ {kws : List Keyword} {ks : List Str}, kwNames kws = some ks → kws.map kwName = ks.map some
  | [], _, h => by cases h; rfl
  | ⟨some n, v, p⟩ :: r, _, h => by
    unfold kwNames at h
    split at h
    · rename_i ks e
      cases h
      rw [List.map_cons, List.map_cons, kwNames_of e]
      rfl
    · cases h
  | ⟨none, _, _⟩ :: _, _, h => by cases h

def srtShp : Shp := ⟨3, [], [.arg 0, .arg 1, .arg 2]⟩
def okVar (x : Str) : Bool := !(x == ("__debug__" : Str)) && !(x == ("__classdict__" : Str))
def freeIn (sc : Scope) (x : Str) : Bool := match sc.names.lookup x with | some .cell => true | some .free => true | _ => false
theorem freeIn_of {sc : Scope} {x : Str} (h : freeIn sc x = true) : sc.names.lookup x = some .cell ∨ sc.names.lookup x = some .free := by
  unfold freeIn at h
  split at h
  · exact .inl (by assumption)
  · exact .inr (by assumption)
  · cases h
mutual
def ckE (C : Ctx) : Ex → Scope → Expr → Bool
  | .nm i, sc, e => match e with
    | .Name x _ => decide (C.N[i]? = some x) && isVis sc x && !(x == ("__debug__" : Str)) && !(x == ("__classdict__" : Str))
    | _ => false
  | .cI i, _, e => match e with | .Constant (.int j) _ _ => decide (i = j) | _ => false
  | .cB b, _, e => match e with | .Constant (.bool c) _ _ => decide (b = c) | _ => false
  | .cN, _, e => match e with | .Constant .none _ _ => true | _ => false
  | .cS s, _, e => match e with | .Constant (.str t) _ _ => decide (s = t) | _ => false
  | .bin o a b, sc, e => match e with | .BinOp l op r _ => opIs o op && ckE C a sc l && ckE C b sc r | _ => false
  | .neg a, sc, e => match e with | .UnaryOp .USub x _ => ckE C a sc x | _ => false
  | .cmp o a b, sc, e => match e with | .Compare l [op] [r] _ => copIs o op && notSet r && ckE C a sc l && ckE C b sc r | _ => false
  | .cmp2 o p a b c, sc, e => match e with | .Compare l [op, op2] [r, r2] _ => copIs o op && copIs p op2 && notSet r && notSet r2 && ckE C a sc l && ckE C b sc r && ckE C c sc r2 | _ => false
  | .and es, sc, e => match e with | .BoolOp .And vs _ => !vs.isEmpty && ckEs C es sc vs | _ => false
  | .or es, sc, e => match e with | .BoolOp .Or vs _ => !vs.isEmpty && ckEs C es sc vs | _ => false
  | .not a, sc, e => match e with | .UnaryOp .Not x _ => ckE C a sc x | _ => false
  | .ife c a b, sc, e => match e with | .IfExp t x y _ => ckT C c sc t && ckE C a sc x && ckE C b sc y | _ => false
  | .tup es, sc, e => match e with | .Tuple xs _ _ => ckEs C es sc xs | _ => false
  | .lst _ es, sc, e => match e with | .List xs _ => ckEs C es sc xs | _ => false
  | .idx a i, sc, e => match e with | .Subscript v s _ => notSlice s && ckE C a sc v && ckE C i sc s | _ => false
  | .slc _ a lo hi, sc, e => match e with | .Subscript v (.Slice l h none _) _ => ckE C a sc v && ckO C lo sc l && ckO C hi sc h | _ => false
  | .revT a, sc, e => match e with | .Subscript v (.Slice none none (some (.UnaryOp .USub (.Constant (.int j) _ _) _)) _) _ => decide (j = 1) && ckE C a sc v | _ => false
  | .revL _ a, sc, e => match e with | .Subscript v (.Slice none none (some (.UnaryOp .USub (.Constant (.int j) _ _) _)) _) _ => decide (j = 1) && ckE C a sc v | _ => false
  | .blt f es, sc, e => match e with | .Call (.Name x _) xs [] _ => decide (x = f.nm) && decide (x ∈ C.blts) && isGl sc x && !xs.isEmpty && ckEs C es sc xs | _ => false
  | .app o a, sc, e => match e with | .Call (.Attribute v m ap) [x] [] cp => decide (m = ("append" : Str)) && (ap.endLine == cp.line) && baseOk v && notStar x && ckE C o sc v && ckE C a sc x | _ => false
  | .ins o i a, sc, e => match e with | .Call (.Attribute v m ap) [y, x] [] cp => decide (m = ("insert" : Str)) && (ap.endLine == cp.line) && baseOk v && notStar y && notStar x && ckE C o sc v && ckE C i sc y && ckE C a sc x | _ => false
  | .call f np nk sel es ks, sc, e => match e with
    | .Call (.Name x _) xs kws _ => match C.fns[f]?, kwNames kws with
      | some F, some kn => decide (x = F.name) && isGl sc x && !(x == ("__debug__" : Str)) && decide (nk = kn.length) && decide ((⟨np, kn, sel⟩ : Shp) ∈ F.shs) && ckEs C es sc xs && ckKs C ks sc kws
      | _, _ => false
    | _ => false
  | .tupR1 a, sc, e => match e with | .Call (.Name y _) [.Call (.Name x _) [p] [] _] [] _ => decide (y = ("tuple" : Str)) && decide (y ∈ C.blts) && isGl sc y && decide (x = ("range" : Str)) && decide (x ∈ C.blts) && isGl sc x && notStar p && ckE C a sc p | _ => false
  | .tupR2 a b, sc, e => match e with | .Call (.Name y _) [.Call (.Name x _) [p, q] [] _] [] _ => decide (y = ("tuple" : Str)) && decide (y ∈ C.blts) && isGl sc y && decide (x = ("range" : Str)) && decide (x ∈ C.blts) && isGl sc x && notStar p && notStar q && ckE C a sc p && ckE C b sc q | _ => false
  | .lisR1 _ a, sc, e => match e with | .Call (.Name y _) [.Call (.Name x _) [p] [] _] [] _ => decide (y = ("list" : Str)) && decide (y ∈ C.blts) && isGl sc y && decide (x = ("range" : Str)) && decide (x ∈ C.blts) && isGl sc x && notStar p && ckE C a sc p | _ => false
  | .lisR2 _ a b, sc, e => match e with | .Call (.Name y _) [.Call (.Name x _) [p, q] [] _] [] _ => decide (y = ("list" : Str)) && decide (y ∈ C.blts) && isGl sc y && decide (x = ("range" : Str)) && decide (x ∈ C.blts) && isGl sc x && notStar p && notStar q && ckE C a sc p && ckE C b sc q | _ => false
  | .lc _ elt tg it c own, sc, e => match e with
    | .ListComp el [⟨t, i, ifs, as⟩] s2 _ => decide (as = 0) && notSet i && blkC C.N sc s2 own && (tg.slots.all fun j => decide (j ∈ own.map (·.2))) && ckI C it sc t i && ckG C.N s2 tg t && (match ifs with | [] => isYes c | [x] => ckT C c s2 x | _ => false) && ckE C elt s2 el
    | _ => false
  | .srtk a f i j, sc, e => match e with
    | .Call (.Name y _) [x] [⟨some kn, .Lambda ⟨[], [⟨kp, none, _⟩], none, [], [], none, []⟩ (.Call (.Name g _) [.Name u _, .Name v _, .Name k _] [] _) s2 _, _⟩] _ => match C.fns[f]? with
      | some F => C.lam && decide (y = ("sorted" : Str)) && decide (y ∈ C.blts) && isGl sc y && notStar x && decide (kn = ("key" : Str)) && decide (kp = ("k" : Str)) && decide (k = ("k" : Str)) && decide (g = F.name) && isGl s2 g && !(g == ("__debug__" : Str)) && decide (srtShp ∈ F.shs) && decide (C.N[i]? = some u) && decide (C.N[j]? = some v) && okVar u && okVar v && NdefX.nscB [("k" : Str), u, v] [("k" : Str)] [u, v] s2 && freeIn sc u && freeIn sc v && ckE C a sc x
      | none => false
    | _ => false
  | .sset _ a, sc, e => match e with | .Call (.Name y _) [.Call (.Name x _) [p] [] _] [] _ => decide (y = ("sorted" : Str)) && decide (y ∈ C.blts) && isGl sc y && decide (x = ("set" : Str)) && decide (x ∈ C.blts) && isGl sc x && notStar p && ckE C a sc p | _ => false
  | .lset a, sc, e => match e with | .Call (.Name y _) [.Call (.Name x _) [p] [] _] [] _ => decide (y = ("len" : Str)) && decide (y ∈ C.blts) && isGl sc y && decide (x = ("set" : Str)) && decide (x ∈ C.blts) && isGl sc x && notStar p && ckE C a sc p | _ => false
  | .catM a b, sc, e => match e with | .BinOp l .Add r _ => ckE C a sc l && ckE C b sc r | _ => false
  | .ext o a, sc, e => match e with | .Call (.Attribute v m ap) [x] [] cp => decide (m = ("extend" : Str)) && (ap.endLine == cp.line) && baseOk v && notStar x && ckE C o sc v && ckE C a sc x | _ => false
  | .pop o, sc, e => match e with | .Call (.Attribute v m ap) [] [] cp => decide (m = ("pop" : Str)) && (ap.endLine == cp.line) && baseOk v && ckE C o sc v | _ => false
  | .popI o a, sc, e => match e with | .Call (.Attribute v m ap) [x] [] cp => decide (m = ("pop" : Str)) && (ap.endLine == cp.line) && baseOk v && notStar x && ckE C o sc v && ckE C a sc x | _ => false
  | .rem o a, sc, e => match e with | .Call (.Attribute v m ap) [x] [] cp => decide (m = ("remove" : Str)) && (ap.endLine == cp.line) && baseOk v && notStar x && ckE C o sc v && ckE C a sc x | _ => false
  | .cnt o a, sc, e => match e with | .Call (.Attribute v m ap) [x] [] cp => decide (m = ("count" : Str)) && (ap.endLine == cp.line) && baseOk v && notStar x && ckE C o sc v && ckE C a sc x | _ => false
  | .repL _ es a, sc, e => match e with | .BinOp (.List xs _) .Mult r _ => ckEs C es sc xs && ckE C a sc r | _ => false
  | .dnew _, _, e => match e with | .Dict [] [] _ => true | _ => false
  | .dget one a ks, sc, e => match e with | .Subscript v s _ => notSlice s && ckE C a sc v && (match one with | true => ck1 C ks sc s | false => (match s with | .Tuple xs _ _ => ckEs C ks sc xs | _ => false)) | _ => false
  | .dgetE one a ks d, sc, e => match e with | .Call (.Attribute v m ap) [s, x] [] cp => decide (m = ("get" : Str)) && (ap.endLine == cp.line) && baseOk v && notStar s && notStar x && ckE C a sc v && (match one with | true => ck1 C ks sc s | false => (match s with | .Tuple xs _ _ => ckEs C ks sc xs | _ => false)) && ckE C d sc x | _ => false
  | .din neg one ks a, sc, e => match e with | .Compare l [op] [r] _ => (match neg, op with | true, .NotIn => true | false, .In => true | _, _ => false) && notSet r && (match one with | true => ck1 C ks sc l | false => (match l with | .Tuple xs _ _ => ckEs C ks sc xs | _ => false)) && ckE C a sc r | _ => false
  | .dlen a, sc, e => match e with | .Call (.Name x _) [p] [] _ => decide (x = ("len" : Str)) && decide (x ∈ C.blts) && isGl sc x && notStar p && ckE C a sc p | _ => false
  | .dcmp k v tg it c own, sc, e => match e with
    | .DictComp ke ve [⟨t, i, ifs, as⟩] s2 _ => decide (as = 0) && notSet i && blkC C.N sc s2 own && (tg.slots.all fun j => decide (j ∈ own.map (·.2))) && ckI C it sc t i && ckG C.N s2 tg t && (match ifs with | [] => isYes c | [x] => ckT C c s2 x | _ => false) && ckE C k s2 ke && ckE C v s2 ve
    | _ => false
def ck1 (C : Ctx) : Exs → Scope → Expr → Bool
  | .cons x .nil, sc, e => ckE C x sc e
  | _, _, _ => false
def ckEs (C : Ctx) : Exs → Scope → List Expr → Bool
  | .nil, _, [] => true
  | .cons x xs, sc, e :: es => notStar e && ckE C x sc e && ckEs C xs sc es
  | _, _, _ => false
def ckKs (C : Ctx) : Exs → Scope → List Keyword → Bool
  | .nil, _, [] => true
  | .cons x xs, sc, ⟨_, v, _⟩ :: r => ckE C x sc v && ckKs C xs sc r
  | _, _, _ => false
def ckO (C : Ctx) : Exo → Scope → Option Expr → Bool
  | .no, _, none => true
  | .so x, sc, some e => ckE C x sc e
  | _, _, _ => false
def ckT (C : Ctx) : Tx → Scope → Expr → Bool
  | .yes, _, _ => false
  | .cmp o a b, sc, e => match e with | .Compare l [op] [r] _ => copIs o op && notSet r && ckE C a sc l && ckE C b sc r | _ => false
  | .cmp2 o p a b c, sc, e => match e with | .Compare l [op, op2] [r, r2] _ => copIs o op && copIs p op2 && notSet r && notSet r2 && ckE C a sc l && ckE C b sc r && ckE C c sc r2 | _ => false
  | .and ts, sc, e => match e with | .BoolOp .And vs _ => !vs.isEmpty && ckTs C ts sc vs | _ => false
  | .or ts, sc, e => match e with | .BoolOp .Or vs _ => !vs.isEmpty && ckTs C ts sc vs | _ => false
  | .not a, sc, e => match e with | .UnaryOp .Not x _ => ckT C a sc x | _ => false
  | .tr x, sc, e => plainT e && ckE C x sc e
  | .din neg one ks a, sc, e => match e with | .Compare l [op] [r] _ => (match neg, op with | true, .NotIn => true | false, .In => true | _, _ => false) && notSet r && (match one with | true => ck1 C ks sc l | false => (match l with | .Tuple xs _ _ => ckEs C ks sc xs | _ => false)) && ckE C a sc r | _ => false
def ckTs (C : Ctx) : Txs → Scope → List Expr → Bool
  | .nil, _, [] => true
  | .cons t ts, sc, e :: es => ckT C t sc e && ckTs C ts sc es
  | _, _, _ => false
def ckI (C : Ctx) : Itx → Scope → Expr → Expr → Bool
  | .rng1 a, sc, _, e => match e with | .Call (.Name x _) [p] [] _ => decide (x = ("range" : Str)) && decide (x ∈ C.blts) && isGl sc x && notStar p && ckE C a sc p | _ => false
  | .rng2 a b, sc, _, e => match e with | .Call (.Name x _) [p, q] [] _ => decide (x = ("range" : Str)) && decide (x ∈ C.blts) && isGl sc x && notStar p && notStar q && ckE C a sc p && ckE C b sc q | _ => false
  | .seq x, sc, _, e => ckE C x sc e
  | .rvsd a, sc, _, e => match e with | .Call (.Name x _) [p] [] _ => decide (x = ("reversed" : Str)) && decide (x ∈ C.blts) && isGl sc x && notStar p && ckE C a sc p | _ => false
  | .enum a, sc, t, e => (match t with | .Tuple _ _ _ => true | _ => false) && (match e with | .Call (.Name x _) [p] [] _ => decide (x = ("enumerate" : Str)) && decide (x ∈ C.blts) && isGl sc x && notStar p && ckE C a sc p | _ => false)
  | .zip a b, sc, t, e => (match t with | .Tuple _ _ _ => true | _ => false) && (match e with | .Call (.Name x _) [p, q] [] _ => decide (x = ("zip" : Str)) && decide (x ∈ C.blts) && isGl sc x && notStar p && notStar q && ckE C a sc p && ckE C b sc q | _ => false)
end

/-! ### a comprehension's block -/
theorem relab_free {sc : Scope} {names : List (Str × NameKind)} {x : Str} (h : names.lookup x = some .free) :
    (names.map fun (n, k) => if (k == NameKind.free && sc.kind == .function && sc.names.lookup n == some .cell) then (n, NameKind.cell) else (n, k)).lookup x = some .cell ∨
    (names.map fun (n, k) => if (k == NameKind.free && sc.kind == .function && sc.names.lookup n == some .cell) then (n, NameKind.cell) else (n, k)).lookup x = some .free := by
  induction names with
  | nil => cases h
  | cons p r ih =>
    obtain ⟨n, k⟩ := p
    cases hx : x == n with
    | true =>
      simp only [List.lookup_cons, hx] at h
      cases h
      cases hc : (NameKind.free == NameKind.free && sc.kind == .function && sc.names.lookup n == some .cell) with
      | true => left; simp only [List.map_cons, hc, if_true, List.lookup_cons, hx]
      | false => right; simp only [List.map_cons, hc, Bool.false_eq_true, if_false, List.lookup_cons, hx]
    | false =>
      simp only [List.lookup_cons, hx] at h
      cases hc : (k == NameKind.free && sc.kind == .function && sc.names.lookup n == some .cell) with
      | true => simp only [List.map_cons, hc, if_true, List.lookup_cons, hx]; exact ih h
      | false => simp only [List.map_cons, hc, Bool.false_eq_true, if_false, List.lookup_cons, hx]; exact ih h
section
variable {C : Ctx} {X : Cx} {n : Nat} {call : CallF} {sc : Scope}
theorem blkOk_of (c : Cok C X n call sc) {s2 : Scope} {own : List (Str × Nat)} (h : blkC C.N sc s2 own = true) : BlkOk X.N X.env.scope s2 own := by
  have b := blkOk_by h
  rw [c.N]
  exact ⟨b.kind, b.uniq, b.ix, fun y hy e => c.fre _ (b.free y hy e), b.own⟩
theorem Cok.blk (c : Cok C X n call sc) {s2 : Scope} {own : List (Str × Nat)} (b : BlkOk X.N X.env.scope s2 own) (s : Shared) (H : Hp) (A : Addr) (cl : List (Str × Addr)) (fp : List Addr) :
    Cok C (X.blk s H s2 (compEnvC s2 cl A X.env) fp) n call s2 where
  N := c.N
  nd := c.nd
  calm := c.calm
  xe := rfl
  room := c.room
  guards := c.guards
  kind := b.kind
  gl := fun x h => lookup_relS_keep (sc := X.env.scope) (by decide) h
  vis := fun x h => by
    rcases h with h | h | h
    · exact .inl (lookup_relS_keep (sc := X.env.scope) (by decide) h)
    · exact .inr (.inl (lookup_relS_keep (sc := X.env.scope) (by decide) h))
    · exact .inr (relab_free (sc := X.env.scope) h)
  loc := fun x h => lookup_relS_keep (sc := X.env.scope) (by decide) h
  sto := fun x h => by
    rcases h with h | h
    · exact ⟨.inl (lookup_relS_keep (sc := X.env.scope) (by decide) h), .inr (lookup_relS_keep (sc := X.env.scope) (by decide) h)⟩
    · refine ⟨.inr (lookup_relS_keep (sc := X.env.scope) (by decide) h), .inl ?_⟩
      show (s2.names.lookup x == some NameKind.cell) = true
      rw [h]
      rfl
  fre := fun x h => by
    rcases h with h | h
    · exact .inl (lookup_relS_keep (sc := X.env.scope) (by decide) h)
    · exact relab_free (sc := X.env.scope) h
  blt := c.blt
  dfl := c.dfl
  fns := fun f F h => ⟨(c.fns f F h).ex⟩
  lam := c.lam

/-! ### one rule a form -/
variable {f g h : RF D} {e l r : Expr} {pos pos2 : Pos}
theorem k_nm (c : Cok C X n call sc) {i : Nat} {x : Str} (h1 : C.N[i]? = some x) (h2 : isVis sc x = true) (h3 : (x == ("__debug__" : Str)) = false) (h4 : (x == ("__classdict__" : Str)) = false) : PE X (.Name x pos) (TXe X.K (vr i)) := by
  refine PE.of (pe_var (i := i) (by rw [c.N]; exact h1) (c.vis x (isVis_of h2)) h3 h4) fun sg H Q w => ?_
  obtain ⟨rho, env, st, d, st', hE, hS, hf, k⟩ := w
  unfold vr at hf
  split at hf
  · rename_i d' hd
    cases hf
    obtain ⟨v, hv, rv⟩ := hE.at_ i _ hd
    exact ⟨v, hv, k rho H v (.refl _ _) hS rv⟩
  · cases hf
theorem tx_cst {K : PySem.W.Frag} {d : D} {sg : L2.St} {H : Hp} {Q : VK} (hd : d.scal = true) (w : TXe K (cst d) sg H Q) : Q d.sv H := by
  obtain ⟨rho, env, st, x, st', hE, hS, hf, k⟩ := w
  cases hf
  exact k rho H _ (.refl _ _) hS (Rep.scal hd)
theorem k_bin {o : BOp} (ha : PE X l (TXe X.K f)) (hb : PE X r (TXe X.K g)) : PE X (.BinOp l o.py r pos) (TXe X.K (b2 f g (bop o))) :=
  PE.of (pe_op (op_bop o) ha hb) fun sg H Q w => tx_b2 (K := X.K) mono_rep (RD2 X.K (bop o)) (fun rho H st x u y v z st' S rx ry e k => ⟨rho, st, x, y, z, st', S, rx, ry, e, k⟩) w
theorem k_neg (ha : PE X e (TXe X.K f)) : PE X (.UnaryOp .USub e pos) (TXe X.K (b1 f negD)) :=
  PE.of (pe_un un_negD ha) fun sg H Q w => tx_b1 (K := X.K) (RD1 X.K negD) (fun rho H st x u z st' S rx e k => ⟨rho, st, x, z, st', S, rx, e, k⟩) w
theorem k_cmp (c : Cok C X n call sc) {o : COp} (hs : notSet r = true) (ha : PE X l (TXe X.K f)) (hb : PE X r (TXe X.K g)) : PE X (.Compare l [o.py] [r] pos) (TXe X.K (b2 f g (copV o))) :=
  PE.of (pe_cmpR (op_copV (by have := c.units; omega) o) ha hb (mark_of hs)) fun sg H Q w => tx_b2 (K := X.K) mono_rep (RD2 X.K (copV o)) (fun rho H st x u y v z st' S rx ry e k => ⟨rho, st, x, y, z, st', S, rx, ry, e, k⟩) w
theorem k_cmpT (c : Cok C X n call sc) {o : COp} (hs : notSet r = true) (ha : PE X l (TXe X.K f)) (hb : PE X r (TXe X.K g)) : PT X (.Compare l [o.py] [r] pos) (TXt X.K (b2 f g (copT o))) :=
  PT.of (pt_cmpR (op_copV (by have := c.units; omega) o) ha hb (mark_of hs)) fun sg H Q w => by
    refine tx_b2 (K := X.K) (rc := fun _ _ b c => b = c) (Q := Q) mono_rep (fun u v H1 Q1 => RD2 X.K (copV o) u v H1 fun x H2 => ∃ k, x = V.bl k ∧ Q1 k H2) (fun rho H st x u y v z st' S rx ry e k => ?_) w
    unfold copT at e
    split at e
    · rename_i b hb
      cases e
      refine ⟨rho, st, x, y, .bl z, st, S, rx, ry, by unfold copV; rw [hb], fun rho1 H1 v1 x1 S1 r1 => ?_⟩
      cases r1
      exact ⟨z, rfl, k rho1 H1 z x1 S1 rfl⟩
    · cases e
theorem ch_marks {o p : CmpOp} {b c : Expr} (h : notSet c = true) : lastMarks [o, p] [b, c] = false := by
  show behindInMarks p c = false
  exact mark_of h
theorem tx_ch {o p : COp} {sg : L2.St} {H : Hp} {Q : VK} (w : TXe X.K (bCh o p f g h) sg H Q) : tChain (RD2 X.K (copV o)) (RD2 X.K (copV p)) (TXe X.K f) (TXe X.K g) (TXe X.K h) sg H Q := by
  obtain ⟨rho, env, st, d, st', hE, hS, hf, k⟩ := w
  unfold bCh at hf
  split at hf
  case h_2 => cases hf
  rename_i x s1 e1
  split at hf
  case h_2 => cases hf
  rename_i y s2 e2
  refine ⟨rho, env, st, x, s1, hE, hS, e1, fun rho1 H1 u x1 S1 r1 => ⟨rho1, env, s1, y, s2, hE.ext hS.trk x1, S1, e2, fun rho2 H2 v x2 S2 r2 => ?_⟩⟩
  have hE2 := (hE.ext hS.trk x1).ext S1.trk x2
  split at hf
  · rename_i ec
    refine ⟨rho2, s2, x, y, .bl true, s2, S2, mono_rep _ _ _ _ _ _ S1.trk x2 r1, r2, by unfold copV; rw [ec], fun rho3 H3 z x3 S3 r3 => ?_⟩
    cases r3
    refine ⟨true, rfl, (if_pos rfl).mpr ?_⟩
    split at hf
    case h_2 => cases hf
    rename_i z s3 e3
    refine ⟨rho3, env, s2, z, s3, hE2.ext S2.trk x3, S3, e3, fun rho4 H4 w x4 S4 r4 => ?_⟩
    have r2' := mono_rep _ _ _ _ _ _ S3.trk x4 (mono_rep _ _ _ _ _ _ S2.trk x3 r2)
    exact ⟨rho4, s3, y, z, d, st', S4, r2', r4, hf, fun rho5 H5 q x5 S5 r5 => k rho5 H5 q (((x1.trans x2).trans x3).trans (x4.trans x5)) S5 r5⟩
  · rename_i ec
    cases hf
    refine ⟨rho2, st', x, y, .bl false, st', S2, mono_rep _ _ _ _ _ _ S1.trk x2 r1, r2, by unfold copV; rw [ec], fun rho3 H3 z x3 S3 r3 => ?_⟩
    cases r3
    exact ⟨false, rfl, (if_neg Bool.false_ne_true).mpr (k rho3 H3 _ ((x1.trans x2).trans x3) S3 (.bl _))⟩
  · cases hf
theorem k_ch (c : Cok C X n call sc) {o p : COp} {r2 : Expr} (hs : notSet r2 = true) (ha : PE X l (TXe X.K f)) (hb : PE X r (TXe X.K g)) (hc : PE X r2 (TXe X.K h)) : PE X (.Compare l [o.py, p.py] [r, r2] pos) (TXe X.K (bCh o p f g h)) :=
  PE.of (pe_chain (op_copV (by have := c.units; omega) o) (op_copV (by have := c.units; omega) p) ha hb hc (ch_marks hs)) fun sg H Q w => tx_ch w
theorem tx_truT {F : RF D} {sg : L2.St} {H : Hp} {Q : Bool → Hp → Prop} (hF : ∀ env st d st', F env st = some (d, st') → ∃ b, d = .bl b) (w : TXt X.K (b1 F truT) sg H Q) : TXe X.K F sg H fun x H2 => ∃ k, x = V.bl k ∧ Q k H2 := by
  obtain ⟨rho, env, st, d, st', hE, hS, hf, k⟩ := w
  unfold b1 at hf
  split at hf
  case h_2 => cases hf
  rename_i x s1 e1
  obtain ⟨b, rfl⟩ := hF _ _ _ _ e1
  cases hf
  refine ⟨rho, env, st, _, st', hE, hS, e1, fun rho1 H1 u x1 S1 r1 => ?_⟩
  cases r1
  exact ⟨_, rfl, k rho1 H1 _ x1 S1 rfl⟩
theorem copV_bl {o : COp} {x y d : D} {st st' : Store} (e : copV o x y st = some (d, st')) : ∃ b, d = .bl b := by
  unfold copV at e
  split at e
  · cases e; exact ⟨_, rfl⟩
  · cases e
theorem bCh_bl {o p : COp} : ∀ env st d st', bCh o p f g h env st = some (d, st') → ∃ b, d = .bl b := by
  intro env st d st' hf
  unfold bCh at hf
  repeat' split at hf
  all_goals first
    | cases hf; done
    | exact copV_bl hf
    | (cases hf; exact ⟨_, rfl⟩)
theorem k_chT (c : Cok C X n call sc) {o p : COp} {r2 : Expr} (hs : notSet r2 = true) (ha : PE X l (TXe X.K f)) (hb : PE X r (TXe X.K g)) (hc : PE X r2 (TXe X.K h)) : PT X (.Compare l [o.py, p.py] [r, r2] pos) (TXt X.K (b1 (bCh o p f g h) truT)) :=
  PT.of (pt_chain (op_copV (by have := c.units; omega) o) (op_copV (by have := c.units; omega) p) ha hb hc (ch_marks hs)) fun sg H Q w => tx_ch (tx_truT bCh_bl w)
theorem k_and {v : Expr} {vs : List Expr} {w0 : Expr} (ha : PE X v (TXe X.K f)) (hb : PE X (.BoolOp .And (w0 :: vs) pos) (TXe X.K g)) : PE X (.BoolOp .And (v :: w0 :: vs) pos) (TXe X.K (bAnd f g)) :=
  PE.of (pe_andT ha hb) fun sg H Q w => by
    obtain ⟨rho, env, st, z, st', hE, hS, hf, hQ⟩ := w
    unfold bAnd at hf
    split at hf
    case h_2 => cases hf
    rename_i x s1 e1
    refine ⟨rho, env, st, x, s1, hE, hS, e1, fun rho1 H1 u x1 S1 r1 => ?_⟩
    split at hf
    · rename_i et
      exact ⟨true, tru_rep S1 r1 et, iteT ⟨rho1, env, s1, z, st', hE.ext hS.trk x1, S1, hf, fun rho2 H2 v x2 S2 r2 => hQ rho2 H2 v (x1.trans x2) S2 r2⟩⟩
    · rename_i et
      cases hf
      exact ⟨false, tru_rep S1 r1 et, iteF (hQ rho1 H1 u x1 S1 r1)⟩
    · cases hf
theorem k_or {v : Expr} {vs : List Expr} {w0 : Expr} (ha : PE X v (TXe X.K f)) (hb : PE X (.BoolOp .Or (w0 :: vs) pos) (TXe X.K g)) : PE X (.BoolOp .Or (v :: w0 :: vs) pos) (TXe X.K (bOr f g)) :=
  PE.of (pe_orT ha hb) fun sg H Q w => by
    obtain ⟨rho, env, st, z, st', hE, hS, hf, hQ⟩ := w
    unfold bOr at hf
    split at hf
    case h_2 => cases hf
    rename_i x s1 e1
    refine ⟨rho, env, st, x, s1, hE, hS, e1, fun rho1 H1 u x1 S1 r1 => ?_⟩
    split at hf
    · rename_i et
      cases hf
      exact ⟨true, tru_rep S1 r1 et, iteT (hQ rho1 H1 u x1 S1 r1)⟩
    · rename_i et
      exact ⟨false, tru_rep S1 r1 et, iteF ⟨rho1, env, s1, z, st', hE.ext hS.trk x1, S1, hf, fun rho2 H2 v x2 S2 r2 => hQ rho2 H2 v (x1.trans x2) S2 r2⟩⟩
    · cases hf
theorem k_not (ha : PE X e (TXe X.K f)) : PE X (.UnaryOp .Not e pos) (TXe X.K (b1 f notV)) :=
  PE.of (pe_notT ha) fun sg H Q w => tx_b1 (K := X.K) (fun u H1 Q1 => ∃ k, TruV X.K u H1 k ∧ Q1 (V.bl (!k)) H1) (fun rho H st x u z st' S rx e k => by
    unfold notV at e
    split at e
    · rename_i b hb
      cases e
      exact ⟨b, tru_rep S rx hb, k.same S (.bl _)⟩
    · cases e) w
theorem k_ife {t : Expr} {cf : RF Bool} (hc : PT X t (TXt X.K cf)) (ha : PE X l (TXe X.K f)) (hb : PE X r (TXe X.K g)) : PE X (.IfExp t l r pos) (TXe X.K (bIf cf f g)) :=
  PE.of (pe_ifExp hc ha hb) fun sg H Q w => tx_if w
theorem k_tup {es : List Expr} {fs : RF (List D)} {k : Nat} (ha : PA X es (TXa X.K fs)) : PE X (.Tuple es k pos) (TXe X.K (b1 fs tupD)) :=
  PE.of (pe_tup ha) fun sg H Q w => tx_b1 (K := X.K) (ra := RepL X.K) (fun us H1 Q1 => us.length ≤ sizeLine ∧ ∀ p, H1 p = none → Q1 (V.ref p) (upd H1 p (.tup us))) (fun rho H st x u z st' S rx e k => by
    unfold tupD at e
    split at e
    · rename_i hl
      cases e
      exact ⟨by rw [← rx.length, ← sizeSL]; exact hl, fun p hp => k.newT S rx hp⟩
    · cases e) w
theorem k_lst {es : List Expr} {fs : RF (List D)} {mat : Bool} (ha : PA X es (TXa X.K fs)) : PE X (.List es pos) (TXe X.K (b1 fs (lstD mat))) :=
  PE.of (pe_lst ha) fun sg H Q w => tx_b1 (K := X.K) (ra := RepL X.K) (fun us H1 Q1 => us.length ≤ sizeLine ∧ ∀ p, H1 p = none → Q1 (V.ref p) (upd H1 p (.lst us))) (fun rho H st x u z st' S rx e k => by
    unfold lstD at e
    split at e
    · rename_i hl
      exact ⟨by rw [← rx.length, ← sizeSL]; exact hl, fun p hp => k.newL S rx e hp⟩
    · cases e) w
theorem k_catM (ha : PE X l (TXe X.K f)) (hb : PE X r (TXe X.K g)) : PE X (.BinOp l .Add r pos) (TXe X.K (b2 f g catLM)) :=
  PE.of (pe_op op_catLM ha hb) fun sg H Q w => tx_b2 (K := X.K) mono_rep (RD2 X.K catLM) (fun rho H st x u y v z st' S rx ry e k => ⟨rho, st, x, y, z, st', S, rx, ry, e, k⟩) w
/-- a list just made -/
def RepF (K : PySem.W.Frag) (rho : Rho) (H : Hp) (d : D) (v : V) : Prop := ∃ (ds : List D) (vs : List V) (a : Addr), d = .lst ds ∧ v = .ref a ∧ H a = some (.lst vs) ∧ ¬ rho.m a ∧ RepL K rho H ds vs
theorem mono_repF {K : PySem.W.Frag} : Mono (RepF K) := fun rho H rho' H' x v t e r => by
  obtain ⟨ds, vs, a, rfl, rfl, h, hm, rl⟩ := r
  refine ⟨ds, vs, a, rfl, rfl, e.keep a _ (fun z => hm (rho.sub a z)) nt_lst h, fun z => ?_, rl.ext t e⟩
  rcases e.new a z with z | z
  · exact hm z
  · exact z.no h nt_lst
theorem k_lstF {es : List Expr} {fs : RF (List D)} (ha : PA X es (TXa X.K fs)) : PE X (.List es pos) (TXg X.K (RepF X.K) (b1 fs (lstD false))) :=
  PE.of (pe_lst ha) fun sg H Q w => tx_b1 (K := X.K) (ra := RepL X.K) (rb := RepF X.K) (fun us H1 Q1 => us.length ≤ sizeLine ∧ ∀ p, H1 p = none → Q1 (V.ref p) (upd H1 p (.lst us))) (fun rho H st x u z st' S rx e k => by
    unfold lstD at e
    split at e
    · rename_i hl
      cases e
      exact ⟨by rw [← rx.length, ← sizeSL]; exact hl, fun p hp => k rho _ _ (Ext.tmp hp) (S.tmp hp) ⟨_, _, p, rfl, rfl, upd_same, S.not_m hp, rx.ext S.trk (Ext.tmp hp)⟩⟩
    · cases e) w
theorem k_repL {mat : Bool} {es : List Expr} {fs : RF (List D)} (ha : PA X es (TXa X.K fs)) (hb : PE X r (TXe X.K g)) : PE X (.BinOp (.List es pos2) .Mult r pos) (TXe X.K (b2 (b1 fs (lstD false)) g (repD mat))) :=
  PE.of (pe_op op_rep (k_lstF ha) hb) fun sg H Q w => tx_b2 (K := X.K) (ra := RepF X.K) mono_repF rRep (fun rho H st x u y v z st' S rx ry e k => by
    obtain ⟨ds, vs, a, rfl, rfl, h, hm, rl⟩ := rx
    unfold repD at e
    split at e
    · rename_i ds' i e0
      cases e0
      split at e
      · rename_i hc
        cases ry
        have hl := rl.length
        refine ⟨a, i, vs, rfl, rfl, h, by omega, by omega, ?_, fun p hp => k.newL (mat := mat) S (rl.flat _) e hp⟩
        have h1 : vs.length * i.toNat ≤ 1000 * 1000 := Nat.mul_le_mul (by omega) (by omega)
        rw [← sizeSL]
        unfold SL
        omega
      · cases e
    · cases e) w
theorem k_idx (hs : notSlice r = true) (ha : PE X l (TXe X.K f)) (hb : PE X r (TXe X.K g)) : PE X (.Subscript l r pos) (TXe X.K (b2 f g idx)) :=
  PE.of (pe_ix ix_D ha hb (plain_ix hs)) fun sg H Q w => tx_b2 (K := X.K) mono_rep (RD2 X.K idx) (fun rho H st x u y v z st' S rx ry e k => ⟨rho, st, x, y, z, st', S, rx, ry, e, k⟩) w
/-- tuple(range(..)), list(range(..)) -/
theorem rgV_rep {K : PySem.W.Frag} {rho : Rho} {H : Hp} (i j : Int) : RepL K rho H (rngD i (j - i).toNat) (rgV i j) := by
  unfold rngD rgV
  induction List.range (j - i).toNat with
  | nil => exact .nil
  | cons x xs ih => exact .cons (.int _) ih
theorem rg_ok {i j : Int} (h : RgD i j) : RgOk i j := by
  unfold RgD at h
  exact ⟨h.1, h.2.1, h.2.2.1, h.2.2.2.1, by omega⟩
section
variable {p p2 : Pos}
theorem k_tupR1 (c : Cok C X n call sc) (hg : Gl X "tuple") (hm : X.mg "tuple" = none) (hg2 : Gl X "range") (hm2 : X.mg "range" = none) (hs : notStar e = true) (ha : PE X e (TXe X.K f)) : PE X (.Call (.Name "tuple" p) [.Call (.Name "range" p2) [e] [] pos] [] pos2) (TXe X.K (b1 f tupR1)) := by
  refine PE.of (pe_tupRg c.calm hg hm (prg_1 hg2 hm2 ha (star_cons hs))) fun sg H Q w => ?_
  refine tx_b1 (K := X.K) (fun u H1 Q1 => ∃ n, u = V.int n ∧ (RgOk 0 n ∧ ∀ q, H1 q = none → Q1 (.ref q) (upd H1 q (.tup (rgV 0 n))))) (fun rho H st x u z st' S rx ho k => ?_) w
  unfold tupR1 at ho
  split at ho
  · rename_i j
    split at ho
    · rename_i hb
      cases ho
      cases rx
      exact ⟨j, rfl, rg_ok hb, fun q hq => k.newT S (by simpa using rgV_rep 0 j) hq⟩
    · cases ho
  · cases ho
theorem k_tupR2 (c : Cok C X n call sc) (hg : Gl X "tuple") (hm : X.mg "tuple" = none) (hg2 : Gl X "range") (hm2 : X.mg "range" = none) (hs : notStar l = true) (hs2 : notStar r = true) (ha : PE X l (TXe X.K f)) (hb : PE X r (TXe X.K g)) : PE X (.Call (.Name "tuple" p) [.Call (.Name "range" p2) [l, r] [] pos] [] pos2) (TXe X.K (b2 f g tupR2)) := by
  refine PE.of (pe_tupRg c.calm hg hm (prg_2 hg2 hm2 ha hb (star_cons hs) (star_cons hs2) (by rw [star_cons hs2]; rfl))) fun sg H Q w => ?_
  refine tx_b2 (K := X.K) mono_rep (fun u v H1 Q1 => ∃ i j, u = V.int i ∧ v = V.int j ∧ (RgOk i j ∧ ∀ q, H1 q = none → Q1 (.ref q) (upd H1 q (.tup (rgV i j))))) (fun rho H st x u y v z st' S rx ry ho k => ?_) w
  unfold tupR2 at ho
  split at ho
  · rename_i i j
    split at ho
    · rename_i hb
      cases ho
      cases rx
      cases ry
      exact ⟨i, j, rfl, rfl, rg_ok hb, fun q hq => k.newT S (rgV_rep i j) hq⟩
    · cases ho
  · cases ho
theorem k_lisR1 {mat : Bool} (c : Cok C X n call sc) (hg : Gl X "list") (hm : X.mg "list" = none) (hg2 : Gl X "range") (hm2 : X.mg "range" = none) (hs : notStar e = true) (ha : PE X e (TXe X.K f)) : PE X (.Call (.Name "list" p) [.Call (.Name "range" p2) [e] [] pos] [] pos2) (TXe X.K (b1 f (lisR1 mat))) := by
  refine PE.of (pe_listRg c.calm hg hm (prg_1 hg2 hm2 ha (star_cons hs))) fun sg H Q w => ?_
  refine tx_b1 (K := X.K) (fun u H1 Q1 => ∃ n, u = V.int n ∧ (RgOk 0 n ∧ ∀ q, H1 q = none → Q1 (.ref q) (upd H1 q (.lst (rgV 0 n))))) (fun rho H st x u z st' S rx ho k => ?_) w
  unfold lisR1 at ho
  split at ho
  · rename_i j
    split at ho
    · rename_i hb
      cases rx
      exact ⟨j, rfl, rg_ok hb, fun q hq => k.newL S (by simpa using rgV_rep 0 j) ho hq⟩
    · cases ho
  · cases ho
theorem k_lisR2 {mat : Bool} (c : Cok C X n call sc) (hg : Gl X "list") (hm : X.mg "list" = none) (hg2 : Gl X "range") (hm2 : X.mg "range" = none) (hs : notStar l = true) (hs2 : notStar r = true) (ha : PE X l (TXe X.K f)) (hb : PE X r (TXe X.K g)) : PE X (.Call (.Name "list" p) [.Call (.Name "range" p2) [l, r] [] pos] [] pos2) (TXe X.K (b2 f g (lisR2 mat))) := by
  refine PE.of (pe_listRg c.calm hg hm (prg_2 hg2 hm2 ha hb (star_cons hs) (star_cons hs2) (by rw [star_cons hs2]; rfl))) fun sg H Q w => ?_
  refine tx_b2 (K := X.K) mono_rep (fun u v H1 Q1 => ∃ i j, u = V.int i ∧ v = V.int j ∧ (RgOk i j ∧ ∀ q, H1 q = none → Q1 (.ref q) (upd H1 q (.lst (rgV i j))))) (fun rho H st x u y v z st' S rx ry ho k => ?_) w
  unfold lisR2 at ho
  split at ho
  · rename_i i j
    split at ho
    · rename_i hb
      cases rx
      cases ry
      exact ⟨i, j, rfl, rfl, rg_ok hb, fun q hq => k.newL S (rgV_rep i j) ho hq⟩
    · cases ho
  · cases ho
end
/-- a part of a slice -/
abbrev TXo (K : PySem.W.Frag) (f : RF (Option Int)) : TO := TXg K (fun _ _ b c => b = c) f
theorem mono_eq {α : Type} : Mono (fun (_ : Rho) (_ : Hp) (b c : α) => b = c) := fun _ _ _ _ _ _ _ _ r => r
theorem k_slc {mat : Bool} {fl fh : RF (Option Int)} {lo hi : Option Expr} {p2 : Pos} (ha : PE X l (TXe X.K f)) (hl : PO X lo (TXo X.K fl)) (hh : PO X hi (TXo X.K fh)) : PE X (.Subscript l (.Slice lo hi none p2) pos) (TXe X.K (b3 f fl fh (slc mat))) :=
  PE.of (pe_slice (sl_D mat) ha hl hh) fun sg H Q w => tx_b3 (K := X.K) mono_rep mono_eq (RDs X.K mat) (fun rho H st x u y v t q z st' S rx ry rt e k => by
    cases ry; cases rt
    exact ⟨rho, st, x, z, st', S, rx, e, k⟩) w
theorem k_no : PO X none (TXo X.K fun _ st => some (none, st)) := PO.of po_none fun sg H Q w => by
  obtain ⟨rho, env, st, x, st', hE, hS, hf, k⟩ := w
  cases hf
  exact k rho H none (.refl _ _) hS rfl
theorem k_so (ha : PE X e (TXe X.K f)) : PO X (some e) (TXo X.K (b1 f intO)) := PO.of (po_some ha) fun sg H Q w =>
  tx_b1 (K := X.K) (rb := fun _ _ b c => b = c) (fun u H1 Q1 => ∃ i, u = V.int i ∧ Q1 (some i) H1) (fun rho H st x u z st' S rx e k => by
    unfold intO at e
    split at e
    · rename_i i
      cases e
      cases rx
      exact ⟨i, rfl, k rho H _ (.refl _ _) S rfl⟩
    · cases e) w
theorem k_revT {k : Nat} {p1 p2 p3 : Pos} (ha : PE X e (TXe X.K f)) : PE X (.Subscript e (.Slice none none (some (.UnaryOp .USub (.Constant (.int 1) k p1) p2)) p3) pos) (TXe X.K (b1 f revT)) :=
  PE.of (pe_revT ha) fun sg H Q w => tx_b1 (K := X.K) (fun u H1 Q1 => ∃ a xs, u = V.ref a ∧ SqT X.K H1 a xs ∧ ∀ p, H1 p = none → Q1 (V.ref p) (upd H1 p (.tup xs.reverse))) (fun rho H st x u z st' S rx e k => by
    unfold revT at e
    split at e
    · cases e
      cases rx with
      | tup hs rl => exact ⟨_, _, rfl, hs, fun p hp => k.newT S rl.reverse hp⟩
    · cases e) w
theorem k_revL {mat : Bool} {k : Nat} {p1 p2 p3 : Pos} (ha : PE X e (TXe X.K f)) : PE X (.Subscript e (.Slice none none (some (.UnaryOp .USub (.Constant (.int 1) k p1) p2)) p3) pos) (TXe X.K (b1 f (revL mat))) :=
  PE.of (pe_revL ha) fun sg H Q w => tx_b1 (K := X.K) (fun u H1 Q1 => ∃ a xs, u = V.ref a ∧ SqL X.K H1 a xs ∧ ∀ p, H1 p = none → Q1 (V.ref p) (upd H1 p (.lst xs.reverse))) (fun rho H st x u z st' S rx e k => by
    unfold revL at e
    split at e
    · rename_i ds hd
      obtain ⟨a, vs, rfl, hsq, rl⟩ := lst_rep S rx hd
      exact ⟨a, vs, rfl, hsq, fun p hp => k.newL S rl.reverse e hp⟩
    · cases e) w
theorem k_blt (c : Cok C X n call sc) (b : Blt) {p : Pos} {es : List Expr} {fs : RF (List D)} (hx : b.nm ∈ C.blts) (hg : isGl sc b.nm = true) (hst : (e :: es).all notStar = true) (ha : PA X (e :: es) (TXa X.K fs)) : PE X (.Call (.Name b.nm p) (e :: es) [] pos) (TXe X.K (b1 fs (bltin b))) := by
  have hgl := c.gl _ (isGl_of hg)
  have hm := c.blt _ hx
  obtain ⟨n1, n2⟩ := blt_ne b
  rw [List.all_cons, Bool.and_eq_true] at hst
  have w0 : ∀ sg H Q, TXe X.K (b1 fs (bltin b)) sg H Q → tCB (RDa X.K (bltin b)) (TXa X.K fs) sg H Q := fun sg H Q w => tx_b1 (K := X.K) (ra := RepL X.K) (RDa X.K (bltin b)) (fun rho H st x u z st' S rx e k => ⟨rho, st, x, z, st', S, rx, e, k⟩) w
  have rule := call_blt (X := X) c.guards c.units c.calm b
  have hb := blt_boot b
  have fin : ∀ v, v = b.val → (∃ id, v = .builtin id) ∨ (∃ T, v = .type T) := by intro v e; subst e; cases b <;> first | exact .inl ⟨_, rfl⟩ | exact .inr ⟨_, rfl⟩
  rcases fin _ rfl with ⟨id, e1⟩ | ⟨T, e1⟩
  · rw [e1] at rule hb
    exact PE.of (pe_callB rule hgl hm hb ha n1 n2 (star_cons hst.1) (star_any hst.2)) w0
  · rw [e1] at rule hb
    exact PE.of (pe_callTy rule hgl hm hb ha n1 n2 (star_cons hst.1) (star_any hst.2)) w0
theorem tx_asL {K : PySem.W.Frag} {sg : L2.St} {H : Hp} {Q : VK} (w : TXe K (b1 f asL) sg H Q) : TXe K f sg H fun u H1 => (∃ a xs, u = V.ref a ∧ H1 a = some (.lst xs)) ∧ Q u H1 :=
  tx_b1 (K := K) (fun u H1 Q1 => (∃ a xs, u = V.ref a ∧ H1 a = some (.lst xs)) ∧ Q1 u H1) (fun rho H st x u z st' S rx e k => by
    unfold asL at e
    split at e
    · rename_i m
      split at e
      · rename_i ds e2
        cases e
        obtain ⟨a, vs, rfl, hr, h1, rl⟩ := S.at rx e2
        exact ⟨⟨a, vs, rfl, h1⟩, k.same S rx⟩
      · cases e
    · cases e) w
theorem k_app {o x : Expr} {ap : Pos} (hl : (ap.endLine == pos.line) = true) (hb : baseOk o = true) (hs : notStar x = true) (ho : PE X o (TXe X.K f)) (hx : PE X x (TXe X.K g)) : PE X (.Call (.Attribute o "append" ap) [x] [] pos) (TXe X.K (b2 (b1 f asL) g appD)) := by
  refine PE.of (pe_bm PySem.F.plainAttrs_list PySem.F.slot_list_append PySem.F.type_list_append mt_append ho (pa_cons hx pa_nil (star_cons hs)) (base_of hb) (by rw [star_cons hs]; rfl) hl (star_cons hs) rfl) fun sg H Q w => ?_
  have w := tx_b2 (K := X.K) mono_rep (fun u v H1 Q1 => ∃ (rho : Rho) (st : Store) (x y z : D) (st' : Store), StoreRep X.K rho H1 st ∧ Rep X.K rho H1 x u ∧ Rep X.K rho H1 y v ∧ appD x y st = some (z, st') ∧ Kn X.K (Rep X.K) rho H1 z st' Q1)
    (fun rho H st x u y v z st' S rx ry e k => ⟨rho, st, x, y, z, st', S, rx, ry, e, k⟩) w
  have w := tx_asL w
  obtain ⟨rho, env, st, d, st', hE, hS, hf, k⟩ := w
  refine ⟨rho, env, st, d, st', hE, hS, hf, fun rho1 H1 u x1 S1 r1 => ?_⟩
  obtain ⟨⟨a, xs, rfl, ha⟩, q⟩ := k rho1 H1 u x1 S1 r1
  refine ⟨.inl ⟨rfl, _, SqL.of ha⟩, ?_⟩
  obtain ⟨rho2, env2, st2, d2, st2', hE2, hS2, hf2, k2⟩ := q
  refine ⟨rho2, env2, st2, d2, st2', hE2, hS2, hf2, fun rho3 H3 v x3 S3 r3 => ?_⟩
  obtain ⟨rho4, st4, y, t, z, st4', S4, ry, rt, e, kk⟩ := k2 rho3 H3 v x3 S3 r3
  unfold appD at e
  split at e
  · rename_i m
    split at e
    · rename_i ds e2
      split at e
      · rename_i hlt
        cases e
        obtain ⟨a', vs, ea, hr, h1, rl⟩ := S4.at ry e2
        cases ea
        refine ⟨a, vs, v, rfl, rfl, h1, by rw [← rl.length, ← sizeSL]; exact hlt, ?_⟩
        have hmem := List.mem_of_getElem? hr
        exact kk rho4 _ _ (Ext.wr hmem) (S4.set hr (rl.append (.cons rt .nil))) .non
      · cases e
    · cases e
  · cases e
theorem k_ins {o y x : Expr} {ap : Pos} (hl : (ap.endLine == pos.line) = true) (hb : baseOk o = true) (hs1 : notStar y = true) (hs : notStar x = true) (ho : PE X o (TXe X.K f)) (hy : PE X y (TXe X.K g)) (hx : PE X x (TXe X.K h)) : PE X (.Call (.Attribute o "insert" ap) [y, x] [] pos) (TXe X.K (b3 (b1 f asL) g h insD)) := by
  have hst2 : starEach [y, x] X.env = [(false, eval y X.env), (false, eval x X.env)] := by rw [star_cons hs1, star_cons hs]; rfl
  refine PE.of (pe_bm PySem.F.plainAttrs_list PySem.F.slot_list_insert PySem.F.type_list_insert mt_insert ho (pa_cons hy (pa_cons hx pa_nil (star_cons hs)) (star_cons hs1)) (base_of hb) (by rw [hst2]; rfl) hl (star_cons hs1) (by rw [star_cons hs]; rfl)) fun sg H Q w => ?_
  have w := tx_b3 (K := X.K) mono_rep mono_rep (fun u v q H1 Q1 => ∃ (rho : Rho) (st : Store) (x y t z : D) (st' : Store), StoreRep X.K rho H1 st ∧ Rep X.K rho H1 x u ∧ Rep X.K rho H1 y v ∧ Rep X.K rho H1 t q ∧ insD x y t st = some (z, st') ∧ Kn X.K (Rep X.K) rho H1 z st' Q1)
    (fun rho H st x u y v t q z st' S rx ry rt e k => ⟨rho, st, x, y, t, z, st', S, rx, ry, rt, e, k⟩) w
  have w := tx_asL w
  obtain ⟨rho, env, st, d, st', hE, hS, hf, k⟩ := w
  refine ⟨rho, env, st, d, st', hE, hS, hf, fun rho1 H1 u x1 S1 r1 => ?_⟩
  obtain ⟨⟨a, xs, rfl, ha⟩, q⟩ := k rho1 H1 u x1 S1 r1
  refine ⟨.inl ⟨rfl, _, SqL.of ha⟩, ?_⟩
  obtain ⟨rho2, env2, st2, d2, st2', hE2, hS2, hf2, k2⟩ := q
  refine ⟨rho2, env2, st2, d2, st2', hE2, hS2, hf2, fun rho3 H3 v x3 S3 r3 => ?_⟩
  obtain ⟨rho5, env5, st5, d5, st5', hE5, hS5, hf5, k5⟩ := k2 rho3 H3 v x3 S3 r3
  refine ⟨rho5, env5, st5, d5, st5', hE5, hS5, hf5, fun rho6 H6 v6 x6 S6 r6 => ?_⟩
  obtain ⟨rho4, st4, y4, i4, t4, z, st4', S4, ry, ri, rt, e, kk⟩ := k5 rho6 H6 v6 x6 S6 r6
  unfold insD at e
  split at e
  · rename_i m i
    split at e
    · rename_i ds e2
      split at e
      · rename_i hlt
        cases e
        obtain ⟨a', vs, ea, hr, h1, rl⟩ := S4.at ry e2
        cases ea
        cases ri
        refine ⟨a, vs, i, v6, rfl, rfl, h1, by rw [← rl.length, ← sizeSL]; exact hlt.1, hlt.2.1, hlt.2.2, ?_⟩
        have hmem := List.mem_of_getElem? hr
        exact kk rho4 _ _ (Ext.wr hmem) (S4.set hr (((rl.take _).append (.cons rt .nil)).append (rl.drop _))) .non
      · cases e
    · cases e
  · cases e
end
end B
/-! B71: sorted by whole-number keys, the key's calls may lay what they like. -/
namespace B
open PySem PySem.Spec PyProof.Rows L2
section
variable {prog : Program} {w : World} {A : Around} {E : Value → Shared → Prop} {s : Shared} {a kS : Addr} {vs : List Value} {e1 : Nat} {P : PySem.Fin → Shared → Prop} {kz : List Int}
/-- all but two lists stay -/
def Kp2 (a kS : Addr) (h h' : Heap) : Prop := ∀ b o, b ≠ a → b ≠ kS → h.get? b = some o → h'.get? b = some o
/-- a call's end: the key, what holds on, the two lists as they were -/
def KyEnd (G : Shared → Prop) (a kS : Addr) (k : Int) (s' : Shared) (u : Value) (s'' : Shared) : Prop := (∃ t, u = .int k t) ∧ G s'' ∧ (∀ o, s'.heap.get? kS = some o → s''.heap.get? kS = some o) ∧ ∀ o, s'.heap.get? a = some o → s''.heap.get? a = some o
theorem ints_alike (ks : List Int) : PySem.W.AllAlike (ks.map PyData.int) := fun d hd d' hd' => by
  obtain ⟨i, _, rfl⟩ := List.mem_map.mp hd
  obtain ⟨j, _, rfl⟩ := List.mem_map.mp hd'
  rfl
theorem ints_sortable (ks : List Int) : PySem.W.Sortable (ks.map PyData.int) := .inr fun d hd => by
  obtain ⟨i, _, rfl⟩ := List.mem_map.mp hd
  exact ⟨by simp, fun xs => by simp⟩
theorem key_rest {f : Value} (G : Shared → Prop) (hG : ∀ s', G s' → ∀ h' tk, Kp2 a kS s'.heap h' → G { s' with heap := h', toks := tk }) (g0 : G s) (nk : s.heap.get? kS = some (seqObj "list" #[] 0)) (na : s.heap.get? a = some (seqObj "list" #[] e1)) (hka : kS ≠ a)
    (hlen : kz.length = vs.length) (hZ : vs.length ≤ sizeLine) (hu : A.units + 1 < cLine)
    (turn : ∀ (i : Nat) (v : Value) (k : Int), vs[i]? = some v → kz[i]? = some k → ∀ s', G s' → (∃ o, s'.heap.get? a = some o) → (∃ o, s'.heap.get? kS = some o) → wpAny (model prog w) A (call f [v]) (KyEnd G a kS k s') (fun _ _ => False) s')
    (h : ∀ s' out c, G s' → s'.heap.get? a = some (seqObj "list" (List.toArray out) c) → PySem.W.KeyedOut false (kz.map PyData.int) vs out → P (.done (.ret .none)) s') :
    wpAny (model prog w) A (ksk_rest a f false vs.toArray e1 (.ref kS)) P E s := by
  unfold ksk_rest
  refine wpAny_bind (wpAny_rule ?_)
  first
    | rw [List.forIn_toArray]
    | (rw [← Array.forIn_toList]; simp only [List.toList_toArray])
    | rw [← Array.forIn_toList]
  refine wpAny_bind (ksk_fold (fun i s' => ∃ kA e, G s' ∧ s'.heap.get? kS = some (seqObj "list" kA e) ∧ s'.heap.get? a = some (seqObj "list" #[] e1) ∧ PySem.W.EachIs (fun v d => ∃ k t, d = PyData.int k ∧ v = Value.int k t) kA.toList ((kz.map PyData.int).take i)) vs 0 s
    ⟨#[], 0, g0, nk, na, by rw [List.take_zero]; exact .nil⟩ ?step ?done)
  case step =>
    rintro j x s' hx ⟨kA, e, g, nk', na', hk⟩
    simp only [Nat.zero_add] at hk ⊢
    have hj : j < vs.length := (List.getElem?_eq_some_iff.mp hx).1
    obtain ⟨k, hkj⟩ : ∃ k, kz[j]? = some k := ⟨_, List.getElem?_eq_getElem (by omega)⟩
    have hz : kA.size ≤ vs.length := by
      have h1 := hk.length
      rw [Array.length_toList, List.length_take, List.length_map] at h1
      omega
    refine wpAny_bind (wpAny_attempt (wpAny_mono (turn j x k hx hkj s' g ⟨_, na'⟩ ⟨_, nk'⟩) (fun v s'' he => ?_) fun _ _ hF => hF.elim))
    obtain ⟨⟨t, rfl⟩, g2, hkS, haS⟩ := he
    try dsimp only
    have nk2 := hkS _ nk'
    have na2 := haS _ na'
    have s1 := Heap.SameBut.update s''.heap kS (Obj.mapSeq (·.push (Value.int k t)))
    obtain ⟨c2, hc2⟩ : ∃ c2, (s''.heap.update kS (Obj.mapSeq (·.push (Value.int k t)))).get? kS = some (seqObj "list" (kA.push (Value.int k t)) c2) := ⟨_, get?_update_seq nk2 (·.push (Value.int k t))⟩
    refine wpAny_bind (listUpdate_at nk2 rfl ?_ (Nat.le_trans hz hZ) (Nat.le_trans (Nat.le_of_eq (Array.size_push ..)) (Nat.succ_le_succ (Nat.le_trans hz hZ))))
    refine wpAny_pure ⟨rfl, kA.push (Value.int k t), c2, ?_, hc2, (s1.2 a hka.symm).trans na2, ?_⟩
    · exact hG _ g2 _ s''.toks (fun b o _ hb q => (s1.2 b hb).trans q)
    · have ek : (kz.map PyData.int).take (j + 1) = (kz.map PyData.int).take j ++ [PyData.int k] := by rw [List.take_add_one, List.getElem?_map, hkj]; rfl
      have ea : (kA.push (Value.int k t)).toList = kA.toList ++ [Value.int k t] := by simp
      rw [ea, ek]
      exact PySem.W.each_snoc ⟨k, t, rfl, rfl⟩ hk
  case done =>
    rintro s' ⟨kA, e, g, nk', na', hk⟩
    have hk' : PySem.W.EachIs (fun v k => ∃ as, Reads s'.heap v k as) kA.toList (kz.map PyData.int) := by
      have e3 : (kz.map PyData.int).take (0 + vs.length) = kz.map PyData.int := List.take_of_length_le (by rw [List.length_map]; omega)
      rw [e3] at hk
      refine hk.mono fun v d q => ?_
      obtain ⟨k, t, rfl, rfl⟩ := q
      exact ⟨[], .int k t⟩
    have hsz : kA.size = vs.length := by
      have h1 := hk'.length
      rw [Array.length_toList, List.length_map] at h1
      omega
    try dsimp only
    refine wpAny_bind (listItems_at nk' rfl ?_)
    let Hk : Hp := fun c => if c = kS then some (.lst []) else none
    have hkn : ∀ c, c ≠ kS → Hk c = none := fun c hc => if_neg hc
    have hks : Hk kS = some (.lst []) := if_pos rfl
    have hnone : (hidT s'.heap Hk).get? kS = none := by
      cases q : (hidT s'.heap Hk).get? kS with
      | none => rfl
      | some o =>
        have := (of_hidT q).2
        rw [hks] at this
        cases this
    refine PySem.W.keyH_end (κ := PySem.W.dataKind s'.heap (kz.map PyData.int)) (h₁ := hidT s'.heap Hk) (fun c o _ q => (of_hidT q).1) hnone nk' na' hka (PySem.W.SortsAt.data (s := s') hk' (ints_alike kz) (ints_sortable kz) (fun d hd => ?_)) hsz hZ fun h3 tk3 c k3 n3 => ?_
    · obtain ⟨i, _, rfl⟩ := List.mem_map.mp hd
      have : (PyData.int i).depth = 0 := by simp [PyData.depth]
      omega
    · refine h _ _ c (hG _ g h3 tk3 (fun b o h1 h2 q => k3 b o h1 (hidT_get q (hkn b h2)))) n3 ⟨s'.heap, kA.toList, ints_alike kz, rfl, hk'⟩
end
section
variable {prog : Program} {w : World} {A : Around} {E : Value → Shared → Prop} {s : Shared} {vs : List Value} {kz : List Int}
/-- sorted(l, key=q), q a function object, l a list or a tuple -/
theorem key_sorted {l q : Addr} {o : Obj} {T : String} {n : Nat} {Q : Value → Shared → Prop} (hT : T = "list" ∨ T = "tuple") (hlo : s.heap.get? l = some o) (hcl : o.cls = .type T) (hda : o.data = .seq vs.toArray n) (G : Addr → Addr → Shared → Prop) (hlen : kz.length = vs.length) (hZ : vs.length ≤ sizeLine) (hu : A.in1.in1.units + 1 < cLine)
    (g0 : ∀ h1 tk1, (∀ b o, s.heap.get? b = some o → h1.get? b = some o) → ∀ a kS, h1.objs.size ≤ a → h1.objs.size ≤ kS → ∀ h' tk, (∀ b o, h1.get? b = some o → h'.get? b = some o) → G a kS { { s with heap := h1, toks := tk1 } with heap := h', toks := tk })
    (hG : ∀ a kS s', G a kS s' → ∀ h' tk, Kp2 a kS s'.heap h' → G a kS { s' with heap := h', toks := tk })
    (turn : ∀ a kS (i : Nat) (v : Value) (k : Int), vs[i]? = some v → kz[i]? = some k → ∀ s', G a kS s' → (∃ o, s'.heap.get? a = some o) → (∃ o, s'.heap.get? kS = some o) → wpAny (model prog w) A.in1.in1 (call (.ref q) [v]) (KyEnd (G a kS) a kS k s') (fun _ _ => False) s')
    (h : ∀ s' a kS out c, G a kS s' → s'.heap.get? a = some (seqObj "list" (List.toArray out) c) → PySem.W.KeyedOut false (kz.map PyData.int) vs out → Q (.ref a) s') :
    wpAny (model prog w) A (call (.builtin "sorted") [.ref l] [(Str.ofString "key", .ref q)]) Q E s := by
  refine call_function_entry_kw kind_sorted plain_sorted entry_sorted (ksk_s1 _ _) ?_
  unfold Builtin.«sorted»
  refine wpAny_bind (m := checkCount "sorted" 1 1 _) (wpAny_pure ?_)
  refine wpAny_bind (wpAny_collect_seq l hT hlo hcl hda (fun h1 hk => ?_) (by rw [List.size_toArray]; exact hZ))
  have eL : vs.toArray.toList = vs := by simp
  rw [eL]
  refine wpAny_bind (wpAny_newList ?_ hZ)
  have ho : (h1.push (seqObj "list" vs.toArray 0)).get? h1.objs.size = some (seqObj "list" vs.toArray 0) := Heap.get?_push_size _ rfl
  refine wpAny_bind (wpAny_holding (wpAny_call_entry_kw slot_list_sort ⟨_, ho, rfl⟩ entry_list_sort ?body (ksk_l1 _ _)))
  case body =>
    show wpAny (model prog w) A.in1.in1 (Builtin.«list.sort» ⟨[.ref h1.objs.size], [(Str.ofString "key", .ref q)]⟩) _ _ { s with heap := h1.push (seqObj "list" vs.toArray 0) }
    rw [ksk_t1]
    have old : ∀ b o, h1.get? b = some o → (h1.push (seqObj "list" vs.toArray 0)).get? b = some o := fun b o e => Heap.get?_push_of_some _ e
    have lt_s : ∀ {b : Addr} {o : Obj}, h1.get? b = some o → b ≠ h1.objs.size := fun e => Nat.ne_of_lt (Heap.lt_size e)
    have hsz : (h1.push (seqObj "list" vs.toArray 0)).objs.size = h1.objs.size + 1 := size_push' _ _
    generalize hcp : h1.push (seqObj "list" vs.toArray 0) = hp at *
    generalize hav : h1.objs.size = a at *
    obtain ⟨e1, ho1⟩ : ∃ e1, (hp.update a (Obj.mapSeq fun _ => (#[] : Array Value))).get? a = some (seqObj "list" #[] e1) := ⟨_, get?_update_seq ho fun _ => #[]⟩
    unfold ksk_tree
    refine wpAny_bind (listItems_at ho rfl ?_)
    refine wpAny_bind (listUpdate_at ho rfl ?_ (by rw [List.size_toArray]; exact hZ) (Nat.zero_le _))
    refine wpAny_bind (seqEpoch_at ho1 rfl ?_)
    refine wpAny_bind (wpAny_newTuple ?_ (by show vs.length ≤ _; exact hZ))
    refine wpAny_bind (wpAny_newList ?_ (Nat.zero_le _))
    refine wpAny_holding ?_
    have hkS : ((hp.update a (Obj.mapSeq fun _ => (#[] : Array Value))).push (seqObj "tuple" vs.toArray 0)).objs.size = hp.objs.size + 1 := by rw [size_push', Heap.size_update]
    have keep : ∀ b o, b ≠ a → hp.get? b = some o → (PySem.W.sortingHeap hp a vs).get? b = some o := fun b o hb q => PySem.W.sortingHeap_old hb q
    refine key_rest (kz := kz) (G := G a ((hp.update a (Obj.mapSeq fun _ => (#[] : Array Value))).push (seqObj "tuple" vs.toArray 0)).objs.size) (s := { s with heap := PySem.W.sortingHeap hp a vs })
      (kS := ((hp.update a (Obj.mapSeq fun _ => (#[] : Array Value))).push (seqObj "tuple" vs.toArray 0)).objs.size) (hG _ _)
      (g0 h1 s.toks hk _ _ (by rw [hav]; exact Nat.le_refl _) (by rw [hkS, hav, hsz]; exact Nat.le_trans (Nat.le_succ _) (Nat.le_succ _)) _ _ fun b o e => keep b o (lt_s e) (old b o e)) (Heap.get?_push_size _ rfl) (Heap.get?_push_of_some _ (Heap.get?_push_of_some _ ho1))
      (by rw [hkS, hsz]; exact Nat.ne_of_gt (Nat.lt_succ_of_lt (Nat.lt_succ_self _))) hlen hZ hu (turn _ _) fun s' out c g hD ko => ?_
    exact ⟨_, rfl, wpAny_pure ⟨_, rfl, h s' _ _ out c g hD ko⟩⟩
end
end B
/-! B72: a lambda of one parameter as a sort's key. -/
namespace B
open PySem PySem.Spec PyProof.Rows L2 LamX NdefX
section
variable {X : Cx} {pins : List (Addr × Obj)} {sg : L2.St} {H : Hp} {s : Shared}
/-- b is none of what the def's frame leans on -/
structure Off (X : Cx) (pins : List (Addr × Obj)) (H : Hp) (b : Addr) : Prop where
  new : X.s_0.heap.objs.size ≤ b
  loc : b ≠ X.env.locals
  cel : ∀ x c, X.env.cells.lookup x = some c → c ≠ b
  pin : ∀ p ∈ X.pn ++ pins, p.1 ≠ b
  fs : b ∉ frs X.stack
  non : H b = none
theorem off_of (I : Inv X pins sg H s) {b : Addr} (h : s.heap.objs.size ≤ b) : Off X pins H b := by
  have lt : ∀ {c : Addr} {o : Obj}, s.heap.get? c = some o → c ≠ b := fun e => Nat.ne_of_lt (Nat.lt_of_lt_of_le (Heap.lt_size e) h)
  refine ⟨Nat.le_trans I.sz h, fun e => ?_, fun x c e => ?_, fun p hp => ?_, fun hf => ?_, I.hok.fresh h⟩
  · obtain ⟨m, ⟨o, es, ep, q, _⟩, _⟩ := I.loc
    exact lt q e.symm
  · obtain ⟨v, o, q, _⟩ := I.cell x c e
    exact lt q
  · exact lt (I.pin p hp).1
  · rcases List.mem_cons.mp (I.stkSub _ hf) with e | e
    · have := I.lt
      rw [← e] at this
      exact Nat.lt_irrefl _ (Nat.lt_of_lt_of_le this h)
    · exact I.nofs h e
/-- two lists that the frame does not lean on change -/
theorem inv_two {a kS : Addr} (I : Inv X pins sg H s) (ha : Off X pins H a) (hk : Off X pins H kS) {h' : Heap} {tk : Nat} (k : Kp2 a kS s.heap h') : Inv X pins sg H { s with heap := h', toks := tk } := by
  have ne : ∀ {b : Addr} {u : HO}, H b = some u → b ≠ a ∧ b ≠ kS := fun {b u} e => ⟨fun z => by (rw [z, ha.non] at e; cases e), fun z => by (rw [z, hk.non] at e; cases e)⟩
  have nch : ∀ {b : Addr}, b ∉ [a, kS] → b ≠ a ∧ b ≠ kS := fun {b} h => ⟨fun z => h (by rw [z]; simp), fun z => h (by rw [z]; simp)⟩
  refine I.step (g' := s.gens) (d' := s.drawn) (ch := [a, kS]) (fun b hb => ?_) (fun b o _ _ hc e n => k b o (nch hc).1 (nch hc).2 e) (fun b o _ _ hc e n => ⟨o.slots, k b o (nch hc).1 (nch hc).2 e⟩) (fun b o _ _ n => n) (fun b o hc e => ⟨o, k b o (nch hc).1 (nch hc).2 e⟩)
    (fun b xs e => e) (fun b o u e => e) (fun b ps e => ⟨#[], by simpa using e⟩) (fun m hn => ?_) (fun b u e => ?_) I.bare
  · simp only [List.mem_cons, List.not_mem_nil, or_false] at hb
    rcases hb with rfl | rfl
    · exact ⟨.inr ha.new, ha.loc, ha.cel, ha.pin⟩
    · exact ⟨.inr hk.new, hk.loc, hk.cel, hk.pin⟩
  · obtain ⟨o, es, ep, q, r⟩ := hn
    exact ⟨o, es, ep, k _ o ha.loc.symm hk.loc.symm q, r⟩
  · refine (I.hok b u e).stay (fun d v hd q => ?_) (fun d q => q) fun d xs q => q
    rcases hd with z | z
    · rw [z] at q ⊢
      exact k b v (ne e).1 (ne e).2 q
    · exact k d v (ne z).1 (ne z).2 q

/-- the lambda's function as its maker lays it -/
abbrev lamF (X : Cx) (params : Arguments) (s2 : Scope) (c' : Addr) : NF := ⟨"<lambda>", X.env.qual ++ "<lambda>", params, [], s2, cloFrom X.env.cells s2.names [], c'⟩
abbrev lamC (X : Cx) (Nl : List Str) (params : Arguments) (s2 : Scope) (c' f : Addr) (A : Around) (s : Shared) (H : Hp) : Cx := ncx CX0 X.prog X.w X.K X.mg X.base Nl (lamF X params s2 c') f A X.stack s H E0
/-- the lambda's call -/
theorem lam_call {A : Around} {f c' : Addr} {params : Arguments} {lb : Expr} {s2 : Scope} {pm ctv : Value} {Nl fr : List Str} {js : List Nat} {v : Value} {x : V} {ky : Int} {k0 : Nat} {R : Hp → Prop}
    (I : Inv X pins sg H s) (hr : Room (k0 + 1) A) (hfrm : A.frames = some X.stack)
    (of1 : s.heap.get? f = some (PySem.W.kla_obj "<lambda>" (X.env.qual ++ "<lambda>") params lb s2 (cloFrom X.env.cells s2.names []) pm c' ctv)) (hco : H c' = some (CodeO c' (X.env.qual ++ "<lambda>")))
    (S : NScope Nl ["k"] fr s2) (C : Caps X (cloFrom X.env.cells s2.names []) fr js)
    (hb : bindArgs (PySem.W.kla_fn "<lambda>" (X.env.qual ++ "<lambda>") params lb s2 (cloFrom X.env.cells s2.names []) pm (.ref c') ctv) ⟨[v], []⟩ = pure [(("k" : Str), v)]) (rv : RelV x v)
    (hbody : Room k0 (lamC X Nl params s2 c' f A s H).A → ∃ t, PE (lamC X Nl params s2 c' f A s H).nox lb t ∧ t (startF Nl [x] (js.map (slotAt sg))) H fun u H' => u = .int ky ∧ R H') :
    wpAny (model X.prog X.w) A (call (.ref f) [v]) (fun u s'' => (∃ t, u = .int ky t) ∧ ∃ H', Inv X pins sg H' s'' ∧ Un (frs X.stack) [] H H' s.heap s''.heap ∧ R H') (fun _ _ => False) s := by
  have e0 : Env0 X.prog X.w X.K X.mg X.base A X.stack s H := { I.env0 with frames := hfrm }
  obtain ⟨⟨oc, vs, t, hoc, hdc, hvc⟩, _, _⟩ := I.hok c' _ hco
  have rc : codeAny (model X.prog X.w) A (.call (.ref f) ⟨[v], []⟩) (CR CX0 X.stack X.prog X.w H s (fun u H' => u = .int ky ∧ R H') E0) s := by
    refine PySem.W.kla_callFunE hr.depth of1 rfl S.co S.gen rfl ⟨c', oc, vs, t, rfl, hoc, hdc, hvc⟩ ?_
    rw [hb]
    refine wpAny_pure (wpAny_newFunctionEnv S.nocell (fun y hy => ?_) (fun h₁ hns hsb => ⟨I.nolimit.fresh _ hsb, ?_⟩) S.kind)
    · rw [List.mem_singleton.mp hy]
      exact S.par _ (List.mem_singleton.mpr rfl)
    show codeAny _ _ (.expr lb (envF (lamF X params s2 c') f s.heap.objs.size)) _ _
    have kp : ∀ b o, s.heap.get? b = some o → h₁.get? b = some o := fun b o e => hsb.extBut b o (Nat.ne_of_lt (Heap.lt_size e)) (Heap.get?_push_of_some _ e)
    obtain ⟨tb, hpe, hq⟩ := hbody (hr.deeper _)
    have J : Inv (lamC X Nl params s2 c' f A s H) [] (startF Nl [x] (js.map (slotAt sg))) H { s with heap := h₁, toks := s.toks + 1 } := inv_startN (us := [v]) S hr.hd e0 rfl (.cons rv .nil) (cells_of I C) hns kp
    refine PySem.W.kla_codeExpr (wpAny_mono (hpe.nox.run [] _ _ H _ J hq) (fun u s' hq => ?_) fun e s' hq => hq)
    obtain ⟨w', H', J', rv', q⟩ := hq
    exact ⟨w', H', J'.os, J'.bare, J'.base, J'.hok, rv', q⟩
  refine wpAny_call (codeAny_mono rc fun r s' hq => ?_)
  cases r with
  | error e => exact hq.elim
  | ok fl =>
    cases fl with
    | ret u =>
      have un : ∃ w' H', Un (frs X.stack) [] H H' s.heap s'.heap ∧ HOk X.prog X.w H' s'.heap ∧ s'.os = s.os ∧ AllBare s'.gens ∧ RelV w' u ∧ w' = .int ky ∧ R H' := by
        obtain ⟨w', H', h1, h2, h3, h4, h5, h6⟩ := hq
        exact ⟨w', H', h3, h4, h1, h2, h5, h6⟩
      obtain ⟨w', H', h3, h4, h1, h2, h5, rfl, h6⟩ := un
      obtain ⟨hh, g, d, tk, os'⟩ := s'
      obtain rfl : os' = s.os := h1
      exact ⟨h5, H', I.call (h' := hh) (g' := g) (d' := d) (t' := tk) (ch := []) h3 h4 h2 (fun b z => absurd z (by simp)), h3, h6⟩
    | next => exact False.elim hq
    | brk => exact False.elim hq
    | cont => exact False.elim hq
end
end B
/-! B73: sorted(a, key=lambda k: F(u, v, k)). -/
namespace B
open PySem PySem.Spec PyProof.Rows L2 LamX NdefX
theorem k_nil {X : Cx} : PA X [] (TXa X.K fun _ st => some ([], st)) := PA.of pa_nil fun sg H Q w => evs0 w
theorem k_cons {X : Cx} {e : Expr} {es : List Expr} {f : RF D} {fs : RF (List D)} (hs : notStar e = true) (ha : PE X e (TXe X.K f)) (hb : PA X es (TXa X.K fs)) : PA X (e :: es) (TXa X.K (b2 f fs consD)) :=
  PA.of (pa_cons ha hb (star_cons hs)) fun sg H Q w => tx_b2 (K := X.K) (rb := RepL X.K) (rc := RepL X.K) mono_rep (fun u us H1 Q1 => Q1 (u :: us) H1) (fun rho H st x u y v z st' S rx ry e k => by
    unfold consD at e
    cases e
    exact k rho H _ (.refl _ _) S (.cons rx ry)) w
theorem k_knil {X : Cx} : PK X [] (TXa X.K fun _ st => some ([], st)) := PK.of pk_nil fun sg H Q w => evs0 w
theorem k_kcons {X : Cx} {nm : Option Str} {p : Pos} {e : Expr} {es : List Keyword} {f : RF D} {fs : RF (List D)} (ha : PE X e (TXe X.K f)) (hb : PK X es (TXa X.K fs)) : PK X (⟨nm, e, p⟩ :: es) (TXa X.K (b2 f fs consD)) :=
  PK.of (pk_cons ha hb) fun sg H Q w => tx_b2 (K := X.K) (rb := RepL X.K) (rc := RepL X.K) mono_rep (fun u us H1 Q1 => Q1 (u :: us) H1) (fun rho H st x u y v z st' S rx ry e k => by
    unfold consD at e
    cases e
    exact k rho H _ (.refl _ _) S (.cons rx ry)) w

section
variable {K : PySem.W.Frag} {rho : Rho} {H H' : Hp} {st : Store}
/-- all but tables stay, all is told as before -/
abbrev Stays (H H' : Hp) : Prop := ∀ b o, NoTbl o → H b = some o → H' b = some o
theorem Ext.stays (k : Stays H H') : Ext rho H rho H' := ⟨List.prefix_refl _, fun a o _ n h => k a o n h, fun _ h => .inl h, fun _ h => .inl h, fun _ h => h⟩
theorem StoreRep.stays (s : StoreRep K rho H st) (k : Stays H H') (t : Tabs (TbK K) H') : StoreRep K rho H' st where
  len := s.len
  nd := s.nd
  trk := fun a ha => by
    obtain ⟨vs, h, mb⟩ := s.trk a ha
    exact ⟨vs, k _ _ mb.nt h, mb⟩
  ob := fun n ds a h1 h2 => by
    obtain ⟨vs, h3, h4⟩ := s.ob n ds a h1 h2
    exact ⟨vs, k _ _ (ds.mb vs).nt h3, h4.ext s.trk (Ext.stays k)⟩
  tab := t
/-- an untold list that is there is told from now on -/
theorem inv_tell {X : Cx} {pins : List (Addr × Obj)} {sg : L2.St} {s : Shared} {a : Addr} {xs : List V} {its : List Value} {c : Nat} (I : Inv X pins sg H s) (ha : Off X pins H a) (hz : xs.length ≤ sizeLine) (r : Vals xs its) (ho : s.heap.get? a = some (seqObj "list" its.toArray c)) :
    Inv X pins sg (upd H a (.lst xs)) s := by
  have at_ : ∀ b, b ≠ a → upd H a (.lst xs) b = H b := fun b h => upd_ne h
  have sm : ∀ b u, H b = some u → b ≠ a := fun b u e => ne_of_none e ha.non
  have J : Inv X pins sg (upd H a (.lst xs)) { s with heap := s.heap, gens := s.gens, drawn := s.drawn, toks := s.toks } := by
    refine I.step (ch := [a]) (fun b hb => ?_) (fun b o _ _ _ e n => e) (fun b o _ _ _ e n => ⟨o.slots, e⟩) (fun b o hc e n => ?_) (fun b o hc e => ⟨o, e⟩)
      (fun b xs e => (at_ b (sm b _ e)).trans e) (fun b o u e => (at_ b (sm b _ e)).trans e) (fun b ps e => ⟨#[], by rw [at_ b (sm b _ e)]; simpa using e⟩) (fun m hn => hn) (fun b u e => ?_) I.bare
    · rw [List.mem_singleton.mp hb]
      exact ⟨.inr ha.new, ha.loc, ha.cel, ha.pin⟩
    · rw [at_ b (fun z => hc (by rw [z]; exact List.mem_singleton.mpr rfl))]
      exact n
    · by_cases hb : b = a
      · subst hb
        rw [upd_same] at e
        cases e
        exact ⟨hz, its, c, r, ho⟩
      · rw [at_ b hb] at e
        exact (I.hok b u e).stay (fun d v hd q => q) (fun d q => (at_ d (sm d _ q)).trans q) fun d xs q => (at_ d (sm d _ q)).trans q
  exact J
end

/-! ### the lambda's body -/
theorem k_nm2 {X : Cx} {i : Nat} {x : Str} {pos : Pos} (h1 : X.N[i]? = some x) (h2 : Vis X.env.scope x) (ho : okVar x = true) : PE X (.Name x pos) (TXe X.K (vr i)) := by
  unfold okVar at ho
  simp only [Bool.and_eq_true, Bool.not_eq_true'] at ho
  refine PE.of (pe_var (i := i) h1 h2 ho.1 ho.2) fun sg H Q w => ?_
  obtain ⟨rho, env, st, d, st', hE, hS, hf, k⟩ := w
  unfold vr at hf
  split at hf
  · rename_i d' hd
    cases hf
    obtain ⟨v, hv, rv⟩ := hE.at_ i _ hd
    exact ⟨v, hv, k rho H v (.refl _ _) hS rv⟩
  · cases hf
abbrev srtArgs : RF (List D) := b2 (vr 1) (b2 (vr 2) (b2 (vr 0) (fun _ st => some ([], st)) consD) consD) consD
theorem srt_body {X : Cx} {dfl : List D} {n f : Nat} {call : CallF} {F : FnS} {u v : Str} {p p1 p2 p3 pos : Pos} (hN : X.N = [("k" : Str), u, v]) (hk : Vis X.env.scope ("k" : Str)) (hu : Vis X.env.scope u) (hv : Vis X.env.scope v) (ou : okVar u = true) (ov : okVar v = true)
    (hfn : FnX X dfl n call f F) (hdf : ∀ d ∈ dfl, d.scal = true) (hro : Room (4 * n) X.A) (hgu : X.A.guards = some []) (hsh : srtShp ∈ F.shs) (hg : Gl X F.name) (hdb : (F.name == ("__debug__" : Str)) = false) :
    PE X (.Call (.Name F.name p) [.Name u p1, .Name v p2, .Name ("k" : Str) p3] [] pos) (TXe X.K (b2 srtArgs (fun _ st => some ([], st)) (callD dfl call f 3 0 srtShp.sel))) := by
  refine pe_callR (sh := srtShp) hfn hdf hro hgu hsh rfl hg hdb rfl rfl rfl rfl ?_ k_knil (fun e => by cases e) (fun _ => rfl)
  exact k_cons rfl (k_nm2 (by rw [hN]; rfl) hu ou) (k_cons rfl (k_nm2 (by rw [hN]; rfl) hv ov) (k_cons rfl (k_nm2 (by rw [hN]; rfl) hk (by decide)) k_nil))

theorem keys_get {call : CallF} {f : Nat} {p q : Int} : ∀ {ds : List D} {ks : List Int}, keysD call f p q ds = some ks → ks.length = ds.length ∧ ∀ (i : Nat) (k : Int), ks[i]? = some k → ∃ x st', ds[i]? = some (D.int x) ∧ call f [D.int p, D.int q, D.int x] [] = some (D.int k, st')
  | [], ks, h => by cases h; exact ⟨rfl, fun i k e => by simp at e⟩
  | .int x :: r, ks, h => by
    simp only [keysD] at h
    split at h
    · rename_i k s' e1
      split at h
      · rename_i ks' e2
        cases h
        obtain ⟨l, g⟩ := keys_get e2
        refine ⟨by simp [l], fun i k' e => ?_⟩
        cases i with
        | zero =>
          simp only [List.getElem?_cons_zero] at e
          cases e
          exact ⟨x, s', rfl, e1⟩
        | succ i =>
          simp only [List.getElem?_cons_succ] at e ⊢
          exact g i k' e
      · cases h
    · cases h
  | .non :: _, _, h => by cases h
  | .bl _ :: _, _, h => by cases h
  | .str _ :: _, _, h => by cases h
  | .tup _ :: _, _, h => by cases h
  | .lst _ :: _, _, h => by cases h
  | .ref _ :: _, _, h => by cases h

/-! ### by the keys -/
theorem dle_int (p q : D × Int) : PySem.W.dataLe false (fun b : D × Int => PyData.int b.2) p q = decide (p.2 ≤ q.2) := by
  show (!PyProof.Rows.lexLt _root_.PyProof.Rows.itemOrd [Sum.inl q.2] [Sum.inl p.2]) = _
  simp only [PyProof.Rows.lexLt, PyProof.Rows.itemLt]
  by_cases h : p.2 ≤ q.2 <;> by_cases h2 : q.2 < p.2 <;> by_cases h3 : p.2 < q.2 <;> simp [h, h2, h3] <;> omega
section
variable {K : PySem.W.Frag} {rho : Rho} {H : Hp}
theorem each_of : ∀ {xs : List D} {vs : List V} {us : List Value} {ks : List Int}, RepL K rho H xs vs → Vals vs us → ks.length = xs.length → PySem.W.EachIs (fun u (b : D × Int) => ∃ w, Rep K rho H b.1 w ∧ RelV w u) us (xs.zip ks)
  | _, _, _, [], .nil, .nil, _ => .nil
  | _, _, _, k :: ks, .cons r r2, .cons v v2, h => .cons ⟨_, r, v⟩ (each_of r2 v2 (by simpa using h))
  | _, _, _, [], .cons r r2, .cons v v2, h => by simp at h
  | _, _, _, _ :: _, .nil, .nil, h => by simp at h
theorem each_to : ∀ {bs : List (D × Int)} {us : List Value}, PySem.W.EachIs (fun u (b : D × Int) => ∃ w, Rep K rho H b.1 w ∧ RelV w u) us bs → ∃ ws, RepL K rho H (bs.map (·.1)) ws ∧ Vals ws us
  | [], _, h => by cases h; exact ⟨[], .nil, .nil⟩
  | b :: bs, _, h => by
    cases h with
    | cons h1 t =>
      obtain ⟨w, r, v⟩ := h1
      obtain ⟨ws, r2, v2⟩ := each_to t
      exact ⟨w :: ws, .cons r r2, .cons v v2⟩
end
theorem inE_of {env : Env} {i : Nat} {p : Int} (h : inE env i = some p) : env[i]? = some (some (.int p)) := by
  unfold inE at h
  split at h
  · cases h; assumption
  · cases h
theorem slot_int {K : PySem.W.Frag} {rho : Rho} {H : Hp} {sg : L2.St} {env : Env} {i : Nat} {p : Int} (hE : EnvRep K rho H sg env) (h : inE env i = some p) : NdefX.slotAt sg i = some (.int p) := by
  obtain ⟨v, h1, h2⟩ := hE.at_ i _ (inE_of h)
  cases h2
  unfold NdefX.slotAt
  rw [h1]
theorem boot_sorted : bootBuiltins ("sorted" : Str) = some (.builtin "sorted") := by first | rfl | decide +kernel
theorem k_srtk {X : Cx} {C : Ctx} {n : Nat} {call : CallF} {sc s2 : Scope} {fe : RF D} {e : Expr} {f i j : Nat} {F : FnS} {u v : Str} {p lp kp ap g0 g1 g2 g3 g4 pos : Pos} (c : Cok C X n call sc) (hl : C.lam = true) (hF : C.fns[f]? = some F) (hx : ("sorted" : Str) ∈ C.blts) (hg : isGl sc ("sorted" : Str) = true) (hst : notStar e = true)
    (hgF : isGl s2 F.name = true) (hdb : (F.name == ("__debug__" : Str)) = false) (hsh : srtShp ∈ F.shs) (hu : C.N[i]? = some u) (hv : C.N[j]? = some v) (ou : okVar u = true) (ov : okVar v = true) (hs2 : nscB [("k" : Str), u, v] [("k" : Str)] [u, v] s2 = true) (fu : freeIn sc u = true) (fv : freeIn sc v = true) (ha : PE X e (TXe X.K fe)) :
    PE X (.Call (.Name ("sorted" : Str) p) [e] [⟨some ("key" : Str), .Lambda ⟨[], [⟨("k" : Str), none, ap⟩], none, [], [], none, []⟩ (.Call (.Name F.name g0) [.Name u g1, .Name v g2, .Name ("k" : Str) g3] [] g4) s2 lp, kp⟩] pos) (TXe X.K (bSrtk call f i j fe)) := by
  refine ⟨fun pins s sg H Q I w => ?_⟩
  obtain ⟨rho, env, st, d, st', hE, hS, hf, hQ⟩ := w
  unfold bSrtk at hf
  split at hf
  case h_2 => cases hf
  rename_i x s1 e1
  split at hf
  case h_2 => cases hf
  rename_i pi qi hpi hqi
  split at hf
  case h_2 => cases hf
  rename_i xs hxs
  split at hf
  case h_2 => cases hf
  rename_i ks hks
  cases hf
  have S := nscope_by hs2
  obtain ⟨kl, kg⟩ := keys_get hks
  obtain ⟨cA, P, hcode, hTB, hmem, hq⟩ := c.lam hl
  have hfr2 : ∀ y ∈ s2.names, y.2 = .free → X.env.scope.names.lookup y.1 = some .cell ∨ X.env.scope.names.lookup y.1 = some .free := fun y hy e => by
    have h := S.free y hy e
    simp only [List.mem_cons, List.not_mem_nil, or_false] at h
    rcases h with h | h <;> rw [h]
    · exact c.fre _ (freeIn_of fu)
    · exact c.fre _ (freeIn_of fv)
  have hfr3 : ∀ y ∈ [u, v], (y, NameKind.free) ∈ s2.names := fun y hy => PySem.mem_of_lookup (S.frk y hy)
  refine wpAny_Call_Name_kw (ld_blt I (c.gl _ (isGl_of hg)) (c.blt _ hx) boot_sorted ?_)
  have hPA := k_cons hst ha (k_nil (X := X))
  have hQA : TXa X.K (b2 fe (fun _ st => some ([], st)) consD) sg H fun us H1 => ∃ rho1, Ext rho H rho1 H1 ∧ StoreRep X.K rho1 H1 st' ∧ RepL X.K rho1 H1 [x] us :=
    ⟨rho, env, st, [x], st', hE, hS, by simp only [b2, e1, consD], fun rho1 H1 us x1 S1 r1 => ⟨rho1, x1, S1, r1⟩⟩
  refine PyProof.Rows.callWith_kw (thn (hPA.run pos pins s sg H _ I hQA) fun us s1' ⟨vs, H1, I1, r1, q1⟩ => ?_) (by rw [star_cons hst]; rfl) (by rw [star_cons hst]; rfl) rfl rfl
  obtain ⟨rho1, x1, S1, rl⟩ := q1
  cases rl with
  | cons rx rn =>
  cases rn
  cases r1 with
  | cons rv0 rvn =>
  cases rvn
  obtain ⟨l, vs, rfl, hsq, rvs⟩ := seq_rep S1 rx hxs
  cases rv0
  show wpAny _ _ (evalAll ((do let v ← eval _ X.env; standAt pos; pure v) :: [])) _ _ s1'
  refine wpAny_evalAll_cons (wpAny_bind (lam_make2 (T := TbK X.K) I1 hTB hcode (by rw [hq]; exact hmem) (fun p hp _ => by rw [hq]; exact TbK_q hp) S1.tab rfl (fun y hy e => (hfr2 y hy e).elim (fun z => I1.ok.has _ (.inl z)) fun z => I1.ok.has _ (.inr z)) fun fA c' pm ctv H2 s2' I2 eN T2 of hfn hfr hco => wpAny_bind (wpAny_standAt (wpAny_pure (wpAny_evalAll_nil ?_)))))
  have st12 : Stays H1 H2 := fun b o n h => eN b o h n
  obtain ⟨its, o, T, m, hT, rI, hlo, hcl, hda, hz⟩ : ∃ (its : List Value) (o : Obj) (T : String) (m : Nat), (T = "list" ∨ T = "tuple") ∧ Vals vs its ∧ s2'.heap.get? l = some o ∧ o.cls = .type T ∧ o.data = .seq its.toArray m ∧ vs.length ≤ sizeLine := by
    rcases hsq with h | h
    · have h2 : SqL X.K H2 l vs := by
        rcases h with (h | ⟨o, h⟩) | h
        · exact .inl (.inl (st12 _ _ nt_lst h))
        · exact .inl (.inr ⟨o, st12 _ _ nt_frz h⟩)
        · exact .inr h
      obtain ⟨its, r, ⟨o, m, a1, a2, a3, a4⟩, z⟩ := I2.list h2
      exact ⟨its, o, "list", m, .inl rfl, r, a1, a2, a4, z⟩
    · obtain ⟨its, r, ⟨o, a1, a2, m, a4⟩, z⟩ := I2.tuple (sqT_ext S1.trk (Ext.stays st12) h)
      exact ⟨its, o, "tuple", m, .inr rfl, r, a1, a2, a4, z⟩
  let G : Addr → Addr → Shared → Prop := fun a kS s' => ∃ H', Inv X pins sg H' s' ∧ Off X pins H' a ∧ Off X pins H' kS ∧ s'.heap.get? fA = some (PySem.W.kla_obj "<lambda>" (X.env.qual ++ "<lambda>") ⟨[], [⟨("k" : Str), none, ap⟩], none, [], [], none, []⟩ (.Call (.Name F.name g0) [.Name u g1, .Name v g2, .Name ("k" : Str) g3] [] g4) s2 (cloFrom X.env.cells s2.names []) pm c' ctv) ∧ H' fA = none ∧ fA ≠ a ∧ fA ≠ kS ∧ Stays H2 H' ∧ Tabs (TbK X.K) H'
  have ln : its.length = xs.length := by rw [← rI.length, ← rvs.length]
  show wpAny _ _ (PySem.call (.builtin "sorted") [.ref l] [(Str.ofString "key", .ref fA)]) _ _ _
  refine key_sorted (G := G) (kz := ks) hT hlo hcl hda (by rw [kl, ln]) (by rw [ln, rvs.length]; exact hz) ?un ?g0 ?hG ?turn ?fin
  case un =>
    have := c.units
    show X.A.units + 1 + 1 + 1 < _
    omega
  case g0 =>
    intro h1 tk1 k1 a kS ha hkS h' tk k2
    have J1 := I2.kept (t' := tk1) k1
    have lf := Heap.lt_size (k1 _ _ of)
    exact ⟨H2, J1.kept (t' := tk) k2, off_of J1 ha, off_of J1 hkS, k2 _ _ (k1 _ _ of), hfn, Nat.ne_of_lt (Nat.lt_of_lt_of_le lf ha), Nat.ne_of_lt (Nat.lt_of_lt_of_le lf hkS), fun _ _ _ h => h, T2⟩
  case hG =>
    rintro a kS s' ⟨H', I', oa, ok, of', hfn', na, nk, stH, tb⟩ h' tk k
    exact ⟨H', inv_two I' oa ok k, oa, ok, k _ _ na nk of', hfn', na, nk, stH, tb⟩
  case turn =>
    rintro a kS ix val k hvi hki s' ⟨H', I', oa, ok, of', hfn', na, nk, stH, tb⟩ ⟨oA, ea⟩ ⟨oK, ek⟩
    obtain ⟨xv, stx, hxi, hcall⟩ := kg ix k hki
    obtain ⟨w1, hw1, rw1⟩ := rvs.get hxi
    cases rw1
    obtain ⟨w2, hw2, rw2⟩ := rI.get hw1
    rw [hvi] at hw2
    cases hw2
    have R0 : Room (4 * n + 1) X.A.in1.in1 := (Room.in1 (k := 4 * n + 2) c.room).in1
    refine wpAny_mono (lam_call (A := X.A.in1.in1) (k0 := 4 * n) (ky := k) (R := fun H'' => Stays H' H'' ∧ Tabs (TbK X.K) H'') (Nl := [("k" : Str), u, v]) (fr := [u, v]) (js := [i, j]) I' R0 I'.ok.frames of' (stH _ _ codeO_ne hco) S (Caps.made I'.ok hfr2 hfr3 (by simp only [List.map_cons, List.map_nil, c.N, hu, hv])) (by rfl) rw2 fun hroom => ⟨_, srt_body (dfl := C.dfl) (n := n) (f := f) (call := call) (F := F) rfl (.inl (S.par _ (by simp))) (.inr (.inr (S.frk _ (by simp)))) (.inr (.inr (S.frk _ (by simp)))) ou ov ⟨(c.fns f F hF).ex⟩ c.dfl hroom c.guards hsh (isGl_of hgF) hdb, ?_⟩) (fun uu s'' hh => ?_) fun _ _ hF => hF
    · refine ⟨⟨[], fun _ => False, fun _ h => by cases h⟩, [some (.int xv), some (.int pi), some (.int qi)], [], .int k, stx, ?_, ⟨rfl, .nil, fun a h => h.elim, fun n ds a h => by simp at h, tb⟩, ?_, fun rho' H'' v ext S' r => ⟨by cases r; rfl, fun b o n h => ext.keep b o (by simp) n h, S'.tab⟩⟩
      · have e : startF [("k" : Str), u, v] [V.int xv] ([i, j].map (NdefX.slotAt sg)) = [some (.int xv), some (.int pi), some (.int qi)] := by
          simp only [startF, List.map_cons, List.map_nil, slot_int hE hpi, slot_int hE hqi]
          rfl
        rw [e]
        refine ⟨rfl, fun i' d h => ?_⟩
        match i', h with
        | 0, h => cases h; exact ⟨_, rfl, .int _⟩
        | 1, h => cases h; exact ⟨_, rfl, .int _⟩
        | 2, h => cases h; exact ⟨_, rfl, .int _⟩
        | n + 3, h => simp at h
      · simp only [b2, vr, consD, callD, srtShp, selD, List.getElem?_cons_zero, List.getElem?_cons_succ, List.length_cons, List.length_nil, List.append_nil, and_self, if_true]
        exact hcall
    · obtain ⟨hu', H'', I'', un, st2, tb2⟩ := hh
      exact ⟨hu', ⟨H'', I'', ⟨oa.new, oa.loc, oa.cel, oa.pin, oa.fs, un.free a oA ea oa.non (by simp)⟩, ⟨ok.new, ok.loc, ok.cel, ok.pin, ok.fs, un.free kS oK ek ok.non (by simp)⟩, un.keep fA _ of' hfn' hfr (by simp), un.free fA _ of' hfn' (by simp), na, nk, fun b o n h => st2 b o n (stH b o n h), tb2⟩,
        fun o e => un.keep kS o e ok.non ok.fs (by simp), fun o e => un.keep a o e oa.non oa.fs (by simp)⟩
  case fin =>
    rintro s' a kS out cc ⟨H', I', oa, ok, of', hfn', na, nk, stH, tb⟩ ho hko
    have e2 : ks.map PyData.int = (xs.zip ks).map fun b => PyData.int b.2 := by
      have e5 : (xs.zip ks).map (fun b => PyData.int b.2) = ((xs.zip ks).map Prod.snd).map PyData.int := by rw [List.map_map]; rfl
      rw [e5, List.map_snd_zip (by omega)]
    have hl2 := hko.length (by rw [List.length_map, kl, ln])
    rw [e2] at hko
    obtain ⟨ws, rw1, rv1⟩ := each_to (PySem.W.keyedOut_each (fun b : D × Int => PyData.int b.2) hko (each_of rvs rI kl))
    have e3 : (fun p q : D × Int => PySem.W.dataLe false (fun b : D × Int => PyData.int b.2) p q) = fun p q => decide (p.2 ≤ q.2) := by funext p q; exact dle_int p q
    have st1' : Stays H1 H' := fun b o n h => stH b o n (st12 b o n h)
    have S' := S1.stays st1' tb
    have rr : RepL X.K rho1 H1 (srtD xs ks) ws := by
      have e4 : PySem.W.dataLe false (fun b : D × Int => PyData.int b.2) = fun p q => decide (p.2 ≤ q.2) := e3
      rw [e4] at rw1
      exact rw1
    refine ⟨.ref a, upd H' a (.lst ws), inv_tell I' oa (by rw [rv1.length, hl2, ln, rvs.length]; exact hz) rv1 ho, rfl, hQ rho1 _ _ (x1.trans ((Ext.stays st1').trans (Ext.tmp oa.non))) (S'.tmp oa.non) (.lst (.inl ⟨.inl upd_same, S'.not_m oa.non⟩) ((rr.ext S1.trk (Ext.stays st1')).ext S'.trk (Ext.tmp oa.non)))⟩
end B
/-! B74: sorted(set(a)), len(set(a)). -/
namespace B
open PySem PySem.Spec PyProof.Rows L2

/-- a set with nothing in it -/
def eSet (w : World) : Obj := { cls := .type "set", dict := none, data := .set #[] 0 (.fresh 0 0 (!w.params.followText "set-order")) }
/-- the state with one more object -/
def plus (s : Shared) (o : Obj) : Shared := { s with heap := s.heap.push o }
def itL (l : Addr) : Obj := { cls := .type "list_iterator", data := .fields #[.ref l, .int 0 0] }

section
variable {P : Program} {w : World} {A : Around} {E : Value → Shared → Prop} {s : Shared} {l : Addr} {xs : Array Value} {ks : List Int}

theorem ks_at (hi : IntsAre xs.toList ks) (i : Nat) (v : Value) (hv : xs[i]? = some v) : ∃ k t, ks[i]? = some k ∧ v = .int k t := by
  have hlt : i < ks.length := by
    rw [← IntsAre.length hi, Array.length_toList]
    exact (Array.getElem?_eq_some_iff.mp hv).1
  obtain ⟨t, e⟩ := IntsAre.int_at hi i v (by rw [Array.getElem?_toList]; exact hv)
  rw [List.getD_eq_getElem?_getD, List.getElem?_eq_getElem hlt] at e
  exact ⟨ks[i], t, List.getElem?_eq_getElem hlt, e⟩

/-- the numbers of a list are put in -/
theorem fill_ok {a : Addr} {G : Result → Shared → Prop} (hh : A.in1.handled = none) (ha : s.heap.get? a = some (eSet w)) (hl : s.heap.IsList l xs) (hi : IntsAre xs.toList ks) (hb : ks.length + 1 < scanBound) (hal : a ≠ l)
    (hG : ∀ h' tk c, SetR w h' a (fun j => decide (j ∈ ks)) c → (∀ b o, b ≠ a → s.heap.get? b = some o → h'.get? b = some o) → G (.ok (.ret .none)) { s with heap := h', toks := tk }) :
    codeAny (model P w) A (.builtin "set.update.loop" ⟨[.ref a, .ref s.heap.objs.size], []⟩) G (plus s (itL l)) := by
  have hln : l < s.heap.objs.size := by
    obtain ⟨o, ho, _⟩ := hl
    exact Heap.lt_size ho
  have han : a < s.heap.objs.size := Heap.lt_size ha
  have hsz : xs.size = ks.length := by rw [← IntsAre.length hi, Array.length_toList]
  refine set_update_ints ((Walks.list hh _ l (Nat.ne_of_lt hln) xs).toS) a (fun hm => ?_) ks hsz hb (ks_at hi) (xs.size - 0) 0 _ rfl (Nat.zero_le _) ⟨⟨_, Heap.get?_push_size _ rfl, rfl, rfl⟩, hl.push _⟩ ⟨0, Nat.le_refl 0, setR_new_at (Heap.get?_push_of_some _ ha)⟩ fun s' c hm hc R => ?_
  · rcases List.mem_cons.mp hm with e | e
    · exact Nat.ne_of_lt han e
    · exact hal (List.mem_singleton.mp e)
  · obtain ⟨h', g', d', tk', os'⟩ := s'
    cases (show g' = s.gens from hm.gens)
    cases (show d' = s.drawn from hm.drawn)
    cases (show os' = s.os from hm.os)
    refine hG h' tk' c R fun b o hba e => hm.heap b o (fun hmem => ?_) (Heap.get?_push_of_some _ e)
    rcases List.mem_cons.mp hmem with z | z
    · exact hba z
    · exact Nat.ne_of_lt (Heap.lt_size e) (List.mem_singleton.mp z)

/-- what set(..) of a list leaves -/
def SetDone (w : World) (s : Shared) (ks : List Int) (r : Value) (s2 : Shared) : Prop := r = .none ∧ ∃ h' tk c, s2 = { s with heap := h', toks := tk } ∧ SetR w h' s.heap.objs.size (fun j => decide (j ∈ ks)) c ∧ ∀ b o, s.heap.get? b = some o → h'.get? b = some o

set_option maxHeartbeats 6400000 in
theorem call_setL {Q : Value → Shared → Prop} (hh : A.handled = none) (hl : s.heap.IsList l xs) (hi : IntsAre xs.toList ks) (hb : ks.length + 1 < scanBound)
    (hQ : ∀ h' tk c, SetR w h' s.heap.objs.size (fun j => decide (j ∈ ks)) c → (∀ b o, s.heap.get? b = some o → h'.get? b = some o) → Q (.ref s.heap.objs.size) { s with heap := h', toks := tk }) :
    wpAny (model P w) A (call (.type "set") [.ref l]) Q E s := by
  have ⟨o0, ho0, hc0, n0, hd0⟩ := hl
  have hls : l < s.heap.objs.size := Heap.lt_size ho0
  obtain ⟨c, tl, hmro⟩ := PySem.F.called_set.mro
  have f1 := PySem.F.called_set.made
  have f2 := PySem.F.called_set.sub
  have f3 := PySem.F.called_set.notType
  have f4 := PySem.F.called_set.canCreate
  have f5 := PySem.F.typeCall_set_1 (.ref l)
  refine wpAny_call (codeAny_of_tree (wpAny_pure (?_ : _ ∧ _)))
  refine ⟨Code.quiet_builtin _ (by decide +kernel), codeAny_builtin PySem.F.entry_type_call ?_⟩
  rw [Around.under_plain (weight_type_call_type "set" [.ref l] []) rfl]
  repeat (any_goals (first | assumption | wp_step))
  have hE : (plus s (eSet w)).heap.get? s.heap.objs.size = some (eSet w) := Heap.get?_push_size _ rfl
  refine codeAny_mono (code_set_led1 (w := w) (E := E) (.ref l) (Q₁ := fun v t => v = .ref s.heap.objs.size ∧ t = plus s (eSet w)) ⟨rfl, rfl⟩) fun r t hr => ?_
  match r, hr with
  | .error e, hr => exact hr
  | .ok (.ret v), hr =>
    obtain ⟨e1, e2⟩ := hr
    subst e1 e2
    have hT : (plus s (eSet w)).TypeIs (.ref s.heap.objs.size) "set" := ⟨_, hE, rfl⟩
    have g1 := PySem.F.called_set.init.lookup
    have g2 := PySem.F.called_set.init.bind (.ref s.heap.objs.size)
    repeat (any_goals (first | assumption | wp_step))
    refine codeAny_mono (codeAny_call_builtin (R := wants (SetDone w s ks) E) PySem.F.called_set.init.plain PySem.F.entry_set_init (check_set_init_1 hT ?_)) fun r t hr => ?_
    · have hl1 : (plus s (eSet w)).heap.IsList l xs := hl.push _
      have s1 := PySem.F.sub_list_set
      have s2 := PySem.F.sub_list_frozenset
      have s3 : (Value.type "list" == Value.type "dict") = false := by decide
      obtain ⟨oc, od, oda, os⟩ := o0
      simp only at hc0 hd0
      subst hc0 hd0
      have hol : (plus s (eSet w)).heap.get? l = some { cls := .type "list", dict := od, data := .seq xs n0, slots := os } := Heap.get?_push_of_some _ ho0
      unfold plus eSet at hol hl1
      unfold Builtin.«set.__init__» noKeywords Builtin.Frozenset.updateFrom plus eSet
      generalize hPI : pyIter = PI
      wp_walk
      subst hPI
      refine wpAny_pyIter_list hl1 (wpAny_bind (wpAny_runValue ?_))
      refine fill_ok (s := plus s (eSet w)) (by simp [hh]) hE hl1 hi hb (Nat.ne_of_gt hls) fun h' tk c R k => ?_
      show wpAny _ _ _ _ _ _
      refine wpAny_pure ?_
      show wpAny _ _ (ret Value.none) _ _ _
      exact wpAny_pure ⟨rfl, h', tk, c, rfl, R, fun b o e => k b o (Nat.ne_of_lt (Heap.lt_size e)) (Heap.get?_push_of_some _ e)⟩
    · match r, hr with
      | .error e, hr => exact hr
      | .ok (.ret v), hr =>
        obtain ⟨rfl, h', tk, c, rfl, R, k⟩ := hr
        repeat (any_goals (first | assumption | wp_step))
        exact hQ _ _ _ R k
      | .ok .next, hr => exact hr.elim
      | .ok .brk, hr => exact hr.elim
      | .ok .cont, hr => exact hr.elim
  | .ok .next, hr => exact hr.elim
  | .ok .brk, hr => exact hr.elim
  | .ok .cont, hr => exact hr.elim
end

/-! ### the rules -/
theorem mem_ddI {k : Int} : ∀ {ns : List Int}, k ∈ ddI ns ↔ k ∈ ns
  | [] => Iff.rfl
  | x :: r => by
    unfold ddI
    split
    · rename_i h
      rw [mem_ddI, List.mem_cons]
      exact ⟨.inr, fun e => e.elim (fun e => e ▸ h) id⟩
    · rw [List.mem_cons, List.mem_cons, mem_ddI]
theorem nodup_ddI : ∀ ns : List Int, (ddI ns).Nodup
  | [] => List.nodup_nil
  | x :: r => by
    unfold ddI
    split
    · exact nodup_ddI r
    · rename_i h
      exact List.nodup_cons.mpr ⟨fun e => h (mem_ddI.mp e), nodup_ddI r⟩
theorem length_ddI : ∀ ns : List Int, (ddI ns).length ≤ ns.length
  | [] => Nat.le_refl _
  | x :: r => by
    unfold ddI
    split
    · exact Nat.le_succ_of_le (length_ddI r)
    · exact Nat.succ_le_succ (length_ddI r)
theorem same_len {l m : List Int} (h1 : l.Nodup) (h2 : m.Nodup) (h : ∀ k, k ∈ l ↔ k ∈ m) : l.Perm m := (List.perm_ext_iff_of_nodup h1 h2).mpr h
theorem card_ddI {w : World} {h : Heap} {a : Addr} {ks : List Int} {c : Nat} (R : SetR w h a (fun j => decide (j ∈ ks)) c) : c = (ddI ks).length := by
  obtain ⟨o, es, ep, t, ho, hx, hd, g, nd, hm, hb, hf, hn, _⟩ := R
  have p := same_len nd (nodup_ddI ks) fun k => by rw [← hm k, decide_eq_true_eq, mem_ddI]
  rw [← p.length_eq, ← hn, List.length_map, Array.length_toList]
theorem usI_is {ns l : List Int} (h1 : l.Pairwise (· < ·)) (h : ∀ k, k ∈ l ↔ k ∈ ns) : l = usI ns := by
  have nd : l.Nodup := h1.imp fun hlt e => by subst e; exact Int.lt_irrefl _ hlt
  exact srtI_eq (same_len nd (nodup_ddI ns) fun k => by rw [h, mem_ddI]) (h1.imp fun hlt => Int.le_of_lt hlt)

/-- set(a) of numbers -/
def rSetN (K : PySem.W.Frag) (w : World) : List V → Hp → VK → Prop := fun vs H Q => ∃ (l : Addr) (ns : List Int), vs = [V.ref l] ∧ (SqL K H l (ns.map V.int) ∨ SqT K H l (ns.map V.int)) ∧ ns.length ≤ 4000 ∧
  ∀ p, H p = none → Q (.ref p) (upd H p (SetO w p (fun j => decide (j ∈ ns)) (ddI ns).length))
section
variable {X : Cx}
theorem cr_setN (hc : X.calm = true) : CallR X (.type "set") (rSetN X.K X.w) := by
  intro pins s σ H vs us Q I r h
  obtain ⟨l, ns, rfl, hq, hn, q⟩ := h
  have hb : ns.length + 1 < scanBound := by unfold scanBound; omega
  have fin : ∀ (h' : Heap) (tk c : Nat), SetR X.w h' s.heap.objs.size (fun j => decide (j ∈ ns)) c → (∀ b o, s.heap.get? b = some o → h'.get? b = some o) → EP X pins σ Q (.ref s.heap.objs.size) { s with heap := h', toks := tk } := fun h' tk c R k => by
    have e := card_ddI R
    subst e
    exact ⟨.ref _, upd H s.heap.objs.size (SetO X.w s.heap.objs.size (fun j => decide (j ∈ ns)) (ddI ns).length), I.laid (t' := tk) k (Nat.le_refl _) (setO_new R), rfl, q _ (I.hok.fresh (Nat.le_refl _))⟩
  rw [Vals.ref1 r]
  rcases hq with hq | hq
  · obtain ⟨its, rv, pl, hz⟩ := I.list hq
    exact call_setL (I.ok.hd hc) pl.isList (by simpa using ints_of_vals rv) hb fin
  · obtain ⟨its, rv, pl, hz⟩ := I.tuple hq
    exact call_set_tupI ns (I.ok.hd hc) (show s.heap.IsTuple l its.toArray from pl) (by simpa using ints_of_vals rv) hb fun h' tk c R _ k => fin h' tk c R k
/-- len of a set -/
def rLenO (w : World) : List V → Hp → VK → Prop := fun vs H Q => ∃ (a : Addr) (S : Int → Bool) (n : Nat), vs = [V.ref a] ∧ H a = some (SetO w a S n) ∧ n ≤ 4000 ∧ Q (.int n) H
theorem cr_lenO : CallR X (.builtin "len") (rLenO X.w) := by
  intro pins s σ H vs us Q I r h
  obtain ⟨a, S, n, rfl, ha, hn, q⟩ := h
  rw [Vals.ref1 r]
  obtain ⟨o, es, ep, t, ho, hx, hd, g, nd, hm, hb, hf, hz, _⟩ := setO_get I ha
  refine PySem.call_len_set ho hx hd hf (by omega) ⟨.int n, H, I.tok _, ⟨_, by rw [hz]⟩, q⟩
variable {C : Ctx} {n : Nat} {call : CallF} {sc : Scope} {f : RF D} {e : Expr} {p p2 pos pos2 : Pos}
theorem intsS_rep {K : PySem.W.Frag} {rho : Rho} {H : Hp} {st : Store} {d : D} {v : V} {ns : List Int} (S : StoreRep K rho H st) (r : Rep K rho H d v) (h : intsS d st = some ns) : ∃ a, v = .ref a ∧ (SqL K H a (ns.map V.int) ∨ SqT K H a (ns.map V.int)) := by
  unfold intsS at h
  split at h
  · rename_i xs hx
    obtain ⟨a, vs, rfl, hq, rl⟩ := seq_rep S r hx
    have e := ints_rep rl h
    subst e
    exact ⟨a, rfl, hq⟩
  · cases h
theorem k_sset {mat : Bool} (c : Cok C X n call sc) (hg : Gl X "sorted") (hm : X.mg "sorted" = none) (hg2 : Gl X "set") (hm2 : X.mg "set" = none) (hs : notStar e = true) (ha : PE X e (TXe X.K f)) : PE X (.Call (.Name "sorted" p) [.Call (.Name "set" p2) [e] [] pos] [] pos2) (TXe X.K (b1 f (ssetD mat))) := by
  have inner := pe_callTy (p := p2) (pos := pos) (cr_setN c.calm) hg2 hm2 boot_set (pa_cons ha pa_nil (star_cons hs)) (by decide) (by decide) (star_cons hs) (by rfl)
  refine PE.of (pe_callB (cr_sortedSet c.calm) hg hm boot_sorted (pa_cons inner pa_nil)) fun sg H Q w => ?_
  refine tx_b1 (K := X.K) (fun u H1 Q1 => rSetN X.K X.w [u] H1 fun v H2 => rSortedSet X.w [v] H2 Q1) (fun rho H st x u z st' S rx ho k => ?_) w
  unfold ssetD at ho
  split at ho
  · rename_i ns hn
    split at ho
    · rename_i hb
      obtain ⟨a, rfl, hq⟩ := intsS_rep S rx hn
      refine ⟨a, ns, rfl, hq, hb.2, fun q hq0 => ⟨q, _, _, rfl, upd_same, hb.1, fun ns' p' h1 h2 h3 hp => ?_⟩⟩
      have e : ns' = usI ns := usI_is h1 fun j => by rw [h2, decide_eq_true_eq]
      subst e
      have k' : Kn X.K (Rep X.K) rho (upd H q (SetO X.w q (fun j => decide (j ∈ ns)) (ddI ns).length)) z st' Q := fun rho' H' v x' S' r' => k rho' H' v ((Ext.tmp hq0).trans x') S' r'
      exact k'.newL (S.tmp hq0) (ints_repL _) ho hp
    · cases ho
  · cases ho
theorem k_lset (c : Cok C X n call sc) (hg : Gl X "len") (hm : X.mg "len" = none) (hg2 : Gl X "set") (hm2 : X.mg "set" = none) (hs : notStar e = true) (ha : PE X e (TXe X.K f)) : PE X (.Call (.Name "len" p) [.Call (.Name "set" p2) [e] [] pos] [] pos2) (TXe X.K (b1 f lsetD)) := by
  have inner := pe_callTy (p := p2) (pos := pos) (cr_setN c.calm) hg2 hm2 boot_set (pa_cons ha pa_nil (star_cons hs)) (by decide) (by decide) (star_cons hs) (by rfl)
  refine PE.of (pe_callB cr_lenO hg hm boot_len (pa_cons inner pa_nil)) fun sg H Q w => ?_
  refine tx_b1 (K := X.K) (fun u H1 Q1 => rSetN X.K X.w [u] H1 fun v H2 => rLenO X.w [v] H2 Q1) (fun rho H st x u z st' S rx ho k => ?_) w
  unfold lsetD at ho
  split at ho
  · rename_i ns hn
    split at ho
    · rename_i hb
      cases ho
      obtain ⟨a, rfl, hq⟩ := intsS_rep S rx hn
      refine ⟨a, ns, rfl, hq, hb, fun q hq0 => ⟨q, _, _, rfl, upd_same, Nat.le_trans (length_ddI ns) hb, k rho _ _ (Ext.tmp hq0) (S.tmp hq0) (.int _)⟩⟩
    · cases ho
  · cases ho
end
end B
/-! B75: list.extend, list.pop, two items written at once. -/
namespace B
open PySem PySem.Spec PyProof.Rows L2

theorem list_extW (l : Addr) (items : Array Value) (n : Nat) (b : Addr) (items2 : Array Value) (n2 : Nat) (dd2 : Option Addr) (sl2 : Array (Option Value)) (hc0 : ¬(!items.isEmpty && Builtin.List.listTooLong (items.size + items2.size)) = true) (hc1 : items.size ≤ sizeLine) (hs2 : items.size + items2.size ≤ sizeLine + 1) :
    Meets (Builtin.«list.extend» ⟨[.ref l, .ref b], []⟩) (fun _ R s => s.heap.get? l = some { cls := .type "list", dict := none, data := .seq items n, slots := #[] } ∧ s.heap.get? b = some { cls := .type "list", dict := dd2, data := .seq items2 n2, slots := sl2 } ∧ R (.ok (.ret Value.none)) { s with heap := s.heap.update l (Obj.mapSeq fun x => x ++ items2), toks := s.toks }) :=
  .of_wp fun prog w A R s h => by
    obtain ⟨hp, g, d, tk, os⟩ := s; obtain ⟨hl, hb, h⟩ := h; have f1 := AutoSeq1.idx_int; have f2 := AutoSeq1.sub_tuple_tuple; have f3 := AutoSeq1.sub_list_list; have f4 := AutoSeq1.sub_tuple_list; have f5 := AutoSeq1.sub_list_tuple
    have hz' : (items ++ items2).size ≤ sizeLine + 1 := by rw [Array.size_append]; exact hs2
    wp_walk using (wpAny_updateSeq hl rfl (hz := hc1) (_hz' := hz')), wpAny_loadPart' hl, wpAny_loadPart' hb; exact ⟨_, rfl, h⟩
theorem list_extWT (l : Addr) (items : Array Value) (n : Nat) (b : Addr) (items2 : Array Value) (n2 : Nat) (dd2 : Option Addr) (sl2 : Array (Option Value)) (hc0 : ¬(!items.isEmpty && Builtin.List.listTooLong (items.size + items2.size)) = true) (hc1 : items.size ≤ sizeLine) (hs2 : items.size + items2.size ≤ sizeLine + 1) :
    Meets (Builtin.«list.extend» ⟨[.ref l, .ref b], []⟩) (fun _ R s => s.heap.get? l = some { cls := .type "list", dict := none, data := .seq items n, slots := #[] } ∧ s.heap.get? b = some { cls := .type "tuple", dict := dd2, data := .seq items2 n2, slots := sl2 } ∧ R (.ok (.ret Value.none)) { s with heap := s.heap.update l (Obj.mapSeq fun x => x ++ items2), toks := s.toks }) :=
  .of_wp fun prog w A R s h => by
    obtain ⟨hp, g, d, tk, os⟩ := s; obtain ⟨hl, hb, h⟩ := h; have f1 := AutoSeq1.idx_int; have f2 := AutoSeq1.sub_tuple_tuple; have f3 := AutoSeq1.sub_list_list; have f4 := AutoSeq1.sub_tuple_list; have f5 := AutoSeq1.sub_list_tuple
    have hz' : (items ++ items2).size ≤ sizeLine + 1 := by rw [Array.size_append]; exact hs2
    wp_walk using (wpAny_updateSeq hl rfl (hz := hc1) (_hz' := hz')), wpAny_loadPart' hl, wpAny_loadPart' hb; exact ⟨_, rfl, h⟩
def rExtW (K : PySem.W.Frag) : V → List V → Hp → VK → Prop := fun x vs H Q => ∃ l b xs zs, x = .ref l ∧ vs = [.ref b] ∧ H l = some (.lst xs) ∧ (SqL K H b zs ∨ SqT K H b zs) ∧ xs.length + zs.length ≤ sizeLine ∧ Q .non (upd H l (.lst (xs ++ zs)))
theorem mt_extW {X : Cx} : MtM X "list.extend" (rExtW X.K) := by
  intro pins s σ H x vs v us Q I rx rv h
  obtain ⟨l, b, xs, zs, rfl, rfl, hH, hB, hz, q⟩ := h
  cases rx
  obtain ⟨u, rfl, ru⟩ := rv.one
  cases ru
  obtain ⟨z, its, n, r, hl, e⟩ := I.lstM hH
  rcases hB with hB | hB
  · obtain ⟨its2, r2, ⟨o2, n2, ho2, hc2, hdd2, hd2⟩, z2⟩ := I.list hB
    obtain ⟨cls2, dd2, data2, sl2⟩ := o2
    simp only at hc2 hd2
    subst hc2 hd2
    have hl2 := r2.length
    have hsz : its.toArray.size + its2.toArray.size ≤ sizeLine := by rw [List.size_toArray, List.size_toArray]; omega
    have hlong : ¬ (!its.toArray.isEmpty && Builtin.List.listTooLong (its.toArray.size + its2.toArray.size)) = true := by
      rw [notLongL hsz, Bool.and_false]
      exact Bool.false_ne_true
    refine call_meets PySem.F.slot_list_extend ⟨_, e, rfl⟩ PySem.F.entry_list_extend (PySem.F.args_list_extend_2 _ _)
      (list_extW l its.toArray n b its2.toArray n2 dd2 sl2 hlong (by rw [List.size_toArray]; omega) (by omega)) ⟨e, ho2, ?_⟩
    refine ⟨.non, _, I.lset (its' := its ++ its2) hH e (by simp) (r.append r2) ?_, rfl, q⟩
    rw [List.length_append]
    omega
  · obtain ⟨its2, r2, ⟨⟨cls2, dd2, data2, sl2⟩, ho2, hc2, n2, hd2⟩, z2⟩ := I.tuple hB
    simp only at hc2 hd2
    subst hc2 hd2
    have hl2 := r2.length
    have hsz : its.toArray.size + its2.toArray.size ≤ sizeLine := by rw [List.size_toArray, List.size_toArray]; omega
    have hlong : ¬ (!its.toArray.isEmpty && Builtin.List.listTooLong (its.toArray.size + its2.toArray.size)) = true := by
      rw [notLongL hsz, Bool.and_false]
      exact Bool.false_ne_true
    refine call_meets PySem.F.slot_list_extend ⟨_, e, rfl⟩ PySem.F.entry_list_extend (PySem.F.args_list_extend_2 _ _)
      (list_extWT l its.toArray n b its2.toArray n2 dd2 sl2 hlong (by rw [List.size_toArray]; omega) (by omega)) ⟨e, ho2, ?_⟩
    refine ⟨.non, _, I.lset (its' := its ++ its2) hH e (by simp) (r.append r2) ?_, rfl, q⟩
    rw [List.length_append]
    omega

section
variable {X : Cx} {f g h : RF D} {pos : Pos}
theorem k_ext {o x : Expr} {ap : Pos} (hl : (ap.endLine == pos.line) = true) (hb : baseOk o = true) (hs : notStar x = true) (ho : PE X o (TXe X.K f)) (hx : PE X x (TXe X.K g)) : PE X (.Call (.Attribute o "extend" ap) [x] [] pos) (TXe X.K (b2 (b1 f asL) g extD)) := by
  refine PE.of (pe_bm PySem.F.plainAttrs_list PySem.F.slot_list_extend PySem.F.type_list_extend mt_extW ho (pa_cons hx pa_nil (star_cons hs)) (base_of hb) (by rw [star_cons hs]; rfl) hl (star_cons hs) rfl) fun sg H Q w => ?_
  have w := tx_b2 (K := X.K) mono_rep (fun u v H1 Q1 => ∃ (rho : Rho) (st : Store) (x y z : D) (st' : Store), StoreRep X.K rho H1 st ∧ Rep X.K rho H1 x u ∧ Rep X.K rho H1 y v ∧ extD x y st = some (z, st') ∧ Kn X.K (Rep X.K) rho H1 z st' Q1)
    (fun rho H st x u y v z st' S rx ry e k => ⟨rho, st, x, y, z, st', S, rx, ry, e, k⟩) w
  have w := tx_asL w
  obtain ⟨rho, env, st, d, st', hE, hS, hf, k⟩ := w
  refine ⟨rho, env, st, d, st', hE, hS, hf, fun rho1 H1 u x1 S1 r1 => ?_⟩
  obtain ⟨⟨a, xs, rfl, ha⟩, q⟩ := k rho1 H1 u x1 S1 r1
  refine ⟨.inl ⟨rfl, _, SqL.of ha⟩, ?_⟩
  obtain ⟨rho2, env2, st2, d2, st2', hE2, hS2, hf2, k2⟩ := q
  refine ⟨rho2, env2, st2, d2, st2', hE2, hS2, hf2, fun rho3 H3 v x3 S3 r3 => ?_⟩
  obtain ⟨rho4, st4, y, t, z, st4', S4, ry, rt, e, kk⟩ := k2 rho3 H3 v x3 S3 r3
  unfold extD at e
  split at e
  · rename_i m
    split at e
    · rename_i ds e2
      split at e
      · rename_i es e3
        split at e
        · rename_i hlt
          cases e
          obtain ⟨a', vs, ea, hr, h1, rl⟩ := S4.at ry e2
          cases ea
          obtain ⟨b, ws, rfl, hsq, rw'⟩ := seq_rep S4 rt e3
          refine ⟨a, b, vs, ws, rfl, rfl, h1, hsq, by rw [← rl.length, ← rw'.length, ← sizeSL]; exact hlt, ?_⟩
          exact kk rho4 _ _ (Ext.wr (List.mem_of_getElem? hr)) (S4.set hr (rl.append rw')) .non
        · cases e
      · cases e
    · cases e
  · cases e
theorem k_pop {o : Expr} {ap : Pos} (hl : (ap.endLine == pos.line) = true) (hb : baseOk o = true) (ho : PE X o (TXe X.K f)) : PE X (.Call (.Attribute o "pop" ap) [] [] pos) (TXe X.K (b1 (b1 f asL) popD)) := by
  refine PE.of (pe_bm0 PySem.F.plainAttrs_list PySem.F.slot_list_pop PySem.F.type_list_pop mt_pop ho (base_of hb) hl) fun sg H Q w => ?_
  have w := tx_b1 (K := X.K) (fun u H1 Q1 => ∃ (rho : Rho) (st : Store) (x z : D) (st' : Store), StoreRep X.K rho H1 st ∧ Rep X.K rho H1 x u ∧ popD x st = some (z, st') ∧ Kn X.K (Rep X.K) rho H1 z st' Q1)
    (fun rho H st x u z st' S rx e k => ⟨rho, st, x, z, st', S, rx, e, k⟩) w
  have w := tx_asL w
  obtain ⟨rho, env, st, d, st', hE, hS, hf, k⟩ := w
  refine ⟨rho, env, st, d, st', hE, hS, hf, fun rho1 H1 u x1 S1 r1 => ?_⟩
  obtain ⟨⟨a, xs, rfl, ha⟩, q⟩ := k rho1 H1 u x1 S1 r1
  refine ⟨.inl ⟨rfl, _, SqL.of ha⟩, ?_⟩
  obtain ⟨rho4, st4, y, z, st4', S4, ry, e, kk⟩ := q
  unfold popD at e
  split at e
  · rename_i m
    split at e
    · rename_i ds e2
      split at e
      · rename_i dl e3
        cases e
        obtain ⟨a', vs, ea, hr, h1, rl⟩ := S4.at ry e2
        cases ea
        rw [List.getLast?_eq_getElem?] at e3
        obtain ⟨w, hw, rw'⟩ := rl.get e3
        rw [rl.length] at hw
        refine ⟨a, vs, w, rfl, rfl, h1, hw, ?_⟩
        have hx := Ext.wr (H := H1) (o := .lst vs.dropLast) (List.mem_of_getElem? hr)
        have rd : RepL X.K rho4 H1 ds.dropLast vs.dropLast := by rw [List.dropLast_eq_take, List.dropLast_eq_take, ← rl.length]; exact rl.take _
        exact kk rho4 _ _ hx (S4.set hr rd) (rw'.ext S4.trk hx)
      · cases e
    · cases e
  · cases e
end
end B
/-! B76: dicts. -/
namespace B
open PySem PySem.Spec PyProof.Rows L2

/-! ### tables of data and tables of values -/
section
variable {κ κ' : Type} [DecidableEq κ] [DecidableEq κ']
def mkG (g : κ → κ') (ks : List κ) (vs : List V) : List (κ' × V) := List.zipWith (fun k v => (g k, v)) ks vs
theorem mkI_g (ks : List Int) (vs : List V) : mkI ks vs = mkG (Sum.inl : Int → Key) ks vs := rfl
theorem mkT_g (ks : List (List Int)) (vs : List V) : mkT ks vs = mkG (List.map (Sum.inl : Int → Key)) ks vs := rfl
theorem mkG_cons {g : κ → κ'} {k : κ} {v : V} {ks : List κ} {vs : List V} : mkG g (k :: ks) (v :: vs) = (g k, v) :: mkG g ks vs := rfl
theorem lookA_nil {k : κ} : lookA ([] : List (κ × D)) k = none := rfl
theorem lookA_pos {p : κ × D} {r : List (κ × D)} {k : κ} (e : p.1 = k) : lookA (p :: r) k = some p.2 := by simp [lookA, List.find?_cons, e]
theorem lookA_neg {p : κ × D} {r : List (κ × D)} {k : κ} (e : ¬ p.1 = k) : lookA (p :: r) k = lookA r k := by simp [lookA, List.find?_cons, e]
variable {K : PySem.W.Frag} {rho : Rho} {H : Hp}
/-- data or nothing, stood for by a value or nothing -/
def RepO (K : PySem.W.Frag) (rho : Rho) (H : Hp) : Option D → Option V → Prop
  | none, none => True
  | some d, some v => Rep K rho H d v
  | _, _ => False
theorem look_rep {g : κ → κ'} (hg : ∀ a b, g a = g b → a = b) (k : κ) : ∀ {kvs : List (κ × D)} {vs : List V}, RepL K rho H (kvs.map (·.2)) vs → RepO K rho H (lookA kvs k) (valV (mkG g (kvs.map (·.1)) vs) (g k))
  | [], _, h => by cases h; exact True.intro
  | p :: r, _, h => by
    rw [List.map_cons] at h
    cases h with
    | @cons d v ds vs a b =>
      rw [List.map_cons, mkG_cons]
      by_cases e : p.1 = k
      · rw [lookA_pos e, valV_pos (p := (g p.1, v)) (by show g p.1 = g k; rw [e])]
        exact a
      · rw [lookA_neg e, valV_neg (p := (g p.1, v)) (fun z => e (hg _ _ z))]
        exact look_rep hg k b
theorem any_g {g : κ → κ'} (hg : ∀ a b, g a = g b → a = b) (k : κ) : ∀ {kvs : List (κ × D)} {vs : List V}, kvs.length = vs.length → ((mkG g (kvs.map (·.1)) vs).any fun kv => decide (kv.1 = g k)) = kvs.any fun kv => decide (kv.1 = k)
  | [], _, h => by rfl
  | p :: r, [], h => by cases h
  | p :: r, v :: vs, h => by
    rw [List.map_cons, mkG_cons, List.any_cons, List.any_cons, any_g hg k (Nat.succ.inj h)]
    congr 1
    by_cases e : p.1 = k
    · simp [e]
    · have : ¬ g p.1 = g k := fun z => e (hg _ _ z)
      simp [e, this]
theorem repl_g {g : κ → κ'} (hg : ∀ a b, g a = g b → a = b) (k : κ) {d : D} {w : V} (hd : Rep K rho H d w) : ∀ {kvs : List (κ × D)} {vs : List V}, RepL K rho H (kvs.map (·.2)) vs →
    ∃ vs', ((mkG g (kvs.map (·.1)) vs).map fun kv => if kv.1 = g k then (kv.1, w) else kv) = mkG g ((kvs.map fun kv => if kv.1 = k then (kv.1, d) else kv).map (·.1)) vs' ∧ RepL K rho H ((kvs.map fun kv => if kv.1 = k then (kv.1, d) else kv).map (·.2)) vs'
  | [], _, h => by cases h; exact ⟨[], rfl, .nil⟩
  | p :: r, _, h => by
    rw [List.map_cons] at h
    cases h with
    | @cons d0 v ds vs a b =>
      obtain ⟨vs', e1, e2⟩ := repl_g hg k hd b
      by_cases e : p.1 = k
      · refine ⟨w :: vs', ?_, ?_⟩
        · rw [List.map_cons, mkG_cons, List.map_cons, List.map_cons, List.map_cons, e1, if_pos e, if_pos (by show g p.1 = g k; rw [e]), mkG_cons]
        · rw [List.map_cons, List.map_cons, if_pos e]
          exact .cons hd e2
      · refine ⟨v :: vs', ?_, ?_⟩
        · rw [List.map_cons, mkG_cons, List.map_cons, List.map_cons, List.map_cons, e1, if_neg e, if_neg (fun z => e (hg _ _ z)), mkG_cons]
        · rw [List.map_cons, List.map_cons, if_neg e]
          exact .cons a e2
theorem mkG_app {g : κ → κ'} {k : κ} {v : V} : ∀ {ks : List κ} {vs : List V}, ks.length = vs.length → mkG g (ks ++ [k]) (vs ++ [v]) = mkG g ks vs ++ [(g k, v)]
  | [], [], _ => rfl
  | [], _ :: _, h => by cases h
  | _ :: _, [], h => by cases h
  | a :: ks, b :: vs, h => by
    rw [List.cons_append, List.cons_append, mkG_cons, mkG_cons, mkG_app (Nat.succ.inj h), List.cons_append]
theorem put_rep {g : κ → κ'} (hg : ∀ a b, g a = g b → a = b) (k : κ) {d : D} {w : V} (hd : Rep K rho H d w) {kvs : List (κ × D)} {vs : List V} (h : RepL K rho H (kvs.map (·.2)) vs) :
    ∃ vs', putK (mkG g (kvs.map (·.1)) vs) (g k) w = mkG g ((putA kvs k d).map (·.1)) vs' ∧ RepL K rho H ((putA kvs k d).map (·.2)) vs' := by
  have hl : kvs.length = vs.length := by have := h.length; rwa [List.length_map] at this
  unfold putK putA
  rw [any_g hg k hl]
  by_cases e : (kvs.any fun kv => decide (kv.1 = k)) = true
  · rw [if_pos e, if_pos e]
    exact repl_g hg k hd h
  · rw [if_neg e, if_neg e]
    refine ⟨vs ++ [w], ?_, ?_⟩
    · rw [List.map_append, List.map_cons, List.map_nil, mkG_app (by rw [List.length_map]; exact hl)]
    · rw [List.map_append]
      exact h.append (.cons hd .nil)
theorem mkG_len {g : κ → κ'} : ∀ {ks : List κ} {vs : List V}, ks.length = vs.length → (mkG g ks vs).length = ks.length
  | [], [], _ => rfl
  | [], _ :: _, h => by cases h
  | _ :: _, [], h => by cases h
  | a :: ks, b :: vs, h => by rw [mkG_cons, List.length_cons, List.length_cons, mkG_len (Nat.succ.inj h)]
end
theorem inl_inj : ∀ a b : Int, (Sum.inl a : Key) = Sum.inl b → a = b := fun _ _ e => Sum.inl.inj e
theorem inls_inj : ∀ a b : List Int, a.map (Sum.inl : Int → Key) = b.map Sum.inl → a = b
  | [], [], _ => rfl
  | [], _ :: _, e => by simp at e
  | _ :: _, [], e => by simp at e
  | x :: xs, y :: ys, e => by
    rw [List.map_cons, List.map_cons] at e
    injection e with e1 e2
    rw [inl_inj _ _ e1, inls_inj _ _ e2]

/-- a key stands -/
inductive RepK (rho : Rho) (H : Hp) : DK → V → Prop
  | i (k : Int) : RepK rho H (.i k) (.int k)
  | t {ks : List Int} {b : Addr} : H b = some (.tup (ks.map V.int)) → RepK rho H (.t ks) (.ref b)
theorem mono_repK : Mono RepK := fun rho H rho' H' x v t e r => by
  cases r with
  | i k => exact .i k
  | t h => exact .t (e.keep _ _ (t.tup h nm_tup) nt_tup h)
theorem intsK_rep {K : PySem.W.Frag} {rho : Rho} {H : Hp} : ∀ {ds : List D} {vs : List V} {ks : List Int}, RepL K rho H ds vs → intsD ds = some ks → vs = ks.map V.int
  | [], _, _, h, e => by cases h; cases e; rfl
  | d :: ds, _, _, h, e => by
    cases h with
    | cons a b =>
      cases a with
      | int i =>
        simp only [intsD] at e
        split at e
        · rename_i ns h1
          cases e
          rw [intsK_rep b h1, List.map_cons]
        · cases e
      | non => cases e
      | bl _ => cases e
      | str _ => cases e
      | tup _ _ => cases e
      | lst _ _ => cases e
      | ref _ => cases e
theorem kv_ints (ks : List Int) : (ks.map (Sum.inl : Int → Key)).map kV = ks.map V.int := by
  rw [List.map_map]; rfl
section
variable {K : PySem.W.Frag} {rho : Rho} {H : Hp} {st : Store}
/-- what a dict holds at a key -/
theorem get_rep {a : D} {u y : V} {k : DK} {o : Option D} (S : StoreRep K rho H st) (ra : Rep K rho H a u) (rk : RepK rho H k y) (h : dgetO a k st = some o) : ∃ p ov, u = .ref p ∧ DGet H p y ov ∧ RepO K rho H o ov := by
  unfold dgetO at h
  split at h
  case h_2 => cases h
  rename_i n
  cases ra with
  | ref hr =>
    split at h
    · rename_i kvs e
      obtain ⟨vs, h1, h2⟩ := S.ob _ _ _ e hr
      split at h
      · rename_i i
        cases h
        cases rk
        refine ⟨_, _, rfl, DGet.k (k := Sum.inl i) h1, ?_⟩
        exact look_rep inl_inj i h2
      · cases h
    · rename_i kvs e
      obtain ⟨vs, h1, h2⟩ := S.ob _ _ _ e hr
      split at h
      · rename_i ks
        cases h
        cases rk with
        | t hb =>
          refine ⟨_, _, rfl, DGet.t (k := ks.map Sum.inl) h1 (by rw [kv_ints]; exact hb), ?_⟩
          exact look_rep inls_inj ks h2
      · cases h
    · cases h
theorem get_repO {a : D} {u y : V} {k : DK} {o : Option D} (S : StoreRep K rho H st) (ra : Rep K rho H a u) (rk : RepK rho H k y) (h : dgetO a k st = some o) : ∃ p ov, u = .ref p ∧ DGet H p y ov ∧ RepO K rho H o ov ∧ ov.isSome = o.isSome := by
  obtain ⟨p, ov, h1, h2, h3⟩ := get_rep S ra rk h
  refine ⟨p, ov, h1, h2, h3, ?_⟩
  cases o <;> cases ov <;> first | rfl | exact h3.elim
/-- a dict is written -/
theorem put_repD {a e : D} {u y w : V} {k : DK} {st' : Store} (S : StoreRep K rho H st) (ra : Rep K rho H a u) (rk : RepK rho H k y) (re : Rep K rho H e w) (h : dputD a k e st = some st') :
    ∃ p H', u = .ref p ∧ DPut H p y w H' ∧ Ext rho H rho H' ∧ StoreRep K rho H' st' := by
  unfold dputD at h
  split at h
  case h_2 => cases h
  rename_i n
  cases ra with
  | ref hr =>
    split at h
    · rename_i kvs e
      obtain ⟨vs, h1, h2⟩ := S.ob _ _ _ e hr
      have hl : kvs.length = vs.length := by have := h2.length; rwa [O.ds, List.length_map] at this
      split at h
      · rename_i i
        split at h
        · rename_i hlt
          cases h
          cases rk
          obtain ⟨vs', e1, e2⟩ := put_rep inl_inj i re h2
          refine ⟨_, _, rfl, DPut.k (k := Sum.inl i) h1 ?_, ?_, ?_⟩
          · show (mkI _ vs).length < _
            rw [mkI_g, mkG_len (by rw [List.length_map]; exact hl), List.length_map, ← sizeSL]; exact hlt
          · exact Ext.wr (List.mem_of_getElem? hr)
          · rw [mkI_g, e1]
            exact S.setO (o := .dci (putA kvs i _)) hr e2
        · cases h
      · cases h
    · rename_i kvs e
      obtain ⟨vs, h1, h2⟩ := S.ob _ _ _ e hr
      have hl : kvs.length = vs.length := by have := h2.length; rwa [O.ds, List.length_map] at this
      split at h
      · rename_i ks
        split at h
        · rename_i hlt
          cases h
          cases rk with
          | t hb =>
            obtain ⟨vs', e1, e2⟩ := put_rep inls_inj ks re h2
            refine ⟨_, _, rfl, DPut.t (k := ks.map Sum.inl) h1 (by rw [kv_ints]; exact hb) ?_, ?_, ?_⟩
            · show (mkT _ vs).length < _
              rw [mkT_g, mkG_len (by rw [List.length_map]; exact hl), List.length_map, ← sizeSL]; exact hlt
            · exact Ext.wr (List.mem_of_getElem? hr)
            · rw [mkT_g, e1]
              exact S.setO (o := .dct (putA kvs ks _)) hr e2
        · cases h
      · cases h
    · cases h
end

/-! ### the rules -/
section
variable {C : Ctx} {X : Cx} {n : Nat} {call : CallF} {sc : Scope} {f g h : RF D} {fk : RF DK} {e l r : Expr} {pos pos2 : Pos}
theorem k_keyI (ha : PE X e (TXe X.K f)) : PE X e (TXg X.K RepK (b1 (b2 f (fun _ st => some ([], st)) consD) (keyD true))) :=
  PE.of ha fun sg H Q w => by
    obtain ⟨rho, env, st, d, st', hE, hS, hf, hQ⟩ := w
    unfold b1 b2 consD at hf
    split at hf
    case h_2 => cases hf
    rename_i x s1 e1
    split at e1
    case h_2 => cases e1
    rename_i y s2 e2
    cases e1
    unfold keyD at hf
    simp only at hf
    split at hf
    case h_2 => cases hf
    rename_i k hk
    cases hk
    cases hf
    refine ⟨rho, env, st, _, _, hE, hS, e2, fun rho1 H1 u x1 S1 r1 => hQ rho1 H1 u x1 S1 ?_⟩
    cases r1
    exact .i _
theorem k_keyT {es : List Expr} {fs : RF (List D)} {k : Nat} (ha : PA X es (TXa X.K fs)) : PE X (.Tuple es k pos) (TXg X.K RepK (b1 fs (keyD false))) :=
  PE.of (pe_tup ha) fun sg H Q w => tx_b1 (K := X.K) (ra := RepL X.K) (rb := RepK) (fun us H1 Q1 => us.length ≤ sizeLine ∧ ∀ p, H1 p = none → Q1 (V.ref p) (upd H1 p (.tup us))) (fun rho H st x u z st' S rx e k => by
    unfold keyD at e
    simp only at e
    split at e
    · rename_i ks hk
      split at e
      · rename_i hl
        cases e
        refine ⟨by rw [← rx.length, ← sizeSL]; exact hl, fun p hp => k rho _ _ (Ext.tmp hp) (S.tmp hp) (.t ?_)⟩
        rw [intsK_rep rx hk]
        exact upd_same
      · cases e
    · cases e) w
theorem nosl_of {i : Expr} (h : notSlice i = true) : NoSl i := by
  cases i <;> first | (intro _ _; rfl) | cases h
theorem Cok.u1 (c : Cok C X n call sc) : X.A.units + 1 < cLine := by have := c.units; omega
theorem k_dget (c : Cok C X n call sc) (hs : notSlice r = true) (ha : PE X l (TXe X.K f)) (hk : PE X r (TXg X.K RepK fk)) : PE X (.Subscript l r pos) (TXe X.K (b2 f fk dgetD)) :=
  PE.of (pe_dget c.u1 ha hk (nosl_of hs)) fun sg H Q w => tx_b2 (K := X.K) (rb := RepK) (rc := Rep X.K) (Q := Q) mono_rep (fun x y H2 Q1 => ∃ a v, x = .ref a ∧ DGet H2 a y (some v) ∧ Q1 v H2) (fun rho H st x u y v z st' S rx ry e k => by
    unfold dgetD at e
    split at e
    · rename_i d hd
      cases e
      obtain ⟨p, ov, rfl, h2, h3⟩ := get_rep S rx ry hd
      cases ov with
      | none => exact h3.elim
      | some v' => exact ⟨p, v', rfl, h2, k.same S h3⟩
    · cases e) w
theorem k_din (c : Cok C X n call sc) (hs : notSet r = true) (hk : PE X l (TXg X.K RepK fk)) (ha : PE X r (TXe X.K f)) : PE X (.Compare l [.In] [r] pos) (TXe X.K (b2 fk f (dinV false))) :=
  PE.of (pe_cmp (pc_din c.u1 hk ha) (mark_of hs)) fun sg H Q w => tx_b2 (K := X.K) (ra := RepK) (rb := Rep X.K) (rc := Rep X.K) (Q := Q) mono_repK (fun y x H2 Q1 => ∃ a o, x = .ref a ∧ DGet H2 a y o ∧ Q1 (.bl o.isSome) H2) (fun rho H st x u y v z st' S rx ry e k => by
    unfold dinV at e
    split at e
    · rename_i o ho
      cases e
      obtain ⟨p, ov, rfl, h2, h3, h4⟩ := get_repO S ry rx ho
      refine ⟨p, ov, rfl, h2, ?_⟩
      rw [h4]
      exact k.same S (.bl _)
    · cases e) w
theorem k_dnotin (c : Cok C X n call sc) (hs : notSet r = true) (hk : PE X l (TXg X.K RepK fk)) (ha : PE X r (TXe X.K f)) : PE X (.Compare l [.NotIn] [r] pos) (TXe X.K (b2 fk f (dinV true))) :=
  PE.of (pe_cmp (pc_dnotin c.u1 hk ha) (mark_of hs)) fun sg H Q w => tx_b2 (K := X.K) (ra := RepK) (rb := Rep X.K) (rc := Rep X.K) (Q := Q) mono_repK (fun y x H2 Q1 => ∃ a o, x = .ref a ∧ DGet H2 a y o ∧ Q1 (.bl (!o.isSome)) H2) (fun rho H st x u y v z st' S rx ry e k => by
    unfold dinV at e
    split at e
    · rename_i o ho
      cases e
      obtain ⟨p, ov, rfl, h2, h3, h4⟩ := get_repO S ry rx ho
      refine ⟨p, ov, rfl, h2, ?_⟩
      rw [h4]
      exact k.same S (.bl _)
    · cases e) w
theorem tx_dinT {neg : Bool} {sg : L2.St} {H : Hp} {Q : Bool → Hp → Prop} (w : TXt X.K (b2 fk f (dinT neg)) sg H Q) : TXe X.K (b2 fk f (dinV neg)) sg H fun x H2 => ∃ k, x = V.bl k ∧ Q k H2 := by
  obtain ⟨rho, env, st, d, st', hE, hS, hf, k⟩ := w
  refine ⟨rho, env, st, .bl d, st', hE, hS, ?_, fun rho1 H1 u x1 S1 r1 => ?_⟩
  · unfold b2 dinT at hf
    unfold b2 dinV
    repeat' split at hf
    all_goals first
      | cases hf; done
      | (cases hf; simp_all)
  · cases r1
    exact ⟨_, rfl, k rho1 H1 _ x1 S1 rfl⟩
theorem k_dinT (c : Cok C X n call sc) (hs : notSet r = true) (hk : PE X l (TXg X.K RepK fk)) (ha : PE X r (TXe X.K f)) : PT X (.Compare l [.In] [r] pos) (TXt X.K (b2 fk f (dinT false))) :=
  PT.of (pt_cmp (pc_din c.u1 hk ha) (mark_of hs)) fun sg H Q w => by
    have w2 := tx_dinT w
    exact tx_b2 (K := X.K) (ra := RepK) (rb := Rep X.K) (rc := Rep X.K) mono_repK (fun y x H2 Q1 => ∃ a o, x = .ref a ∧ DGet H2 a y o ∧ Q1 (.bl o.isSome) H2) (fun rho H st x u y v z st' S rx ry e k => by
      unfold dinV at e
      split at e
      · rename_i o ho
        cases e
        obtain ⟨p, ov, rfl, h2, h3, h4⟩ := get_repO S ry rx ho
        refine ⟨p, ov, rfl, h2, ?_⟩
        rw [h4]
        exact k.same S (.bl _)
      · cases e) w2
theorem k_dnotinT (c : Cok C X n call sc) (hs : notSet r = true) (hk : PE X l (TXg X.K RepK fk)) (ha : PE X r (TXe X.K f)) : PT X (.Compare l [.NotIn] [r] pos) (TXt X.K (b2 fk f (dinT true))) :=
  PT.of (pt_cmp (pc_dnotin c.u1 hk ha) (mark_of hs)) fun sg H Q w => by
    have w2 := tx_dinT w
    exact tx_b2 (K := X.K) (ra := RepK) (rb := Rep X.K) (rc := Rep X.K) mono_repK (fun y x H2 Q1 => ∃ a o, x = .ref a ∧ DGet H2 a y o ∧ Q1 (.bl (!o.isSome)) H2) (fun rho H st x u y v z st' S rx ry e k => by
      unfold dinV at e
      split at e
      · rename_i o ho
        cases e
        obtain ⟨p, ov, rfl, h2, h3, h4⟩ := get_repO S ry rx ho
        refine ⟨p, ov, rfl, h2, ?_⟩
        rw [h4]
        exact k.same S (.bl _)
      · cases e) w2
theorem k_dnew {t : Bool} : PE X (.Dict [] [] pos) (TXe X.K (b1 (fun _ st => some ([], st)) (dnewD t))) := by
  have key : ∀ sg H Q, TXe X.K (b1 (fun _ st => some ([], st)) (dnewD t)) sg H Q → ∀ p, H p = none → Q (.ref p) (upd H p ((if t then O.dct [] else O.dci []).ho [])) := by
    intro sg H Q w p hp
    obtain ⟨rho, env, st, d, st', hE, hS, hf, k⟩ := w
    unfold b1 dnewD at hf
    cases hf
    refine k (rho.push p) _ _ (Ext.push hp) (hS.pushO hp ?_) (.ref ?_)
    · cases t <;> exact .nil
    · show (rho.r ++ [p])[st.length]? = _
      rw [← hS.len, List.getElem?_concat_length]
  cases t with
  | true => exact PE.of pe_dnewT fun sg H Q w => key sg H Q w
  | false => exact PE.of pe_dnewK fun sg H Q w => key sg H Q w
theorem k_dlen (hg : Gl X "len") (hm : X.mg "len" = none) (hs : notStar e = true) {p : Pos} (ha : PE X e (TXe X.K f)) : PE X (.Call (.Name "len" p) [e] [] pos) (TXe X.K (b1 f dlenD)) := by
  refine PE.of (pe_callB call_lenD hg hm boot_len (pa_cons ha pa_nil (star_cons hs)) (by decide) (by decide) (star_cons hs) (by rfl)) fun sg H Q w => ?_
  refine tx_b1 (K := X.K) (fun u H1 Q1 => ∃ a kvs, [u] = [V.ref a] ∧ H1 a = some (.dK kvs) ∧ Q1 (.int kvs.length) H1) (fun rho H st x u z st' S rx ho k => ?_) w
  unfold dlenD at ho
  split at ho
  case h_2 => cases ho
  rename_i n
  split at ho
  case h_2 => cases ho
  rename_i kvs e
  cases ho
  cases rx with
  | ref hr =>
    obtain ⟨vs, h1, h2⟩ := S.ob _ _ _ e hr
    have hl : kvs.length = vs.length := by have := h2.length; rwa [O.ds, List.length_map] at this
    refine ⟨_, _, rfl, h1, ?_⟩
    rw [mkI_g, mkG_len (by rw [List.length_map]; exact hl), List.length_map]
    exact k.same S (.int _)
theorem tx_asDc {K : PySem.W.Frag} {sg : L2.St} {H : Hp} {Q : VK} (w : TXe K (b1 f asDc) sg H Q) : TXe K f sg H fun u H1 => (∃ a, u = V.ref a ∧ IsD H1 a) ∧ Q u H1 :=
  tx_b1 (K := K) (fun u H1 Q1 => (∃ a, u = V.ref a ∧ IsD H1 a) ∧ Q1 u H1) (fun rho H st x u z st' S rx e k => by
    unfold asDc at e
    split at e
    case h_2 => cases e
    rename_i n
    cases rx with
    | ref hr =>
      split at e
      · rename_i kvs e2
        cases e
        obtain ⟨vs, h1, h2⟩ := S.ob _ _ _ e2 hr
        exact ⟨⟨_, rfl, .inl ⟨_, .inl h1⟩⟩, k.same S (.ref hr)⟩
      · rename_i kvs e2
        cases e
        obtain ⟨vs, h1, h2⟩ := S.ob _ _ _ e2 hr
        exact ⟨⟨_, rfl, .inr ⟨_, .inl h1⟩⟩, k.same S (.ref hr)⟩
      · cases e) w
theorem k_dgetE (c : Cok C X n call sc) {o x y : Expr} {ap : Pos} (hl : (ap.endLine == pos.line) = true) (hb : baseOk o = true) (hs : notStar x = true) (hs2 : notStar y = true) (ho : PE X o (TXe X.K f)) (hk : PE X x (TXg X.K RepK fk)) (hy : PE X y (TXe X.K g)) :
    PE X (.Call (.Attribute o "get" ap) [x, y] [] pos) (TXe X.K (b3 (b1 f asDc) fk g dgetE)) := by
  have m2 : M2 X o "get" ap x y pos := ⟨base_of hb, by rw [star_cons hs, star_cons hs2]; rfl, hl, by rw [star_cons hs, star_cons hs2]; rfl⟩
  refine PE.of (pe_dget2 c.u1 ho hk hy m2) fun sg H Q w => ?_
  have w := tx_b3 (K := X.K) (rb := RepK) (rc := Rep X.K) (rd := Rep X.K) (Q := Q) mono_rep mono_repK (fun u y z H3 Q1 => ∃ a o, u = V.ref a ∧ DGet H3 a y o ∧ Q1 (o.getD z) H3) (fun rho H st x u y v t q z st' S rx ry rt e k => by
    unfold dgetE at e
    split at e
    · rename_i o ho
      cases e
      obtain ⟨p, ov, rfl, h2, h3⟩ := get_rep S rx ry ho
      refine ⟨p, ov, rfl, h2, ?_⟩
      cases o with
      | none => cases ov with
        | none => exact k.same S rt
        | some _ => exact h3.elim
      | some d => cases ov with
        | none => exact h3.elim
        | some v' => exact k.same S h3
    · cases e) w
  have w := tx_asDc w
  obtain ⟨rho, env, st, d, st', hE, hS, hf, k⟩ := w
  refine ⟨rho, env, st, d, st', hE, hS, hf, fun rho1 H1 u x1 S1 r1 => ?_⟩
  obtain ⟨⟨a, rfl, hd⟩, q⟩ := k rho1 H1 u x1 S1 r1
  refine ⟨a, rfl, hd, ?_⟩
  obtain ⟨rho2, env2, st2, d2, st2', hE2, hS2, hf2, k2⟩ := q
  refine ⟨rho2, env2, st2, d2, st2', hE2, hS2, hf2, fun rho3 H3 v x3 S3 r3 => ?_⟩
  obtain ⟨rho4, env4, st4, d4, st4', hE4, hS4, hf4, k4⟩ := k2 rho3 H3 v x3 S3 r3
  refine ⟨rho4, env4, st4, d4, st4', hE4, hS4, hf4, fun rho5 H5 v5 x5 S5 r5 => ?_⟩
  obtain ⟨a', o, ea, h1, h2⟩ := k4 rho5 H5 v5 x5 S5 r5
  cases ea
  exact ⟨o, h1, h2⟩

end

/-! ### dict comprehensions -/
section
variable {K : PySem.W.Frag} {rho : Rho} {H : Hp} {st : Store}
theorem neM {a p : Addr} {o q : HO} (h : H a = some o) (hp : H p = some q) (mb : Mb q) (hn : ¬ Mb o := by first | exact nm_tup | exact nm_frz) : a ≠ p := fun e => by
  subst e
  rw [h] at hp
  cases hp
  exact hn mb
mutual
theorem Rep.wrO {p : Addr} {q q' : HO} (hm : rho.m p) (hp : H p = some q) (mb : Mb q) : ∀ {d : D} {v : V}, Rep K rho H d v → Rep K rho (upd H p q') d v
  | _, _, .non => .non
  | _, _, .bl b => .bl b
  | _, _, .int i => .int i
  | _, _, .str s => .str s
  | _, _, .tup h r => .tup (by
      rcases h with (h | ⟨o, h⟩) | h
      · exact .inl (.inl (by rw [upd_ne (neM h hp mb)]; exact h))
      · exact .inl (.inr ⟨o, by rw [upd_ne (neM h hp mb)]; exact h⟩)
      · exact .inr h) (RepL.wrO hm hp mb r)
  | _, _, .lst h r => .lst (by
      rcases h with ⟨h, n⟩ | h
      · rename_i a
        have ne : a ≠ p := fun e => n (e ▸ hm)
        left
        refine ⟨?_, n⟩
        rcases h with h | ⟨o, h⟩
        · exact .inl (by rw [upd_ne ne]; exact h)
        · exact .inr ⟨o, by rw [upd_ne ne]; exact h⟩
      · exact .inr h) (RepL.wrO hm hp mb r)
  | _, _, .ref h => .ref h
theorem RepL.wrO {p : Addr} {q q' : HO} (hm : rho.m p) (hp : H p = some q) (mb : Mb q) : ∀ {ds : List D} {vs : List V}, RepL K rho H ds vs → RepL K rho (upd H p q') ds vs
  | _, _, .nil => .nil
  | _, _, .cons a b => .cons (Rep.wrO hm hp mb a) (RepL.wrO hm hp mb b)
end
theorem StoreRep.wrO {p : Addr} {q q' : HO} (mb' : Mb q') (S : StoreRep K rho H st) (hm : rho.m p) (hn : p ∉ rho.r) (hp : H p = some q) (mb : Mb q) : StoreRep K rho (upd H p q') st where
  len := S.len
  nd := S.nd
  trk := fun a ha => by
    by_cases e : a = p
    · subst e; exact ⟨_, upd_same, mb'⟩
    · obtain ⟨vs, h, mb⟩ := S.trk a ha
      exact ⟨vs, by rw [upd_ne e]; exact h, mb⟩
  ob := fun n ds a h1 h2 => by
    obtain ⟨vs, h3, h4⟩ := S.ob n ds a h1 h2
    have ne : a ≠ p := fun e => hn (e ▸ List.mem_of_getElem? h2)
    exact ⟨vs, by rw [upd_ne ne]; exact h3, h4.wrO hm hp mb⟩
  tab := tabs_wr S.tab hp mb
theorem EnvRep.wrO {p : Addr} {q q' : HO} {sg : L2.St} {env : Env} (E : EnvRep K rho H sg env) (hm : rho.m p) (hp : H p = some q) (mb : Mb q) : EnvRep K rho (upd H p q') sg env :=
  ⟨E.len, fun i d h => let ⟨v, h1, h2⟩ := E.at_ i d h; ⟨v, h1, h2.wrO hm hp mb⟩⟩
theorem StoreRep.adoptO {p : Addr} {o : O} {vs : List V} (S : StoreRep K rho H st) (h : rho.m p) (hn : p ∉ rho.r) (hp : H p = some (o.ho vs)) (r : RepL K rho H o.ds vs) : StoreRep K (rho.adopt p h) H (st ++ [o]) where
  len := by simp [Rho.adopt, S.len]
  nd := List.nodup_append.mpr ⟨S.nd, (List.pairwise_singleton _ _), fun a ha b hb => by rw [List.mem_singleton.mp hb]; intro e; subst e; exact hn ha⟩
  trk := S.trk
  ob := fun n es a h1 h2 => by
    have hre : ∀ (n : Nat) (a : Addr), rho.r[n]? = some a → (rho.adopt p h).r[n]? = some a := fun n a e => by
      show (rho.r ++ [p])[n]? = some a
      rw [List.getElem?_append_left (List.getElem?_eq_some_iff.mp e).1]
      exact e
    have h2 : (rho.r ++ [p])[n]? = some a := h2
    by_cases hl : n < st.length
    · rw [List.getElem?_append_left hl] at h1
      rw [List.getElem?_append_left (by rw [S.len]; exact hl)] at h2
      obtain ⟨ws, h3, h4⟩ := S.ob n es a h1 h2
      exact ⟨ws, h3, h4.re hre fun _ z => z⟩
    · have hn' : n = st.length := by
        have := (List.getElem?_eq_some_iff.mp h1).1
        simp at this; omega
      subst hn'
      rw [List.getElem?_concat_length] at h1
      rw [← S.len, List.getElem?_concat_length] at h2
      cases h1; cases h2
      exact ⟨vs, hp, r.re hre fun _ z => z⟩
  tab := S.tab


end
theorem pairsI_app : ∀ {ds : List D} {kvs : List (Int × D)} {k : Int} {d : D}, pairsI ds = some kvs → pairsI (ds ++ [.tup [.int k, d]]) = some (kvs ++ [(k, d)])
  | [], _, k, d, h => by cases h; rfl
  | x :: r, _, k, d, h => by
    unfold pairsI at h
    split at h
    · rename_i q; exact nomatch q
    · rename_i k0 y r0 e0
      split at h
      · rename_i kvs h1
        cases h
        injection e0 with e1 e2
        subst e1 e2
        have ih := pairsI_app (k := k) (d := d) h1
        show (match pairsI (r ++ [.tup [.int k, d]]) with | some kvs => some ((k0, y) :: kvs) | none => none) = _
        rw [ih]
        rfl
      · cases h
    · cases h
theorem pairsI_len : ∀ {ds : List D} {kvs : List (Int × D)}, pairsI ds = some kvs → kvs.length = ds.length
  | [], _, h => by cases h; rfl
  | x :: r, _, h => by
    unfold pairsI at h
    split at h
    · rename_i q; exact nomatch q
    · rename_i k0 y r0 e0
      split at h
      · rename_i kvs h1
        cases h
        injection e0 with e1 e2
        subst e1 e2
        rw [List.length_cons, List.length_cons, pairsI_len h1]
      · cases h
    · cases h
theorem putA_len {κ : Type} [DecidableEq κ] (kvs : List (κ × D)) (k : κ) (d : D) : (putA kvs k d).length ≤ kvs.length + 1 := by
  unfold putA
  split
  · rw [List.length_map]; omega
  · rw [List.length_append, List.length_cons, List.length_nil]; omega
theorem putAll_len : ∀ (kvs acc : List (Int × D)), (putAll acc kvs).length ≤ acc.length + kvs.length
  | [], acc => Nat.le_refl _
  | p :: r, acc => by
    have h1 := putAll_len r (putA acc p.1 p.2)
    have h2 := putA_len acc p.1 p.2
    show (putAll (putA acc p.1 p.2) r).length ≤ _
    rw [List.length_cons]; omega
theorem putAll_app (kvs acc : List (Int × D)) (k : Int) (d : D) : putAll acc (kvs ++ [(k, d)]) = putA (putAll acc kvs) k d := by
  unfold putAll
  rw [List.foldl_append]
  rfl
section
variable {K : PySem.W.Frag}
theorem tx_dcmp {fk fv : RF D} {tg : Tg} {it : RF Itv} {c : RF Bool} {vs : List Nat} {sg : L2.St} {H : Hp} {Q : VK} (hsl : ∀ i ∈ tg.slots, i ∈ vs) (w : TXe K (b1 (bLc false (b2 fk fv pairD) tg it c vs) todD) sg H Q) :
    tDc (TXi K it) (gX K tg.put tg.slots) (TXt K c) (TXe K fk) (TXe K fv) vs sg H Q := by
  obtain ⟨rho, env, st, d, st', hE, hS, hf, hQ⟩ := w
  unfold b1 at hf
  split at hf
  case h_2 => cases hf
  rename_i xl s2 hf0
  unfold bLc at hf0
  split at hf0
  case h_2 => cases hf0
  rename_i itv s1 e1
  split at hf0
  case h_2 => cases hf0
  rename_i ds s2' e2
  split at hf0
  case isFalse => cases hf0
  rename_i hlen
  unfold newL at hf0
  rw [if_neg Bool.false_ne_true] at hf0
  cases hf0
  unfold todD at hf
  simp only at hf
  split at hf
  case h_2 => cases hf
  rename_i kvs hkv
  cases hf
  refine ⟨rho, env, st, itv, s1, hE, hS, e1, fun rho1 H1 J x1 S1 hJ => ?_⟩
  intro A hA
  have hE1 := hE.ext hS.trk x1
  have notA : ∀ a o, H1 a = some o → a ≠ A := fun a o h e => by rw [e, hA] at h; cases h
  let I : Nat → Nat → Hp → Prop := fun i m Hc => ∃ (rc : Rho) (stc : Store) (acc : List D) (akv : List (Int × D)) (av : List V), Ext rho1 H1 rc Hc ∧ StoreRep K rc Hc stc ∧ EnvRep K rc Hc sg env ∧ rc.m A ∧ A ∉ rc.r ∧
    Hc A = some (.dK (mkI ((putAll [] akv).map (·.1)) av)) ∧ RepL K rc Hc ((putAll [] akv).map (·.2)) av ∧ pairsI acc = some akv ∧ lcGo itv.nth (lcStep (b2 fk fv pairD) tg c (wipeE env vs)) m i acc stc = some (ds, s2)
  refine ⟨I, ⟨itv.len + 1, ?_⟩, fun i m Hc hW => ?_⟩
  · have x2 : Ext rho1 H1 (rho1.mark A) (upd H1 A (.dK [])) := ⟨List.prefix_refl _, fun a o _ _ h => by rw [upd_ne (notA a o h)]; exact h, fun a h => h.elim .inl fun e => .inr (.of (e ▸ hA)), fun a h => .inl h, fun a h => .inl h⟩
    have hnA : A ∉ rho1.r := fun h => S1.not_m hA (rho1.sub A h)
    refine ⟨rho1.mark A, s1, [], [], [], x2, ?_, hE1.ext S1.trk x2, .inr rfl, hnA, upd_same, .nil, rfl, e2⟩
    exact ⟨S1.len, S1.nd, fun a ha => by
      by_cases e : a = A
      · rw [e]; exact ⟨_, upd_same, .inr (.inl ⟨_, rfl⟩)⟩
      · obtain ⟨ws, h, mb⟩ := S1.trk a (ha.elim id fun z => absurd z e)
        exact ⟨ws, by rw [upd_ne e]; exact h, mb⟩, fun n es a h1 h2 => by
      obtain ⟨ws, h3, h4⟩ := S1.ob n es a h1 h2
      exact ⟨ws, by rw [upd_ne (notA a _ h3)]; exact h3, h4.ext S1.trk x2⟩, tabs_new S1.tab hA⟩
  · obtain ⟨rc, stc, acc, akv, av, xc, Sc, Ec, hm, hn, hAc, hacc, hpr, hgo⟩ := hW
    cases m with
    | zero => cases hgo
    | succ k =>
      unfold lcGo at hgo
      obtain ⟨j1, j2⟩ := hJ rc Hc stc xc Sc i
      split at hgo
      · cases hgo
      · rename_i e3
        cases hgo
        rw [hpr] at hkv
        cases hkv
        refine .inl ⟨j1 e3, ?_⟩
        refine hQ (rc.adopt A hm) Hc _ (x1.trans ⟨xc.pre.trans (List.prefix_append _ _), xc.keep, xc.new, fun a ha => ?_, xc.mon⟩) (Sc.adoptO (o := .dci (putAll [] kvs)) hm hn hAc hacc) (.ref ?_)
        · rcases List.mem_append.mp ha with z | z
          · exact xc.newr a z
          · rw [List.mem_singleton.mp z]; exact .inr (.of hA)
        · show (rc.r ++ [A])[s2.length]? = _
          rw [← Sc.len, List.getElem?_concat_length]
      · rename_i x e3
        obtain ⟨jg, jy⟩ := j2 x e3
        refine .inr ⟨jg, I (i + 1) k, fun H' hN => ⟨k, Nat.lt_succ_self _, hN⟩, fun y H' hy => ?_⟩
        obtain ⟨xy, Sy, ry⟩ := jy y H' hy
        have nt : NoTbl (.dK (mkI ((putAll [] akv).map (·.1)) av)) := fun _ z => nomatch z
        have hAy : H' A = some (.dK (mkI ((putAll [] akv).map (·.1)) av)) := xy.keep A _ hn nt hAc
        have Ey := Ec.ext Sc.trk xy
        have accy := hacc.ext Sc.trk xy
        cases hst : lcStep (b2 fk fv pairD) tg c (wipeE env vs) x stc with
        | none => rw [hst] at hgo; cases hgo
        | some p =>
          obtain ⟨od, sn⟩ := p
          rw [hst] at hgo
          unfold lcStep at hst
          split at hst
          case h_2 => cases hst
          rename_i env2 hput
          refine ⟨rc, wipeE env vs, x, env2, Ey.wipe vs, ry, hput, fun sg2 E2 hs2 => ⟨?_, ?_⟩⟩
          · have hl : sg2.length = (L2.wipe sg vs).length := by
              have hl2 : env2.length = (wipeE env vs).length := put_len hput
              rw [E2.len, hl2, ← (Ey.wipe vs).len]
            rw [wipe_same (b := L2.wipe sg vs) (fun i hi => hs2 i fun z => hi (hsl i z)) hl, wipe_twice]
          · split at hst
            · rename_i s3 hc
              split at hst
              case h_2 => cases hst
              rename_i dd s4 he
              injection hst with hst
              injection hst with hst1 hst2
              subst hst1 hst2
              unfold b2 pairD at he
              split at he
              case h_2 => cases he
              rename_i dk s5 hek
              split at he
              case h_2 => cases he
              rename_i dv s6 hev
              split at he
              case h_2 => cases he
              rename_i kk
              cases he
              refine ⟨rc, env2, stc, true, s3, E2, Sy, hc, fun rho3 H3 b x3 S3 hb => ?_⟩
              cases hb
              refine iteT ⟨rho3, env2, s3, .int kk, s5, E2.ext Sy.trk x3, S3, hek, fun rho4 H4 y4 x4 S4 r4 => ⟨rho4, env2, s5, dv, s4, (E2.ext Sy.trk x3).ext S3.trk x4, S4, hev, fun rho5 H5 z x5 S5 r5 => ?_⟩⟩
              cases r4
              have x35 := (x3.trans x4).trans x5
              have hA5 := x35.keep A _ hn nt hAy
              have hm5 : rho5.m A := x35.mon A hm
              have hn5 : A ∉ rho5.r := fun q => (x35.newr A q).elim hn fun q2 => q2.no hAy nt
              have hlt := lcGo_len hgo
              rw [List.length_append, List.length_singleton] at hlt
              have acc5 := accy.ext Sy.trk x35
              have mbo : Mb (.dK (mkI ((putAll [] akv).map (·.1)) av)) := .inr (.inl ⟨_, rfl⟩)
              have hl : (putAll [] akv).length = av.length := by have := acc5.length; rwa [List.length_map] at this
              have hl2 := putAll_len akv []
              rw [pairsI_len hpr] at hl2
              obtain ⟨av', e5, r6⟩ := put_rep inl_inj kk r5 acc5
              refine ⟨_, Sum.inl kk, rfl, hA5, ?_, rho5, s4, acc ++ [.tup [.int kk, dv]], akv ++ [(kk, dv)], av', ?_, S5.wrO (.inr (.inl ⟨_, rfl⟩)) hm5 hn5 hA5 mbo, (Ey.ext Sy.trk x35).wrO hm5 hA5 mbo, hm5, hn5, ?_, ?_, pairsI_app hpr, hgo⟩
              · rw [mkI_g, mkG_len (by rw [List.length_map]; exact hl), List.length_map, ← sizeSL]
                simp only [List.length_nil] at hl2
                omega
              · have xx := (xc.trans xy).trans x35
                exact ⟨xx.pre, fun a o h1 hn h2 => by rw [upd_ne (notA a o h2)]; exact xx.keep a o h1 hn h2, xx.new, xx.newr, xx.mon⟩
              · rw [upd_same, putAll_app, mkI_g, e5, mkI_g]
              · rw [putAll_app]
                exact r6.wrO hm5 hA5 mbo
            · rename_i s3 hc
              cases hst
              refine ⟨rc, env2, stc, false, sn, E2, Sy, hc, fun rho3 H3 b x3 S3 hb => ?_⟩
              cases hb
              refine iteF ⟨rho3, sn, acc, akv, av, (xc.trans xy).trans x3, S3, Ey.ext Sy.trk x3, x3.mon A hm, (fun q => (x3.newr A q).elim hn fun q2 => q2.no hAy nt), x3.keep A _ hn nt hAy, accy.ext Sy.trk x3, hpr, hgo⟩
            · cases hst
end
end B
/-! B77: list.pop at a place, list.remove, list.count. -/
namespace B
open PySem PySem.Spec PyProof.Rows L2

theorem RepL.eraseIdx {K : PySem.W.Frag} {rho : Rho} {H : Hp} : ∀ {ds : List D} {vs : List V} (n : Nat), RepL K rho H ds vs → RepL K rho H (ds.eraseIdx n) (vs.eraseIdx n)
  | _, _, _, .nil => .nil
  | _, _, 0, .cons _ b => b
  | _, _, n + 1, .cons a b => .cons a (RepL.eraseIdx n b)
theorem ints_repM {K : PySem.W.Frag} {rho : Rho} {H : Hp} : ∀ ns : List Int, RepL K rho H (ns.map D.int) (ns.map V.int)
  | [] => .nil
  | n :: ns => .cons (.int n) (ints_repM ns)
theorem ixOf_seq {n j : Nat} {i : Int} (h : ixOf n i = some j) : seqIndex? i n = some j := by
  unfold ixOf at h
  unfold seqIndex?
  by_cases h0 : 0 ≤ i
  · rw [if_pos h0] at h
    have e : (if i < 0 then i + (n : Int) else i) = i := if_neg (by omega)
    by_cases h1 : i < n
    · rw [if_pos h1] at h
      simp only [e, decide_eq_true h0, decide_eq_true h1, Bool.and_self, if_true]
      exact h
    · rw [if_neg h1] at h; cases h
  · rw [if_neg h0] at h
    have e : (if i < 0 then i + (n : Int) else i) = i + n := if_pos (by omega)
    by_cases h1 : -(n : Int) ≤ i
    · rw [if_pos h1] at h
      simp only [e, decide_eq_true (show 0 ≤ i + (n : Int) by omega), decide_eq_true (show i + (n : Int) < n by omega), Bool.and_self, if_true]
      exact h
    · rw [if_neg h1] at h; cases h
section
variable {X : Cx} {f g h : RF D} {pos : Pos}
theorem k_popI {o x : Expr} {ap : Pos} (hl : (ap.endLine == pos.line) = true) (hb : baseOk o = true) (hs : notStar x = true) (ho : PE X o (TXe X.K f)) (hx : PE X x (TXe X.K g)) : PE X (.Call (.Attribute o "pop" ap) [x] [] pos) (TXe X.K (b2 (b1 f asL) g popID)) := by
  refine PE.of (pe_bm PySem.F.plainAttrs_list PySem.F.slot_list_pop PySem.F.type_list_pop mt_popAt ho (pa_cons hx pa_nil (star_cons hs)) (base_of hb) (by rw [star_cons hs]; rfl) hl (star_cons hs) rfl) fun sg H Q w => ?_
  have w := tx_b2 (K := X.K) mono_rep (fun u v H1 Q1 => ∃ (rho : Rho) (st : Store) (x y z : D) (st' : Store), StoreRep X.K rho H1 st ∧ Rep X.K rho H1 x u ∧ Rep X.K rho H1 y v ∧ popID x y st = some (z, st') ∧ Kn X.K (Rep X.K) rho H1 z st' Q1)
    (fun rho H st x u y v z st' S rx ry e k => ⟨rho, st, x, y, z, st', S, rx, ry, e, k⟩) w
  have w := tx_asL w
  obtain ⟨rho, env, st, d, st', hE, hS, hf, k⟩ := w
  refine ⟨rho, env, st, d, st', hE, hS, hf, fun rho1 H1 u x1 S1 r1 => ?_⟩
  obtain ⟨⟨a, xs, rfl, ha⟩, q⟩ := k rho1 H1 u x1 S1 r1
  refine ⟨.inl ⟨rfl, _, SqL.of ha⟩, ?_⟩
  obtain ⟨rho2, env2, st2, d2, st2', hE2, hS2, hf2, k2⟩ := q
  refine ⟨rho2, env2, st2, d2, st2', hE2, hS2, hf2, fun rho3 H3 v x3 S3 r3 => ?_⟩
  obtain ⟨rho4, st4, y, t, z, st4', S4, ry, rt, e, kk⟩ := k2 rho3 H3 v x3 S3 r3
  unfold popID at e
  split at e
  case h_2 => cases e
  rename_i m i
  cases rt
  split at e
  case h_2 => cases e
  rename_i ds e2
  split at e
  case h_2 => cases e
  rename_i j hj
  split at e
  case h_2 => cases e
  rename_i dd hd
  split at e
  case isFalse => cases e
  rename_i hb2
  cases e
  obtain ⟨a', vs, ea, hr, h1, rl⟩ := S4.at ry e2
  cases ea
  obtain ⟨w, hw, rw'⟩ := rl.get hd
  rw [rl.length] at hj
  refine ⟨a, vs, i, j, w, rfl, rfl, h1, by omega, by omega, ixOf_seq hj, hw, ?_⟩
  have hx := Ext.wr (H := H3) (o := .lst (vs.eraseIdx j)) (List.mem_of_getElem? hr)
  exact kk rho4 _ _ hx (S4.set hr (rl.eraseIdx j)) (rw'.ext S4.trk hx)
theorem k_rem {o x : Expr} {ap : Pos} (hl : (ap.endLine == pos.line) = true) (hb : baseOk o = true) (hs : notStar x = true) (ho : PE X o (TXe X.K f)) (hx : PE X x (TXe X.K g)) : PE X (.Call (.Attribute o "remove" ap) [x] [] pos) (TXe X.K (b2 (b1 f asL) g remD)) := by
  refine PE.of (pe_bm PySem.F.plainAttrs_list PySem.F.slot_list_remove PySem.F.type_list_remove mt_remove ho (pa_cons hx pa_nil (star_cons hs)) (base_of hb) (by rw [star_cons hs]; rfl) hl (star_cons hs) rfl) fun sg H Q w => ?_
  have w := tx_b2 (K := X.K) mono_rep (fun u v H1 Q1 => ∃ (rho : Rho) (st : Store) (x y z : D) (st' : Store), StoreRep X.K rho H1 st ∧ Rep X.K rho H1 x u ∧ Rep X.K rho H1 y v ∧ remD x y st = some (z, st') ∧ Kn X.K (Rep X.K) rho H1 z st' Q1)
    (fun rho H st x u y v z st' S rx ry e k => ⟨rho, st, x, y, z, st', S, rx, ry, e, k⟩) w
  have w := tx_asL w
  obtain ⟨rho, env, st, d, st', hE, hS, hf, k⟩ := w
  refine ⟨rho, env, st, d, st', hE, hS, hf, fun rho1 H1 u x1 S1 r1 => ?_⟩
  obtain ⟨⟨a, xs, rfl, ha⟩, q⟩ := k rho1 H1 u x1 S1 r1
  refine ⟨.inl ⟨rfl, _, SqL.of ha⟩, ?_⟩
  obtain ⟨rho2, env2, st2, d2, st2', hE2, hS2, hf2, k2⟩ := q
  refine ⟨rho2, env2, st2, d2, st2', hE2, hS2, hf2, fun rho3 H3 v x3 S3 r3 => ?_⟩
  obtain ⟨rho4, st4, y, t, z, st4', S4, ry, rt, e, kk⟩ := k2 rho3 H3 v x3 S3 r3
  unfold remD at e
  split at e
  case h_2 => cases e
  rename_i m i
  cases rt
  split at e
  case h_2 => cases e
  rename_i ds e2
  split at e
  case h_2 => cases e
  rename_i ns hns
  split at e
  case isFalse => cases e
  rename_i hmem
  cases e
  obtain ⟨a', vs, ea, hr, h1, rl⟩ := S4.at ry e2
  cases ea
  have ev := ints_rep rl hns
  subst ev
  obtain ⟨j, hj1, hj2, hj3, hj4⟩ := first_at hmem
  refine ⟨a, ns, i, j, rfl, rfl, h1, hj2, hj3, ?_⟩
  rw [hj4]
  have hx := Ext.wr (H := H3) (o := .lst ((ns.erase i).map V.int)) (List.mem_of_getElem? hr)
  exact kk rho4 _ _ hx (S4.set hr (ints_repM _)) .non
theorem tx_asL2 {K : PySem.W.Frag} {sg : L2.St} {H : Hp} {Q : VK} (w : TXe K (b1 f asL2) sg H Q) : TXe K f sg H fun u H1 => (∃ a xs, u = V.ref a ∧ SqL K H1 a xs) ∧ Q u H1 :=
  tx_b1 (K := K) (fun u H1 Q1 => (∃ a xs, u = V.ref a ∧ SqL K H1 a xs) ∧ Q1 u H1) (fun rho H st x u z st' S rx e k => by
    unfold asL2 at e
    split at e
    · rename_i ds e2
      cases e
      obtain ⟨a, vs, rfl, hq, rl⟩ := lst_rep S rx e2
      exact ⟨⟨a, vs, rfl, hq⟩, k.same S rx⟩
    · cases e) w
theorem k_cnt {o x : Expr} {ap : Pos} (hl : (ap.endLine == pos.line) = true) (hb : baseOk o = true) (hs : notStar x = true) (ho : PE X o (TXe X.K f)) (hx : PE X x (TXe X.K g)) : PE X (.Call (.Attribute o "count" ap) [x] [] pos) (TXe X.K (b2 (b1 f asL2) g cntD)) := by
  refine PE.of (pe_bm PySem.F.plainAttrs_list PySem.F.slot_list_count PySem.F.type_list_count mt_lcount ho (pa_cons hx pa_nil (star_cons hs)) (base_of hb) (by rw [star_cons hs]; rfl) hl (star_cons hs) rfl) fun sg H Q w => ?_
  have w := tx_b2 (K := X.K) mono_rep (fun u v H1 Q1 => ∃ (rho : Rho) (st : Store) (x y z : D) (st' : Store), StoreRep X.K rho H1 st ∧ Rep X.K rho H1 x u ∧ Rep X.K rho H1 y v ∧ cntD x y st = some (z, st') ∧ Kn X.K (Rep X.K) rho H1 z st' Q1)
    (fun rho H st x u y v z st' S rx ry e k => ⟨rho, st, x, y, z, st', S, rx, ry, e, k⟩) w
  have w := tx_asL2 w
  obtain ⟨rho, env, st, d, st', hE, hS, hf, k⟩ := w
  refine ⟨rho, env, st, d, st', hE, hS, hf, fun rho1 H1 u x1 S1 r1 => ?_⟩
  obtain ⟨⟨a, xs, rfl, ha⟩, q⟩ := k rho1 H1 u x1 S1 r1
  refine ⟨.inl ⟨rfl, _, ha⟩, ?_⟩
  obtain ⟨rho2, env2, st2, d2, st2', hE2, hS2, hf2, k2⟩ := q
  refine ⟨rho2, env2, st2, d2, st2', hE2, hS2, hf2, fun rho3 H3 v x3 S3 r3 => ?_⟩
  obtain ⟨rho4, st4, y, t, z, st4', S4, ry, rt, e, kk⟩ := k2 rho3 H3 v x3 S3 r3
  unfold cntD at e
  split at e
  case h_2 => cases e
  rename_i i
  cases rt
  split at e
  case h_2 => cases e
  rename_i ns hns
  cases e
  unfold intsOf at hns
  split at hns
  case h_2 => cases hns
  rename_i ds hds
  obtain ⟨a', vs, ea, hq, rl⟩ := lst_rep S4 ry hds
  cases ea
  have ev := ints_rep rl hns
  subst ev
  exact ⟨a, ns, i, rfl, rfl, hq, kk.same S4 (.int _)⟩
end
end B
/-! B8: every written expression that is checked does what is reckoned. -/
namespace B
open PySem PySem.Spec PyProof.Rows L2
theorem ckEs_star {C : Ctx} {sc : Scope} : ∀ {x : Exs} {es : List Expr}, ckEs C x sc es = true → es.all notStar = true
  | .nil, [], _ => rfl
  | .nil, _ :: _, h => by cases h
  | .cons _ _, [], h => by cases h
  | .cons x xs, e :: es, h => by
    simp only [ckEs, Bool.and_eq_true] at h
    rw [List.all_cons, h.1.1, ckEs_star h.2]
    rfl
theorem ckEs_nil {C : Ctx} {sc : Scope} {dfl : List D} {call : CallF} {x : Exs} {es : List Expr} (h : ckEs C x sc es = true) (e : es = []) : evs dfl call x = fun _ st => some ([], st) := by
  subst e
  cases x with
  | nil => rfl
  | cons _ _ => cases h
theorem ckKs_nil {C : Ctx} {sc : Scope} {dfl : List D} {call : CallF} {x : Exs} {es : List Keyword} (h : ckKs C x sc es = true) (e : es = []) : evs dfl call x = fun _ st => some ([], st) := by
  subst e
  cases x with
  | nil => rfl
  | cons _ _ => cases h
theorem tx_cT {K : PySem.W.Frag} {b : Bool} {sg : L2.St} {H : Hp} {Q : Bool → Hp → Prop} (w : TXt K (fun _ st => some (b, st)) sg H Q) : Q b H := by
  obtain ⟨rho, env, st, x, st', hE, hS, hf, k⟩ := w
  cases hf
  exact k rho H _ (.refl _ _) hS rfl
theorem k_all1 {X : Cx} {e : Expr} {pos : Pos} {f : RF Bool} (ha : PT X e (TXt X.K f)) : PW X (.BoolOp .And [e] pos) (TXt X.K (bIf f (fun _ st => some (true, st)) fun _ st => some (false, st))) :=
  PW.of (pw_and1 ha) fun sg H Q w => by
    obtain ⟨rho, env, st, x, st', hE, hS, hf, k⟩ := tx_if w
    refine ⟨rho, env, st, x, st', hE, hS, hf, fun rho1 H1 b x1 S1 r1 => ?_⟩
    have q := k rho1 H1 b x1 S1 r1
    cases b with
    | true => exact tx_cT ((if_pos rfl).mp q)
    | false => exact tx_cT ((if_neg Bool.false_ne_true).mp q)
theorem k_any1 {X : Cx} {e : Expr} {pos : Pos} {f : RF Bool} (ha : PT X e (TXt X.K f)) : PW X (.BoolOp .Or [e] pos) (TXt X.K (bIf f (fun _ st => some (true, st)) fun _ st => some (false, st))) :=
  PW.of (pw_or1 ha) fun sg H Q w => by
    obtain ⟨rho, env, st, x, st', hE, hS, hf, k⟩ := tx_if w
    refine ⟨rho, env, st, x, st', hE, hS, hf, fun rho1 H1 b x1 S1 r1 => ?_⟩
    have q := k rho1 H1 b x1 S1 r1
    cases b with
    | true => exact tx_cT ((if_pos rfl).mp q)
    | false => exact tx_cT ((if_neg Bool.false_ne_true).mp q)
theorem k_all {X : Cx} {e e2 : Expr} {es : List Expr} {pos : Pos} {f g : RF Bool} (ha : PT X e (TXt X.K f)) (hb : PW X (.BoolOp .And (e2 :: es) pos) (TXt X.K g)) : PW X (.BoolOp .And (e :: e2 :: es) pos) (TXt X.K (bIf f g fun _ st => some (false, st))) :=
  PW.of (pw_and ha hb) fun sg H Q w => by
    obtain ⟨rho, env, st, x, st', hE, hS, hf, k⟩ := tx_if w
    refine ⟨rho, env, st, x, st', hE, hS, hf, fun rho1 H1 b x1 S1 r1 => ?_⟩
    have q := k rho1 H1 b x1 S1 r1
    cases b with
    | true => exact iteT ((if_pos rfl).mp q)
    | false => exact iteF (tx_cT ((if_neg Bool.false_ne_true).mp q))
theorem k_any {X : Cx} {e e2 : Expr} {es : List Expr} {pos : Pos} {f g : RF Bool} (ha : PT X e (TXt X.K f)) (hb : PW X (.BoolOp .Or (e2 :: es) pos) (TXt X.K g)) : PW X (.BoolOp .Or (e :: e2 :: es) pos) (TXt X.K (bIf f (fun _ st => some (true, st)) g)) :=
  PW.of (pw_or ha hb) fun sg H Q w => by
    obtain ⟨rho, env, st, x, st', hE, hS, hf, k⟩ := tx_if w
    refine ⟨rho, env, st, x, st', hE, hS, hf, fun rho1 H1 b x1 S1 r1 => ?_⟩
    have q := k rho1 H1 b x1 S1 r1
    cases b with
    | true => exact iteT (tx_cT ((if_pos rfl).mp q))
    | false => exact iteF ((if_neg Bool.false_ne_true).mp q)
theorem k_notT {X : Cx} {e : Expr} {pos : Pos} {f : RF Bool} (ha : PT X e (TXt X.K f)) : PT X (.UnaryOp .Not e pos) (TXt X.K (b1 f notT)) :=
  PT.of (pt_not ha) fun sg H Q w => tx_b1 (K := X.K) (ra := fun _ _ b c => b = c) (rb := fun _ _ b c => b = c) (fun u H1 Q1 => Q1 (!u) H1) (fun rho H st x u z st' S rx e k => by
    unfold notT at e
    cases e
    cases rx
    exact k rho H _ (.refl _ _) S rfl) w
theorem k_tr {X : Cx} {e : Expr} {f : RF D} (hp : plainT e = true) (ha : PE X e (TXe X.K f)) : PT X e (TXt X.K (b1 f truT)) :=
  PT.of (pt_truth ha (plainT_of hp)) fun sg H Q w => tx_b1 (K := X.K) (rb := fun _ _ b c => b = c) (fun u H1 Q1 => ∃ k, TruV X.K u H1 k ∧ Q1 k H1) (fun rho H st x u z st' S rx e k => by
    unfold truT at e
    split at e
    · rename_i b hb
      cases e
      exact ⟨z, tru_rep S rx hb, k rho H _ (.refl _ _) S rfl⟩
    · cases e) w

section
variable {C : Ctx} {n : Nat} {call : CallF}
mutual
theorem sE : ∀ (x : Ex) (X : Cx) (sc : Scope) (e : Expr), Cok C X n call sc → ckE C x sc e = true → PE X e (TXe X.K (ev C.dfl call x))
  | .nm i, X, sc, e, c, h => by
    unfold ckE at h
    split at h
    · simp only [Bool.and_eq_true, decide_eq_true_eq, Bool.not_eq_true'] at h
      exact k_nm c h.1.1.1 h.1.1.2 h.1.2 h.2
    · cases h
  | .cI i, X, sc, e, c, h => by
    unfold ckE at h
    split at h
    · have e1 := of_decide_eq_true h; subst e1
      exact PE.of pe_int fun sg H Q w => tx_cst (d := .int i) rfl w
    · cases h
  | .cB b, X, sc, e, c, h => by
    unfold ckE at h
    split at h
    · have e1 := of_decide_eq_true h; subst e1
      exact PE.of pe_bl fun sg H Q w => tx_cst (d := .bl b) rfl w
    · cases h
  | .cN, X, sc, e, c, h => by
    unfold ckE at h
    split at h
    · exact PE.of pe_non fun sg H Q w => tx_cst (d := .non) rfl w
    · cases h
  | .cS s, X, sc, e, c, h => by
    unfold ckE at h
    split at h
    · have e1 := of_decide_eq_true h; subst e1
      exact PE.of pe_str fun sg H Q w => tx_cst (d := .str s) rfl w
    · cases h
  | .bin o a b, X, sc, e, c, h => by
    unfold ckE at h
    split at h
    · simp only [Bool.and_eq_true] at h
      rw [opIs_eq h.1.1]
      exact k_bin (sE a X sc _ c h.1.2) (sE b X sc _ c h.2)
    · cases h
  | .neg a, X, sc, e, c, h => by
    unfold ckE at h
    split at h
    · exact k_neg (sE a X sc _ c h)
    · cases h
  | .cmp o a b, X, sc, e, c, h => by
    unfold ckE at h
    split at h
    · simp only [Bool.and_eq_true] at h
      rw [copIs_eq h.1.1.1]
      exact k_cmp c h.1.1.2 (sE a X sc _ c h.1.2) (sE b X sc _ c h.2)
    · cases h
  | .cmp2 o p a b d, X, sc, e, c, h => by
    unfold ckE at h
    split at h
    · simp only [Bool.and_eq_true] at h
      obtain ⟨⟨⟨⟨⟨⟨h1, h2⟩, h3⟩, h4⟩, h5⟩, h6⟩, h7⟩ := h
      rw [copIs_eq h1, copIs_eq h2]
      exact k_ch c h4 (sE a X sc _ c h5) (sE b X sc _ c h6) (sE d X sc _ c h7)
    · cases h
  | .and es, X, sc, e, c, h => by
    unfold ckE at h
    split at h
    · simp only [Bool.and_eq_true] at h
      exact sAnd es X sc _ _ c h.2 (by
        intro z
        rw [z] at h
        exact absurd h.1 (by decide))
    · cases h
  | .or es, X, sc, e, c, h => by
    unfold ckE at h
    split at h
    · simp only [Bool.and_eq_true] at h
      exact sOr es X sc _ _ c h.2 (by
        intro z
        rw [z] at h
        exact absurd h.1 (by decide))
    · cases h
  | .not a, X, sc, e, c, h => by
    unfold ckE at h
    split at h
    · exact k_not (sE a X sc _ c h)
    · cases h
  | .ife t a b, X, sc, e, c, h => by
    unfold ckE at h
    split at h
    · simp only [Bool.and_eq_true] at h
      exact k_ife (sT t X sc _ c h.1.1) (sE a X sc _ c h.1.2) (sE b X sc _ c h.2)
    · cases h
  | .tup es, X, sc, e, c, h => by
    unfold ckE at h
    split at h
    · exact k_tup (sEs es X sc _ c h)
    · cases h
  | .lst m es, X, sc, e, c, h => by
    unfold ckE at h
    split at h
    · exact k_lst (sEs es X sc _ c h)
    · cases h
  | .idx a i, X, sc, e, c, h => by
    unfold ckE at h
    split at h
    · simp only [Bool.and_eq_true] at h
      exact k_idx h.1.1 (sE a X sc _ c h.1.2) (sE i X sc _ c h.2)
    · cases h
  | .slc m a lo hi, X, sc, e, c, h => by
    unfold ckE at h
    split at h
    · simp only [Bool.and_eq_true] at h
      exact k_slc (sE a X sc _ c h.1.1) (sO lo X sc _ c h.1.2) (sO hi X sc _ c h.2)
    · cases h
  | .revT a, X, sc, e, c, h => by
    unfold ckE at h
    split at h
    · simp only [Bool.and_eq_true, decide_eq_true_eq] at h
      obtain ⟨e1, h⟩ := h
      subst e1
      exact k_revT (sE a X sc _ c h)
    · cases h
  | .revL m a, X, sc, e, c, h => by
    unfold ckE at h
    split at h
    · simp only [Bool.and_eq_true, decide_eq_true_eq] at h
      obtain ⟨e1, h⟩ := h
      subst e1
      exact k_revL (sE a X sc _ c h)
    · cases h
  | .blt f es, X, sc, e, c, h => by
    unfold ckE at h
    split at h
    · rename_i x p xs pos
      simp only [Bool.and_eq_true, decide_eq_true_eq] at h
      obtain ⟨⟨⟨⟨e1, h1⟩, h2⟩, h3⟩, h4⟩ := h
      subst e1
      cases xs with
      | nil => exact absurd h3 (by decide)
      | cons y ys => exact k_blt c f h1 h2 (ckEs_star h4) (sEs es X sc _ c h4)
    · cases h
  | .app o a, X, sc, e, c, h => by
    unfold ckE at h
    split at h
    · simp only [Bool.and_eq_true, decide_eq_true_eq] at h
      obtain ⟨⟨⟨⟨⟨e1, h1⟩, h2⟩, h3⟩, h4⟩, h5⟩ := h
      subst e1
      exact k_app h1 h2 h3 (sE o X sc _ c h4) (sE a X sc _ c h5)
    · cases h
  | .ins o i a, X, sc, e, c, h => by
    unfold ckE at h
    split at h
    · simp only [Bool.and_eq_true, decide_eq_true_eq] at h
      obtain ⟨⟨⟨⟨⟨⟨⟨e1, h1⟩, h2⟩, h3⟩, h4⟩, h5⟩, h6⟩, h7⟩ := h
      subst e1
      exact k_ins h1 h2 h3 h4 (sE o X sc _ c h5) (sE i X sc _ c h6) (sE a X sc _ c h7)
    · cases h
  | .call f np nk sel es ks, X, sc, e, c, h => by
    unfold ckE at h
    split at h
    · split at h
      · rename_i F kn hF hk
        simp only [Bool.and_eq_true, decide_eq_true_eq, Bool.not_eq_true'] at h
        obtain ⟨⟨⟨⟨⟨⟨h1, h2⟩, h3⟩, h4⟩, h5⟩, h6⟩, h7⟩ := h
        exact pe_callG (sh := ⟨np, kn, sel⟩) c hF h5 h1 (c.gl _ (isGl_of h2)) h3 (ckEs_star h6) rfl h4 (kwNames_of hk) (sEs es X sc _ c h6) (sKs ks X sc _ c h7) (ckEs_nil h6) (ckKs_nil h7)
      · cases h
    · cases h
  | .tupR1 a, X, sc, e, c, h => by
    unfold ckE at h
    split at h
    · simp only [Bool.and_eq_true, decide_eq_true_eq] at h
      obtain ⟨⟨⟨⟨⟨⟨⟨e1, h1⟩, h2⟩, e2⟩, h3⟩, h4⟩, h5⟩, h6⟩ := h
      subst e1 e2
      exact k_tupR1 c (c.gl _ (isGl_of h2)) (c.blt _ h1) (c.gl _ (isGl_of h4)) (c.blt _ h3) h5 (sE a X sc _ c h6)
    · cases h
  | .tupR2 a b, X, sc, e, c, h => by
    unfold ckE at h
    split at h
    · simp only [Bool.and_eq_true, decide_eq_true_eq] at h
      obtain ⟨⟨⟨⟨⟨⟨⟨⟨⟨e1, h1⟩, h2⟩, e2⟩, h3⟩, h4⟩, h5⟩, h6⟩, h7⟩, h8⟩ := h
      subst e1 e2
      exact k_tupR2 c (c.gl _ (isGl_of h2)) (c.blt _ h1) (c.gl _ (isGl_of h4)) (c.blt _ h3) h5 h6 (sE a X sc _ c h7) (sE b X sc _ c h8)
    · cases h
  | .lisR1 m a, X, sc, e, c, h => by
    unfold ckE at h
    split at h
    · simp only [Bool.and_eq_true, decide_eq_true_eq] at h
      obtain ⟨⟨⟨⟨⟨⟨⟨e1, h1⟩, h2⟩, e2⟩, h3⟩, h4⟩, h5⟩, h6⟩ := h
      subst e1 e2
      exact k_lisR1 c (c.gl _ (isGl_of h2)) (c.blt _ h1) (c.gl _ (isGl_of h4)) (c.blt _ h3) h5 (sE a X sc _ c h6)
    · cases h
  | .lisR2 m a b, X, sc, e, c, h => by
    unfold ckE at h
    split at h
    · simp only [Bool.and_eq_true, decide_eq_true_eq] at h
      obtain ⟨⟨⟨⟨⟨⟨⟨⟨⟨e1, h1⟩, h2⟩, e2⟩, h3⟩, h4⟩, h5⟩, h6⟩, h7⟩, h8⟩ := h
      subst e1 e2
      exact k_lisR2 c (c.gl _ (isGl_of h2)) (c.blt _ h1) (c.gl _ (isGl_of h4)) (c.blt _ h3) h5 h6 (sE a X sc _ c h7) (sE b X sc _ c h8)
    · cases h
  | .lc m elt tg it t own, X, sc, e, c, h => by
    unfold ckE at h
    split at h
    · rename_i el tt ii ifs as s2 pos
      simp only [Bool.and_eq_true, decide_eq_true_eq] at h
      obtain ⟨⟨⟨⟨⟨⟨⟨e1, h1⟩, h2⟩, h3⟩, h4⟩, h5⟩, h6⟩, h7⟩ := h
      subst e1
      have b := blkOk_of c h2
      refine PE.of (pe_lc (own := own) c.calm c.nd (sI it X sc tt _ c h4) b (fun s H A cl fp => pg_X (c.blk b s H A cl fp) tg tt h5) (fun s H A cl fp => ?_) (fun s H A cl fp => sE elt _ s2 el (c.blk b s H A cl fp) h7) (folded_of h1)) fun sg H Q w => tx_lc (fun j hj => of_decide_eq_true (List.all_eq_true.mp h3 j hj)) w
      have c2 := c.blk b s H A cl fp
      cases t with
      | yes =>
        split at h6
        · exact ⟨fun pins s sg H Q I w => pts_nil.run pins s sg H Q I (tx_cT w)⟩
        · cases h6
        · cases h6
      | _ =>
        split at h6
        · cases h6
        · rename_i x
          have hT := sT _ _ s2 x c2 h6
          exact ⟨fun pins s sg H Q I w => (pts_one hT).run pins s sg H Q I w⟩
        · cases h6
    · cases h
  | .catM a b, X, sc, e, c, h => by
    unfold ckE at h
    split at h
    · rw [Bool.and_eq_true] at h
      exact k_catM (sE a X sc _ c h.1) (sE b X sc _ c h.2)
    · cases h
  | .ext o a, X, sc, e, c, h => by
    unfold ckE at h
    split at h
    · simp only [Bool.and_eq_true, decide_eq_true_eq] at h
      obtain ⟨⟨⟨⟨⟨e1, h1⟩, h2⟩, h3⟩, h4⟩, h5⟩ := h
      subst e1
      exact k_ext h1 h2 h3 (sE o X sc _ c h4) (sE a X sc _ c h5)
    · cases h
  | .popI o a, X, sc, e, c, h => by
    unfold ckE at h
    split at h
    · simp only [Bool.and_eq_true, decide_eq_true_eq] at h
      obtain ⟨⟨⟨⟨⟨e1, h1⟩, h2⟩, h3⟩, h4⟩, h5⟩ := h
      subst e1
      exact k_popI h1 h2 h3 (sE o X sc _ c h4) (sE a X sc _ c h5)
    · cases h
  | .rem o a, X, sc, e, c, h => by
    unfold ckE at h
    split at h
    · simp only [Bool.and_eq_true, decide_eq_true_eq] at h
      obtain ⟨⟨⟨⟨⟨e1, h1⟩, h2⟩, h3⟩, h4⟩, h5⟩ := h
      subst e1
      exact k_rem h1 h2 h3 (sE o X sc _ c h4) (sE a X sc _ c h5)
    · cases h
  | .cnt o a, X, sc, e, c, h => by
    unfold ckE at h
    split at h
    · simp only [Bool.and_eq_true, decide_eq_true_eq] at h
      obtain ⟨⟨⟨⟨⟨e1, h1⟩, h2⟩, h3⟩, h4⟩, h5⟩ := h
      subst e1
      exact k_cnt h1 h2 h3 (sE o X sc _ c h4) (sE a X sc _ c h5)
    · cases h
  | .pop o, X, sc, e, c, h => by
    unfold ckE at h
    split at h
    · simp only [Bool.and_eq_true, decide_eq_true_eq] at h
      obtain ⟨⟨⟨e1, h1⟩, h2⟩, h3⟩ := h
      subst e1
      exact k_pop h1 h2 (sE o X sc _ c h3)
    · cases h
  | .repL m es a, X, sc, e, c, h => by
    unfold ckE at h
    split at h
    · rw [Bool.and_eq_true] at h
      exact k_repL (sEs es X sc _ c h.1) (sE a X sc _ c h.2)
    · cases h
  | .dnew t, X, sc, e, c, h => by
    unfold ckE at h
    split at h
    · exact k_dnew
    · cases h
  | .dget one a ks, X, sc, e, c, h => by
    unfold ckE at h
    split at h
    · rename_i v s0 pos0
      simp only [Bool.and_eq_true] at h
      obtain ⟨⟨h1, h2⟩, h3⟩ := h
      have hk : PE X s0 (TXg X.K RepK (b1 (evs C.dfl call ks) (keyD one))) := by
        cases one with
        | true => exact s1 ks X sc _ c h3
        | false =>
          simp only at h3
          split at h3
          · exact k_keyT (sEs ks X sc _ c h3)
          · cases h3
      exact k_dget c h1 (sE a X sc _ c h2) hk
    · cases h
  | .dgetE one a ks d, X, sc, e, c, h => by
    unfold ckE at h
    split at h
    · rename_i v m ap s0 x0 cp
      simp only [Bool.and_eq_true, decide_eq_true_eq] at h
      obtain ⟨⟨⟨⟨⟨⟨⟨e1, h1⟩, h2⟩, h3⟩, h4⟩, h5⟩, h6⟩, h7⟩ := h
      subst e1
      have hk : PE X s0 (TXg X.K RepK (b1 (evs C.dfl call ks) (keyD one))) := by
        cases one with
        | true => exact s1 ks X sc _ c h6
        | false =>
          simp only at h6
          split at h6
          · exact k_keyT (sEs ks X sc _ c h6)
          · cases h6
      exact k_dgetE c h1 h2 h3 h4 (sE a X sc _ c h5) hk (sE d X sc _ c h7)
    · cases h
  | .din neg one ks a, X, sc, e, c, h => by
    unfold ckE at h
    split at h
    · rename_i l0 op r0 pos0
      simp only [Bool.and_eq_true] at h
      obtain ⟨⟨⟨h1, h2⟩, h3⟩, h4⟩ := h
      have hk : PE X l0 (TXg X.K RepK (b1 (evs C.dfl call ks) (keyD one))) := by
        cases one with
        | true => exact s1 ks X sc _ c h3
        | false =>
          simp only at h3
          split at h3
          · exact k_keyT (sEs ks X sc _ c h3)
          · cases h3
      split at h1
      · exact k_dnotin c h2 hk (sE a X sc _ c h4)
      · exact k_din c h2 hk (sE a X sc _ c h4)
      · cases h1
    · cases h
  | .dlen a, X, sc, e, c, h => by
    unfold ckE at h
    split at h
    · simp only [Bool.and_eq_true, decide_eq_true_eq] at h
      obtain ⟨⟨⟨⟨e1, h1⟩, h2⟩, h3⟩, h4⟩ := h
      subst e1
      exact k_dlen (c.gl _ (isGl_of h2)) (c.blt _ h1) h3 (sE a X sc _ c h4)
    · cases h
  | .dcmp kx vx tg it t own, X, sc, e, c, h => by
    unfold ckE at h
    split at h
    · rename_i ke ve tt ii ifs as s2 pos
      simp only [Bool.and_eq_true, decide_eq_true_eq] at h
      obtain ⟨⟨⟨⟨⟨⟨⟨⟨e1, h1⟩, h2⟩, h3⟩, h4⟩, h5⟩, h6⟩, h7⟩, h8⟩ := h
      subst e1
      have b := blkOk_of c h2
      refine PE.of (pe_dc (own := own) c.calm c.nd (sI it X sc tt _ c h4) b (fun s H A cl fp => pg_X (c.blk b s H A cl fp) tg tt h5) (fun s H A cl fp => ?_) (fun s H A cl fp => sE kx _ s2 ke (c.blk b s H A cl fp) h7) (fun s H A cl fp => sE vx _ s2 ve (c.blk b s H A cl fp) h8) (folded_of h1)) fun sg H Q w => tx_dcmp (fun j hj => of_decide_eq_true (List.all_eq_true.mp h3 j hj)) w
      have c2 := c.blk b s H A cl fp
      cases t with
      | yes =>
        split at h6
        · exact ⟨fun pins s sg H Q I w => pts_nil.run pins s sg H Q I (tx_cT w)⟩
        · cases h6
        · cases h6
      | _ =>
        split at h6
        · cases h6
        · rename_i x
          have hT := sT _ _ s2 x c2 h6
          exact ⟨fun pins s sg H Q I w => (pts_one hT).run pins s sg H Q I w⟩
        · cases h6
    · cases h
  | .sset mat a, X, sc, e, c, h => by
    unfold ckE at h
    split at h
    · simp only [Bool.and_eq_true, decide_eq_true_eq] at h
      obtain ⟨⟨⟨⟨⟨⟨⟨e1, h1⟩, h2⟩, e2⟩, h3⟩, h4⟩, h5⟩, h6⟩ := h
      subst e1 e2
      exact k_sset c (c.gl _ (isGl_of h2)) (c.blt _ h1) (c.gl _ (isGl_of h4)) (c.blt _ h3) h5 (sE a X sc _ c h6)
    · cases h
  | .lset a, X, sc, e, c, h => by
    unfold ckE at h
    split at h
    · simp only [Bool.and_eq_true, decide_eq_true_eq] at h
      obtain ⟨⟨⟨⟨⟨⟨⟨e1, h1⟩, h2⟩, e2⟩, h3⟩, h4⟩, h5⟩, h6⟩ := h
      subst e1 e2
      exact k_lset c (c.gl _ (isGl_of h2)) (c.blt _ h1) (c.gl _ (isGl_of h4)) (c.blt _ h3) h5 (sE a X sc _ c h6)
    · cases h
  | .srtk a f i j, X, sc, e, c, h => by
    unfold ckE at h
    split at h
    · split at h
      · rename_i hF
        simp only [Bool.and_eq_true, decide_eq_true_eq, Bool.not_eq_true'] at h
        obtain ⟨⟨⟨⟨⟨⟨⟨⟨⟨⟨⟨⟨⟨⟨⟨⟨⟨⟨⟨h1, e1⟩, h2⟩, h3⟩, h4⟩, e2⟩, e3⟩, e4⟩, e5⟩, h5⟩, h6⟩, h7⟩, h8⟩, h9⟩, h10⟩, h11⟩, h12⟩, h13⟩, h14⟩, h15⟩ := h
        subst e1 e2 e3 e4 e5
        exact k_srtk c h1 hF h2 h3 h4 h5 h6 h7 h8 h9 h10 h11 h12 h13 h14 (sE a X sc _ c h15)
      · cases h
    · cases h
theorem s1 : ∀ (x : Exs) (X : Cx) (sc : Scope) (e : Expr), Cok C X n call sc → ck1 C x sc e = true → PE X e (TXg X.K RepK (b1 (evs C.dfl call x) (keyD true)))
  | .nil, X, sc, e, c, h => by cases h
  | .cons x .nil, X, sc, e, c, h => k_keyI (sE x X sc e c h)
  | .cons _ (.cons _ _), X, sc, e, c, h => by cases h
theorem sEs : ∀ (x : Exs) (X : Cx) (sc : Scope) (es : List Expr), Cok C X n call sc → ckEs C x sc es = true → PA X es (TXa X.K (evs C.dfl call x))
  | .nil, X, sc, [], c, h => k_nil
  | .nil, X, sc, _ :: _, c, h => by cases h
  | .cons _ _, X, sc, [], c, h => by cases h
  | .cons x xs, X, sc, e :: es, c, h => by
    simp only [ckEs, Bool.and_eq_true] at h
    exact k_cons h.1.1 (sE x X sc e c h.1.2) (sEs xs X sc es c h.2)
theorem sKs : ∀ (x : Exs) (X : Cx) (sc : Scope) (es : List Keyword), Cok C X n call sc → ckKs C x sc es = true → PK X es (TXa X.K (evs C.dfl call x))
  | .nil, X, sc, [], c, h => k_knil
  | .nil, X, sc, _ :: _, c, h => by cases h
  | .cons _ _, X, sc, [], c, h => by cases h
  | .cons x xs, X, sc, ⟨nm, e, p⟩ :: es, c, h => by
    simp only [ckKs, Bool.and_eq_true] at h
    exact k_kcons (sE x X sc e c h.1) (sKs xs X sc es c h.2)
theorem sO : ∀ (x : Exo) (X : Cx) (sc : Scope) (e : Option Expr), Cok C X n call sc → ckO C x sc e = true → PO X e (TXo X.K (evO C.dfl call x))
  | .no, X, sc, none, c, h => k_no
  | .no, X, sc, some _, c, h => by cases h
  | .so _, X, sc, none, c, h => by cases h
  | .so x, X, sc, some e, c, h => k_so (sE x X sc e c h)
theorem sAnd : ∀ (x : Exs) (X : Cx) (sc : Scope) (es : List Expr) (pos : Pos), Cok C X n call sc → ckEs C x sc es = true → es ≠ [] → PE X (.BoolOp .And es pos) (TXe X.K (evAnd C.dfl call x))
  | .nil, X, sc, [], pos, c, h, hn => absurd rfl hn
  | .nil, X, sc, _ :: _, pos, c, h, hn => by cases h
  | .cons _ _, X, sc, [], pos, c, h, hn => by cases h
  | .cons x xs, X, sc, e :: es, pos, c, h, hn => by
    simp only [ckEs, Bool.and_eq_true] at h
    cases xs with
    | nil =>
      cases es with
      | nil => exact pe_one (sE x X sc e c h.1.2)
      | cons _ _ => exact absurd h.2 Bool.false_ne_true
    | cons y ys =>
      cases es with
      | nil => exact absurd h.2 Bool.false_ne_true
      | cons e2 es2 => exact k_and (sE x X sc e c h.1.2) (sAnd (.cons y ys) X sc (e2 :: es2) pos c h.2 (by simp))
theorem sOr : ∀ (x : Exs) (X : Cx) (sc : Scope) (es : List Expr) (pos : Pos), Cok C X n call sc → ckEs C x sc es = true → es ≠ [] → PE X (.BoolOp .Or es pos) (TXe X.K (evOr C.dfl call x))
  | .nil, X, sc, [], pos, c, h, hn => absurd rfl hn
  | .nil, X, sc, _ :: _, pos, c, h, hn => by cases h
  | .cons _ _, X, sc, [], pos, c, h, hn => by cases h
  | .cons x xs, X, sc, e :: es, pos, c, h, hn => by
    simp only [ckEs, Bool.and_eq_true] at h
    cases xs with
    | nil =>
      cases es with
      | nil => exact pe_one (sE x X sc e c h.1.2)
      | cons _ _ => exact absurd h.2 Bool.false_ne_true
    | cons y ys =>
      cases es with
      | nil => exact absurd h.2 Bool.false_ne_true
      | cons e2 es2 => exact k_or (sE x X sc e c h.1.2) (sOr (.cons y ys) X sc (e2 :: es2) pos c h.2 (by simp))
theorem sT : ∀ (x : Tx) (X : Cx) (sc : Scope) (e : Expr), Cok C X n call sc → ckT C x sc e = true → PT X e (TXt X.K (evT C.dfl call x))
  | .yes, X, sc, e, c, h => by cases h
  | .cmp o a b, X, sc, e, c, h => by
    unfold ckT at h
    split at h
    · simp only [Bool.and_eq_true] at h
      rw [copIs_eq h.1.1.1]
      exact k_cmpT c h.1.1.2 (sE a X sc _ c h.1.2) (sE b X sc _ c h.2)
    · cases h
  | .cmp2 o p a b d, X, sc, e, c, h => by
    unfold ckT at h
    split at h
    · simp only [Bool.and_eq_true] at h
      obtain ⟨⟨⟨⟨⟨⟨h1, h2⟩, h3⟩, h4⟩, h5⟩, h6⟩, h7⟩ := h
      rw [copIs_eq h1, copIs_eq h2]
      exact k_chT c h4 (sE a X sc _ c h5) (sE b X sc _ c h6) (sE d X sc _ c h7)
    · cases h
  | .and ts, X, sc, e, c, h => by
    unfold ckT at h
    split at h
    · simp only [Bool.and_eq_true] at h
      exact (sAll ts X sc _ _ c h.2 (by
        intro z
        rw [z] at h
        exact absurd h.1 (by decide))).pt
    · cases h
  | .or ts, X, sc, e, c, h => by
    unfold ckT at h
    split at h
    · simp only [Bool.and_eq_true] at h
      exact (sAny ts X sc _ _ c h.2 (by
        intro z
        rw [z] at h
        exact absurd h.1 (by decide))).pt
    · cases h
  | .not a, X, sc, e, c, h => by
    unfold ckT at h
    split at h
    · exact k_notT (sT a X sc _ c h)
    · cases h
  | .tr x, X, sc, e, c, h => by
    unfold ckT at h
    rw [Bool.and_eq_true] at h
    exact k_tr h.1 (sE x X sc e c h.2)
  | .din neg one ks a, X, sc, e, c, h => by
    unfold ckT at h
    split at h
    · rename_i l0 op r0 pos0
      simp only [Bool.and_eq_true] at h
      obtain ⟨⟨⟨h1, h2⟩, h3⟩, h4⟩ := h
      have hk : PE X l0 (TXg X.K RepK (b1 (evs C.dfl call ks) (keyD one))) := by
        cases one with
        | true => exact s1 ks X sc _ c h3
        | false =>
          simp only at h3
          split at h3
          · exact k_keyT (sEs ks X sc _ c h3)
          · cases h3
      split at h1
      · exact k_dnotinT c h2 hk (sE a X sc _ c h4)
      · exact k_dinT c h2 hk (sE a X sc _ c h4)
      · cases h1
    · cases h
theorem sAll : ∀ (x : Txs) (X : Cx) (sc : Scope) (es : List Expr) (pos : Pos), Cok C X n call sc → ckTs C x sc es = true → es ≠ [] → PW X (.BoolOp .And es pos) (TXt X.K (evAll C.dfl call x))
  | .nil, X, sc, [], pos, c, h, hn => absurd rfl hn
  | .nil, X, sc, _ :: _, pos, c, h, hn => by cases h
  | .cons _ _, X, sc, [], pos, c, h, hn => by cases h
  | .cons x xs, X, sc, e :: es, pos, c, h, hn => by
    simp only [ckTs, Bool.and_eq_true] at h
    cases xs with
    | nil =>
      cases es with
      | nil => exact k_all1 (sT x X sc e c h.1)
      | cons _ _ => exact absurd h.2 Bool.false_ne_true
    | cons y ys =>
      cases es with
      | nil => exact absurd h.2 Bool.false_ne_true
      | cons e2 es2 => exact k_all (sT x X sc e c h.1) (sAll (.cons y ys) X sc (e2 :: es2) pos c h.2 (by simp))
theorem sAny : ∀ (x : Txs) (X : Cx) (sc : Scope) (es : List Expr) (pos : Pos), Cok C X n call sc → ckTs C x sc es = true → es ≠ [] → PW X (.BoolOp .Or es pos) (TXt X.K (evAny C.dfl call x))
  | .nil, X, sc, [], pos, c, h, hn => absurd rfl hn
  | .nil, X, sc, _ :: _, pos, c, h, hn => by cases h
  | .cons _ _, X, sc, [], pos, c, h, hn => by cases h
  | .cons x xs, X, sc, e :: es, pos, c, h, hn => by
    simp only [ckTs, Bool.and_eq_true] at h
    cases xs with
    | nil =>
      cases es with
      | nil => exact k_any1 (sT x X sc e c h.1)
      | cons _ _ => exact absurd h.2 Bool.false_ne_true
    | cons y ys =>
      cases es with
      | nil => exact absurd h.2 Bool.false_ne_true
      | cons e2 es2 => exact k_any (sT x X sc e c h.1) (sAny (.cons y ys) X sc (e2 :: es2) pos c h.2 (by simp))
theorem sI : ∀ (x : Itx) (X : Cx) (sc : Scope) (tg e : Expr), Cok C X n call sc → ckI C x sc tg e = true → PI X tg e (TXi X.K (evI C.dfl call x))
  | .rng1 a, X, sc, tg, e, c, h => by
    unfold ckI at h
    split at h
    · simp only [Bool.and_eq_true, decide_eq_true_eq] at h
      obtain ⟨⟨⟨⟨e1, h1⟩, h2⟩, h3⟩, h4⟩ := h
      subst e1
      exact pi_rng1X (c.gl _ (isGl_of h2)) (c.blt _ h1) (sE a X sc _ c h4) h3
    · cases h
  | .rng2 a b, X, sc, tg, e, c, h => by
    unfold ckI at h
    split at h
    · simp only [Bool.and_eq_true, decide_eq_true_eq] at h
      obtain ⟨⟨⟨⟨⟨⟨e1, h1⟩, h2⟩, h3⟩, h4⟩, h5⟩, h6⟩ := h
      subst e1
      exact pi_rng2X (c.gl _ (isGl_of h2)) (c.blt _ h1) (sE a X sc _ c h5) (sE b X sc _ c h6) h3 h4
    · cases h
  | .seq x, X, sc, tg, e, c, h => pi_seqX (sE x X sc e c h)
  | .rvsd a, X, sc, tg, e, c, h => by
    unfold ckI at h
    split at h
    · simp only [Bool.and_eq_true, decide_eq_true_eq] at h
      obtain ⟨⟨⟨⟨e1, h1⟩, h2⟩, h3⟩, h4⟩ := h
      subst e1
      exact pi_rvX (c.gl _ (isGl_of h2)) (c.blt _ h1) (sE a X sc _ c h4) h3
    · cases h
  | .enum a, X, sc, tg, e, c, h => by
    unfold ckI at h
    rw [Bool.and_eq_true] at h
    obtain ⟨ht, h⟩ := h
    split at ht
    · split at h
      · simp only [Bool.and_eq_true, decide_eq_true_eq] at h
        obtain ⟨⟨⟨⟨e1, h1⟩, h2⟩, h3⟩, h4⟩ := h
        subst e1
        exact pi_enX (c.gl _ (isGl_of h2)) (c.blt _ h1) (sE a X sc _ c h4) h3
      · cases h
    · cases ht
  | .zip a b, X, sc, tg, e, c, h => by
    unfold ckI at h
    rw [Bool.and_eq_true] at h
    obtain ⟨ht, h⟩ := h
    split at ht
    · split at h
      · simp only [Bool.and_eq_true, decide_eq_true_eq] at h
        obtain ⟨⟨⟨⟨⟨⟨e1, h1⟩, h2⟩, h3⟩, h4⟩, h5⟩, h6⟩ := h
        subst e1
        exact pi_zipX (c.gl _ (isGl_of h2)) (c.blt _ h1) (sE a X sc _ c h5) (sE b X sc _ c h6) h3 h4
      · cases h
    · cases ht
end
end
end B
/-! B9: statements. -/
namespace B
open PySem PySem.Spec PyProof.Rows L2
def isStarE : Expr → Bool
  | .Starred .. => true
  | _ => false
def swNames (sc : Scope) (ts : List Expr) : List Str :=
  ts.filterMap fun
    | .Name id pos => if sc.names.lookup id == some .local && pos.line == (ts.head?.map (·.pos.line)).getD 0 then some id else none
    | _ => none
def swapsB (sc : Scope) (ts vs : List Expr) : Option (Option (List Str)) :=
  if (!(ts.length == 2 || ts.length == 3) || vs.length != ts.length) = true then some none
  else if (vs.any isStarE) = true then some none
  else if ((swNames sc ts).length != ts.length || (swNames sc ts).eraseDups.length != (swNames sc ts).length) = true then some none
  else if vs.all (foldedForSure 8) = true then some none
  else if vs.all (constantsAlone 8) = true then none
  else some (some (swNames sc ts))
theorem swaps_of {sc : Scope} {env : PySem.Env} {ts vs : List Expr} {k k2 : Nat} {p p2 : Pos} {r : Option (List Str)} (he : env.scope = sc) (hk : sc.kind = .function) (h : swapsB sc ts vs = some r) :
    swappedStores [.Tuple ts k p] (.Tuple vs k2 p2) env = pure r := by
  have hb : env.blockKind = .function := by unfold Env.blockKind; rw [he, hk]; rfl
  unfold swapsB at h
  unfold swappedStores
  simp only [hb, Env.kindOf, he]
  have hs : (vs.any fun | .Starred .. => true | _ => false) = vs.any isStarE := by
    congr 1
  simp only [bne_self_eq_false, Bool.or_false]
  show (if (!(ts.length == 2 || ts.length == 3) || vs.length != ts.length) = true then (pure none : Sem (Option (List Str)))
    else if (vs.any isStarE) = true then pure none
    else if ((swNames sc ts).length != ts.length || (swNames sc ts).eraseDups.length != (swNames sc ts).length) = true then pure none
    else if vs.all (foldedForSure 8) = true then pure none
    else if vs.all (constantsAlone 8) = true then (do unsupported "assign.tuple-of-constant-expressions:order-of-the-stores"; pure (some (swNames sc ts)))
    else pure (some (swNames sc ts))) = pure r
  split at h
  · rename_i h1; cases h; rw [if_pos h1]
  rename_i h1
  rw [if_neg h1]
  split at h
  · rename_i h2; cases h; rw [if_pos h2]
  rename_i h2
  rw [if_neg h2]
  split at h
  · rename_i h3; cases h; rw [if_pos h3]
  rename_i h3
  rw [if_neg h3]
  split at h
  · rename_i h4; cases h; rw [if_pos h4]
  rename_i h4
  rw [if_neg h4]
  split at h
  · cases h
  rename_i h5
  rw [if_neg h5]
  cases h
  rfl

/-! ### what is wanted behind a statement -/
def EndsOk (K : PySem.W.Frag) (rho : Rho) (H : Hp) (fl : Fl) (env : Env) (st : Store) (Dn : Ends) : Prop :=
  match fl with
  | .nx => ∀ (rho' : Rho) (H' : Hp) (sg' : L2.St), Ext rho H rho' H' → StoreRep K rho' H' st → EnvRep K rho' H' sg' env → Dn.nx sg' H'
  | .bk => ∀ (rho' : Rho) (H' : Hp) (sg' : L2.St), Ext rho H rho' H' → StoreRep K rho' H' st → EnvRep K rho' H' sg' env → Dn.bk sg' H'
  | .ct => ∀ (rho' : Rho) (H' : Hp) (sg' : L2.St), Ext rho H rho' H' → StoreRep K rho' H' st → EnvRep K rho' H' sg' env → Dn.ct sg' H'
  | .ret d => ∀ (rho' : Rho) (H' : Hp) (v : V), Ext rho H rho' H' → StoreRep K rho' H' st → Rep K rho' H' d v → Dn.rt v H'
theorem EndsOk.ext {K : PySem.W.Frag} {rho rho1 : Rho} {H H1 : Hp} {fl : Fl} {env : Env} {st : Store} {Dn : Ends} (h : EndsOk K rho H fl env st Dn) (e : Ext rho H rho1 H1) : EndsOk K rho1 H1 fl env st Dn := by
  cases fl with
  | nx => exact fun r H' s x => h r H' s (e.trans x)
  | bk => exact fun r H' s x => h r H' s (e.trans x)
  | ct => exact fun r H' s x => h r H' s (e.trans x)
  | ret d => exact fun r H' s x => h r H' s (e.trans x)
def TSX (K : PySem.W.Frag) (f : SF) : TS := fun Dn sg H => ∃ (rho : Rho) (env : Env) (st : Store) (fl : Fl) (env' : Env) (st' : Store), EnvRep K rho H sg env ∧ StoreRep K rho H st ∧ f env st = some (fl, env', st') ∧ EndsOk K rho H fl env' st' Dn

section
variable {K : PySem.W.Frag} {Dn : Ends} {sg : L2.St} {H : Hp}
theorem ts_seq {f g : SF} (w : TSX K (sSeq f g) Dn sg H) : TSX K f { Dn with nx := TSX K g Dn } sg H := by
  obtain ⟨rho, env, st, fl, env', st', hE, hS, hf, k⟩ := w
  unfold sSeq at hf
  split at hf
  · rename_i e1 s1 h1
    exact ⟨rho, env, st, .nx, e1, s1, hE, hS, h1, fun rho1 H1 sg1 x1 S1 E1 => ⟨rho1, e1, s1, fl, env', st', E1, S1, hf, k.ext x1⟩⟩
  · rename_i hne
    refine ⟨rho, env, st, fl, env', st', hE, hS, hf, ?_⟩
    cases fl with
    | nx => exact absurd hf (hne _ _)
    | bk => exact k
    | ct => exact k
    | ret d => exact k
theorem ts_set {put : D → Env → Option Env} {sl : List Nat} {f : RF D} (w : TSX K (sSet put f) Dn sg H) : tAsg (TXe K f) (gX K put sl) Dn sg H := by
  obtain ⟨rho, env, st, fl, env', st', hE, hS, hf, k⟩ := w
  unfold sSet at hf
  split at hf
  case h_2 => cases hf
  rename_i d s1 h1
  split at hf
  case h_2 => cases hf
  rename_i e hp
  cases hf
  exact ⟨rho, env, st, d, st', hE, hS, h1, fun rho1 H1 v x1 S1 r1 => ⟨rho1, env, d, env', hE.ext hS.trk x1, r1, hp, fun sg' E' _ => k rho1 H1 sg' x1 S1 E'⟩⟩
theorem ts_expr {f : RF D} (w : TSX K (sExpr f) Dn sg H) : tDrop (TXe K f) Dn sg H := by
  obtain ⟨rho, env, st, fl, env', st', hE, hS, hf, k⟩ := w
  unfold sExpr at hf
  split at hf
  · rename_i d s1 h1
    cases hf
    exact ⟨rho, env, st, d, st', hE, hS, h1, fun rho1 H1 v x1 S1 r1 => k rho1 H1 sg x1 S1 (hE.ext hS.trk x1)⟩
  · cases hf
theorem ts_ret {f : RF D} (w : TSX K (sRet f) Dn sg H) : tRet (TXe K f) Dn sg H := by
  obtain ⟨rho, env, st, fl, env', st', hE, hS, hf, k⟩ := w
  unfold sRet at hf
  split at hf
  · rename_i d s1 h1
    cases hf
    exact ⟨rho, env, st, d, st', hE, hS, h1, fun rho1 H1 v x1 S1 r1 => k rho1 H1 v x1 S1 r1⟩
  · cases hf
theorem ts_if {c : RF Bool} {f g : SF} (w : TSX K (sIf c f g) Dn sg H) : tIfS (TXt K c) (TSX K f) (TSX K g) Dn sg H := by
  obtain ⟨rho, env, st, fl, env', st', hE, hS, hf, k⟩ := w
  unfold sIf at hf
  split at hf
  · rename_i s1 h1
    refine ⟨rho, env, st, true, s1, hE, hS, h1, fun rho1 H1 b x1 S1 r1 => ?_⟩
    cases r1
    exact iteT ⟨rho1, env, s1, fl, env', st', hE.ext hS.trk x1, S1, hf, k.ext x1⟩
  · rename_i s1 h1
    refine ⟨rho, env, st, false, s1, hE, hS, h1, fun rho1 H1 b x1 S1 r1 => ?_⟩
    cases r1
    exact iteF ⟨rho1, env, s1, fl, env', st', hE.ext hS.trk x1, S1, hf, k.ext x1⟩
  · cases hf
/-- behind a turn's body -/
theorem turn_end {f : SF} {rho : Rho} {env env1 : Env} {st st1 : Store} {fl : Fl} {N : L2.St → Hp → Prop} (hE : EnvRep K rho H sg env) (hS : StoreRep K rho H st) (hf : f env st = some (fl, env1, st1))
    (hN : (fl = .nx ∨ fl = .ct) → ∀ rho' H' sg', Ext rho H rho' H' → StoreRep K rho' H' st1 → EnvRep K rho' H' sg' env1 → N sg' H') (hB : fl = .bk → EndsOk K rho H .nx env1 st1 Dn) (hR : ∀ d, fl = .ret d → EndsOk K rho H (.ret d) env1 st1 Dn) :
    TSX K f { Dn with nx := N, ct := N, bk := Dn.nx } sg H := by
  refine ⟨rho, env, st, fl, env1, st1, hE, hS, hf, ?_⟩
  cases fl with
  | nx => exact hN (.inl rfl)
  | ct => exact hN (.inr rfl)
  | bk => exact hB rfl
  | ret d => exact hR d rfl
theorem ts_whl {c : RF Bool} {f : SF} {fu : Nat} (w : TSX K (whlGo c f fu) Dn sg H) : tWhile (TXt K c) (TSX K f) Dn sg H := by
  obtain ⟨rho, env, st, fl, env', st', hE, hS, hf, k⟩ := w
  refine ⟨fun m sg1 H1 => ∃ (rho1 : Rho) (env1 : Env) (st1 : Store), Ext rho H rho1 H1 ∧ EnvRep K rho1 H1 sg1 env1 ∧ StoreRep K rho1 H1 st1 ∧ whlGo c f m env1 st1 = some (fl, env', st'), ⟨fu, rho, env, st, .refl _ _, hE, hS, hf⟩, fun m sg1 H1 hW => ?_⟩
  obtain ⟨rho1, env1, st1, x1, E1, S1, g⟩ := hW
  cases m with
  | zero => cases g
  | succ m =>
    unfold whlGo at g
    split at g
    · cases g
    · rename_i s2 hc
      cases g
      refine ⟨rho1, env', st1, false, st', E1, S1, hc, fun rho2 H2 b x2 S2 r2 => ?_⟩
      cases r2
      exact iteF (k rho2 H2 sg1 (x1.trans x2) S2 (E1.ext S1.trk x2))
    · rename_i s2 hc
      refine ⟨rho1, env1, st1, true, s2, E1, S1, hc, fun rho2 H2 b x2 S2 r2 => ?_⟩
      cases r2
      refine iteT ⟨fun sg3 H3 => ∃ (rho3 : Rho) (env3 : Env) (st3 : Store), Ext rho H rho3 H3 ∧ EnvRep K rho3 H3 sg3 env3 ∧ StoreRep K rho3 H3 st3 ∧ whlGo c f m env3 st3 = some (fl, env', st'), fun sg3 H3 h => ⟨m, Nat.lt_succ_self _, h⟩, ?_⟩
      have E2 := E1.ext S1.trk x2
      have x12 := x1.trans x2
      cases hfe : f env1 s2 with
      | none => rw [hfe] at g; cases g
      | some p =>
        obtain ⟨fl2, e3, s3⟩ := p
        rw [hfe] at g
        refine turn_end E2 S2 hfe (fun hh rho4 H4 sg4 x4 S4 E4 => ⟨rho4, e3, s3, x12.trans x4, E4, S4, ?_⟩) (fun hh => ?_) (fun d hh => ?_)
        · rcases hh with hh | hh <;> (subst hh; exact g)
        · subst hh; cases g; exact k.ext x12
        · subst hh; cases g; exact k.ext x12
theorem ts_for {tg : Tg} {it : RF Itv} {f : SF} (w : TSX K (sFor tg it f) Dn sg H) : tFor (TXi K it) (gX K tg.put tg.slots) (TSX K f) Dn sg H := by
  obtain ⟨rho, env, st, fl, env', st', hE, hS, hf, k⟩ := w
  unfold sFor at hf
  split at hf
  case h_2 => cases hf
  rename_i itv s1 h1
  refine ⟨rho, env, st, itv, s1, hE, hS, h1, fun rho1 H1 J x1 S1 hJ => ?_⟩
  have E1 := hE.ext hS.trk x1
  have k := k.ext x1
  refine ⟨fun i m sgc Hc => ∃ (rc : Rho) (ec : Env) (sc : Store), Ext rho1 H1 rc Hc ∧ EnvRep K rc Hc sgc ec ∧ StoreRep K rc Hc sc ∧ forGo itv.nth (forStep tg f) m i ec sc = some (fl, env', st'), ⟨itv.len + 1, rho1, env, s1, .refl _ _, E1, S1, hf⟩, fun i m sgc Hc hW => ?_⟩
  obtain ⟨rc, ec, sc, xc, Ec, Sc, g⟩ := hW
  cases m with
  | zero => cases g
  | succ m =>
    unfold forGo at g
    obtain ⟨j1, j2⟩ := hJ rc Hc sc xc Sc i
    split at g
    · cases g
    · rename_i e3
      cases g
      exact .inl ⟨j1 e3, k rc Hc sgc xc Sc Ec⟩
    · rename_i x e3
      obtain ⟨jg, jy⟩ := j2 x e3
      refine .inr ⟨jg, fun sg3 H3 => ∃ (rc : Rho) (ec : Env) (sc : Store), Ext rho1 H1 rc H3 ∧ EnvRep K rc H3 sg3 ec ∧ StoreRep K rc H3 sc ∧ forGo itv.nth (forStep tg f) m (i + 1) ec sc = some (fl, env', st'), fun sg3 H3 h => ⟨m, Nat.lt_succ_self _, h⟩, fun y H' hy => ?_⟩
      obtain ⟨xy, Sy, ry⟩ := jy y H' hy
      have Ey := Ec.ext Sc.trk xy
      have xcy := xc.trans xy
      cases hst : forStep tg f x ec sc with
      | none => rw [hst] at g; cases g
      | some p =>
        obtain ⟨fl2, e4, s4⟩ := p
        rw [hst] at g
        unfold forStep at hst
        split at hst
        case h_2 => cases hst
        rename_i e2 hput
        refine ⟨rc, ec, x, e2, Ey, ry, hput, fun sg2 E2 _ => ?_⟩
        refine turn_end E2 Sy hst (fun hh rho5 H5 sg5 x5 S5 E5 => ⟨rho5, e4, s4, xcy.trans x5, E5, S5, ?_⟩) (fun hh => ?_) (fun d hh => ?_)
        · rcases hh with hh | hh <;> (subst hh; exact g)
        · subst hh; cases g; exact k.ext xcy
        · subst hh; cases g; exact k.ext xcy
theorem ts_par2 {i j : Nat} {fs : RF (List D)} (w : TSX K (sPar [i, j] fs) Dn sg H) : tPar i j (TXa K fs) Dn sg H := by
  obtain ⟨rho, env, st, fl, env', st', hE, hS, hf, k⟩ := w
  unfold sPar at hf
  split at hf
  case h_2 => cases hf
  rename_i ds s1 h1
  split at hf
  case h_2 => cases hf
  rename_i e hp
  cases hf
  refine ⟨rho, env, st, ds, st', hE, hS, h1, fun rho1 H1 us x1 S1 r1 => ?_⟩
  have E1 := hE.ext hS.trk x1
  cases r1 with
  | nil => cases hp
  | cons a r1 => cases r1 with
    | nil => unfold parPut at hp; split at hp <;> cases hp
    | cons b r1 => cases r1 with
      | nil =>
        rename_i d1 v1 d2 v2
        unfold parPut at hp
        split at hp
        case isFalse => cases hp
        unfold parPut at hp
        split at hp
        case isFalse => cases hp
        cases hp
        exact ⟨v1, v2, rfl, k rho1 H1 _ x1 S1 ((E1.set a).set b)⟩
      | cons c r1 =>
        unfold parPut at hp
        split at hp
        case isFalse => cases hp
        unfold parPut at hp
        split at hp
        case isFalse => cases hp
        cases hp
theorem ts_par3 {i j l : Nat} {fs : RF (List D)} (w : TSX K (sPar [i, j, l] fs) Dn sg H) : tPar3 i j l (TXa K fs) Dn sg H := by
  obtain ⟨rho, env, st, fl, env', st', hE, hS, hf, k⟩ := w
  unfold sPar at hf
  split at hf
  case h_2 => cases hf
  rename_i ds s1 h1
  split at hf
  case h_2 => cases hf
  rename_i e hp
  cases hf
  refine ⟨rho, env, st, ds, st', hE, hS, h1, fun rho1 H1 us x1 S1 r1 => ?_⟩
  have E1 := hE.ext hS.trk x1
  cases r1 with
  | nil => cases hp
  | cons a r1 => cases r1 with
    | nil => unfold parPut at hp; split at hp <;> cases hp
    | cons b r1 => cases r1 with
      | nil =>
        unfold parPut at hp
        split at hp
        case isFalse => cases hp
        unfold parPut at hp
        split at hp <;> cases hp
      | cons c r1 => cases r1 with
        | nil =>
          rename_i d1 v1 d2 v2 d3 v3
          unfold parPut at hp
          split at hp
          case isFalse => cases hp
          unfold parPut at hp
          split at hp
          case isFalse => cases hp
          unfold parPut at hp
          split at hp
          case isFalse => cases hp
          cases hp
          exact ⟨v1, v2, v3, rfl, k rho1 H1 _ x1 S1 (((E1.set a).set b).set c)⟩
        | cons d r1 =>
          unfold parPut at hp
          split at hp
          case isFalse => cases hp
          unfold parPut at hp
          split at hp
          case isFalse => cases hp
          unfold parPut at hp
          split at hp
          case isFalse => cases hp
          cases hp
theorem ts_setI {f o i : RF D} (w : TSX K (sSetI f o i) Dn sg H) : tAsg (TXe K f) (gSub (TXe K o) (TXe K i) rSetL) Dn sg H := by
  obtain ⟨rho, env, st, fl, env', st', hE, hS, hf, k⟩ := w
  unfold sSetI at hf
  split at hf
  case h_2 => cases hf
  rename_i d s1 h1
  split at hf
  case h_2 => cases hf
  rename_i x s2 h2
  split at hf
  case h_2 => cases hf
  rename_i y s3 h3
  split at hf
  case h_2 => cases hf
  rename_i s4 h4
  cases hf
  refine ⟨rho, env, st, d, s1, hE, hS, h1, fun rho1 H1 v x1 S1 r1 => ?_⟩
  have E1 := hE.ext hS.trk x1
  refine ⟨rho1, env, s1, x, s2, E1, S1, h2, fun rho2 H2 u x2 S2 r2 => ?_⟩
  have E2 := E1.ext S1.trk x2
  refine ⟨rho2, env, s2, y, s3, E2, S2, h3, fun rho3 H3 q x3 S3 r3 => ?_⟩
  have E3 := E2.ext S2.trk x3
  have r1' := r1.ext S1.trk (x2.trans x3)
  have r2' := r2.ext S2.trk x3
  unfold setD at h4
  split at h4
  · rename_i n kk
    split at h4
    · rename_i ds e
      split at h4
      · rename_i j hj
        cases h4
        obtain ⟨a, vs, rfl, hr, ha, rl⟩ := S3.at r2' e
        cases r3
        refine ⟨a, vs, kk, j, rfl, rfl, ha, by rw [← rl.length]; exact hj, ?_⟩
        have hw := Ext.wr (H := H3) (o := .lst (vs.set j v)) (List.mem_of_getElem? hr)
        exact k rho3 _ sg (((x1.trans x2).trans x3).trans hw) (S3.set hr (rl.set j r1')) (E3.ext S3.trk hw)
      · cases h4
    · cases h4
  · cases h4
theorem ts_dput {f o : RF D} {i : RF DK} (w : TSX K (sPutD f o i) Dn sg H) : sDPut (TXe K o) (TXg K RepK i) (TXe K f) Dn sg H := by
  obtain ⟨rho, env, st, fl, env', st', hE, hS, hf, k⟩ := w
  unfold sPutD at hf
  split at hf
  case h_2 => cases hf
  rename_i d s1 h1
  split at hf
  case h_2 => cases hf
  rename_i x s2 h2
  split at hf
  case h_2 => cases hf
  rename_i y s3 h3
  split at hf
  case h_2 => cases hf
  rename_i s4 h4
  cases hf
  refine ⟨rho, env, st, d, s1, hE, hS, h1, fun rho1 H1 v x1 S1 r1 => ?_⟩
  have E1 := hE.ext hS.trk x1
  refine ⟨rho1, env, s1, x, s2, E1, S1, h2, fun rho2 H2 u x2 S2 r2 => ?_⟩
  have E2 := E1.ext S1.trk x2
  refine ⟨rho2, env, s2, y, s3, E2, S2, h3, fun rho3 H3 q x3 S3 r3 => ?_⟩
  have E3 := E2.ext S2.trk x3
  have r1' := r1.ext S1.trk (x2.trans x3)
  have r2' := r2.ext S2.trk x3
  obtain ⟨p, H4, rfl, g, hw, S4⟩ := put_repD S3 r2' r3 r1' h4
  exact ⟨p, H4, rfl, g, k rho3 H4 sg (((x1.trans x2).trans x3).trans hw) S4 (E3.ext S3.trk hw)⟩
theorem g_put1 {K : PySem.W.Frag} {o i : RF D} {d : D} {v : V} {rho : Rho} {env : Env} {st st' : Store} {sg : L2.St} {H : Hp} {Q : L2.St → Hp → Prop} (hE : EnvRep K rho H sg env) (S1 : StoreRep K rho H st) (r1 : Rep K rho H d v) (h : put1 o i d env st = some st')
    (k : ∀ rho' H', Ext rho H rho' H' → StoreRep K rho' H' st' → Q sg H') : gSub (TXe K o) (TXe K i) rSetL v sg H Q := by
  unfold put1 at h
  split at h
  case h_2 => cases h
  rename_i x s2 h2
  split at h
  case h_2 => cases h
  rename_i y s3 h3
  refine ⟨rho, env, st, x, s2, hE, S1, h2, fun rho2 H2 u x2 S2 r2 => ?_⟩
  have E2 := hE.ext S1.trk x2
  refine ⟨rho2, env, s2, y, s3, E2, S2, h3, fun rho3 H3 q x3 S3 r3 => ?_⟩
  have E3 := E2.ext S2.trk x3
  have r1' := r1.ext S1.trk (x2.trans x3)
  have r2' := r2.ext S2.trk x3
  unfold setD at h
  split at h
  · rename_i n kk
    split at h
    · rename_i ds e
      split at h
      · rename_i j hj
        cases h
        obtain ⟨a, vs, rfl, hr, ha, rl⟩ := S3.at r2' e
        cases r3
        refine ⟨a, vs, kk, j, rfl, rfl, ha, by rw [← rl.length]; exact hj, ?_⟩
        have hw := Ext.wr (H := H3) (o := .lst (vs.set j v)) (List.mem_of_getElem? hr)
        exact k rho3 _ ((x2.trans x3).trans hw) (S3.set hr (rl.set j r1'))
      · cases h
    · cases h
  · cases h
theorem ts_setII {f o i o2 i2 : RF D} (w : TSX K (sSetII f o i o2 i2) Dn sg H) : tAsg (TXe K f) (gTup K 2 (gCons (gSub (TXe K o) (TXe K i) rSetL) (gCons (gSub (TXe K o2) (TXe K i2) rSetL) gNil))) Dn sg H := by
  obtain ⟨rho, env, st, fl, env', st', hE, hS, hf, k⟩ := w
  unfold sSetII at hf
  split at hf
  case h_2 => cases hf
  rename_i x y s1 h1
  split at hf
  case h_2 => cases hf
  rename_i s2 h2
  split at hf
  case h_2 => cases hf
  rename_i s3 h3
  cases hf
  refine ⟨rho, env, st, _, s1, hE, hS, h1, fun rho1 H1 v x1 S1 r1 => ?_⟩
  have E1 := hE.ext hS.trk x1
  cases r1 with
  | tup hq rl =>
    rename_i vs a
    cases rl with
    | cons ra rl =>
      rename_i va vs
      cases rl with
      | cons rb rl =>
        rename_i vb vs
        cases rl
        refine ⟨a, [va, vb], rfl, hq, rfl, va, [vb], rfl, g_put1 E1 S1 ra h2 fun rho2 H2 x2 S2 => ⟨vb, [], rfl, g_put1 (E1.ext S1.trk x2) S2 (rb.ext S1.trk x2) h3 fun rho3 H3 x3 S3 => ⟨rfl, ?_⟩⟩⟩
        exact k rho3 H3 sg (x1.trans (x2.trans x3)) S3 ((E1.ext S1.trk x2).ext S2.trk x3)
theorem ts_aug {i : Nat} {f : RF D} (w : TSX K (sAug i .add f) Dn sg H) : tAug i (TXe K f) (ipI fun a b => a + b) Dn sg H := by
  obtain ⟨rho, env, st, fl, env', st', hE, hS, hf, k⟩ := w
  unfold sAug at hf
  split at hf
  case h_2 => cases hf
  rename_i x hx
  split at hf
  case h_2 => cases hf
  rename_i y s1 h1
  split at hf
  case h_2 => cases hf
  rename_i z hz
  cases hf
  obtain ⟨v, hv, rv⟩ := hE.at_ i x hx
  refine ⟨v, hv, rho, env, st, y, st', hE, hS, h1, fun rho1 H1 u x1 S1 r1 => ?_⟩
  unfold augD at hz
  split at hz
  · rename_i a b _
    cases hz; cases rv; cases r1
    exact ⟨a, b, rfl, rfl, k rho1 H1 _ x1 S1 ((hE.ext hS.trk x1).set (.int _))⟩
  · rename_i h0
    cases h0
  · cases hz
theorem ts_augS {i : Nat} {f : RF D} (w : TSX K (sAug i .sub f) Dn sg H) : tAug i (TXe K f) (ipI fun a b => a - b) Dn sg H := by
  obtain ⟨rho, env, st, fl, env', st', hE, hS, hf, k⟩ := w
  unfold sAug at hf
  split at hf
  case h_2 => cases hf
  rename_i x hx
  split at hf
  case h_2 => cases hf
  rename_i y s1 h1
  split at hf
  case h_2 => cases hf
  rename_i z hz
  cases hf
  obtain ⟨v, hv, rv⟩ := hE.at_ i x hx
  refine ⟨v, hv, rho, env, st, y, st', hE, hS, h1, fun rho1 H1 u x1 S1 r1 => ?_⟩
  unfold augD at hz
  split at hz
  · rename_i h0
    cases h0
  · rename_i a b _
    cases hz; cases rv; cases r1
    exact ⟨a, b, rfl, rfl, k rho1 H1 _ x1 S1 ((hE.ext hS.trk x1).set (.int _))⟩
  · cases hz
end
end B
/-! B10: every written statement that is checked does what is reckoned. -/
namespace B
open PySem PySem.Spec PyProof.Rows L2

theorem TXg.imp {α β : Type} {K : PySem.W.Frag} {rel : Rho → Hp → α → β → Prop} {f : RF α} {sg : L2.St} {H : Hp} {Q Q' : β → Hp → Prop} (w : TXg K rel f sg H Q) (h : ∀ v H, Q v H → Q' v H) : TXg K rel f sg H Q' := by
  obtain ⟨rho, env, st, x, st', hE, hS, hf, k⟩ := w
  exact ⟨rho, env, st, x, st', hE, hS, hf, fun r H' v x1 S1 r1 => h v H' (k r H' v x1 S1 r1)⟩
theorem gX_name {K : PySem.W.Frag} {i : Nat} {v : V} {sg : L2.St} {H : Hp} {Q : L2.St → Hp → Prop} (w : gX K (putN i) [i] v sg H Q) : gName i v sg H Q := by
  obtain ⟨rho, env, d, env', hE, r, e, k⟩ := w
  unfold putN at e
  split at e
  · cases e
    exact k _ (hE.set r) fun j hj => by
      have : j ≠ i := fun z => hj (by rw [z]; exact List.mem_singleton.mpr rfl)
      rw [List.getElem?_set_ne (Ne.symm this)]
  · cases e
def notComp : Expr → Bool
  | .ListComp .. => false
  | .SetComp .. => false
  | .DictComp .. => false
  | _ => true
theorem sw_plain {v : Expr} {t : Option Expr} {l : Nat} {env : PySem.Env} (h : notComp v = true) : swapsWith v t l env = pure false := by
  cases v <;> first | rfl | cases h
def isSto (sc : Scope) (x : Str) : Bool := match sc.names.lookup x with | some .local => true | some .cell => true | _ => false
/-- whether name = [..] stores within the comprehension -/
def swLc (sc s2 : Scope) (x : Str) (p vp : Pos) : Bool :=
  (sc.names.lookup x == some .local && p.line == vp.line) && !(s2.names.any fun (n, k) => n == x && (k == .local || k == .cell))
theorem sw_lc {elt : Expr} {gs : List Comprehension} {s2 sc : Scope} {x : Str} {p vp : Pos} {l : Nat} {env : PySem.Env} (he : env.scope = sc) (hk : sc.kind = .function) :
    swapsWith (.ListComp elt gs s2 vp) (some (.Name x p)) l env = pure (swLc sc s2 x p vp) := by
  have hb : env.blockKind = .function := by unfold Env.blockKind; rw [he, hk]; rfl
  unfold swapsWith swLc
  simp only [hb, Env.kindOf, he, beq_self_eq_true, Bool.true_and]
  rfl
def tupLen : Expr → List Expr
  | .Tuple vs _ _ => vs
  | _ => []
def isTup : Expr → Bool
  | .Tuple .. => true
  | _ => false
theorem sw_notTup {ts : List Expr} {k : Nat} {p : Pos} {v : Expr} {env : PySem.Env} (h : isTup v = false) : swappedStores [.Tuple ts k p] v env = pure none := by
  cases v <;> first | rfl | cases h
theorem sws_tup {ts : List Expr} {k : Nat} {p : Pos} {v : Expr} {l : Nat} {env : PySem.Env} : swapsWithSole [.Tuple ts k p] v l env = pure false := by
  cases v <;> rfl
theorem sws_sub {a b : Expr} {p : Pos} {v : Expr} {l : Nat} {env : PySem.Env} : swapsWithSole [.Subscript a b p] v l env = pure false := by
  cases v <;> rfl
theorem sto_sub {a b : Expr} {p : Pos} {v : Expr} {env : PySem.Env} : swappedStores [.Subscript a b p] v env = pure none := by
  cases v <;> rfl
theorem sw_sub {v a b : Expr} {p : Pos} {l : Nat} {env : PySem.Env} (h : notComp v = true) : swapsWith v (some (.Subscript a b p)) l env = pure false := by
  cases v <;> first | rfl | cases h
theorem assign_sub {o i : Expr} {pos : Pos} {env : PySem.Env} (h : notSlice i = true) : ∀ v, assign (.Subscript o i pos) env v = (do
      let ov ← holding [v] (eval o env)
      let iv ← holding [v, ov] (eval i env)
      standAt pos
      holding [v, ov, iv] (setItem ov iv v)
      release [v, ov, iv] []) := by
  cases i <;> first | (intro _; rfl) | cases h

mutual
def ckS (C : Ctx) (sc : Scope) : S → Stmt → Bool
  | .set i e, s => match s with
    | .Assign [.Name x _] v _ => decide (C.N[i]? = some x) && isSto sc x && ckE C e sc v && (notComp v || (match v with | .ListComp .. => true | _ => false))
    | _ => false
  | .setT tg e, s => match s with
    | .Assign [.Tuple ts k p] v _ => ckG C.N sc tg (.Tuple ts k p) && ckE C e sc v && (!isTup v || (match swapsB sc ts (tupLen v) with | some none => true | _ => false))
    | _ => false
  | .par is es, s => match s with
    | .Assign [.Tuple [.Name x px, .Name y py] _ _] (.Tuple [a, b] _ _) _ => (match is with | [i, j] => decide (i ≠ j) && decide (C.N[i]? = some x) && decide (C.N[j]? = some y) | _ => false) &&
        (match sc.names.lookup x with | some .local => true | _ => false) && (match sc.names.lookup y with | some .local => true | _ => false) && ckEs C es sc [a, b] && decide (swapsB sc [.Name x px, .Name y py] [a, b] = some (some [x, y]))
    | .Assign [.Tuple [.Name x px, .Name y py, .Name z pz] _ _] (.Tuple [a, b, c] _ _) _ => (match is with | [i, j, l] => decide (i ≠ j) && decide (i ≠ l) && decide (j ≠ l) && decide (C.N[i]? = some x) && decide (C.N[j]? = some y) && decide (C.N[l]? = some z) | _ => false) &&
        (match sc.names.lookup x with | some .local => true | _ => false) && (match sc.names.lookup y with | some .local => true | _ => false) && (match sc.names.lookup z with | some .local => true | _ => false) && ckEs C es sc [a, b, c] &&
        decide (swapsB sc [.Name x px, .Name y py, .Name z pz] [a, b, c] = some (some [x, y, z]))
    | _ => false
  | .setI o i e, s => match s with
    | .Assign [.Subscript ov iv _] v _ => notSlice iv && ckE C e sc v && ckE C o sc ov && ckE C i sc iv
    | _ => false
  | .dput one o ks e, s => match s with
    | .Assign [.Subscript ov iv _] v _ => notComp v && ckE C e sc v && ckE C o sc ov && (match one with | true => ck1 C ks sc iv | false => (match iv with | .Tuple xs _ _ => ckEs C ks sc xs | _ => false))
    | _ => false
  | .setII o i o2 i2 es, s => match s with
    | .Assign [.Tuple [.Subscript ov iv _, .Subscript ov2 iv2 _] _ _] (.Tuple xs _ _) _ => notSlice iv && notSlice iv2 && ckEs C es sc xs && ckE C o sc ov && ckE C i sc iv && ckE C o2 sc ov2 && ckE C i2 sc iv2 && (match swapsB sc [.Subscript ov iv ⟨0, 0, 0, 0⟩, .Subscript ov2 iv2 ⟨0, 0, 0, 0⟩] xs with | some none => true | _ => false)
    | _ => false
  | .aug i o e, s => match s with
    | .AugAssign (.Name x _) op v _ => decide (C.N[i]? = some x) && isSto sc x && opIs o op && ckE C e sc v
    | _ => false
  | .expr e, s => match s with | .Expr v _ => notComp v && ckE C e sc v | _ => false
  | .ret e, s => match s with | .Return (some v) _ => ckE C e sc v | _ => false
  | .ife c a b, s => match s with | .If t x y _ => ckT C c sc t && ckSs C sc a x && ckSs C sc b y | _ => false
  | .whl c b, s => match s with | .While t x [] _ => ckT C c sc t && ckSs C sc b x | _ => false
  | .for_ tg it b, s => match s with | .For t i x [] _ => notSet i && ckI C it sc t i && ckG C.N sc tg t && ckSs C sc b x | _ => false
  | .brk, s => match s with | .Break _ => true | _ => false
  | .ctn, s => match s with | .Continue _ => true | _ => false
  | .rais, s => match s with | .Raise .. => true | _ => false
def ckSs (C : Ctx) (sc : Scope) : Ss → List Stmt → Bool
  | .nil, [] => true
  | .cons x xs, s :: ss => ckS C sc x s && ckSs C sc xs ss
  | _, _ => false
end

section
variable {C : Ctx} {n : Nat} {call : CallF} {X : Cx} {sc : Scope}
theorem isSto_of {x : Str} (h : isSto sc x = true) : sc.names.lookup x = some .local ∨ sc.names.lookup x = some .cell := lk_sto h
theorem isLoc_of {x : Str} (h : (match sc.names.lookup x with | some .local => true | _ => false) = true) : sc.names.lookup x = some .local := by
  split at h
  · assumption
  · cases h
theorem k_set (c : Cok C X n call sc) (hsc : X.env.scope = sc) {i : Nat} {x : Str} {e : Ex} {v : Expr} {p pos : Pos} (h1 : C.N[i]? = some x) (h2 : isSto sc x = true) (h3 : ckE C e sc v = true) (h4 : notComp v = true) : PS X (.Assign [.Name x p] v pos) (TSX X.K (sSet (putN i) (ev C.dfl call e))) := by
  obtain ⟨q1, q2⟩ := c.sto x (isSto_of h2)
  exact PS.of (ps_set c.nd (by rw [c.N]; exact h1) q1 (sE e X sc v c h3) (sw_plain h4) q2) fun Dn sg H w => TXg.imp (ts_set (sl := [i]) w) fun _ _ q => gX_name q
theorem k_setLc (c : Cok C X n call sc) (hsc : X.env.scope = sc) {i : Nat} {x : Str} {e : Ex} {el : Expr} {gs : List Comprehension} {s2 : Scope} {vp : Pos} {p pos : Pos} (h1 : C.N[i]? = some x) (h2 : isSto sc x = true) (h3 : ckE C e sc (.ListComp el gs s2 vp) = true) :
    PS X (.Assign [.Name x p] (.ListComp el gs s2 vp) pos) (TSX X.K (sSet (putN i) (ev C.dfl call e))) := by
  obtain ⟨q1, q2⟩ := c.sto x (isSto_of h2)
  have hk : sc.kind = .function := by rw [← hsc]; exact c.kind
  cases hb : swLc sc s2 x p vp with
  | false => exact PS.of (ps_set c.nd (by rw [c.N]; exact h1) q1 (sE e X sc _ c h3) (by rw [sw_lc hsc hk, hb]) q2) fun Dn sg H w => TXg.imp (ts_set (sl := [i]) w) fun _ _ q => gX_name q
  | true =>
    have hl : X.env.scope.names.lookup x = some .local := by
      unfold swLc at hb
      simp only [Bool.and_eq_true, beq_iff_eq] at hb
      rw [hsc]
      exact hb.1.1
    unfold ckE at h3
    cases e with
    | lc m elt tg it t own =>
      simp only at h3
      split at h3
      · rename_i el' tt ii ifs as s2' pos' heq
        cases heq
        simp only [Bool.and_eq_true, decide_eq_true_eq] at h3
        obtain ⟨⟨⟨⟨⟨⟨⟨e1, g1⟩, g2⟩, g3⟩, g4⟩, g5⟩, g6⟩, g7⟩ := h3
        subst e1
        have b := blkOk_of c g2
        refine PS.of (ps_setLc (own := own) c.calm c.nd (by rw [c.N]; exact h1) hl (by rw [sw_lc hsc hk, hb]) (sI it X sc tt _ c g4) b (fun s H A cl fp => pg_X (c.blk b s H A cl fp) tg tt g5) (fun s H A cl fp => ?_) (fun s H A cl fp => sE elt _ s2 _ (c.blk b s H A cl fp) g7) (folded_of g1)) fun Dn sg H w =>
          tx_lc (fun j hj => of_decide_eq_true (List.all_eq_true.mp g3 j hj)) (TXg.imp (ts_set (sl := [i]) w) fun _ _ q => gX_name q)
        have c2 := c.blk b s H A cl fp
        cases t with
        | yes =>
          split at g6
          · exact ⟨fun pins s sg H Q I w => pts_nil.run pins s sg H Q I (tx_cT w)⟩
          · cases g6
          · cases g6
        | _ =>
          split at g6
          · cases g6
          · rename_i x
            have hT := sT _ _ s2 x c2 g6
            exact ⟨fun pins s sg H Q I w => (pts_one hT).run pins s sg H Q I w⟩
          · cases g6
      · cases h3
    | _ => cases h3
theorem k_setT (c : Cok C X n call sc) (hsc : X.env.scope = sc) {tg : Tg} {e : Ex} {ts : List Expr} {k : Nat} {p pos : Pos} {v : Expr} (h1 : ckG C.N sc tg (.Tuple ts k p) = true) (h2 : ckE C e sc v = true)
    (h3 : (!isTup v || (match swapsB sc ts (tupLen v) with | some none => true | _ => false)) = true) : PS X (.Assign [.Tuple ts k p] v pos) (TSX X.K (sSet tg.put (ev C.dfl call e))) := by
  have hk : sc.kind = .function := by rw [← hsc]; exact c.kind
  refine PS.of (ps_asg (sE e X sc v c h2) (pg_X c tg _ h1) sws_tup ?_ rfl) fun Dn sg H w => ts_set w
  cases ht : isTup v with
  | false => exact sw_notTup ht
  | true =>
    rw [ht] at h3
    simp only [Bool.not_true, Bool.false_or] at h3
    cases v with
    | Tuple vs k2 p2 =>
      refine swaps_of hsc hk ?_
      split at h3
      · assumption
      · cases h3
    | _ => cases ht
variable (fu : Nat)
mutual
theorem sS (c : Cok C X n call sc) (hsc : X.env.scope = sc) : ∀ (x : S) (s : Stmt), ckS C sc x s = true → PS X s (TSX X.K (ex C.dfl call fu x))
  | .set i e, s, h => by
    unfold ckS at h
    split at h
    · rename_i x p v pos
      simp only [Bool.and_eq_true, decide_eq_true_eq, Bool.or_eq_true] at h
      obtain ⟨⟨⟨h1, h2⟩, h3⟩, h4⟩ := h
      rcases h4 with h4 | h4
      · exact k_set c hsc h1 h2 h3 h4
      · split at h4
        · exact k_setLc c hsc h1 h2 h3
        · cases h4
    · cases h
  | .setT tg e, s, h => by
    unfold ckS at h
    split at h
    · rename_i ts k p v pos
      rw [Bool.and_eq_true, Bool.and_eq_true] at h
      exact k_setT c hsc h.1.1 h.1.2 h.2
    · cases h
  | .par is es, s, h => by
    have hk : sc.kind = .function := by rw [← hsc]; exact c.kind
    unfold ckS at h
    split at h
    · rename_i x px y py kt pt a b k2 pt2 pos
      simp only [Bool.and_eq_true, decide_eq_true_eq] at h
      obtain ⟨⟨⟨⟨h1, h2⟩, h3⟩, h4⟩, h5⟩ := h
      split at h1
      · rename_i i j
        simp only [Bool.and_eq_true, decide_eq_true_eq] at h1
        obtain ⟨⟨g1, g2⟩, g3⟩ := h1
        exact PS.of (ps_par c.calm c.nd (by rw [c.N]; exact g2) (by rw [c.N]; exact g3) g1 (by rw [hsc]; exact isLoc_of h2) (by rw [hsc]; exact isLoc_of h3) (sEs es X sc _ c h4) (swaps_of hsc hk h5) sws_tup) fun Dn sg H w => ts_par2 w
      · cases h1
    · rename_i x px y py z pz kt pt a b d k2 pt2 pos
      simp only [Bool.and_eq_true, decide_eq_true_eq] at h
      obtain ⟨⟨⟨⟨⟨h1, h2⟩, h3⟩, h3'⟩, h4⟩, h5⟩ := h
      split at h1
      · rename_i i j l
        simp only [Bool.and_eq_true, decide_eq_true_eq] at h1
        obtain ⟨⟨⟨⟨⟨g1, g2⟩, g3⟩, g4⟩, g5⟩, g6⟩ := h1
        exact PS.of (ps_par3 c.calm c.nd (by rw [c.N]; exact g4) (by rw [c.N]; exact g5) (by rw [c.N]; exact g6) g1 g2 g3 (by rw [hsc]; exact isLoc_of h2) (by rw [hsc]; exact isLoc_of h3) (by rw [hsc]; exact isLoc_of h3') (sEs es X sc _ c h4) (swaps_of hsc hk h5) sws_tup) fun Dn sg H w => ts_par3 w
      · cases h1
    · cases h
  | .setI o i e, s, h => by
    unfold ckS at h
    split at h
    · simp only [Bool.and_eq_true] at h
      exact PS.of (ps_asg (sE e X sc _ c h.1.1.2) (pg_sub (sE o X sc _ c h.1.2) (sE i X sc _ c h.2) set_list (assign_sub h.1.1.1)) sws_sub sto_sub rfl) fun Dn sg H w => ts_setI w
    · cases h
  | .dput one o ks e, s, h => by
    unfold ckS at h
    split at h
    · rename_i ov iv p0 v0 pos0
      simp only [Bool.and_eq_true] at h
      obtain ⟨⟨⟨h0, h1⟩, h2⟩, h3⟩ := h
      have hk : PE X iv (TXg X.K RepK (b1 (evs C.dfl call ks) (keyD one))) := by
        cases one with
        | true => exact s1 ks X sc _ c h3
        | false =>
          simp only at h3
          split at h3
          · exact k_keyT (sEs ks X sc _ c h3)
          · cases h3
      exact PS.of (ps_dput c.u1 (sE o X sc _ c h2) hk (sE e X sc _ c h1) (sw_sub h0)) fun Dn sg H w => ts_dput w
    · cases h
  | .setII o i o2 i2 es, s, h => by
    have hk : sc.kind = .function := by rw [← hsc]; exact c.kind
    unfold ckS at h
    split at h
    · rename_i ov iv p1 ov2 iv2 p2 kt pt xs k2 pt2 pos
      simp only [Bool.and_eq_true] at h
      obtain ⟨⟨⟨⟨⟨⟨⟨h1, h2⟩, h3⟩, h4⟩, h5⟩, h6⟩, h7⟩, h8⟩ := h
      refine PS.of (ps_asg (k_tup (sEs es X sc _ c h3)) (pg_tup c.calm (pgs_cons (pg_sub (sE o X sc _ c h4) (sE i X sc _ c h5) set_list (assign_sub h1)) (pgs_cons (pg_sub (sE o2 X sc _ c h6) (sE i2 X sc _ c h7) set_list (assign_sub h2)) pgs_nil))) sws_tup (swaps_of hsc hk ?_) rfl) fun Dn sg H w => ts_setII w
      split at h8
      · rename_i e
        exact e
      · cases h8
    · cases h
  | .aug i o e, s, h => by
    unfold ckS at h
    split at h
    · rename_i x p op v pos
      simp only [Bool.and_eq_true, decide_eq_true_eq] at h
      obtain ⟨⟨⟨h1, h2⟩, h3⟩, h4⟩ := h
      obtain ⟨q1, q2⟩ := c.sto x (isSto_of h2)
      have hi : X.N[i]? = some x := by rw [c.N]; exact h1
      have e0 := opIs_eq h3
      subst e0
      have none_of : ∀ {f : RF D}, (∀ a b, augD o a b = none) → ∀ Dn sg H, TSX X.K (sAug i o f) Dn sg H → False := fun {f} hz Dn sg H w => by
        obtain ⟨rho, env, st, fl, env', st', hE, hS, hf, k⟩ := w
        unfold sAug at hf
        split at hf
        · split at hf
          · rw [hz] at hf; cases hf
          · cases hf
        · cases hf
      cases o with
      | add => exact PS.of (ps_aug c.nd hi q1 (sE e X sc _ c h4) ip_add q2) fun Dn sg H w => ts_aug w
      | sub => exact PS.of (ps_aug c.nd hi q1 (sE e X sc _ c h4) ip_sub q2) fun Dn sg H w => ts_augS w
      | _ => exact PS.of ps_never fun Dn sg H w => none_of (fun a b => by cases a <;> cases b <;> rfl) Dn sg H w
    · cases h
  | .expr e, s, h => by
    unfold ckS at h
    split at h
    · rw [Bool.and_eq_true] at h
      exact PS.of (ps_expr (sE e X sc _ c h.2) (sw_plain h.1)) fun Dn sg H w => ts_expr w
    · cases h
  | .ret e, s, h => by
    unfold ckS at h
    split at h
    · exact PS.of (ps_ret (sE e X sc _ c h)) fun Dn sg H w => ts_ret w
    · cases h
  | .ife t a b, s, h => by
    unfold ckS at h
    split at h
    · simp only [Bool.and_eq_true] at h
      exact PS.of (ps_if (sT t X sc _ c h.1.1) (sSs c hsc a _ h.1.2) (sSs c hsc b _ h.2)) fun Dn sg H w => ts_if w
    · cases h
  | .whl t b, s, h => by
    unfold ckS at h
    split at h
    · simp only [Bool.and_eq_true] at h
      exact PS.of (ps_while (by rw [c.xe]; exact PassesOwn.never) (sT t X sc _ c h.1) (sSs c hsc b _ h.2)) fun Dn sg H w => ts_whl w
    · cases h
  | .for_ tg it b, s, h => by
    unfold ckS at h
    split at h
    · simp only [Bool.and_eq_true] at h
      exact PS.of (ps_for (by rw [c.xe]; exact PassesOwn.never) c.calm (sI it X sc _ _ c h.1.1.2) (pg_X c tg _ h.1.2) (sSs c hsc b _ h.2) (folded_of h.1.1.1)) fun Dn sg H w => ts_for w
    · cases h
  | .brk, s, h => by
    unfold ckS at h
    split at h
    · exact PS.of ps_break fun Dn sg H w => by
        obtain ⟨rho, env, st, fl, env', st', hE, hS, hf, k⟩ := w
        cases hf
        exact k rho H sg (.refl _ _) hS hE
    · cases h
  | .ctn, s, h => by
    unfold ckS at h
    split at h
    · exact PS.of ps_continue fun Dn sg H w => by
        obtain ⟨rho, env, st, fl, env', st', hE, hS, hf, k⟩ := w
        cases hf
        exact k rho H sg (.refl _ _) hS hE
    · cases h
  | .rais, s, h => PS.of ps_never fun Dn sg H w => by
    obtain ⟨rho, env, st, fl, env', st', hE, hS, hf, k⟩ := w
    cases hf
theorem sSs (c : Cok C X n call sc) (hsc : X.env.scope = sc) : ∀ (x : Ss) (ss : List Stmt), ckSs C sc x ss = true → PSs X ss (TSX X.K (exs C.dfl call fu x))
  | .nil, [], h => PSs.of pss_nil fun Dn sg H w => by
    obtain ⟨rho, env, st, fl, env', st', hE, hS, hf, k⟩ := w
    cases hf
    exact k rho H sg (.refl _ _) hS hE
  | .nil, _ :: _, h => by cases h
  | .cons _ _, [], h => by cases h
  | .cons x xs, s :: ss, h => by
    unfold ckSs at h
    rw [Bool.and_eq_true] at h
    exact PSs.of (pss_cons (sS c hsc x s h.1) (sSs c hsc xs ss h.2)) fun Dn sg H w => ts_seq w
end
end
end B
/-! B11: defs, a law's end. -/
namespace B
open PySem PySem.Spec PyProof.Rows L2

/-! ### behind a def's body -/
section
variable {K : PySem.W.Frag} {rho rho' : Rho} {H H' : Hp} {st : Store} {n : Nat}
mutual
theorem Rep.low (hr : ∀ (k : Nat) (a : Addr), k < n → rho'.r[k]? = some a → rho.r[k]? = some a) (hm : ∀ a, rho.m a → rho'.m a) : ∀ {d : D} {v : V}, Rep K rho' H d v → d.lo n = true → Rep K rho H d v
  | _, _, .non, _ => .non
  | _, _, .bl b, _ => .bl b
  | _, _, .int i, _ => .int i
  | _, _, .str s, _ => .str s
  | .tup ds, _, .tup h r, q => .tup h (RepL.low hr hm r (by simpa only [D.lo] using q))
  | .lst ds, _, .lst h r, q => .lst (fzL_re hm h) (RepL.low hr hm r (by simpa only [D.lo] using q))
  | .ref k, _, .ref h, q => .ref (hr _ _ (by simpa only [D.lo, decide_eq_true_eq] using q) h)
theorem RepL.low (hr : ∀ (k : Nat) (a : Addr), k < n → rho'.r[k]? = some a → rho.r[k]? = some a) (hm : ∀ a, rho.m a → rho'.m a) : ∀ {ds : List D} {vs : List V}, RepL K rho' H ds vs → D.loL n ds = true → RepL K rho H ds vs
  | _, _, .nil, _ => .nil
  | d :: ds, _, .cons a b, q => by
    simp only [D.loL, Bool.and_eq_true] at q
    exact .cons (Rep.low hr hm a q.1) (RepL.low hr hm b q.2)
end
theorem belowS_at : ∀ {st : Store} {i : Nat} {o : O}, belowS n st = true → st[i]? = some o → o.lo n = true
  | [], _, _, _, h => by simp at h
  | o :: st, 0, _, q, h => by
    simp only [belowS, Bool.and_eq_true] at q
    simp at h
    subst h
    exact q.1
  | o :: st, i + 1, _, q, h => by
    simp only [belowS, Bool.and_eq_true] at q
    exact belowS_at (i := i) q.2 (by simpa using h)
/-- what a def laid for itself is forgotten -/
theorem loL_map {α : Type} {n : Nat} : ∀ {kvs : List (α × D)}, (kvs.all fun kv => kv.2.lo n) = true → D.loL n (kvs.map (·.2)) = true
  | [], _ => rfl
  | p :: kvs, h => by
    rw [List.all_cons, Bool.and_eq_true] at h
    simp only [List.map_cons, D.loL, h.1, loL_map h.2, Bool.and_self]
theorem O.lo_ds {n : Nat} : ∀ {o : O}, o.lo n = true → D.loL n o.ds = true
  | .lst _, h => h
  | .dci _, h => loL_map h
  | .dct _, h => loL_map h
theorem clean_ok {d d' : D} {s1 st' : Store} {v : V} (S : StoreRep K rho H st) (x : Ext rho H rho' H') (S1 : StoreRep K rho' H' s1) (r : Rep K rho' H' d v) (h : clean st.length d s1 = some (d', st')) :
    Ext rho H rho H' ∧ StoreRep K rho H' st' ∧ Rep K rho H' d' v := by
  have hpre : ∀ (k : Nat) (a : Addr), k < st.length → rho'.r[k]? = some a → rho.r[k]? = some a := fun k a hk e => by
    obtain ⟨z, hz⟩ := x.pre
    rw [← hz, List.getElem?_append_left (by rw [S.len]; exact hk)] at e
    exact e
  have hup : ∀ (k : Nat) (a : Addr), rho.r[k]? = some a → rho'.r[k]? = some a := fun k a e => by
    obtain ⟨z, hz⟩ := x.pre
    rw [← hz, List.getElem?_append_left (List.getElem?_eq_some_iff.mp e).1]
    exact e
  have hle : st.length ≤ s1.length := by
    rw [← S.len, ← S1.len]
    obtain ⟨z, hz⟩ := x.pre
    rw [← hz, List.length_append]
    omega
  unfold clean at h
  split at h
  case h_2 => cases h
  rename_i d2 hd
  split at h
  case isFalse => cases h
  rename_i hb
  cases h
  refine ⟨⟨List.prefix_refl _, x.keep, fun _ h => .inl h, fun _ h => .inl h, fun _ h => h⟩, ⟨?_, S.nd, fun a ha => S1.trk a (x.mon a ha), fun i ds a h1 h2 => ?_, S1.tab⟩, ?_⟩
  · rw [S.len, List.length_take]; omega
  · have hi : i < st.length := by rw [← S.len]; exact (List.getElem?_eq_some_iff.mp h2).1
    have h1' := h1
    rw [List.getElem?_take_of_lt hi] at h1
    obtain ⟨vs, h3, h4⟩ := S1.ob i ds a h1 (hup i a h2)
    exact ⟨vs, h3, h4.low hpre x.mon (O.lo_ds (belowS_at hb h1'))⟩
  · unfold D.frz1 at hd
    split at hd
    · rename_i k
      split at hd
      · rename_i hk
        cases hd
        exact r.low hpre x.mon (by simpa only [D.lo, decide_eq_true_eq] using hk)
      · rename_i hk
        split at hd
        · rename_i ds e
          split at hd
          · rename_i hlo
            cases hd
            obtain ⟨a, vs, rfl, hr, ha, rl⟩ := S1.at r e
            refine .lst (.inl ⟨.inl ha, fun hm => ?_⟩) (rl.low hpre x.mon hlo)
            obtain ⟨ws, hw, mb⟩ := S.trk a hm
            have hmem : a ∈ rho'.r := List.mem_of_getElem? hr
            rcases x.newr a hmem with z | z
            · obtain ⟨j, hj⟩ := List.mem_iff_getElem?.mp z
              have hj' := hup j a hj
              obtain ⟨l1, e1⟩ := List.getElem?_eq_some_iff.mp hr
              obtain ⟨l2, e2⟩ := List.getElem?_eq_some_iff.mp hj'
              have := (List.getElem_inj S1.nd).mp (e2.trans e1.symm)
              have hjl : j < st.length := by rw [← S.len]; exact (List.getElem?_eq_some_iff.mp hj).1
              omega
            · exact z.no hw mb.nt
          · cases hd
        · cases hd
    · split at hd
      · rename_i hlo
        cases hd
        exact r.low hpre x.mon (by simpa only [D.lo] using hlo)
      · cases hd
    · split at hd
      · rename_i hlo
        cases hd
        exact r.low hpre x.mon (by simpa only [D.lo] using hlo)
      · cases hd
    · rename_i h1 h2 h3
      cases hd
      refine r.low hpre x.mon ?_
      cases d with
      | ref k => exact absurd rfl (h1 k)
      | tup ds => exact absurd rfl (h2 ds)
      | lst ds => exact absurd rfl (h3 ds)
      | _ => rfl
end

/-! ### a def by its body -/
/-- a def of the text: its name, its statement, its names, its parameters, how it is called, what it is here -/
structure Def1 where
  name : Str
  st : Stmt
  N : List Str
  ps : List Str
  shs : List Shp
  fd : FD
def Def1.sig (d : Def1) : FnS := ⟨d.name, d.ps, d.shs⟩
/-- the text's defs -/
structure Prg where
  defs : List Def1
  dfl : List D
  blts : List Str
def Prg.ctx (G : Prg) (d : Def1) : Ctx := ⟨d.N, G.dfl, G.blts, G.defs.map Def1.sig, decide (d.name = ("round_bits" : Str))⟩
def Prg.tbl (G : Prg) : List FD := G.defs.map Def1.fd
/-- the scope is plain: parameters first, no name free -/
def scB (N ps : List Str) (sc : Scope) : Bool :=
  (match sc.kind with | .function => true | _ => false) && !sc.isCoroutine && !sc.isGenerator && decide N.Nodup && decide (N.take ps.length = ps) && (ps.all fun x => isSto sc x) && sc.names.all fun y => decide (y.2 ≠ .free)
theorem scB_of {N ps : List Str} {sc : Scope} (h : scB N ps sc = true) : FnScope N ps sc := by
  unfold scB at h
  simp only [Bool.and_eq_true, Bool.not_eq_true', decide_eq_true_eq, List.all_eq_true] at h
  obtain ⟨⟨⟨⟨⟨⟨h1, h2⟩, h3⟩, h4⟩, h5⟩, h6⟩, h7⟩ := h
  refine ⟨?_, h2, h3, h4, h5, fun x hx => isSto_of (h6 x hx), h7⟩
  split at h1
  · assumption
  · cases h1
/-- a def is what it is said to be -/
def Def1.ok (G : Prg) (d : Def1) : Bool := scB d.N d.ps (defScope d.st) && decide (d.fd.np = d.ps.length) && decide (d.fd.nn = d.N.length) && ckSs (G.ctx d) (defScope d.st) d.fd.body (defBody d.st)
def Prg.ok (G : Prg) : Bool := (G.dfl.all D.scal) && G.defs.all (Def1.ok G)

/-- the def stands behind the top -/
structure DefIn (K : PySem.W.Frag) (mg : Str → Option Value) (dfl : List D) (d : Def1) (a : Addr) (fd : FuncData) : Prop where
  mgE : mg d.name = some (.ref a)
  kp : PySem.W.keepIn K (.ref a) = true
  ex : ∃ (oc : Value) (od : Option Addr) (dV kV doc pm : Value) (an : Option Addr) (cdv ct : Value) (osl : Array (Option Value)),
    fd = PySem.W.fnOf d.name d.name (defArgs d.st) (defBody d.st) (defScope d.st) dV kV doc pm an cdv ct ∧ K.lookup a = some ⟨oc, od, .func fd, osl⟩ ∧ PySem.W.codeIn K cdv d.name = true
  shp : ∀ sh ∈ d.shs, ShpOk K fd d.ps dfl sh
  lam : d.name = ("round_bits" : Str) → ∃ c P, fd.code = .ref c ∧ PySem.W.codeHdIn K c P = true ∧ (P, lamQ) ∈ TbK K

/-- at the entry -/
theorem start_rep {K : PySem.W.Frag} {rho : Rho} {H : Hp} {N ps : List Str} {as : List D} {vs : List V} (r : RepL K rho H as vs) : EnvRep K rho H (L2.start N vs) (startE N.length as) := by
  have hl := r.length
  refine ⟨?_, fun i d h => ?_⟩
  · unfold L2.start startE
    simp only [List.length_append, List.length_map, List.length_replicate]
    omega
  · unfold startE at h
    by_cases hi : i < as.length
    · rw [List.getElem?_append_left (by simpa using hi), List.getElem?_map] at h
      cases e : as[i]? with
      | none => rw [e] at h; cases h
      | some x =>
        rw [e] at h
        cases h
        obtain ⟨v, hv, rv⟩ := r.get e
        refine ⟨v, ?_, rv⟩
        unfold L2.start
        rw [List.getElem?_append_left (by rw [List.length_map]; omega), List.getElem?_map, hv]
        rfl
    · rw [List.getElem?_append_right (by simpa using hi), List.getElem?_replicate] at h
      split at h <;> cases h

theorem fnG_of {P : Program} {w : World} {K : PySem.W.Frag} {mg : Str → Option Value} {base : Heap} {k : Nat} {f : Addr} {name qual : Str} {params : Arguments} {body : List Stmt} {scope : Scope} {dV kV doc pm cdv ct oc : Value} {an od : Option Addr}
    {osl : Array (Option Value)} {N ps : List Str} {sp : List V → Hp → VK → Prop} (lk : K.lookup f = some ⟨oc, od, .func (PySem.W.fnOf name qual params body scope dV kV doc pm an cdv ct), osl⟩) (hcd : PySem.W.codeIn K cdv qual = true) (S : FnScope N ps scope)
    (len : ∀ vs H Q, sp vs H Q → vs.length = ps.length)
    (hbody : ∀ (A : Around) (outer : List PySem.Env) (s : Shared) (H : Hp) (vs : List V) (Q : VK), Room k (A.deeper (envOfC qual scope s.heap.objs.size f cdv)) → A.guards = some [] → A.handled = none → sp vs H Q →
      ∃ t, PSs (cxOf CX0 P w K mg base N qual scope f cdv A outer s H E0).nox body t ∧ t { nx := fun _ H' => Q .non H', rt := Q } (L2.start N vs) H) :
    FnG P w K mg base (k + 1) f (PySem.W.fnOf name qual params body scope dV kV doc pm an cdv ct) ps sp := by
  constructor
  intro A outer s H args us vs Q hr hg e0 hb r hsp
  have hl := len _ _ _ hsp
  have KX : K.In s.heap := e0.mod.kin.keeps fun b o e => (e0.bs b o e).1
  have hkind : ∀ y ∈ ps.zip us, scope.names.lookup y.1 = some .local ∨ (scope.names.lookup y.1 = some .cell ∧ ((cellsFrom (s.heap.objs.size + 1) scope.names []).lookup y.1).isSome = true) := fun y hy =>
    (S.par y.1 (List.of_mem_zip (a := y.1) (b := y.2) hy).1).imp id fun q => ⟨q, PySem.W.cellsFrom_some _ _ _ (.inl q)⟩
  refine codeAny_call_function hr.depth (KX _ _ lk) rfl S.co S.gen rfl (PySem.W.codeRec_of KX hcd) (hb _ _ _ _ (wpAny_newFunctionEnv_cells S.kind hkind fun env he s1 x => ?_))
  subst he
  refine ⟨(e0.mod.nolimit.keeps fun b o e => (e0.bs b o e).1).keeps x.toInCall.keep, codeAny_func ?_⟩
  obtain ⟨t, ht, hq⟩ := hbody A outer s H vs Q (hr.deeper _) hg hr.hd hsp
  have I : Inv (cxOf CX0 P w K mg base N qual scope f cdv A outer s H E0) [] (L2.start N vs) H s1 := inv_start S hr.hd e0 hl r x
  refine wpAny_mono (ht.nox.run [] s1 (L2.start N vs) H _ I hq) (fun fl s' hs => ?_) fun e s' hs => hs
  cases fl with
  | ret u =>
    obtain ⟨v, sg', H', J, rv, q⟩ := hs
    exact ⟨v, H', J.os, J.bare, J.base, J.hok, rv, q⟩
  | next =>
    obtain ⟨sg', H', J, q⟩ := hs
    exact ⟨.non, H', J.os, J.bare, J.base, J.hok, rfl, q⟩
  | brk => exact (hs.elim fun _ h => h.elim fun _ h => h.2).elim
  | cont => exact (hs.elim fun _ h => h.elim fun _ h => h.2).elim

section
variable {P : Program} {w : World} {K : PySem.W.Frag} {mg : Str → Option Value} {base : Heap} {G : Prg}
/-- all defs of the text do what is reckoned, at each depth -/
theorem all_fns (hG : G.ok = true) (fu : Nat) (hKb : K.In base) (hTB : ∀ p ∈ TbK K, base.BuiltinsAt mg p.1 ∧ mainGlobals ≠ p.1) (hb : ∀ x ∈ G.blts, mg x = none) (hin : ∀ d ∈ G.defs, ∃ a fd, DefIn K mg G.dfl d a fd) :
    ∀ (n f : Nat) (d : Def1), G.defs[f]? = some d → ∃ a fd, DefIn K mg G.dfl d a fd ∧ FnG P w K mg base (4 * n) a fd d.ps (spC K (runF G.tbl G.dfl fu n) f) := by
  unfold Prg.ok at hG
  rw [Bool.and_eq_true] at hG
  intro n
  induction n with
  | zero =>
    intro f d hd
    obtain ⟨a, fd, h⟩ := hin d (List.mem_of_getElem? hd)
    refine ⟨a, fd, h, ⟨fun A outer s H args us vs Q hr hg e0 hbd r hsp => ?_⟩⟩
    obtain ⟨rho, st, as, d', st', S, rl, e, k⟩ := hsp
    cases e
  | succ n ih =>
    intro f d hd
    have hmem := List.mem_of_getElem? hd
    obtain ⟨a, fd, h⟩ := hin d hmem
    refine ⟨a, fd, h, ?_⟩
    have hok := List.all_eq_true.mp hG.2 d hmem
    unfold Def1.ok at hok
    simp only [Bool.and_eq_true, decide_eq_true_eq] at hok
    obtain ⟨⟨⟨h1, h2⟩, h3⟩, h4⟩ := hok
    have S := scB_of h1
    obtain ⟨oc, od, dV, kV, doc, pm, an, cdv, ct, osl, rfl, lk, hcd⟩ := h.ex
    refine fnG_of (k := 4 * n + 3) lk hcd S (fun vs H Q q => ?_) fun A outer s H vs Q hr hg hh q => ?_
    · obtain ⟨rho, st, as, d', st', S', rl, e, k⟩ := q
      unfold runF at e
      unfold Prg.tbl at e
      rw [List.getElem?_map, hd] at e
      simp only [Option.map_some] at e
      split at e
      · rename_i hl
        rw [← rl.length, hl, h2]
      · cases e
    · have c : Cok (G.ctx d) (cxOf CX0 P w K mg base d.N d.name (defScope d.st) a cdv A outer s H E0).nox n (runF G.tbl G.dfl fu n) (defScope d.st) := by
        refine ⟨rfl, S.nd, rfl, rfl, hr, hg, S.kind, fun x hx => hx, fun x hx => hx, fun x hx => hx, fun x hx => ⟨hx, .inl rfl⟩, fun x hx => hx, hb, fun x hx => List.all_eq_true.mp hG.1 x hx, fun g F hF => ?_, fun hlam => ?_⟩
        rotate_left
        · have hnm : d.name = ("round_bits" : Str) := of_decide_eq_true hlam
          obtain ⟨c1, P1, e1, e2, e3⟩ := h.lam hnm
          have e1 : cdv = .ref c1 := e1
          subst e1
          obtain ⟨b1, b2⟩ := hTB _ e3
          refine ⟨c1, P1, rfl, ⟨PySem.W.codeHd_of_K hKb e2, b1, b2⟩, e3, ?_⟩
          rw [hnm]
          rfl
        have hF : (G.defs.map Def1.sig)[g]? = some F := hF
        rw [List.getElem?_map] at hF
        cases e : G.defs[g]? with
        | none => rw [e] at hF; cases hF
        | some d2 =>
          rw [e] at hF
          cases hF
          obtain ⟨a2, fd2, hin2, F2⟩ := ih g d2 e
          exact ⟨a2, fd2, hin2.mgE, hin2.kp, hin2.shp, F2⟩
      refine ⟨_, sSs fu c rfl d.fd.body (defBody d.st) h4, ?_⟩
      obtain ⟨rho, st, as, d', st', S', rl, e, k⟩ := q
      unfold runF at e
      unfold Prg.tbl at e
      rw [List.getElem?_map, hd] at e
      simp only [Option.map_some] at e
      split at e
      case isFalse => cases e
      rename_i hl
      have hE : EnvRep K rho H (L2.start d.N vs) (startE d.fd.nn as) := by rw [h3]; exact start_rep (ps := d.ps) rl
      split at e
      · rename_i dr er s1 he
        refine ⟨rho, _, st, .ret dr, er, s1, hE, S', he, fun rho1 H1 v x1 S1 r1 => ?_⟩
        split at e
        · cases e
          exact k rho1 H1 v x1 S1 r1
        · obtain ⟨y1, y2, y3⟩ := clean_ok S' x1 S1 r1 e
          exact k rho H1 v y1 y2 y3
      · rename_i er s1 he
        refine ⟨rho, _, st, .nx, er, s1, hE, S', he, fun rho1 H1 sg1 x1 S1 E1 => ?_⟩
        split at e
        · cases e
          exact k rho1 H1 .non x1 S1 .non
        · obtain ⟨y1, y2, y3⟩ := clean_ok (d := .non) (v := .non) S' x1 S1 .non e
          exact k rho H1 .non y1 y2 y3
      · cases e
end

/-- all shapes of a def's calls; with keyword-only names: where their defaults lie -/
abbrev defFn (nm : Str) (st : Stmt) (kV doc pm : Value) (an : Option Addr) (cdv ct : Value) : FuncData := PySem.W.fnOf nm nm (defArgs st) (defBody st) (defScope st) .none kV doc pm an cdv ct
abbrev KwAt (K : PySem.W.Frag) (kV : Value) : Prop := ∃ (D : Addr) (t : Tok), kV = .ref D ∧ PySem.W.nsIn K D "source" = some (some (.int 0 t))
theorem def_in {K : PySem.W.Frag} {mg : Str → Option Value} {h : Heap} {dfl : List D} {d : Def1} {a : Addr} {oc : Value} {od : Option Addr} {kV doc pm : Value} {an : Option Addr} {cdv ct : Value} {osl : Array (Option Value)} (X : K.In h) (G : h.Ns mainGlobals mg) (nm : Str) (st : Stmt) (hn : d.name = nm) (hst : d.st = st) (hno : nm ≠ ("round_bits" : Str))
    (hsh : ∀ sh ∈ d.shs, ShpOk K (defFn nm st kV doc pm an cdv ct) d.ps dfl sh)
    (a1 : PySem.W.nsIn K mainGlobals nm = some (some (.ref a))) (l1 : K.lookup a = some ⟨oc, od, .func (PySem.W.fnOf nm nm (defArgs st) (defBody st) (defScope st) .none kV doc pm an cdv ct), osl⟩)
    (c1 : PySem.W.codeIn K cdv nm = true) (k1 : PySem.W.keepIn K (.ref a) = true) : ∃ a fd, DefIn K mg dfl d a fd := by
  subst hn hst
  exact ⟨a, _, PySem.W.mg_of X G a1, k1, ⟨oc, od, .none, kV, doc, pm, an, cdv, ct, osl, rfl, l1, c1⟩, hsh, fun e => absurd e hno⟩
/-- the def that makes the lambda -/
theorem def_inL {K : PySem.W.Frag} {mg : Str → Option Value} {h : Heap} {dfl : List D} {d : Def1} {a cA P : Addr} {oc : Value} {od : Option Addr} {kV doc pm : Value} {an : Option Addr} {ct : Value} {osl : Array (Option Value)} (X : K.In h) (G : h.Ns mainGlobals mg) (nm : Str) (st : Stmt) (hn : d.name = nm) (hst : d.st = st)
    (hsh : ∀ sh ∈ d.shs, ShpOk K (defFn nm st kV doc pm an (.ref cA) ct) d.ps dfl sh) (hTb : (P, lamQ) ∈ TbK K)
    (a1 : PySem.W.nsIn K mainGlobals nm = some (some (.ref a))) (l1 : K.lookup a = some ⟨oc, od, .func (PySem.W.fnOf nm nm (defArgs st) (defBody st) (defScope st) .none kV doc pm an (.ref cA) ct), osl⟩)
    (c1 : PySem.W.codeIn K (.ref cA) nm = true) (k1 : PySem.W.keepIn K (.ref a) = true) (h1 : PySem.W.codeHdIn K cA P = true) : ∃ a fd, DefIn K mg dfl d a fd := by
  subst hn hst
  exact ⟨a, _, PySem.W.mg_of X G a1, k1, ⟨oc, od, .none, kV, doc, pm, an, .ref cA, ct, osl, rfl, l1, c1⟩, hsh, fun _ => ⟨cA, P, rfl, h1, hTb⟩⟩
theorem def_inK {K : PySem.W.Frag} {mg : Str → Option Value} {h : Heap} {dfl : List D} {d : Def1} {a Dk : Addr} {tk : Tok} {oc : Value} {od : Option Addr} {doc pm : Value} {an : Option Addr} {cdv ct : Value} {osl : Array (Option Value)} (X : K.In h) (G : h.Ns mainGlobals mg) (nm : Str) (st : Stmt) (hn : d.name = nm) (hst : d.st = st) (hno : nm ≠ ("round_bits" : Str))
    (hsh : ∀ kV, KwAt K kV → ∀ sh ∈ d.shs, ShpOk K (defFn nm st kV doc pm an cdv ct) d.ps dfl sh)
    (a1 : PySem.W.nsIn K mainGlobals nm = some (some (.ref a))) (l1 : K.lookup a = some ⟨oc, od, .func (PySem.W.fnOf nm nm (defArgs st) (defBody st) (defScope st) .none (.ref Dk) doc pm an cdv ct), osl⟩)
    (c1 : PySem.W.codeIn K cdv nm = true) (k1 : PySem.W.keepIn K (.ref a) = true) (z1 : PySem.W.nsIn K Dk "source" = some (some (.int 0 tk))) : ∃ a fd, DefIn K mg dfl d a fd := by
  subst hn hst
  exact ⟨a, _, PySem.W.mg_of X G a1, k1, ⟨oc, od, .none, .ref Dk, doc, pm, an, cdv, ct, osl, rfl, l1, c1⟩, hsh _ ⟨Dk, tk, rfl, z1⟩, fun e => absurd e hno⟩

/-! ### a law's end -/
/-- the frozen script -/
abbrev scrO (vs : List Value) : Obj := { cls := .type "list", data := .seq vs.toArray }
abbrev tabO : Obj := { cls := .none, data := .fields #[] }
/-- where the law's def keeps a promise, it is kept at the heap behind the top; ts: the tables that stand empty -/
theorem law_callG {P : Program} {w : World} {K : PySem.W.Frag} {mg mb : Str → Option Value} {k : Nat} {fa a : Addr} {fd : FuncData} {x : Str} {sp : List V → Hp → VK → Prop} {s₁ : Shared} {vs : List Value} {ns : List Int} {ts : List (Addr × Str)}
    (KX : K.In s₁.heap) (hns : s₁.heap.Ns mainGlobals mg) (hb : s₁.heap.Ns builtinsNs mb) (hbb : ∀ x : Str, x ≠ "__name__" → mb x = bootBuiltins x) (hlim : s₁.heap.NoLimit) (hg : s₁.gens = #[])
    (hT : ∀ p ∈ ts, s₁.heap.get? p.1 = some tabO ∧ K.lookup p.1 = none ∧ ∃ c, PySem.W.codeHdIn K c p.1 = true)
    (hbm : ∃ (bm : Addr) (ob : Obj), mg "__builtins__" = some (.ref bm) ∧ bm ≠ builtinsNs ∧ s₁.heap.get? bm = some ob ∧ ob.cls = .type "module" ∧ ob.dict = some builtinsNs ∧ ob.data = .plain)
    (ha : s₁.heap.get? a = some (scrO vs)) (hi : IntsAre vs ns) (hl : ns.length ≤ sizeLine) (hr : Room k callerA)
    (F : ∀ base : Heap, K.In base → base.Ns mainGlobals mg → (∀ p ∈ ts, base.BuiltinsAt mg p.1 ∧ mainGlobals ≠ p.1) → FnG P w K mg base k fa fd [x] sp) (hbind : ∀ u : Value, BindsTo s₁ fd ⟨[u], []⟩ [(x, u)])
    (hsp : ∀ H : Hp, LamX.Tabs ts H → SqL K H a (ns.map V.int) → sp [.ref a] H fun v _ => v = .bl true) :
    codeAny (model P w) callerA (.call (.ref fa) ⟨[.ref a], []⟩) (fun r s' => r = .ok (.ret (.bool true)) ∧ OldK s₁.heap s'.heap ∧ s'.os = s₁.os ∧ AllBare s'.gens) s₁ := by
  have rv := vals_ints hi
  have lenV := hi.length
  have core : ∀ H : Hp, (∀ b u, H b = some u → (b = a ∧ u = .frz (scrO vs) (.lst (ns.map V.int)) ∧ K.lookup a = none) ∨ (∃ p ∈ ts, b = p.1 ∧ u = .tbl #[])) → (∀ p ∈ ts, H p.1 = some (.tbl #[])) → SqL K H a (ns.map V.int) →
      codeAny (model P w) callerA (.call (.ref fa) ⟨[.ref a], []⟩) (fun r s' => r = .ok (.ret (.bool true)) ∧ OldK s₁.heap s'.heap ∧ s'.os = s₁.os ∧ AllBare s'.gens) s₁ := by
    intro H hA hH hS
    have hok : HOk P w H s₁.heap := fun b u e => by
      rcases hA b u e with ⟨rfl, rfl, _⟩ | ⟨p, hp, rfl, rfl⟩
      · exact ⟨ha, by rw [List.length_map]; exact hl, vs, _, rv, ha⟩
      · exact (hT p hp).1
    -- what is neither a list nor a table is not told of
    have free : ∀ {b : Addr} {o : Obj}, s₁.heap.get? b = some o → (∀ us n, o.data ≠ .seq us n) → o.data ≠ .fields #[] → H b = none := fun {b o} e d1 d2 => by
      cases q : H b with
      | none => rfl
      | some u =>
        rcases hA b u q with ⟨rfl, _, _⟩ | ⟨p, hp, rfl, _⟩
        · rw [ha] at e
          cases e
          exact absurd rfl (d1 _ _)
        · rw [(hT p hp).1] at e
          cases e
          exact absurd rfl d2
    have nsK : ∀ {b : Addr} {m : Str → Option Value}, s₁.heap.Ns b m → (hidT s₁.heap H).Ns b m := fun {b m} ⟨o, es, ep, e, d, r⟩ => ⟨o, es, ep, hidT_get e (free e (fun _ _ z => by rw [d] at z; cases z) (fun z => by rw [d] at z; cases z)), d, r⟩
    have hKb : K.In (hidT s₁.heap H) := fun b o e => hidT_get (KX b o e) (by
      cases q : H b with
      | none => rfl
      | some u =>
        rcases hA b u q with ⟨rfl, _, hn⟩ | ⟨p, hp, rfl, _⟩
        · rw [hn] at e; cases e
        · rw [(hT p hp).2.1] at e; cases e)
    have TB : ∀ p ∈ ts, (hidT s₁.heap H).BuiltinsAt mg p.1 ∧ mainGlobals ≠ p.1 := fun p hp => by
      obtain ⟨tp, _, _⟩ := hT p hp
      obtain ⟨bm, ob, b1, b2, b3, b4, b5, b6⟩ := hbm
      obtain ⟨om, es, ep, em, hd, _⟩ := hns
      refine ⟨⟨bm, ob, b1, b2, fun q => ?_, fun q => ?_, hidT_get b3 (free b3 (fun _ _ z => by rw [b6] at z; cases z) (fun z => by rw [b6] at z; cases z)), b4, b5, b6⟩, fun q => ?_⟩
      · rw [q, em] at b3
        cases b3
        rw [hd] at b6; cases b6
      · rw [q, tp] at b3
        cases b3
        cases b6
      · rw [q, tp] at em
        cases em
        cases hd
    obtain ⟨mc, hl1, hl2⟩ := hlim
    have hM : Mod K mg (hidT s₁.heap H) := ⟨hKb, nsK hns, ⟨mb, nsK hb, hbb⟩, mc, nsK hl1, hl2⟩
    have e0 : Env0 P w K mg (hidT s₁.heap H) callerA [] s₁ H := ⟨rfl, hM, fun b o e => of_hidT e, Nat.le_of_eq (hidT_size _ _), trivial, fun b hb => absurd hb (by simp [frs]), hok, .of_eq hg⟩
    refine codeAny_mono ((F _ hKb (nsK hns) TB).run callerA [] s₁ H ⟨[.ref a], []⟩ [.ref a] [.ref a] _ hr rfl e0 (hbind (.ref a)) (.cons rfl .nil) (hsp H (fun p hp => .nil (hH p hp)) hS)) fun r s' h => ?_
    cases r with
    | error e => exact h.elim
    | ok fl =>
      cases fl with
      | next => exact h.elim
      | brk => exact h.elim
      | cont => exact h.elim
      | ret u =>
        obtain ⟨v, H', os, bare, un, hok', r', q⟩ := h
        have q' : v = .bl true := q
        subst q'
        obtain rfl : u = Value.bool true := r'
        have stays : ∀ b o, (∀ p ∈ ts, b ≠ p.1) → s₁.heap.get? b = some o → s'.heap.get? b = some o := fun b o nb e => by
          cases q : H b with
          | none => exact un.keep b o e q (by simp [frs]) (by simp)
          | some u =>
            rcases hA b u q with ⟨rfl, rfl, _⟩ | ⟨p, hp, e2, _⟩
            · obtain ⟨e2, _⟩ := hok' b _ (un.frzs b _ _ q)
              rw [e] at ha
              cases ha
              exact e2
            · exact absurd e2 (nb p hp)
        have grew : ∀ p ∈ ts, ∃ more : Array Value, s'.heap.get? p.1 = some { cls := .none, data := .fields more } := fun p hp => by
          obtain ⟨more, z⟩ := un.tbls p.1 #[] (hH p hp)
          exact ⟨_, hok' p.1 _ z⟩
        refine ⟨rfl, ⟨fun b o e => ?_, fun b o e => ?_⟩, os, bare⟩
        · by_cases hb : ∃ p ∈ ts, b = p.1
          · obtain ⟨p, hp, rfl⟩ := hb
            obtain ⟨tp, _, c, hc⟩ := hT p hp
            obtain ⟨more, hm⟩ := grew p hp
            rw [tp] at e
            cases e
            exact .inr (.inl ⟨((PySem.W.codeHd_of_K KX hc).tab tp).isCodeTable, rfl, #[], more, rfl, by rw [Array.empty_append]; exact hm⟩)
          · exact .inl (stays b o (fun p hp e2 => hb ⟨p, hp, e2⟩) e)
        · by_cases hb : ∃ p ∈ ts, b = p.1
          · obtain ⟨p, hp, rfl⟩ := hb
            obtain ⟨more, hm⟩ := grew p hp
            exact ⟨_, hm⟩
          · exact ⟨o, stays b o (fun p hp e2 => hb ⟨p, hp, e2⟩) e⟩
  have nTa : ∀ p ∈ ts, p.1 ≠ a := fun p hp e => by
    have q := (hT p hp).1
    rw [e, ha] at q
    have z' : Data.seq vs.toArray _ = Data.fields #[] := congrArg Obj.data (Option.some.inj q)
    cases z'
  cases hk : K.lookup a with
  | some o =>
    have e := KX a o hk
    rw [ha] at e
    cases e
    refine core (fun b => if b ∈ ts.map (·.1) then some (.tbl #[]) else none) (fun b u e => ?_) (fun p hp => if_pos (List.mem_map.mpr ⟨p, hp, rfl⟩)) (.inr ⟨_, vs.toArray, _, hk, rfl, rfl, rfl, by rw [List.size_toArray, lenV]; exact hl, by simpa using rv⟩)
    by_cases hb : b ∈ ts.map (·.1)
    · obtain ⟨p, hp, rfl⟩ := List.mem_map.mp hb
      have e' := (if_pos hb).symm.trans e
      cases e'
      exact .inr ⟨p, hp, rfl, rfl⟩
    · have e' := (if_neg hb).symm.trans e
      cases e'
  | none =>
    refine core (fun b => if b = a then some (.frz (scrO vs) (.lst (ns.map V.int))) else if b ∈ ts.map (·.1) then some (.tbl #[]) else none) (fun b u e => ?_) (fun p hp => (if_neg (nTa p hp)).trans (if_pos (List.mem_map.mpr ⟨p, hp, rfl⟩))) (.inl (.inr ⟨scrO vs, if_pos rfl⟩))
    by_cases hb : b = a
    · have e' := (if_pos hb).symm.trans e
      cases e'
      exact .inl ⟨hb, rfl, hk⟩
    · have e1 := (if_neg hb).symm.trans e
      by_cases hb2 : b ∈ ts.map (·.1)
      · obtain ⟨p, hp, rfl⟩ := List.mem_map.mp hb2
        have e' := (if_pos hb2).symm.trans e1
        cases e'
        exact .inr ⟨p, hp, rfl, rfl⟩
      · have e' := (if_neg hb2).symm.trans e1
        cases e'

theorem RepL.ints {K : PySem.W.Frag} {rho : Rho} {H : Hp} : ∀ ns : List Int, RepL K rho H (ns.map D.int) (ns.map V.int)
  | [] => .nil
  | n :: ns => .cons (.int n) (RepL.ints ns)

/-- what k_head leaves, from the reckoning of the law -/
theorem walk_G {l : PySem.W.OpenLaw} {G : Prg} {n lv f fu : Nat} {q : Program} {loose : List Str} {XP : (Str → Option Value) → Heap → Prop} {YP : World → Heap → Prop} {d : DefRec} {K : Params → PySem.W.Frag} {ld : Def1} {x : Str}
    (hn : l.most = some n) (hn2 : n ≤ sizeLine) (hdf : d.params.defaults = []) (hr : Room (4 * lv) callerA) (hG : G.ok = true) (hf : G.defs[f]? = some ld) (hps : ld.ps = [x]) (hname : ld.name = d.name) (hsh : (⟨1, [], [.arg 0]⟩ : Shp) ∈ ld.shs)
    (hY : ∀ (w : World) (h : Heap), YP w h → (K w.params).In h) (tp : List (Addr × Str)) (hTb : ∀ w : World, TbK (K w.params) = tp) (hTT : ∀ (w : World) (h : Heap), YP w h → ∀ p ∈ tp, h.get? p.1 = some tabO ∧ (K w.params).lookup p.1 = none ∧ ∃ c, PySem.W.codeHdIn (K w.params) c p.1 = true)
    (F : ∀ (w : World) (mg : Str → Option Value) (h : Heap), (K w.params).In h → h.Ns mainGlobals mg → (∀ x ∈ G.blts, mg x = none) ∧ ∀ d ∈ G.defs, ∃ a fd, DefIn (K w.params) mg G.dfl d a fd)
    (hlaw : ∀ ns : List Int, ns.length ≤ n → (∀ z ∈ ns, Builtin.Int.intBits z ≤ 1048576) → ∃ st', runF G.tbl G.dfl fu lv f [.lst (ns.map D.int)] [] = some (.bl true, st')) :
    PySem.W.WalkO q loose XP YP l.row.toRowW d [] (fun f vs => PySem.call f vs) := by
  refine Att.attach_callB hn hdf fun w s₀ s₁ mg mb fa o pm cd doc a vs ns Gd Y ho hd hcd hmg hobj hints hlen hbits hg => ?_
  have KX := hY w _ Y
  obtain ⟨hb, hin⟩ := F w mg _ KX Gd.T.g
  obtain ⟨a1, fd1, h1⟩ := hin ld (List.mem_of_getElem? hf)
  have e1 : a1 = fa := by
    have q := h1.mgE
    rw [hname, hmg] at q
    cases q
    rfl
  subst e1
  obtain ⟨dvs, hdv, hbd⟩ := h1.shp _ hsh
  refine law_callG (sp := spC (K w.params) (runF G.tbl G.dfl fu lv) f) (x := x) (ts := TbK (K w.params)) KX Gd.T.g Gd.T.b Gd.T.builtins Gd.T.nolimit hg (fun p hp => hTT w _ Y p (by rw [← hTb w]; exact hp)) Gd.T.bmain hobj hints (Nat.le_trans hlen hn2) hr (fd := fd1) (fun base hKb hnb hTB => ?_) (fun u => ?_) fun H hTabs hS => ?_
  · obtain ⟨a2, fd2, h2, F2⟩ := all_fns (P := l.prog) (w := w) (base := base) hG fu hKb hTB hb hin lv f ld hf
    have e2 : a2 = a1 := by
      have q := h2.mgE
      rw [h1.mgE] at q
      cases q
      rfl
    subst e2
    obtain ⟨oc, od, dV, kV, doc, pm, an, cdv, ct, osl, e3, lk, _⟩ := h1.ex
    obtain ⟨oc', od', dV', kV', doc', pm', an', cdv', ct', osl', e3', lk', _⟩ := h2.ex
    have e4 : fd2 = fd1 := by
      rw [lk] at lk'
      cases lk'
      rfl
    subst e4
    rw [hps] at F2
    exact F2
  · have q := hbd s₁ [u] [] [u] KX rfl rfl rfl
    rw [hps] at q
    exact q
  · obtain ⟨st', e⟩ := hlaw ns hlen hbits
    have S0 : StoreRep (K w.params) ⟨[], fun _ => False, fun _ h => by cases h⟩ H [] := ⟨rfl, .nil, fun a h => h.elim, fun n ds a h _ => by simp at h, hTabs⟩
    refine ⟨_, [], [.lst (ns.map D.int)], _, st', S0, .cons (.lst ?_ (RepL.ints ns)) .nil, e, fun rho' H' v _ _ r => ?_⟩
    · rcases hS with h | h
      · exact .inl ⟨h, fun z => z⟩
      · exact .inr h
    · cases r
      rfl
/-- the tables that the head tells of -/
def tbOk (K : PySem.W.Frag) (ts : List Addr) : Bool := ts.all fun P => (K.lookup P).isNone && K.any fun q => PySem.W.codeHdIn K q.1 P
theorem tbOk_of {K : PySem.W.Frag} {ts : List Addr} (h : tbOk K ts = true) : ∀ P ∈ ts, K.lookup P = none ∧ ∃ c, PySem.W.codeHdIn K c P = true := fun P hP => by
  have q := List.all_eq_true.mp h P hP
  rw [Bool.and_eq_true] at q
  obtain ⟨x, _, hx⟩ := List.any_eq_true.mp q.2
  exact ⟨Option.isNone_iff_eq_none.mp q.1, x.1, hx⟩
/-- walk_G with the head's tables -/
theorem walk_GL {l : PySem.W.OpenLaw} {G : Prg} {n lv f fu : Nat} {q : Program} {loose : List Str} {XP : (Str → Option Value) → Heap → Prop} {d : DefRec} {K : Params → PySem.W.Frag} {ld : Def1} {x : Str} {as : List Addr} {e : ∀ P, as = (K P).map (·.1)} {ts : List Addr}
    (hn : l.most = some n) (hn2 : n ≤ sizeLine) (hdf : d.params.defaults = []) (hr : Room (4 * lv) callerA) (hG : G.ok = true) (hf : G.defs[f]? = some ld) (hps : ld.ps = [x]) (hname : ld.name = d.name) (hsh : (⟨1, [], [.arg 0]⟩ : Shp) ∈ ld.shs)
    (hTb : ∀ w : World, TbK (K w.params) = ts.map fun P => (P, lamQ)) (hOk : ∀ w : World, tbOk (K w.params) ts = true)
    (F : ∀ (w : World) (mg : Str → Option Value) (h : Heap), (K w.params).In h → h.Ns mainGlobals mg → (TbK (K w.params) = ts.map fun P => (P, lamQ)) → (∀ x ∈ G.blts, mg x = none) ∧ ∀ d ∈ G.defs, ∃ a fd, DefIn (K w.params) mg G.dfl d a fd)
    (hlaw : ∀ ns : List Int, ns.length ≤ n → (∀ z ∈ ns, Builtin.Int.intBits z ≤ 1048576) → ∃ st', runF G.tbl G.dfl fu lv f [.lst (ns.map D.int)] [] = some (.bl true, st')) :
    PySem.W.WalkO q loose XP (PySem.W.kmHook K as e ts).says l.row.toRowW d [] (fun f vs => PySem.call f vs) :=
  walk_G hn hn2 hdf hr hG hf hps hname hsh (fun w h Y => PySem.W.km_in_of Y) (ts.map fun P => (P, lamQ)) hTb (fun w h Y p hp => by
    obtain ⟨P, hP, rfl⟩ := List.mem_map.mp hp
    have q := tbOk_of (hOk w) P hP
    exact ⟨PySem.W.km_tabs_of Y P hP, q.1, q.2⟩) (fun w mg h KX G => F w mg h KX G (hTb w)) hlaw
end B
/-! P1: reckonings told by what holds behind them. -/
namespace B
open PySem PyProof.Rows

def W {α : Type} (r : Option (α × Store)) (Q : α → Store → Prop) : Prop := match r with
  | some (x, s) => Q x s
  | none => False
structure SQ where
  nx : Env → Store → Prop
  rt : D → Store → Prop
  bk : Env → Store → Prop
  ct : Env → Store → Prop
def Z (r : Option (Fl × Env × Store)) (q : SQ) : Prop := match r with
  | some (.nx, e, s) => q.nx e s
  | some (.bk, e, s) => q.bk e s
  | some (.ct, e, s) => q.ct e s
  | some (.ret d, e, s) => q.rt d s
  | none => False
section
variable {α β γ δ : Type} {Q Q' : α → Store → Prop} {env : Env} {st : Store}
theorem W.mono {r : Option (α × Store)} (h : W r Q) (i : ∀ x s, Q x s → Q' x s) : W r Q' := by
  unfold W at h ⊢
  split at h
  · exact i _ _ h
  · exact h.elim
theorem W.out {r : Option (α × Store)} (h : W r Q) : ∃ x s, r = some (x, s) ∧ Q x s := by
  unfold W at h
  split at h
  · exact ⟨_, _, rfl, h⟩
  · exact h.elim
theorem W.of {r : Option (α × Store)} {x : α} {s : Store} (e : r = some (x, s)) (h : Q x s) : W r Q := by
  subst e; exact h
theorem W_some {x : α} {s : Store} : W (some (x, s)) Q = Q x s := id rfl
theorem W_none : W (none : Option (α × Store)) Q = False := id rfl
theorem W_guard {c : Prop} {i : Decidable c} {r : Option (α × Store)} : W (if c then r else none) Q = (c ∧ W r Q) := by
  by_cases h : c
  · simp [h]
  · simp [h, W]
theorem W_b1 {f : RF β} {op : β → Store → Option (α × Store)} : W (b1 f op env st) Q = W (f env st) fun x s => W (op x s) Q := by
  unfold b1
  cases f env st with
  | none => rfl
  | some p => rfl
theorem W_b2 {f : RF β} {g : RF γ} {op : β → γ → Store → Option (α × Store)} : W (b2 f g op env st) Q = W (f env st) fun x s => W (g env s) fun y s2 => W (op x y s2) Q := by
  unfold b2
  cases f env st with
  | none => rfl
  | some p =>
    show W (match g env p.2 with | some (y, s2) => op p.1 y s2 | none => none) Q = W (g env p.2) fun y s2 => W (op p.1 y s2) Q
    cases g env p.2 with
    | none => rfl
    | some q => rfl
theorem W_b3 {f : RF β} {g : RF γ} {h : RF δ} {op : β → γ → δ → Store → Option (α × Store)} : W (b3 f g h op env st) Q = W (f env st) fun x s => W (g env s) fun y s2 => W (h env s2) fun z s3 => W (op x y z s3) Q := by
  unfold b3
  cases f env st with
  | none => rfl
  | some p =>
    show W (match g env p.2 with | some (y, s2) => (match h env s2 with | some (z, s3) => op p.1 y z s3 | none => none) | none => none) Q = W (g env p.2) fun y s2 => W (h env s2) fun z s3 => W (op p.1 y z s3) Q
    cases g env p.2 with
    | none => rfl
    | some q =>
      show W (match h env q.2 with | some (z, s3) => op p.1 q.1 z s3 | none => none) Q = W (h env q.2) fun z s3 => W (op p.1 q.1 z s3) Q
      cases h env q.2 with
      | none => rfl
      | some r => rfl
theorem W_bIf {c : RF Bool} {f g : RF α} : W (bIf c f g env st) Q = W (c env st) fun b s => (b = true → W (f env s) Q) ∧ (b = false → W (g env s) Q) := by
  unfold bIf
  cases c env st with
  | none => rfl
  | some p =>
    obtain ⟨b, s⟩ := p
    cases b <;> simp [W]
theorem W_cst {d : D} {Q : D → Store → Prop} : W (cst d env st) Q = Q d st := id rfl
theorem W_vr {i : Nat} {Q : D → Store → Prop} : W (vr i env st) Q = (match env[i]? with | some (some d) => Q d st | _ => False) := by
  unfold vr W
  rcases env[i]? with _ | (_ | d) <;> rfl
def truP (st : Store) (x : D) (t f : Prop) : Prop := match tru st x with
  | some true => t
  | some false => f
  | none => False
theorem W_bAnd {f g : RF D} {Q : D → Store → Prop} : W (bAnd f g env st) Q = W (f env st) fun x s => truP s x (W (g env s) Q) (Q x s) := by
  unfold bAnd
  cases f env st with
  | none => rfl
  | some p =>
    obtain ⟨x, s⟩ := p
    simp only [W, truP]
    cases tru s x with
    | none => rfl
    | some b => cases b <;> rfl
theorem W_bOr {f g : RF D} {Q : D → Store → Prop} : W (bOr f g env st) Q = W (f env st) fun x s => truP s x (Q x s) (W (g env s) Q) := by
  unfold bOr
  cases f env st with
  | none => rfl
  | some p =>
    obtain ⟨x, s⟩ := p
    simp only [W, truP]
    cases tru s x with
    | none => rfl
    | some b => cases b <;> rfl
theorem truP_bl {b : Bool} {t f : Prop} : truP st (.bl b) t f = ((b = true → t) ∧ (b = false → f)) := by
  cases b <;> simp [truP, tru]
theorem W_consD {x : D} {xs : List D} {Q : List D → Store → Prop} : W (consD x xs st) Q = Q (x :: xs) st := id rfl
theorem W_nil {Q : List D → Store → Prop} : W ((fun (_ : Env) (st : Store) => (some ([], st) : Option (List D × Store))) env st) Q = Q [] st := id rfl
theorem W_callD {dfl : List D} {call : CallF} {f np nk : Nat} {sel : List Sel} {xs ys as : List D} {Q : D → Store → Prop} (h1 : xs.length = np) (h2 : ys.length = nk) (h : selD (xs ++ ys) dfl sel = some as) : W (callD dfl call f np nk sel xs ys st) Q = W (call f as st) Q := by
  unfold callD
  rw [if_pos ⟨h1, h2⟩, h]
end
section
variable {q : SQ} {env : Env} {st : Store} {f g : SF}
theorem Z.mono {r : Option (Fl × Env × Store)} {q q' : SQ} (h : Z r q) (h1 : ∀ e s, q.nx e s → q'.nx e s) (h2 : ∀ d s, q.rt d s → q'.rt d s) (h3 : ∀ e s, q.bk e s → q'.bk e s) (h4 : ∀ e s, q.ct e s → q'.ct e s) : Z r q' := by
  unfold Z at h ⊢
  split at h
  · exact h1 _ _ h
  · exact h3 _ _ h
  · exact h4 _ _ h
  · exact h2 _ _ h
  · exact h.elim
theorem Z_nil : Z (some (.nx, env, st)) q = q.nx env st := id rfl
theorem Z_brk : Z (some (.bk, env, st)) q = q.bk env st := id rfl
theorem Z_ctn : Z (some (.ct, env, st)) q = q.ct env st := id rfl
theorem Z_sSeq : Z (sSeq f g env st) q = Z (f env st) { q with nx := fun e s => Z (g e s) q } := by
  unfold sSeq Z
  rcases f env st with _ | ⟨fl, e, s⟩
  · rfl
  · cases fl <;> rfl
theorem Z_sSet {put : D → Env → Option Env} {f : RF D} : Z (sSet put f env st) q = W (f env st) fun d s => match put d env with | some e => q.nx e s | none => False := by
  unfold sSet
  cases f env st with
  | none => rfl
  | some p =>
    simp only [W]
    cases put p.1 env with
    | none => rfl
    | some e => rfl
theorem Z_sPar {is : List Nat} {f : RF (List D)} : Z (sPar is f env st) q = W (f env st) fun ds s => match parPut is ds env with | some e => q.nx e s | none => False := by
  unfold sPar
  cases f env st with
  | none => rfl
  | some p =>
    simp only [W]
    cases parPut is p.1 env with
    | none => rfl
    | some e => rfl
theorem Z_sSetI {f o i : RF D} : Z (sSetI f o i env st) q = W (f env st) fun d s1 => W (o env s1) fun x s2 => W (i env s2) fun k s3 => match setD x k d s3 with | some s4 => q.nx env s4 | none => False := by
  unfold sSetI
  rcases f env st with _ | ⟨d, s1⟩
  · rfl
  · simp only [W]
    rcases o env s1 with _ | ⟨x, s2⟩
    · rfl
    · simp only
      rcases i env s2 with _ | ⟨k, s3⟩
      · rfl
      · simp only
        cases setD x k d s3 <;> rfl
theorem Z_sAug {i : Nat} {o : BOp} {f : RF D} : Z (sAug i o f env st) q = (match env[i]? with | some (some x) => W (f env st) fun y s => (match augD o x y with | some z => q.nx (env.set i (some z)) s | none => False) | _ => False) := by
  unfold sAug
  rcases env[i]? with _ | (_ | x)
  · rfl
  · rfl
  · simp only
    rcases f env st with _ | ⟨y, s⟩
    · rfl
    · simp only [W]
      cases augD o x y <;> rfl
theorem Z_sExpr {f : RF D} : Z (sExpr f env st) q = W (f env st) fun _ s => q.nx env s := by
  unfold sExpr
  cases f env st <;> rfl
theorem Z_sRet {f : RF D} : Z (sRet f env st) q = W (f env st) fun d s => q.rt d s := by
  unfold sRet
  cases f env st <;> rfl
theorem Z_sIf {c : RF Bool} : Z (sIf c f g env st) q = W (c env st) fun b s => (b = true → Z (f env s) q) ∧ (b = false → Z (g env s) q) := by
  unfold sIf
  rcases c env st with _ | ⟨b, s⟩
  · rfl
  · cases b <;> simp [W]
theorem Z_sFor {tg : Tg} {it : RF Itv} : Z (sFor tg it f env st) q = W (it env st) fun itv s => Z (forGo itv.nth (forStep tg f) (itv.len + 1) 0 env s) q := by
  unfold sFor
  cases it env st <;> rfl
theorem forGo_ok {nth : Nat → Store → Option (Option D)} {f : D → Env → Store → Option (Fl × Env × Store)} {q : SQ} (I : Nat → Env → Store → Prop) (n : Nat)
    (hnth : ∀ i env st, I i env st → i < n → ∃ x, nth i st = some (some x)) (hend : ∀ env st, I n env st → nth n st = some none)
    (step : ∀ i x env st, i < n → nth i st = some (some x) → I i env st → Z (f x env st) ⟨I (i + 1), q.rt, q.nx, I (i + 1)⟩) (fin : ∀ env st, I n env st → q.nx env st) :
    ∀ (m i : Nat) (env : Env) (st : Store), i + m = n → I i env st → Z (forGo nth f (m + 1) i env st) q
  | 0, i, env, st, e, h => by
    have e : i = n := e
    subst e
    unfold forGo
    rw [hend env st h]
    exact fin env st h
  | m + 1, i, env, st, e, h => by
    obtain ⟨x, hx⟩ := hnth i env st h (by omega)
    have s := step i x env st (by omega) hx h
    unfold forGo
    rw [hx]
    simp only
    rcases hf : f x env st with _ | ⟨fl, e2, s2⟩
    · rw [hf] at s; exact s.elim
    · rw [hf] at s
      cases fl with
      | nx => exact forGo_ok I n hnth hend step fin m (i + 1) e2 s2 (by omega) s
      | ct => exact forGo_ok I n hnth hend step fin m (i + 1) e2 s2 (by omega) s
      | bk => exact s
      | ret d => exact s
theorem Z_for_fix {ds : List D} {f : D → Env → Store → Option (Fl × Env × Store)} (I : Nat → Env → Store → Prop) (h0 : I 0 env st)
    (step : ∀ i x env st, ds[i]? = some x → I i env st → Z (f x env st) ⟨I (i + 1), q.rt, q.nx, I (i + 1)⟩) (fin : ∀ env st, I ds.length env st → q.nx env st) : Z (forGo (Itv.fix ds).nth f (ds.length + 1) 0 env st) q :=
  forGo_ok I ds.length (fun i env st _ hi => ⟨ds[i], by show some ds[i]? = _; rw [List.getElem?_eq_getElem hi]⟩) (fun env st _ => by show some ds[ds.length]? = _; rw [List.getElem?_eq_none (Nat.le_refl _)])
    (fun i x env st _ e h => step i x env st (Option.some.inj e) h) fin ds.length 0 env st (Nat.zero_add _) h0
theorem Z_for_live {n : Nat} {ds : List D} {f : D → Env → Store → Option (Fl × Env × Store)} (I : Nat → Env → Store → Prop) (h0 : I 0 env st) (hl : ∀ i env st, I i env st → st[n]? = some (.lst ds))
    (step : ∀ i x env st, ds[i]? = some x → I i env st → Z (f x env st) ⟨I (i + 1), q.rt, q.nx, I (i + 1)⟩) (fin : ∀ env st, I ds.length env st → q.nx env st) : Z (forGo (Itv.live n ds.length).nth f (ds.length + 1) 0 env st) q :=
  forGo_ok I ds.length (fun i env st h hi => ⟨ds[i], by simp only [Itv.live, hl i env st h, List.getElem?_eq_getElem hi]⟩) (fun env st h => by simp only [Itv.live, hl _ env st h, List.getElem?_eq_none (Nat.le_refl _)])
    (fun i x env st _ e h => step i x env st (by simp only [Itv.live, hl i env st h] at e; exact Option.some.inj e) h) fin ds.length 0 env st (Nat.zero_add _) h0
theorem Z_whl {c : RF Bool} {f : SF} (I : Nat → Env → Store → Prop) (step : ∀ m env st, I m env st → W (c env st) fun b s => (b = true → ∃ m', m = m' + 1 ∧ Z (f env s) ⟨I m', q.rt, q.nx, I m'⟩) ∧ (b = false → q.nx env s)) :
    ∀ (fu m : Nat) (env : Env) (st : Store), m < fu → I m env st → Z (whlGo c f fu env st) q
  | 0, m, env, st, h, _ => absurd h (Nat.not_lt_zero _)
  | fu + 1, m, env, st, h, hI => by
    have s := step m env st hI
    unfold whlGo
    rcases hc : c env st with _ | ⟨b, s1⟩
    · rw [hc] at s; exact s.elim
    · rw [hc] at s
      cases b with
      | false => exact s.2 rfl
      | true =>
        obtain ⟨m', e, s⟩ := s.1 rfl
        simp only
        rcases hf : f env s1 with _ | ⟨fl, e2, s2⟩
        · rw [hf] at s; exact s.elim
        · rw [hf] at s
          cases fl with
          | nx => exact Z_whl I step fu m' e2 s2 (by omega) s
          | ct => exact Z_whl I step fu m' e2 s2 (by omega) s
          | bk => exact s
          | ret d => exact s
end

/-! ### comprehensions -/
theorem lcGo_ok {nth : Nat → Store → Option (Option D)} {f : D → Store → Option (Option D × Store)} {Q : List D → Store → Prop} (I : Nat → List D → Store → Prop) (n : Nat)
    (hnth : ∀ i acc st, I i acc st → i < n → ∃ x, nth i st = some (some x)) (hend : ∀ acc st, I n acc st → nth n st = some none)
    (step : ∀ i x acc st, i < n → nth i st = some (some x) → I i acc st → W (f x st) fun o s => match o with | some d => I (i + 1) (acc ++ [d]) s | none => I (i + 1) acc s) (fin : ∀ acc st, I n acc st → Q acc st) :
    ∀ (m i : Nat) (acc : List D) (st : Store), i + m = n → I i acc st → W (lcGo nth f (m + 1) i acc st) Q
  | 0, i, acc, st, e, h => by
    have e : i = n := e
    subst e
    unfold lcGo
    rw [hend acc st h]
    exact fin acc st h
  | m + 1, i, acc, st, e, h => by
    obtain ⟨x, hx⟩ := hnth i acc st h (by omega)
    have s := step i x acc st (by omega) hx h
    unfold lcGo
    rw [hx]
    simp only
    rcases hf : f x st with _ | ⟨o, s2⟩
    · rw [hf] at s; exact s.elim
    · rw [hf] at s
      cases o with
      | none => exact lcGo_ok I n hnth hend step fin m (i + 1) acc s2 (by omega) s
      | some d => exact lcGo_ok I n hnth hend step fin m (i + 1) (acc ++ [d]) s2 (by omega) s
section
variable {env : Env} {st : Store} {Q : D → Store → Prop}
theorem W_bLc {mat : Bool} {elt : RF D} {tg : Tg} {it : RF Itv} {c : RF Bool} {vs : List Nat} : W (bLc mat elt tg it c vs env st) Q = W (it env st) fun itv s => W (lcGo itv.nth (lcStep elt tg c (wipeE env vs)) (itv.len + 1) 0 [] s) fun ds s2 => ds.length ≤ SL ∧ W (newL mat ds s2) Q := by
  unfold bLc
  rcases it env st with _ | ⟨itv, s1⟩
  · rfl
  · simp only [W_some]
    rcases lcGo itv.nth (lcStep elt tg c (wipeE env vs)) (itv.len + 1) 0 [] s1 with _ | ⟨ds, s2⟩
    · rfl
    · simp only [W_some]
      exact W_guard
/-- elements that change nothing -/
theorem W_lc_fix {ds : List D} {f : D → Store → Option (Option D × Store)} (g : D → Option D) {Q : List D → Store → Prop} (step : ∀ (i : Nat) (x : D), ds[i]? = some x → W (f x st) fun o s => o = g x ∧ s = st) (fin : Q (ds.filterMap g) st) :
    W (lcGo (Itv.fix ds).nth f (ds.length + 1) 0 [] st) Q :=
  lcGo_ok (fun i acc s => acc = (ds.take i).filterMap g ∧ s = st) ds.length (fun i acc st _ hi => ⟨ds[i], by show some ds[i]? = _; rw [List.getElem?_eq_getElem hi]⟩) (fun acc st _ => by show some ds[ds.length]? = _; rw [List.getElem?_eq_none (Nat.le_refl _)])
    (fun i x acc s hi e h => by
      obtain ⟨rfl, rfl⟩ := h
      have e' : ds[i]? = some x := Option.some.inj e
      refine (step i x e').mono fun o s h => ?_
      obtain ⟨rfl, rfl⟩ := h
      have ht : ds.take (i + 1) = ds.take i ++ [x] := by rw [List.take_succ, e']; rfl
      cases hg : g x with
      | none => simp only [ht, List.filterMap_append, List.filterMap_cons, hg, List.filterMap_nil, List.append_nil, and_self]
      | some d => simp only [ht, List.filterMap_append, List.filterMap_cons, hg, List.filterMap_nil, and_self])
    (fun acc s h => by
      obtain ⟨rfl, rfl⟩ := h
      rw [List.take_length]
      exact fin) ds.length 0 [] st (Nat.zero_add _) ⟨rfl, rfl⟩
end

/-! ### a def's call -/
def finF (keep : Bool) (n : Nat) (d : D) (s : Store) : Option (D × Store) := if keep then some (d, s) else clean n d s
theorem finF_keep {n : Nat} {d : D} {s : Store} : finF true n d s = some (d, s) := id rfl
theorem finF_clean {n : Nat} {d : D} {s : Store} : finF false n d s = clean n d s := id rfl
theorem W_runF {tbl : List FD} {dfl : List D} {fu n f : Nat} {as : List D} {st : Store} {Q : D → Store → Prop} {fd : FD} (h : tbl[f]? = some fd) (hl : as.length = fd.np)
    (hb : Z (exs dfl (runF tbl dfl fu n) fu fd.body (startE fd.nn as) st) ⟨fun _ s => W (finF fd.keep st.length .non s) Q, fun d s => W (finF fd.keep st.length d s) Q, fun _ _ => False, fun _ _ => False⟩) : W (runF tbl dfl fu (n + 1) f as st) Q := by
  unfold runF
  rw [h]
  simp only
  rw [if_pos hl]
  unfold Z at hb
  split at hb
  all_goals first
    | exact hb.elim
    | (rename_i e; rw [e]; exact hb)
/-- no ref in the store -/
def StOk (st : Store) : Prop := ∀ o ∈ st, o.lo 0 = true
mutual
theorem D.lo_mono {n m : Nat} (h : n ≤ m) : ∀ (d : D), d.lo n = true → d.lo m = true
  | .ref k, q => by simp only [D.lo, decide_eq_true_eq] at q ⊢; omega
  | .tup ds, q => by simp only [D.lo] at q ⊢; exact D.loL_mono h ds q
  | .lst ds, q => by simp only [D.lo] at q ⊢; exact D.loL_mono h ds q
  | .non, _ => rfl
  | .bl _, _ => rfl
  | .int _, _ => rfl
  | .str _, _ => rfl
theorem D.loL_mono {n m : Nat} (h : n ≤ m) : ∀ (ds : List D), D.loL n ds = true → D.loL m ds = true
  | [], _ => rfl
  | d :: ds, q => by
    simp only [D.loL, Bool.and_eq_true] at q ⊢
    exact ⟨D.lo_mono h d q.1, D.loL_mono h ds q.2⟩
end
theorem loL_iff {n : Nat} : ∀ {ds : List D}, D.loL n ds = true ↔ ∀ d ∈ ds, d.lo n = true
  | [] => by simp [D.loL]
  | d :: ds => by simp [D.loL, loL_iff (ds := ds)]
theorem StOk.below {n : Nat} : ∀ {st : Store}, StOk st → belowS n st = true
  | [], _ => rfl
  | o :: st, h => by
    simp only [belowS, Bool.and_eq_true]
    refine ⟨?_, StOk.below fun o ho => h o (List.mem_cons_of_mem _ ho)⟩
    have q := h o (List.mem_cons_self ..)
    cases o with
    | lst ds => exact D.loL_mono (Nat.zero_le _) ds q
    | dci kvs =>
      have q : (kvs.all fun kv => kv.2.lo 0) = true := q
      show (kvs.all fun kv => kv.2.lo n) = true
      rw [List.all_eq_true] at q ⊢
      exact fun x hx => D.lo_mono (Nat.zero_le _) x.2 (q x hx)
    | dct kvs =>
      have q : (kvs.all fun kv => kv.2.lo 0) = true := q
      show (kvs.all fun kv => kv.2.lo n) = true
      rw [List.all_eq_true] at q ⊢
      exact fun x hx => D.lo_mono (Nat.zero_le _) x.2 (q x hx)
theorem StOk.set {st : Store} {i : Nat} {ds : List D} (h : StOk st) (q : D.loL 0 ds = true) : StOk (st.set i (.lst ds)) := fun o ho => by
  rcases List.mem_or_eq_of_mem_set ho with ho | rfl
  · exact h o ho
  · exact q
theorem StOk.app {st : Store} {ds : List D} (h : StOk st) (q : D.loL 0 ds = true) : StOk (st ++ [.lst ds]) := fun o ho => by
  rcases List.mem_append.mp ho with ho | ho
  · exact h o ho
  · rw [List.mem_singleton.mp ho]; exact q
theorem W_clean {n : Nat} {d d' : D} {s st' : Store} {Q : D → Store → Prop} (hs : s.take n = st') (hd : d.frz1 n s = some d') (hb : StOk st') (h : Q d' st') : W (clean n d s) Q := by
  unfold clean
  rw [hd, hs]
  simp only
  rw [if_pos hb.below]
  exact h
theorem frz1_plain {n : Nat} {s : Store} {d : D} (h : d.lo 0 = true) : d.frz1 n s = some d := by
  cases d with
  | ref k => simp [D.lo] at h
  | tup ds => simp only [D.frz1]; rw [if_pos (D.loL_mono (Nat.zero_le _) ds (by simpa [D.lo] using h))]
  | lst ds => simp only [D.frz1]; rw [if_pos (D.loL_mono (Nat.zero_le _) ds (by simpa [D.lo] using h))]
  | _ => rfl
/-- plain things of a plain store -/
theorem W_cleanP {n : Nat} {d : D} {s : Store} {Q : D → Store → Prop} (hd : d.lo 0 = true) (hb : StOk s) (h : Q d (s.take n)) : W (clean n d s) Q :=
  W_clean rfl (frz1_plain hd) (fun o ho => hb o (List.mem_of_mem_take ho)) h
theorem W_cleanR {n k : Nat} {ds : List D} {s : Store} {Q : D → Store → Prop} (hk : s[k]? = some (.lst ds)) (hn : n ≤ k) (hb : StOk s) (h : Q (.lst ds) (s.take n)) : W (clean n (.ref k) s) Q := by
  refine W_clean rfl ?_ (fun o ho => hb o (List.mem_of_mem_take ho)) h
  have hm := hb _ (List.mem_of_getElem? hk)
  simp only [D.frz1]
  rw [if_neg (by omega), hk]
  simp only
  rw [if_pos (D.loL_mono (Nat.zero_le _) ds hm)]

/-! ### repr -/
theorem int_len {i : Int} {k : Nat} (hk : 1 ≤ k) (h : i.natAbs < 10 ^ k) : (PyData.shown (.int i)).length ≤ k + 1 := by
  have e : PyData.shown (.int i) = Str.ofString (toString i) := rfl
  rw [e]
  cases i with
  | ofNat m =>
    rw [text_ofNat]
    have q := digits10_le (k := k) hk (n := m) (by simpa using h)
    show (((Nat.toDigits 10 m).map Char.toNat).toArray).size ≤ k + 1
    rw [List.size_toArray, List.length_map]
    omega
  | negSucc m =>
    have q := digits10_le (k := k) hk (n := m + 1) (by simpa using h)
    have e2 : Str.ofString (toString (Int.negSucc m)) = ⟨(45 :: (Nat.toDigits 10 (m + 1)).map Char.toNat).toArray⟩ := by
      show Str.ofString ("-" ++ Nat.repr (m + 1)) = _
      rw [Str.ofString_eq_toList]
      simp [Nat.repr]
    rw [e2]
    show ((45 :: (Nat.toDigits 10 (m + 1)).map Char.toNat).toArray).size ≤ k + 1
    rw [List.size_toArray, List.length_cons, List.length_map]
    omega
mutual
/-- a small thing: no refs, ints below 2 ^ 100 -/
def D.sm : D → Bool
  | .int i => decide (i.natAbs < 2 ^ 100)
  | .tup ds => D.smL ds
  | .lst ds => D.smL ds
  | .str _ => false
  | .ref _ => false
  | .non => true
  | .bl _ => true
def D.smL : List D → Bool
  | [] => true
  | d :: ds => D.sm d && D.smL ds
end
mutual
/-- how many parts -/
def D.cnt : D → Nat
  | .tup ds => D.cntL ds + 1
  | .lst ds => D.cntL ds + 1
  | _ => 1
def D.cntL : List D → Nat
  | [] => 0
  | d :: ds => D.cnt d + D.cntL ds
end
mutual
def D.dep : D → Nat
  | .tup ds => D.depL ds + 1
  | .lst ds => D.depL ds + 1
  | _ => 0
def D.depL : List D → Nat
  | [] => 0
  | d :: ds => max (D.dep d) (D.depL ds)
end
theorem log_le {n : Nat} (h : n < 2 ^ 100) : n.log2 < 100 := by
  by_cases e : n = 0
  · subst e; decide
  · exact (Nat.log2_lt e).mpr h
mutual
theorem D.sm_py : ∀ (d : D), d.sm = true → ∃ x, d.py = some x ∧ x.showable = true ∧ x.depth ≤ d.dep ∧ x.leavesShort 32 = true ∧ x.weight + 1 ≤ 102 * d.cnt
  | .non, _ => ⟨_, rfl, rfl, by simp [PyData.depth, D.dep], rfl, by simp [PyData.weight, D.cnt]⟩
  | .bl b, _ => ⟨_, rfl, rfl, by simp [PyData.depth, D.dep], rfl, by simp [PyData.weight, D.cnt]⟩
  | .int i, h => by
    have h : i.natAbs < 2 ^ 100 := by simpa [D.sm] using h
    have l := log_le h
    refine ⟨_, rfl, ?_, by simp [PyData.depth, D.dep], ?_, ?_⟩
    · unfold PyData.showable; exact decide_eq_true (by omega)
    · unfold PyData.leavesShort
      exact decide_eq_true (int_len (k := 31) (by decide) (Nat.lt_trans h (by decide)))
    · unfold PyData.weight D.cnt
      split <;> omega
  | .str s, h => by cases h
  | .ref s, h => by cases h
  | .tup ds, h => by
    obtain ⟨xs, e, a, b, c, w⟩ := D.smL_py ds (by simpa [D.sm] using h)
    refine ⟨.tuple xs, by simp only [D.py, e], by simpa only [PyData.showable] using a, by simp only [PyData.depth, D.dep]; omega, by simpa only [PyData.leavesShort] using c, ?_⟩
    simp only [PyData.weight, D.cnt]; omega
  | .lst ds, h => by
    obtain ⟨xs, e, a, b, c, w⟩ := D.smL_py ds (by simpa [D.sm] using h)
    refine ⟨.list xs, by simp only [D.py, e], by simpa only [PyData.showable] using a, by simp only [PyData.depth, D.dep]; omega, by simpa only [PyData.leavesShort] using c, ?_⟩
    simp only [PyData.weight, D.cnt]; omega
theorem D.smL_py : ∀ (ds : List D), D.smL ds = true → ∃ xs, D.pyL ds = some xs ∧ PyData.showableAll xs = true ∧ PyData.depthAll xs ≤ D.depL ds ∧ PyData.leavesShortAll 32 xs = true ∧ PyData.weightAll xs ≤ 102 * D.cntL ds
  | [], _ => ⟨[], rfl, rfl, by simp [PyData.depthAll], rfl, by simp [PyData.weightAll]⟩
  | d :: ds, h => by
    simp only [D.smL, Bool.and_eq_true] at h
    obtain ⟨x, e1, a1, b1, c1, w1⟩ := D.sm_py d h.1
    obtain ⟨xs, e2, a2, b2, c2, w2⟩ := D.smL_py ds h.2
    refine ⟨x :: xs, by simp only [D.pyL, e1, e2], by simp only [PyData.showableAll, a1, a2, Bool.and_self], by simp only [PyData.depthAll, D.depL]; omega, by simp only [PyData.leavesShortAll, c1, c2, Bool.and_self], ?_⟩
    simp only [PyData.weightAll, D.cntL]
    omega
end
mutual
theorem D.sm_lay : ∀ (d : D) (x : PyData), d.sm = true → d.py = some x → x.canLay0 = true ∧ x.depth ≤ d.dep
  | .non, _, _, e => by cases e; exact ⟨rfl, by simp [PyData.depth, D.dep]⟩
  | .bl b, _, _, e => by cases e; exact ⟨rfl, by simp [PyData.depth, D.dep]⟩
  | .int i, _, _, e => by cases e; exact ⟨rfl, by simp [PyData.depth, D.dep]⟩
  | .str s, _, h, e => by cases h
  | .ref s, _, h, e => by cases h
  | .tup ds, x, h, e => by
    unfold D.py at e
    split at e
    · rename_i xs e2
      cases e
      have q := D.smL_lay ds xs (by simpa only [D.sm] using h) e2
      exact ⟨by simpa only [PyData.canLay0] using q.1, by simp only [PyData.depth, D.dep]; omega⟩
    · cases e
  | .lst ds, x, h, e => by
    unfold D.py at e
    split at e
    · rename_i xs e2
      cases e
      have q := D.smL_lay ds xs (by simpa only [D.sm] using h) e2
      exact ⟨by simpa only [PyData.canLay0] using q.1, by simp only [PyData.depth, D.dep]; omega⟩
    · cases e
theorem D.smL_lay : ∀ (ds : List D) (xs : List PyData), D.smL ds = true → D.pyL ds = some xs → PyData.canLayAll0 xs = true ∧ PyData.depthAll xs ≤ D.depL ds
  | [], _, _, e => by cases e; exact ⟨rfl, by simp [PyData.depthAll]⟩
  | d :: ds, xs, h, e => by
    simp only [D.smL, Bool.and_eq_true] at h
    unfold D.pyL at e
    split at e
    · rename_i x e1
      split at e
      · rename_i ys e2
        cases e
        have q1 := D.sm_lay d x h.1 e1
        have q2 := D.smL_lay ds ys h.2 e2
        exact ⟨by simp only [PyData.canLayAll0, q1.1, q2.1, Bool.and_self], by simp only [PyData.depthAll, D.depL]; omega⟩
      · cases e
    · cases e
end
theorem shp_sm {d : D} {x : PyData} (h : d.sm = true) (hd : d.dep ≤ 64) (e : d.py = some x) : SeqAt.shaped x = true := by
  obtain ⟨a, b⟩ := D.sm_lay d x h e
  unfold SeqAt.shaped
  rw [a]
  exact decide_eq_true (by omega)
/-- what a small thing shows -/
def D.shw (d : D) : Str := match d.py with | some x => x.shown | none => default
theorem W_repr {d e : D} {st : Store} {Q : D → Store → Prop} (he : d.see st = e) (hs : e.sm = true) (hd : e.dep ≤ 64) (hc : e.cnt ≤ 4000) (h : Q (.str e.shw) st) : W (bltin .repr [d] st) Q := by
  obtain ⟨x, e1, a, b, c, w⟩ := D.sm_py e hs
  have q := PyData.shown_le 32 (by decide) x c
  show W (match (D.see st d).py with | some x => if x.showable = true ∧ x.depth ≤ 64 ∧ x.shown.length ≤ SL then some (.str x.shown, st) else none | none => none) Q
  rw [he, e1]
  simp only
  rw [if_pos ⟨a, by omega, by unfold SL; omega⟩]
  unfold D.shw at h
  rw [e1] at h
  exact h
theorem eqT_refl {ds : List D} {st : Store} (h : D.smL ds = true) (hd : D.depL ds ≤ 60) : cop .eq (.tup ds) (.tup ds) st = some true := by
  have h' : (D.tup ds).sm = true := by simpa only [D.sm] using h
  have hd' : (D.tup ds).dep ≤ 64 := by simp only [D.dep]; omega
  obtain ⟨x, e, -⟩ := D.sm_py (.tup ds) h'
  show (match ((D.tup ds).see st).py, ((D.tup ds).see st).py with
      | some x, some y => if SeqAt.shaped x = true ∧ SeqAt.shaped y = true then some (PyData.eqv x y) else none
      | _, _ => none) = some true
  have e' : ((D.tup ds).see st).py = some x := e
  rw [e']
  simp only
  rw [if_pos ⟨shp_sm h' hd' e, shp_sm h' hd' e⟩, SeqAt.eqv_refl x (D.sm_lay _ _ h' e).1]
theorem cop_neS {a b : D} {s t : Str} {st : Store} : copT .ne (.str s) (.str t) st = some (!decide (s = t), st) := rfl

/-! ### the operators at known things -/
section
variable {st : Store} {i j : Int} {x y : List D} {s t : Str} {a b : Bool}
theorem o_add : bop .add (.int i) (.int j) st = some (.int (i + j), st) := id rfl
theorem o_sub : bop .sub (.int i) (.int j) st = some (.int (i - j), st) := id rfl
theorem o_mul : bop .mul (.int i) (.int j) st = if ((-(2 ^ 64) < i ∧ i < 2 ^ 64) ∨ (-(2 ^ 64) < j ∧ j < 2 ^ 64)) ∨ (i.natAbs < WB ∧ j.natAbs < WB) then some (.int (i * j), st) else none := id rfl
theorem o_fdiv : bop .fdiv (.int i) (.int j) st = if (j ≠ 0 ∧ j.natAbs < 1073741824) ∨ (0 < j ∧ j < 2 ^ 200) then some (.int (i.fdiv j), st) else none := id rfl
theorem o_mod : bop .mod (.int i) (.int j) st = if j ≠ 0 then some (.int (i.fmod j), st) else none := id rfl
theorem o_pow : bop .pow (.int i) (.int j) st = if (0 ≤ j ∧ j ≤ 1000000 ∧ i.natAbs < 2 ^ 64) ∨ (0 ≤ j ∧ j ≤ 1000 ∧ i.natAbs < WB) then some (.int (i ^ j.toNat), st) else none := id rfl
theorem o_shl : bop .shl (.int i) (.int j) st = if 0 ≤ j ∧ j ≤ 1000000 ∧ i.natAbs < 2 ^ 64 then some (.int (i * 2 ^ j.toNat), st) else none := id rfl
theorem o_shr : bop .shr (.int i) (.int j) st = if 0 ≤ j then some (.int (i / 2 ^ j.toNat), st) else none := id rfl
theorem o_band : bop .band (.int i) (.int j) st = some (.int (Builtin.bitAnd i j), st) := id rfl
theorem o_bor : bop .bor (.int i) (.int j) st = some (.int (Builtin.bitOr i j), st) := id rfl
theorem o_bxor : bop .bxor (.int i) (.int j) st = some (.int (Builtin.bitXor i j), st) := id rfl
theorem o_addT : bop .add (.tup x) (.tup y) st = if x.length + y.length ≤ SL then some (.tup (x ++ y), st) else none := id rfl
theorem o_mulT : bop .mul (.tup x) (.int i) st = if -1000 ≤ i ∧ i ≤ 1000 ∧ x.length ≤ 1000 then some (.tup (List.replicate i.toNat x).flatten, st) else none := id rfl
theorem c_eqI : cop .eq (.int i) (.int j) st = some (decide (i = j)) := id rfl
theorem c_eqS : cop .eq (.str s) (.str t) st = some (decide (s = t)) := id rfl
theorem c_eqB : cop .eq (.bl a) (.bl b) st = some (decide (a = b)) := id rfl
theorem c_neI : cop .ne (.int i) (.int j) st = some (!decide (i = j)) := id rfl
theorem c_neS : cop .ne (.str s) (.str t) st = some (!decide (s = t)) := id rfl
theorem c_neB : cop .ne (.bl a) (.bl b) st = some (!decide (a = b)) := id rfl
theorem c_lt : cop .lt (.int i) (.int j) st = some (decide (i < j)) := id rfl
theorem c_le : cop .le (.int i) (.int j) st = some (decide (i ≤ j)) := id rfl
theorem c_gt : cop .gt (.int i) (.int j) st = some (decide (j < i)) := id rfl
theorem c_ge : cop .ge (.int i) (.int j) st = some (decide (j ≤ i)) := id rfl
theorem W_copT {o : COp} {x y : D} {Q : Bool → Store → Prop} : W (copT o x y st) Q = (match cop o x y st with | some c => Q c st | none => False) := by
  unfold copT
  cases cop o x y st <;> rfl
theorem W_copV {o : COp} {x y : D} {Q : D → Store → Prop} : W (copV o x y st) Q = (match cop o x y st with | some c => Q (.bl c) st | none => False) := by
  unfold copV
  cases cop o x y st <;> rfl
theorem t_bl : tru st (.bl a) = some a := id rfl
theorem t_int : tru st (.int i) = some (i != 0) := id rfl
theorem t_tup : tru st (.tup x) = some (!x.isEmpty) := id rfl
theorem t_lst : tru st (.lst x) = some (!x.isEmpty) := id rfl
theorem W_truT {d : D} {Q : Bool → Store → Prop} : W (truT d st) Q = (match tru st d with | some c => Q c st | none => False) := by
  unfold truT
  cases tru st d <;> rfl
theorem W_notV {d : D} {Q : D → Store → Prop} : W (notV d st) Q = (match tru st d with | some c => Q (.bl (!c)) st | none => False) := by
  unfold notV
  cases tru st d <;> rfl
theorem W_notT {c : Bool} {Q : Bool → Store → Prop} : W (notT c st) Q = Q (!c) st := id rfl
theorem n_neg : negD (.int i) st = some (.int (-i), st) := id rfl
theorem W_tupD {Q : D → Store → Prop} : W (tupD x st) Q = (x.length ≤ SL ∧ Q (.tup x) st) := W_guard
theorem W_lstF {Q : D → Store → Prop} : W (lstD false x st) Q = (x.length ≤ SL ∧ Q (.lst x) st) := W_guard
theorem W_lstT {Q : D → Store → Prop} : W (lstD true x st) Q = (x.length ≤ SL ∧ Q (.ref st.length) (st ++ [.lst x])) := W_guard
theorem newF : newL false x st = some (.lst x, st) := id rfl
theorem newT : newL true x st = some (.ref st.length, st ++ [.lst x]) := id rfl
/-- the i-th, from either end -/
def atD (x : List D) (i : Int) : Option D := match ixOf x.length i with
  | some j => x[j]?
  | none => none
theorem W_idx {d : D} {Q : D → Store → Prop} : W (idx d (.int i) st) Q = (match seqOf st d with | some x => (match atD x i with | some d => Q d st | none => False) | none => False) := by
  unfold idx atD
  simp only
  cases seqOf st d with
  | none => rfl
  | some x =>
    simp only
    cases ixOf x.length i with
    | none => rfl
    | some k =>
      simp only
      cases x[k]? <;> rfl
theorem ix_lit {n k : Nat} (h : k < n) : ixOf n (k : Int) = some k := by
  unfold ixOf
  rw [if_pos (by omega), if_pos (by omega)]
  simp
theorem ix_int {n : Nat} {i : Int} (h0 : 0 ≤ i) (h : i < n) : ixOf n i = some i.toNat := by
  unfold ixOf
  rw [if_pos h0, if_pos h]
theorem at_int (h0 : 0 ≤ i) (h : i < x.length) : atD x i = x[i.toNat]? := by
  unfold atD
  rw [ix_int h0 h]
theorem at_0 {d : D} : atD (d :: x) 0 = some d := by
  rw [at_int (by decide) (by simp only [List.length_cons]; omega)]; rfl
theorem at_1 {d e : D} : atD (d :: e :: x) 1 = some e := by
  rw [at_int (by decide) (by simp only [List.length_cons]; omega)]; rfl
theorem at_2 {d e f : D} : atD (d :: e :: f :: x) 2 = some f := by
  rw [at_int (by decide) (by simp only [List.length_cons]; omega)]; rfl
theorem at_3 {d e f g : D} : atD (d :: e :: f :: g :: x) 3 = some g := by
  rw [at_int (by decide) (by simp only [List.length_cons]; omega)]; rfl
theorem l_tup : seqOf st (.tup x) = some x := id rfl
theorem l_lst : seqOf st (.lst x) = some x := id rfl
theorem l_ref {p : Nat} : seqOf st (.ref p) = match st[p]? with | some (.lst ds) => some ds | _ => none := id rfl
theorem ll_lst : lstOf st (.lst x) = some x := id rfl
theorem ll_ref {p : Nat} : lstOf st (.ref p) = match st[p]? with | some (.lst ds) => some ds | _ => none := id rfl
theorem b_len {d : D} : bltin .len [d] st = match seqOf st d with | some xs => some (.int xs.length, st) | none => none := id rfl
theorem b_tuple {d : D} : bltin .tuple [d] st = match seqOf st d with | some xs => some (.tup xs, st) | none => none := id rfl
theorem b_list {m : Bool} {d : D} : bltin (.list m) [d] st = match seqOf st d with | some xs => newL m xs st | none => none := id rfl
theorem b_abs : bltin .abs [.int i] st = some (.int (if i < 0 then -i else i), st) := id rfl
theorem b_int : bltin .int [.int i] st = some (.int i, st) := id rfl
theorem b_intB : bltin .int [.bl a] st = some (.int (if a then 1 else 0), st) := id rfl
theorem b_max2 : bltin .max2 [.int i, .int j] st = some (.int (if j > i then j else i), st) := id rfl
theorem b_min2 : bltin .min2 [.int i, .int j] st = some (.int (if j < i then j else i), st) := id rfl
theorem b_all {d : D} : bltin .all [d] st = match lstOf st d with | some xs => (match bls xs with | some bs => some (.bl (bs.all id), st) | none => none) | none => none := id rfl
theorem b_any {d : D} : bltin .any [d] st = match lstOf st d with | some xs => (match bls xs with | some bs => some (.bl (bs.any id), st) | none => none) | none => none := id rfl
theorem a_ref {p : Nat} : asL (.ref p) st = match st[p]? with | some (.lst _) => some (.ref p, st) | _ => none := id rfl
theorem p_app {p : Nat} {d : D} : appD (.ref p) d st = match st[p]? with | some (.lst ds) => if ds.length < SL then some (.non, st.set p (.lst (ds ++ [d]))) else none | _ => none := id rfl
theorem p_ins {p : Nat} {d : D} : insD (.ref p) (.int i) d st = match st[p]? with | some (.lst ds) => if ds.length < SL ∧ 0 ≤ i ∧ i < 2 ^ 63 then some (.non, st.set p (.lst (insAt ds i d))) else none | _ => none := id rfl
/-- the i-th one written -/
def setL (x : List D) (i : Int) (d : D) : Option (List D) := match ixOf x.length i with
  | some j => some (x.set j d)
  | none => none
theorem p_set {p : Nat} {d : D} : setD (.ref p) (.int i) d st = match st[p]? with | some (.lst ds) => (match setL ds i d with | some y => some (st.set p (.lst y)) | _ => none) | _ => none := by
  unfold setD setL
  simp only
  cases st[p]? with
  | none => rfl
  | some o =>
    cases o with
    | lst ds =>
      simp only
      cases ixOf ds.length i <;> rfl
    | dci kvs => rfl
    | dct kvs => rfl
theorem setL_int {d : D} (h0 : 0 ≤ i) (h : i < x.length) : setL x i d = some (x.set i.toNat d) := by
  unfold setL
  rw [ix_int h0 h]
theorem set_0 {d e : D} : setL (e :: x) 0 d = some (d :: x) := by
  rw [setL_int (by decide) (by simp only [List.length_cons]; omega)]; rfl
theorem set_1 {d e f : D} : setL (e :: f :: x) 1 d = some (e :: d :: x) := by
  rw [setL_int (by decide) (by simp only [List.length_cons]; omega)]; rfl
theorem set_2 {d e f g : D} : setL (e :: f :: g :: x) 2 d = some (e :: f :: d :: x) := by
  rw [setL_int (by decide) (by simp only [List.length_cons]; omega)]; rfl
theorem s_tup {m : Bool} {l h : Option Int} : slc m (.tup x) l h st = some (.tup (cutD x l h), st) := id rfl
theorem s_lst {m : Bool} {l h : Option Int} : slc m (.lst x) l h st = newL m (cutD x l h) st := id rfl
theorem i_int : intO (.int i) st = some (some i, st) := id rfl
theorem r_tup : revT (.tup x) st = some (.tup x.reverse, st) := id rfl
theorem r_lst {m : Bool} : revL m (.lst x) st = newL m x.reverse st := id rfl
theorem g_tup : itSeq (.tup x) st = some (.fix x, st) := id rfl
theorem g_lst : itSeq (.lst x) st = some (.fix x, st) := id rfl
theorem g_ref {p : Nat} : itSeq (.ref p) st = match st[p]? with | some (.lst ds) => some (.live p ds.length, st) | _ => none := id rfl
theorem g_rng1 : rng1 (.int j) st = if -(2 ^ 62) ≤ j ∧ j < 2 ^ 62 then some (.fix (rngD 0 j.toNat), st) else none := id rfl
theorem g_rng2 : rng2 (.int i) (.int j) st = if -(2 ^ 62) ≤ i ∧ i < 2 ^ 62 ∧ -(2 ^ 62) ≤ j ∧ j < 2 ^ 62 then some (.fix (rngD i (j - i).toNat), st) else none := id rfl
theorem v_tupR1 : tupR1 (.int j) st = if RgD 0 j then some (.tup (rngD 0 j.toNat), st) else none := id rfl
theorem v_tupR2 : tupR2 (.int i) (.int j) st = if RgD i j then some (.tup (rngD i (j - i).toNat), st) else none := id rfl
theorem v_lisR1 {m : Bool} : lisR1 m (.int j) st = if RgD 0 j then newL m (rngD 0 j.toNat) st else none := id rfl
theorem v_lisR2 {m : Bool} : lisR2 m (.int i) (.int j) st = if RgD i j then newL m (rngD i (j - i).toNat) st else none := id rfl
theorem u_add : augD .add (.int i) (.int j) = some (.int (i + j)) := id rfl
theorem u_sub : augD .sub (.int i) (.int j) = some (.int (i - j)) := id rfl
theorem evO_no {dfl : List D} {call : CallF} {env : Env} {Q : Option Int → Store → Prop} : W (evO dfl call .no env st) Q = Q none st := by unfold evO; exact id rfl
theorem evs_nil {dfl : List D} {call : CallF} {env : Env} {Q : List D → Store → Prop} : W (evs dfl call .nil env st) Q = Q [] st := by unfold evs; exact id rfl
theorem evT_yes {dfl : List D} {call : CallF} {env : Env} {Q : Bool → Store → Prop} : W (evT dfl call .yes env st) Q = Q true st := by unfold evT; exact id rfl
theorem W_fnB {b : Bool} {env : Env} {Q : Bool → Store → Prop} : W ((fun (_ : Env) (st : Store) => (some (b, st) : Option (Bool × Store))) env st) Q = Q b st := id rfl
theorem W_callN {dfl : List D} {call : CallF} {f np nk : Nat} {sel : List Sel} {xs ys : List D} {Q : D → Store → Prop} : W (callD dfl call f np nk sel xs ys st) Q = (if xs.length = np ∧ ys.length = nk then match selD (xs ++ ys) dfl sel with | some as => W (call f as st) Q | none => False else False) := by
  unfold callD
  by_cases h : xs.length = np ∧ ys.length = nk
  · rw [if_pos h, if_pos h]; cases selD (xs ++ ys) dfl sel <;> rfl
  · rw [if_neg h, if_neg h]; rfl
end

/-! ### the reckoner, form by form -/
theorem eev_nm (dfl : List D) (call : CallF) {i} : ev dfl call (.nm i) = vr i := id rfl
theorem eev_cI (dfl : List D) (call : CallF) {i} : ev dfl call (.cI i) = cst (.int i) := id rfl
theorem eev_cB (dfl : List D) (call : CallF) {b} : ev dfl call (.cB b) = cst (.bl b) := id rfl
theorem eev_cN (dfl : List D) (call : CallF) : ev dfl call (.cN) = cst .non := id rfl
theorem eev_cS (dfl : List D) (call : CallF) {s} : ev dfl call (.cS s) = cst (.str s) := id rfl
theorem eev_bin (dfl : List D) (call : CallF) {o} {a} {b} : ev dfl call (.bin o a b) = b2 (ev dfl call a) (ev dfl call b) (bop o) := id rfl
theorem eev_neg (dfl : List D) (call : CallF) {a} : ev dfl call (.neg a) = b1 (ev dfl call a) negD := id rfl
theorem eev_cmp (dfl : List D) (call : CallF) {o} {a} {b} : ev dfl call (.cmp o a b) = b2 (ev dfl call a) (ev dfl call b) (copV o) := id rfl
theorem eev_and (dfl : List D) (call : CallF) {es} : ev dfl call (.and es) = evAnd dfl call es := id rfl
theorem eev_or (dfl : List D) (call : CallF) {es} : ev dfl call (.or es) = evOr dfl call es := id rfl
theorem eev_not (dfl : List D) (call : CallF) {a} : ev dfl call (.not a) = b1 (ev dfl call a) notV := id rfl
theorem eev_ife (dfl : List D) (call : CallF) {c} {a} {b} : ev dfl call (.ife c a b) = bIf (evT dfl call c) (ev dfl call a) (ev dfl call b) := id rfl
theorem eev_tup (dfl : List D) (call : CallF) {es} : ev dfl call (.tup es) = b1 (evs dfl call es) tupD := id rfl
theorem eev_lst (dfl : List D) (call : CallF) {mat} {es} : ev dfl call (.lst mat es) = b1 (evs dfl call es) (lstD mat) := id rfl
theorem eev_idx (dfl : List D) (call : CallF) {a} {i} : ev dfl call (.idx a i) = b2 (ev dfl call a) (ev dfl call i) idx := id rfl
theorem eev_slc (dfl : List D) (call : CallF) {mat} {a} {lo} {hi} : ev dfl call (.slc mat a lo hi) = b3 (ev dfl call a) (evO dfl call lo) (evO dfl call hi) (slc mat) := id rfl
theorem eev_revT (dfl : List D) (call : CallF) {a} : ev dfl call (.revT a) = b1 (ev dfl call a) revT := id rfl
theorem eev_revL (dfl : List D) (call : CallF) {mat} {a} : ev dfl call (.revL mat a) = b1 (ev dfl call a) (revL mat) := id rfl
theorem eev_blt (dfl : List D) (call : CallF) {f} {es} : ev dfl call (.blt f es) = b1 (evs dfl call es) (bltin f) := id rfl
theorem eev_app (dfl : List D) (call : CallF) {o} {a} : ev dfl call (.app o a) = b2 (b1 (ev dfl call o) asL) (ev dfl call a) appD := id rfl
theorem eev_ins (dfl : List D) (call : CallF) {o} {i} {a} : ev dfl call (.ins o i a) = b3 (b1 (ev dfl call o) asL) (ev dfl call i) (ev dfl call a) insD := id rfl
theorem eev_call (dfl : List D) (call : CallF) {f} {np} {nk} {sel} {es} {ks} : ev dfl call (.call f np nk sel es ks) = b2 (evs dfl call es) (evs dfl call ks) (callD dfl call f np nk sel) := id rfl
theorem eev_tupR1 (dfl : List D) (call : CallF) {a} : ev dfl call (.tupR1 a) = b1 (ev dfl call a) tupR1 := id rfl
theorem eev_tupR2 (dfl : List D) (call : CallF) {a} {b} : ev dfl call (.tupR2 a b) = b2 (ev dfl call a) (ev dfl call b) tupR2 := id rfl
theorem eev_lisR1 (dfl : List D) (call : CallF) {mat} {a} : ev dfl call (.lisR1 mat a) = b1 (ev dfl call a) (lisR1 mat) := id rfl
theorem eev_lisR2 (dfl : List D) (call : CallF) {mat} {a} {b} : ev dfl call (.lisR2 mat a b) = b2 (ev dfl call a) (ev dfl call b) (lisR2 mat) := id rfl
theorem eev_lc (dfl : List D) (call : CallF) {mat} {elt} {tg} {it} {c} {own} : ev dfl call (.lc mat elt tg it c own) = bLc mat (ev dfl call elt) tg (evI dfl call it) (evT dfl call c) (own.map (·.2)) := id rfl
theorem eevO_no (dfl : List D) (call : CallF) : evO dfl call (.no) = fun _ st => some (none, st) := id rfl
theorem eevO_so (dfl : List D) (call : CallF) {e} : evO dfl call (.so e) = b1 (ev dfl call e) intO := id rfl
theorem eevs_nil (dfl : List D) (call : CallF) : evs dfl call (.nil) = fun _ st => some ([], st) := id rfl
theorem eevs_cons (dfl : List D) (call : CallF) {e} {es} : evs dfl call (.cons e es) = b2 (ev dfl call e) (evs dfl call es) consD := id rfl
theorem eevT_yes (dfl : List D) (call : CallF) : evT dfl call (.yes) = fun _ st => some (true, st) := id rfl
theorem eevT_cmp (dfl : List D) (call : CallF) {o} {a} {b} : evT dfl call (.cmp o a b) = b2 (ev dfl call a) (ev dfl call b) (copT o) := id rfl
theorem eevT_and (dfl : List D) (call : CallF) {ts} : evT dfl call (.and ts) = evAll dfl call ts := id rfl
theorem eevT_or (dfl : List D) (call : CallF) {ts} : evT dfl call (.or ts) = evAny dfl call ts := id rfl
theorem eevT_not (dfl : List D) (call : CallF) {a} : evT dfl call (.not a) = b1 (evT dfl call a) notT := id rfl
theorem eevT_tr (dfl : List D) (call : CallF) {e} : evT dfl call (.tr e) = b1 (ev dfl call e) truT := id rfl
theorem eevAnd_nil (dfl : List D) (call : CallF) : evAnd dfl call (.nil) = fun _ _ => none := id rfl
theorem eevOr_nil (dfl : List D) (call : CallF) : evOr dfl call (.nil) = fun _ _ => none := id rfl
theorem eevAll_nil (dfl : List D) (call : CallF) : evAll dfl call (.nil) = fun _ st => some (true, st) := id rfl
theorem eevAll_cons (dfl : List D) (call : CallF) {t} {ts} : evAll dfl call (.cons t ts) = bIf (evT dfl call t) (evAll dfl call ts) (fun _ st => some (false, st)) := id rfl
theorem eevAny_nil (dfl : List D) (call : CallF) : evAny dfl call (.nil) = fun _ st => some (false, st) := id rfl
theorem eevAny_cons (dfl : List D) (call : CallF) {t} {ts} : evAny dfl call (.cons t ts) = bIf (evT dfl call t) (fun _ st => some (true, st)) (evAny dfl call ts) := id rfl
theorem eevI_rng1 (dfl : List D) (call : CallF) {a} : evI dfl call (.rng1 a) = b1 (ev dfl call a) rng1 := id rfl
theorem eevI_rng2 (dfl : List D) (call : CallF) {a} {b} : evI dfl call (.rng2 a b) = b2 (ev dfl call a) (ev dfl call b) rng2 := id rfl
theorem eevI_seq (dfl : List D) (call : CallF) {e} : evI dfl call (.seq e) = b1 (ev dfl call e) itSeq := id rfl
theorem eex_set (dfl : List D) (call : CallF) (fu : Nat) {i} {e} : ex dfl call fu (.set i e) = sSet (putN i) (ev dfl call e) := id rfl
theorem eex_setT (dfl : List D) (call : CallF) (fu : Nat) {tg} {e} : ex dfl call fu (.setT tg e) = sSet tg.put (ev dfl call e) := id rfl
theorem eex_par (dfl : List D) (call : CallF) (fu : Nat) {is} {es} : ex dfl call fu (.par is es) = sPar is (evs dfl call es) := id rfl
theorem eex_setI (dfl : List D) (call : CallF) (fu : Nat) {o} {i} {e} : ex dfl call fu (.setI o i e) = sSetI (ev dfl call e) (ev dfl call o) (ev dfl call i) := id rfl
theorem eex_aug (dfl : List D) (call : CallF) (fu : Nat) {i} {o} {e} : ex dfl call fu (.aug i o e) = sAug i o (ev dfl call e) := id rfl
theorem eex_expr (dfl : List D) (call : CallF) (fu : Nat) {e} : ex dfl call fu (.expr e) = sExpr (ev dfl call e) := id rfl
theorem eex_ret (dfl : List D) (call : CallF) (fu : Nat) {e} : ex dfl call fu (.ret e) = sRet (ev dfl call e) := id rfl
theorem eex_ife (dfl : List D) (call : CallF) (fu : Nat) {c} {a} {b} : ex dfl call fu (.ife c a b) = sIf (evT dfl call c) (exs dfl call fu a) (exs dfl call fu b) := id rfl
theorem eex_whl (dfl : List D) (call : CallF) (fu : Nat) {c} {b} : ex dfl call fu (.whl c b) = whlGo (evT dfl call c) (exs dfl call fu b) fu := id rfl
theorem eex_for_ (dfl : List D) (call : CallF) (fu : Nat) {tg} {it} {b} : ex dfl call fu (.for_ tg it b) = sFor tg (evI dfl call it) (exs dfl call fu b) := id rfl
theorem eex_brk (dfl : List D) (call : CallF) (fu : Nat) : ex dfl call fu (.brk) = fun env st => some (.bk, env, st) := id rfl
theorem eex_ctn (dfl : List D) (call : CallF) (fu : Nat) : ex dfl call fu (.ctn) = fun env st => some (.ct, env, st) := id rfl
theorem eexs_nil (dfl : List D) (call : CallF) (fu : Nat) : exs dfl call fu (.nil) = fun env st => some (.nx, env, st) := id rfl
theorem eexs_cons (dfl : List D) (call : CallF) (fu : Nat) {s} {ss} : exs dfl call fu (.cons s ss) = sSeq (ex dfl call fu s) (exs dfl call fu ss) := id rfl
theorem eevAnd_1 (dfl : List D) (call : CallF) {e} : evAnd dfl call (.cons e .nil) = ev dfl call e := id rfl
theorem eevAnd_2 (dfl : List D) (call : CallF) {e f es} : evAnd dfl call (.cons e (.cons f es)) = bAnd (ev dfl call e) (evAnd dfl call (.cons f es)) := id rfl
theorem eevOr_1 (dfl : List D) (call : CallF) {e} : evOr dfl call (.cons e .nil) = ev dfl call e := id rfl
theorem eevOr_2 (dfl : List D) (call : CallF) {e f es} : evOr dfl call (.cons e (.cons f es)) = bOr (ev dfl call e) (evOr dfl call (.cons f es)) := id rfl
theorem Z_forStep {tg : Tg} {b : SF} {x : D} {e : Env} {s : Store} {q : SQ} : Z (forStep tg b x e s) q = (match tg.put x e with | some e' => Z (b e' s) q | none => False) := by
  unfold forStep
  cases tg.put x e <;> rfl
theorem W_lcStep {elt : RF D} {tg : Tg} {c : RF Bool} {env : Env} {x : D} {st : Store} {Q : Option D → Store → Prop} : W (lcStep elt tg c env x st) Q = (match tg.put x env with | some e => W (c e st) fun b s => (b = true → W (elt e s) fun d s3 => Q (some d) s3) ∧ (b = false → Q none s) | none => False) := by
  unfold lcStep
  cases tg.put x env with
  | none => rfl
  | some e =>
    simp only
    rcases c e st with _ | ⟨b, s⟩
    · rfl
    · cases b with
      | true =>
        simp only [W_some, forall_const, Bool.true_eq_false, false_imp_iff, and_true]
        rcases elt e s with _ | ⟨d, s3⟩ <;> rfl
      | false => simp only [W_some, forall_const, Bool.false_eq_true, false_imp_iff, true_and]

/-! ### further forms -/
theorem eev_srtk (dfl : List D) (call : CallF) {a f i j} : ev dfl call (.srtk a f i j) = bSrtk call f i j (ev dfl call a) := id rfl
theorem eev_sset (dfl : List D) (call : CallF) {m a} : ev dfl call (.sset m a) = b1 (ev dfl call a) (ssetD m) := id rfl
theorem eev_lset (dfl : List D) (call : CallF) {a} : ev dfl call (.lset a) = b1 (ev dfl call a) lsetD := id rfl
theorem eev_cmp2 (dfl : List D) (call : CallF) {o p a b c} : ev dfl call (.cmp2 o p a b c) = bCh o p (ev dfl call a) (ev dfl call b) (ev dfl call c) := id rfl
theorem eevT_cmp2 (dfl : List D) (call : CallF) {o p a b c} : evT dfl call (.cmp2 o p a b c) = b1 (bCh o p (ev dfl call a) (ev dfl call b) (ev dfl call c)) truT := id rfl
theorem eevI_enum (dfl : List D) (call : CallF) {a} : evI dfl call (.enum a) = b1 (ev dfl call a) enI := id rfl
theorem eex_rais (dfl : List D) (call : CallF) (fu : Nat) : ex dfl call fu .rais = fun _ _ => none := id rfl
theorem W_bCh {o p : COp} {f g h : RF D} {env : Env} {st : Store} {Q : D → Store → Prop} : W (bCh o p f g h env st) Q = W (f env st) fun x s => W (g env s) fun y s2 => (match cop o x y s2 with
    | some c => (c = true → W (h env s2) fun z s3 => W (copV p y z s3) Q) ∧ (c = false → Q (.bl false) s2)
    | none => False) := by
  unfold bCh
  rcases f env st with _ | ⟨x, s1⟩
  · rfl
  · simp only [W_some]
    rcases g env s1 with _ | ⟨y, s2⟩
    · rfl
    · simp only [W_some]
      rcases cop o x y s2 with _ | c
      · rfl
      · cases c with
        | true =>
          simp only [forall_const, Bool.true_eq_false, false_imp_iff, and_true]
          rcases h env s2 with _ | ⟨z, s3⟩ <;> rfl
        | false => simp [W]
theorem eev_catM (dfl : List D) (call : CallF) {a b} : ev dfl call (.catM a b) = b2 (ev dfl call a) (ev dfl call b) catLM := id rfl
theorem eev_repL (dfl : List D) (call : CallF) {m es e} : ev dfl call (.repL m es e) = b2 (b1 (evs dfl call es) (lstD false)) (ev dfl call e) (repD m) := id rfl
theorem eev_ext (dfl : List D) (call : CallF) {o a} : ev dfl call (.ext o a) = b2 (b1 (ev dfl call o) asL) (ev dfl call a) extD := id rfl
theorem eev_pop (dfl : List D) (call : CallF) {o} : ev dfl call (.pop o) = b1 (b1 (ev dfl call o) asL) popD := id rfl
theorem eex_setII (dfl : List D) (call : CallF) (fu : Nat) {o i o2 i2 es} : ex dfl call fu (.setII o i o2 i2 es) = sSetII (b1 (evs dfl call es) tupD) (ev dfl call o) (ev dfl call i) (ev dfl call o2) (ev dfl call i2) := id rfl
theorem Z_sSetII {f o i o2 i2 : RF D} {env : Env} {st : Store} {q : SQ} : Z (sSetII f o i o2 i2 env st) q = W (f env st) fun d s1 => (match d with
    | .tup [x, y] => W (o env s1) fun a s2 => W (i env s2) fun k s3 => (match setD a k x s3 with
      | some s4 => W (o2 env s4) fun a2 s5 => W (i2 env s5) fun k2 s6 => (match setD a2 k2 y s6 with | some s7 => q.nx env s7 | none => False)
      | none => False)
    | _ => False) := by
  unfold sSetII
  rcases f env st with _ | ⟨d, s1⟩
  · rfl
  · simp only [W_some]
    split
    · rename_i x y s1 e
      cases e
      simp only
      unfold put1
      rcases o env s1 with _ | ⟨a, s2⟩
      · rfl
      · simp only [W_some]
        rcases i env s2 with _ | ⟨k, s3⟩
        · rfl
        · simp only [W_some]
          rcases setD a k x s3 with _ | s4
          · rfl
          · simp only
            rcases o2 env s4 with _ | ⟨a2, s5⟩
            · rfl
            · simp only [W_some]
              rcases i2 env s5 with _ | ⟨k2, s6⟩
              · rfl
              · simp only [W_some]
                rcases setD a2 k2 y s6 with _ | s7 <;> rfl
    · rename_i h
      split
      · rename_i x y
        exact absurd rfl (h x y s1)
      · rfl
theorem eevI_rvsd (dfl : List D) (call : CallF) {a} : evI dfl call (.rvsd a) = b1 (ev dfl call a) rvsI := id rfl
theorem eevI_zip (dfl : List D) (call : CallF) {a b} : evI dfl call (.zip a b) = b2 (ev dfl call a) (ev dfl call b) zipI := id rfl
theorem W_bSrtk {call : CallF} {f i j : Nat} {e : RF D} {env : Env} {st : Store} {Q : D → Store → Prop} : W (bSrtk call f i j e env st) Q = W (e env st) fun x s => (match inE env i, inE env j with
    | some p, some q => (match seqOf s x with
      | some xs => (match keysD call f p q xs with
        | some ks => Q (.lst (srtD xs ks)) s
        | none => False)
      | none => False)
    | _, _ => False) := by
  unfold bSrtk
  rcases e env st with _ | ⟨x, s1⟩
  · rfl
  · simp only [W_some]
    rcases inE env i with _ | p
    · rfl
    · rcases inE env j with _ | q
      · rfl
      · simp only
        rcases seqOf s1 x with _ | xs
        · rfl
        · simp only
          rcases keysD call f p q xs with _ | ks <;> rfl
section
variable {st : Store} {i j : Int} {x y : List D} {d : D}
theorem r_repD {m : Bool} : repD m (.lst x) (.int i) st = if 0 ≤ i ∧ i ≤ 1000 ∧ x.length ≤ 1000 then newL m (List.replicate i.toNat x).flatten st else none := id rfl
theorem p_ext {p : Nat} : extD (.ref p) d st = match st[p]? with
    | some (.lst ds) => (match seqOf st d with
      | some es => if ds.length + es.length ≤ SL then some (.non, st.set p (.lst (ds ++ es))) else none
      | none => none)
    | _ => none := id rfl
theorem p_pop {p : Nat} : popD (.ref p) st = match st[p]? with
    | some (.lst ds) => (match ds.getLast? with
      | some d => some (d, st.set p (.lst ds.dropLast))
      | none => none)
    | _ => none := id rfl
theorem c_isBB {a b : Bool} : cop .isN (.bl a) (.bl b) st = some (decide (a = b)) := id rfl
theorem c_ntBB {a b : Bool} : cop .notN (.bl a) (.bl b) st = some (!decide (a = b)) := id rfl
theorem o_addL : bop .add (.lst x) d st = catL (.lst x) d st := id rfl
theorem o_addR {p : Nat} : bop .add (.ref p) d st = catL (.ref p) d st := id rfl
theorem o_catL {e : D} : catL d e st = match lstOf st d with
    | some xs => (match lstOf st e with
      | some ys => if xs.length + ys.length ≤ SL then some (.lst (xs ++ ys), st) else none
      | none => none)
    | none => none := id rfl
theorem o_catLM {e : D} : catLM d e st = match lstOf st d with
    | some xs => (match lstOf st e with
      | some ys => if xs.length + ys.length ≤ SL then some (.ref st.length, st ++ [.lst (xs ++ ys)]) else none
      | none => none)
    | none => none := id rfl
theorem c_in : cop .in_ (.int i) d st = match seqOf st d with
    | some xs => (match intsD xs with | some ns => some (decide (i ∈ ns)) | none => inD (.int i) d st)
    | none => none := id rfl
theorem c_notin : cop .notin (.int i) d st = match seqOf st d with
    | some xs => (match intsD xs with | some ns => some (!decide (i ∈ ns)) | none => ninD (.int i) d st)
    | none => none := id rfl
theorem o_sset {m : Bool} : ssetD m d st = match intsS d st with
    | some ns => if (ddI ns).length < 64 ∧ ns.length ≤ 4000 then newL m ((usI ns).map D.int) st else none
    | none => none := id rfl
theorem o_lset : lsetD d st = match intsS d st with
    | some ns => if ns.length ≤ 4000 then some (.int (ddI ns).length, st) else none
    | none => none := id rfl
theorem i_ofS : intsS d st = match seqOf st d with
    | some xs => intsD xs
    | none => none := id rfl
/-- sorted of tuples -/
def sortTD (m : Bool) (d : D) (st : Store) : Option (D × Store) := match tupsOf d st with
  | some nss => if (∀ ns ∈ nss, ns ≠ []) ∨ nss.length < 2 then newL m ((srtT nss).map tupE) st else none
  | none => match keysOf d st with
    | some ks => newL m ((srtI ks).map D.int) st
    | none => none
theorem sortTD_di {m : Bool} {n : Nat} {kvs : List (Int × D)} (h : st[n]? = some (.dci kvs)) (hl : kvs.length ≤ SL) : sortTD m (.ref n) st = newL m ((srtI (kvs.map (·.1))).map D.int) st := by
  have e1 : tupsOf (.ref n) st = none := by
    unfold tupsOf lstOf
    simp only [h]
  have e2 : keysOf (.ref n) st = some (kvs.map (·.1)) := by
    unfold keysOf
    simp only [h, if_pos hl]
  unfold sortTD
  rw [e1, e2]
theorem b_sorted {m : Bool} : bltin (.sorted m) [d] st = match intsOf d st with
    | some ns => newL m ((srtI ns).map D.int) st
    | none => sortTD m d st := id rfl
theorem tups_map : ∀ nss : List (List Int), tupsD (nss.map tupE) = some nss
  | [] => rfl
  | n :: r => by
    have h : ∀ ns : List Int, intsD (ns.map D.int) = some ns := fun ns => by
      induction ns with
      | nil => rfl
      | cons n ns ih => simp only [List.map_cons, intsD, ih]
    simp only [List.map_cons, tupE, tupsD, h]
    rw [tups_map r]
theorem W_sortT {m : Bool} {nss : List (List Int)} {Q : D → Store → Prop} (h : lstOf st d = some (nss.map tupE)) (hne : ∀ ns ∈ nss, ns ≠ []) (k : W (newL m ((srtT nss).map tupE) st) Q) : W (bltin (.sorted m) [d] st) Q := by
  rw [b_sorted]
  unfold intsOf sortTD tupsOf
  rw [h]
  cases nss with
  | nil =>
    simp only [List.map_nil, intsD]
    have e1 : srtI [] = [] := by simp [srtI]
    have e2 : srtT [] = [] := by simp [srtT]
    rw [e1]
    rw [e2] at k
    exact k
  | cons n r =>
    have e : intsD ((n :: r).map tupE) = none := rfl
    simp only [e, tups_map]
    rw [if_pos (.inl hne)]
    exact k
theorem srtT_perm (nss : List (List Int)) : (srtT nss).Perm nss := List.mergeSort_perm nss _
theorem b_sum : bltin .sum [d] st = match intsOf d st with
    | some ns => some (.int ns.sum, st)
    | none => match lstOf st d with
      | some xs => match bls xs with | some bs => some (.int (cntT bs), st) | none => none
      | none => none := id rfl
theorem b_maxL : bltin .maxL [d] st = match intsOf d st with
    | some ns => (match maxI ns with | some m => some (.int m, st) | none => none)
    | none => none := id rfl
theorem b_minL : bltin .minL [d] st = match intsOf d st with
    | some ns => (match minI ns with | some m => some (.int m, st) | none => none)
    | none => none := id rfl
theorem i_of : intsOf d st = match lstOf st d with
    | some xs => intsD xs
    | none => none := id rfl
theorem g_rvT : rvsI (.tup x) st = some (.fix x.reverse, st) := id rfl
theorem g_rvL : rvsI (.lst x) st = some (.fix x.reverse, st) := id rfl
theorem g_enL : enI (.lst x) st = some (.fix (enumD x), st) := id rfl
theorem g_enT : enI (.tup x) st = some (.fix (enumD x), st) := id rfl
theorem g_zipT : zipI (.tup x) (.tup y) st = some (.fix (zipD x y), st) := id rfl
theorem g_zipR {n k : Nat} : zipI (.ref n) (.ref k) st = match st[n]? with
    | some (.lst xs) => (match st[k]? with | some (.lst ys) => some (.zlive n k (zipD xs ys).length, st) | _ => none)
    | _ => none := id rfl
theorem g_zipL : zipI (.lst x) (.lst y) st = some (.fix (zipD x y), st) := id rfl
theorem c_isNI : cop .isN (.int i) .non st = some false := id rfl
theorem c_isNN : cop .isN .non .non st = some true := id rfl
theorem c_isNT : cop .isN (.tup x) .non st = some false := id rfl
theorem c_isNL : cop .isN (.lst x) .non st = some false := id rfl
theorem c_ntNI : cop .notN (.int i) .non st = some true := id rfl
theorem c_ntNN : cop .notN .non .non st = some false := id rfl
theorem c_ntNT : cop .notN (.tup x) .non st = some true := id rfl
theorem c_ntNL : cop .notN (.lst x) .non st = some true := id rfl
theorem ints_map : ∀ ns : List Int, intsD (ns.map D.int) = some ns
  | [] => rfl
  | n :: ns => by simp only [List.map_cons, intsD, ints_map ns]
end
def D.plain : D → Bool
  | .tup _ => true
  | .lst _ => true
  | .non => true
  | _ => false
theorem cop_same {d : D} {st : Store} (hp : d.plain = true) (h : d.sm = true) (hd : d.dep ≤ 64) : cop .eq d d st = some true ∧ cop .ne d d st = some false := by
  obtain ⟨x, e, -⟩ := D.sm_py d h
  have hs := shp_sm h hd e
  have hr := SeqAt.eqv_refl x (D.sm_lay _ _ h e).1
  have key : (match ((d).see st).py, ((d).see st).py with
      | some x, some y => if SeqAt.shaped x = true ∧ SeqAt.shaped y = true then some (PyData.eqv x y) else none
      | _, _ => none) = some true ∧ (match ((d).see st).py, ((d).see st).py with
      | some x, some y => if SeqAt.shaped x = true ∧ SeqAt.shaped y = true then some (!PyData.eqv x y) else none
      | _, _ => none) = some false := by
    have e' : (d.see st).py = some x := by cases d <;> first | exact e | cases hp
    rw [e']
    simp only
    rw [if_pos ⟨hs, hs⟩, if_pos ⟨hs, hs⟩, hr]
    exact ⟨rfl, rfl⟩
  cases d <;> first | exact key | cases hp
theorem neT_nil {ds : List D} {st : Store} (h : D.smL ds = true) (hd : D.depL ds ≤ 60) : cop .ne (.tup ds) (.tup []) st = some (!ds.isEmpty) := by
  have h' : (D.tup ds).sm = true := by simpa only [D.sm] using h
  have hd' : (D.tup ds).dep ≤ 64 := by simp only [D.dep]; omega
  obtain ⟨x, e, -⟩ := D.sm_py (.tup ds) h'
  have e2 : (D.tup []).py = some (.tuple []) := rfl
  show (match ((D.tup ds).see st).py, ((D.tup []).see st).py with
      | some x, some y => if SeqAt.shaped x = true ∧ SeqAt.shaped y = true then some (!PyData.eqv x y) else none
      | _, _ => none) = some (!ds.isEmpty)
  have e' : ((D.tup ds).see st).py = some x := e
  have e2' : ((D.tup []).see st).py = some (.tuple []) := e2
  rw [e', e2']
  simp only
  rw [if_pos ⟨shp_sm h' hd' e, by decide⟩]
  congr 2
  unfold D.py at e
  cases ds with
  | nil => cases e; rfl
  | cons d ds =>
    split at e
    · rename_i xs hx
      cases e
      unfold D.pyL at hx
      split at hx
      · split at hx
        · cases hx; rfl
        · cases hx
      · cases hx
    · cases e
theorem at_last {x : List D} (h : x ≠ []) : atD x (-1) = x.getLast? := by
  have hl : 0 < x.length := List.length_pos_iff.mpr h
  unfold atD ixOf
  rw [if_neg (by decide), if_pos (by omega), List.getLast?_eq_getElem?]
  simp only
  congr 1
  omega
/-- the first so many statements are looked at by themselves -/
theorem Z_cut1 {a t : SF} {env : Env} {st : Store} {q : SQ} (P : Env → Store → Prop) (h : Z (a env st) { q with nx := P }) (k : ∀ e s, P e s → Z (t e s) q) : Z (sSeq a t env st) q := by
  rw [Z_sSeq]
  exact h.mono k (fun _ _ h => h) (fun _ _ h => h) (fun _ _ h => h)
theorem eev_popI (dfl : List D) (call : CallF) {o a} : ev dfl call (.popI o a) = b2 (b1 (ev dfl call o) asL) (ev dfl call a) popID := id rfl
theorem eev_rem (dfl : List D) (call : CallF) {o a} : ev dfl call (.rem o a) = b2 (b1 (ev dfl call o) asL) (ev dfl call a) remD := id rfl
theorem eev_cnt (dfl : List D) (call : CallF) {o a} : ev dfl call (.cnt o a) = b2 (b1 (ev dfl call o) asL2) (ev dfl call a) cntD := id rfl
section
variable {st : Store} {i : Int} {p : Nat} {d : D} {x : List D}
theorem p_popI : popID (.ref p) (.int i) st = match st[p]? with
    | some (.lst ds) => (match ixOf ds.length i with
      | some j => (match ds[j]? with
        | some d => if -(2 ^ 62) ≤ i ∧ i < 2 ^ 62 then some (d, st.set p (.lst (ds.eraseIdx j))) else none
        | none => none)
      | none => none)
    | _ => none := id rfl
theorem p_rem : remD (.ref p) (.int i) st = match st[p]? with
    | some (.lst ds) => (match intsD ds with
      | some ns => if i ∈ ns then some (.non, st.set p (.lst ((ns.erase i).map D.int))) else none
      | none => none)
    | _ => none := id rfl
theorem p_asL2 : asL2 d st = match lstOf st d with | some _ => some (d, st) | none => none := id rfl
theorem p_cnt : cntD d (.int i) st = match intsOf d st with | some ns => some (.int (ns.count i : Nat), st) | none => none := id rfl
end
/-! ### dicts -/
theorem eev_dnew (dfl : List D) (call : CallF) {t} : ev dfl call (.dnew t) = b1 (fun _ st => some ([], st)) (dnewD t) := id rfl
theorem eev_dget (dfl : List D) (call : CallF) {one a ks} : ev dfl call (.dget one a ks) = b2 (ev dfl call a) (b1 (evs dfl call ks) (keyD one)) dgetD := id rfl
theorem eev_dgetE (dfl : List D) (call : CallF) {one a ks e} : ev dfl call (.dgetE one a ks e) = b3 (b1 (ev dfl call a) asDc) (b1 (evs dfl call ks) (keyD one)) (ev dfl call e) dgetE := id rfl
theorem eev_din (dfl : List D) (call : CallF) {neg one ks a} : ev dfl call (.din neg one ks a) = b2 (b1 (evs dfl call ks) (keyD one)) (ev dfl call a) (dinV neg) := id rfl
theorem eevT_din (dfl : List D) (call : CallF) {neg one ks a} : evT dfl call (.din neg one ks a) = b2 (b1 (evs dfl call ks) (keyD one)) (ev dfl call a) (dinT neg) := id rfl
theorem eev_dlen (dfl : List D) (call : CallF) {a} : ev dfl call (.dlen a) = b1 (ev dfl call a) dlenD := id rfl
theorem eev_dcmp (dfl : List D) (call : CallF) {k v tg it c own} : ev dfl call (.dcmp k v tg it c own) = b1 (bLc false (b2 (ev dfl call k) (ev dfl call v) pairD) tg (evI dfl call it) (evT dfl call c) (own.map (·.2))) todD := id rfl
theorem eex_dput (dfl : List D) (call : CallF) (fu : Nat) {one o ks e} : ex dfl call fu (.dput one o ks e) = sPutD (ev dfl call e) (ev dfl call o) (b1 (evs dfl call ks) (keyD one)) := id rfl
theorem Z_sPutD {f o : RF D} {i : RF DK} {env : Env} {st : Store} {q : SQ} : Z (sPutD f o i env st) q = W (f env st) fun d s1 => W (o env s1) fun x s2 => W (i env s2) fun k s3 => match dputD x k d s3 with | some s4 => q.nx env s4 | none => False := by
  unfold sPutD
  rcases f env st with _ | ⟨d, s1⟩
  · rfl
  · simp only [W_some]
    rcases o env s1 with _ | ⟨x, s2⟩
    · rfl
    · simp only [W_some]
      rcases i env s2 with _ | ⟨k, s3⟩
      · rfl
      · simp only [W_some]
        rcases dputD x k d s3 with _ | s4 <;> rfl
section
variable {st : Store} {k i j l : Int} {ks : List Int} {ds : List D} {d e : D} {p : Nat} {neg : Bool}
theorem d_nil {env : Env} {Q : List D → Store → Prop} : W ((fun (_ : Env) (st : Store) => some (([] : List D), st)) env st) Q = Q [] st := id rfl
theorem k_one : keyD true [.int k] st = some (.i k, st) := id rfl
theorem k_two : keyD false [.int i, .int j] st = some (.t [i, j], st) := id rfl
theorem k_three : keyD false [.int i, .int j, .int l] st = some (.t [i, j, l], st) := id rfl
theorem p_dgetI : dgetD (.ref p) (.i k) st = match st[p]? with
    | some (.dci kvs) => (match lookA kvs k with | some d => some (d, st) | none => none)
    | _ => none := by
  unfold dgetD dgetO
  simp only
  rcases st[p]? with _ | o
  · rfl
  · cases o with
    | lst _ => rfl
    | dct _ => rfl
    | dci kvs =>
      simp only
      cases lookA kvs k <;> rfl
theorem p_dgetT : dgetD (.ref p) (.t ks) st = match st[p]? with
    | some (.dct kvs) => (match lookA kvs ks with | some d => some (d, st) | none => none)
    | _ => none := by
  unfold dgetD dgetO
  simp only
  rcases st[p]? with _ | o
  · rfl
  · cases o with
    | lst _ => rfl
    | dci _ => rfl
    | dct kvs =>
      simp only
      cases lookA kvs ks <;> rfl
theorem p_asDc : asDc (.ref p) st = match st[p]? with
    | some (.dci _) => some (.ref p, st)
    | some (.dct _) => some (.ref p, st)
    | _ => none := id rfl
theorem p_dgetEI : dgetE (.ref p) (.i k) e st = match st[p]? with
    | some (.dci kvs) => some ((lookA kvs k).getD e, st)
    | _ => none := by
  unfold dgetE dgetO
  simp only
  rcases st[p]? with _ | o
  · rfl
  · cases o <;> rfl
theorem p_dgetET : dgetE (.ref p) (.t ks) e st = match st[p]? with
    | some (.dct kvs) => some ((lookA kvs ks).getD e, st)
    | _ => none := by
  unfold dgetE dgetO
  simp only
  rcases st[p]? with _ | o
  · rfl
  · cases o <;> rfl
theorem p_dinTI : dinT neg (.i k) (.ref p) st = match st[p]? with
    | some (.dci kvs) => some (if neg then !(lookA kvs k).isSome else (lookA kvs k).isSome, st)
    | _ => none := by
  unfold dinT dgetO
  simp only
  rcases st[p]? with _ | o
  · rfl
  · cases o <;> rfl
theorem p_dinTT : dinT neg (.t ks) (.ref p) st = match st[p]? with
    | some (.dct kvs) => some (if neg then !(lookA kvs ks).isSome else (lookA kvs ks).isSome, st)
    | _ => none := by
  unfold dinT dgetO
  simp only
  rcases st[p]? with _ | o
  · rfl
  · cases o <;> rfl
theorem p_dinVI : dinV neg (.i k) (.ref p) st = match st[p]? with
    | some (.dci kvs) => some (.bl (if neg then !(lookA kvs k).isSome else (lookA kvs k).isSome), st)
    | _ => none := by
  unfold dinV dgetO
  simp only
  rcases st[p]? with _ | o
  · rfl
  · cases o <;> rfl
theorem p_dinVT : dinV neg (.t ks) (.ref p) st = match st[p]? with
    | some (.dct kvs) => some (.bl (if neg then !(lookA kvs ks).isSome else (lookA kvs ks).isSome), st)
    | _ => none := by
  unfold dinV dgetO
  simp only
  rcases st[p]? with _ | o
  · rfl
  · cases o <;> rfl
theorem p_dputI : dputD (.ref p) (.i k) e st = match st[p]? with
    | some (.dci kvs) => if kvs.length < SL then some (st.set p (.dci (putA kvs k e))) else none
    | _ => none := by
  unfold dputD
  simp only
  rcases st[p]? with _ | o
  · rfl
  · cases o <;> rfl
theorem p_dputT : dputD (.ref p) (.t ks) e st = match st[p]? with
    | some (.dct kvs) => if kvs.length < SL then some (st.set p (.dct (putA kvs ks e))) else none
    | _ => none := by
  unfold dputD
  simp only
  rcases st[p]? with _ | o
  · rfl
  · cases o <;> rfl
theorem p_dlen : dlenD (.ref p) st = match st[p]? with
    | some (.dci kvs) => some (.int kvs.length, st)
    | _ => none := id rfl
theorem p_dnewI : dnewD false ds st = some (.ref st.length, st ++ [.dci []]) := id rfl
theorem p_dnewT : dnewD true ds st = some (.ref st.length, st ++ [.dct []]) := id rfl
theorem o_pairD : pairD (.int k) d st = some (.tup [.int k, d], st) := id rfl
theorem o_todD : todD (.lst ds) st = match pairsI ds with
    | some kvs => some (.ref st.length, st ++ [.dci (putAll [] kvs)])
    | none => none := id rfl
end
section
variable {κ : Type} [DecidableEq κ]
theorem lookA_map (k j : κ) (y : D) : ∀ kvs : List (κ × D), lookA (kvs.map fun kv => if kv.1 = k then (kv.1, y) else kv) j = (lookA kvs j).map fun x => if j = k then y else x
  | [] => rfl
  | p :: r => by
    have ih := lookA_map k j y r
    rw [List.map_cons]
    by_cases h : p.1 = k
    · rw [if_pos h]
      by_cases e : p.1 = j
      · rw [lookA_pos (p := (p.1, y)) e, lookA_pos e, Option.map_some, if_pos (e.symm.trans h)]
      · rw [lookA_neg (p := (p.1, y)) e, lookA_neg e, ih]
    · rw [if_neg h]
      by_cases e : p.1 = j
      · rw [lookA_pos (p := p) e, lookA_pos e, Option.map_some, if_neg (fun z => h (e.trans z))]
      · rw [lookA_neg (p := p) e, lookA_neg e, ih]
theorem lookA_any (k : κ) : ∀ kvs : List (κ × D), (kvs.any fun kv => decide (kv.1 = k)) = (lookA kvs k).isSome
  | [] => rfl
  | p :: r => by
    rw [List.any_cons]
    by_cases e : p.1 = k
    · simp only [lookA_pos e, decide_eq_true e, Bool.true_or, Option.isSome_some]
    · rw [lookA_neg e, decide_eq_false e, Bool.false_or]; exact lookA_any k r
theorem lookA_snoc (k j : κ) (y : D) : ∀ kvs : List (κ × D), lookA kvs k = none → lookA (kvs ++ [(k, y)]) j = if j = k then some y else lookA kvs j
  | [], _ => by
    by_cases e : k = j
    · rw [if_pos e.symm]; exact lookA_pos (p := (k, y)) e
    · rw [if_neg (fun z => e z.symm)]; exact lookA_neg (p := (k, y)) e
  | p :: r, hn => by
    rw [List.cons_append]
    have hk : ¬ p.1 = k := fun z => by rw [lookA_pos z] at hn; cases hn
    rw [lookA_neg hk] at hn
    have ih := lookA_snoc k j y r hn
    by_cases e : p.1 = j
    · rw [lookA_pos e, lookA_pos e, if_neg (fun z => hk (e.trans z))]
    · rw [lookA_neg e, lookA_neg e, ih]
theorem lookA_put (kvs : List (κ × D)) (k j : κ) (y : D) : lookA (putA kvs k y) j = if j = k then some y else lookA kvs j := by
  unfold putA
  by_cases a : (kvs.any fun kv => decide (kv.1 = k)) = true
  · rw [if_pos a, lookA_map]
    rw [lookA_any] at a
    by_cases e : j = k
    · obtain ⟨x, hx⟩ := Option.isSome_iff_exists.mp a
      rw [if_pos e, e, hx, Option.map_some, if_pos rfl]
    · rw [if_neg e]
      cases lookA kvs j with
      | none => rfl
      | some x => rw [Option.map_some, if_neg e]
  · rw [if_neg a]
    refine lookA_snoc k j y kvs ?_
    rw [lookA_any] at a
    cases q : lookA kvs k with
    | none => rfl
    | some x => rw [q] at a; exact (a rfl).elim
theorem putA_new {kvs : List (κ × D)} {k : κ} (d : D) (h : lookA kvs k = none) : putA kvs k d = kvs ++ [(k, d)] := by
  unfold putA
  rw [lookA_any, h]
  exact if_neg (by decide)
end

end B
/-! P2: facts of numbers, bits and rings; no program in sight. -/
namespace B
open PySem PyProof.Rows L2
def PotAt (st : Store) (p : Nat) (T : Int) : Prop := StOk st ∧ ∃ a b c : Int, st[p]? = some (.lst [.int a, .int b, .int c]) ∧ 0 ≤ a ∧ 0 ≤ b ∧ b < 4611686018427387904 ∧ 0 ≤ c ∧ c ≤ T
def Pt (p : Nat) (T : Int) (st st' : Store) : Prop := ∃ o, st' = st.set p o ∧ PotAt st' p T
theorem PotAt.mono {st : Store} {p : Nat} {T U : Int} (h : PotAt st p T) (l : T ≤ U) : PotAt st p U := by
  obtain ⟨ho, a, b, c, hp, ha, hb, hb2, hc, hcT⟩ := h
  exact ⟨ho, a, b, c, hp, ha, hb, hb2, hc, by omega⟩
theorem Pt.trans {p : Nat} {T U : Int} {s1 s2 s3 : Store} (h : Pt p T s1 s2) (q : Pt p U s2 s3) : Pt p U s1 s3 := by
  obtain ⟨o, rfl, _⟩ := h
  obtain ⟨o2, rfl, h2⟩ := q
  exact ⟨o2, by rw [List.set_set], h2⟩
theorem Pt.at {p : Nat} {T : Int} {s1 s2 : Store} (h : Pt p T s1 s2) : PotAt s2 p T := by
  obtain ⟨o, rfl, h⟩ := h
  exact h
theorem Pt.mono {p : Nat} {T U : Int} {s1 s2 : Store} (h : Pt p T s1 s2) (l : T ≤ U) : Pt p U s1 s2 := by
  obtain ⟨o, e, h⟩ := h
  exact ⟨o, e, h.mono l⟩
theorem Pt.len {p : Nat} {T : Int} {s1 s2 : Store} (h : Pt p T s1 s2) : s2.length = s1.length := by
  obtain ⟨o, rfl, h⟩ := h
  exact List.length_set ..
theorem Pt.ne {p q : Nat} {T : Int} {s1 s2 : Store} (h : Pt p T s1 s2) (hn : p ≠ q) : s2[q]? = s1[q]? := by
  obtain ⟨o, rfl, h⟩ := h
  exact List.getElem?_set_ne hn
theorem PotAt.lt {st : Store} {p : Nat} {T : Int} (h : PotAt st p T) : p < st.length := by
  obtain ⟨_, a, b, c, hp, _⟩ := h
  exact (List.getElem?_eq_some_iff.mp hp).1
theorem fm_nn {a s : Int} (h : 0 < s) : 0 ≤ a.fmod s := Int.fmod_nonneg_of_pos a h
theorem fm_lt {a s : Int} (h : 0 < s) : a.fmod s < s := Int.fmod_lt_of_pos a h
theorem fd_nn {a s : Int} (h0 : 0 ≤ a) (h : 0 < s) : 0 ≤ a.fdiv s := by
  rw [Int.fdiv_eq_ediv_of_nonneg _ (Int.le_of_lt h)]
  exact Int.ediv_nonneg h0 (Int.le_of_lt h)
theorem set_self {st : Store} {p : Nat} {o : O} (h : p < st.length) : (st.set p o)[p]? = some o := List.getElem?_set_self h
theorem pow_pos' (n : Nat) : (0 : Int) < 2 ^ n := Int.pow_pos (by decide)
theorem or_lt {x y : Int} {n : Nat} (hx : 0 ≤ x ∧ x < 2 ^ n) (hy : 0 ≤ y ∧ y < 2 ^ n) : 0 ≤ Builtin.bitOr x y ∧ Builtin.bitOr x y < 2 ^ n := by
  obtain ⟨a, rfl⟩ := Int.eq_ofNat_of_zero_le hx.1
  obtain ⟨b, rfl⟩ := Int.eq_ofNat_of_zero_le hy.1
  rw [bitOr_nn hx.1 hy.1]
  have e : ((2 ^ n : Nat) : Int) = (2 : Int) ^ n := by push_cast; rfl
  have h1 : a < 2 ^ n := by have := hx.2; rw [← e] at this; exact Int.ofNat_lt.mp this
  have h2 : b < 2 ^ n := by have := hy.2; rw [← e] at this; exact Int.ofNat_lt.mp this
  refine ⟨Int.natCast_nonneg _, ?_⟩
  rw [← e]
  exact Int.ofNat_lt.mpr (Nat.or_lt_two_pow h1 h2)
theorem pw_lt {t n : Nat} (h : t < n) : (0 : Int) ≤ 2 ^ t ∧ (2 : Int) ^ t < 2 ^ n := ⟨Int.le_of_lt (pow_pos' t), by
  have := Nat.pow_lt_pow_right (a := 2) (by decide) h
  have e : ∀ n : Nat, ((2 ^ n : Nat) : Int) = (2 : Int) ^ n := fun n => by push_cast; rfl
  rw [← e, ← e]
  exact Int.ofNat_lt.mpr this⟩
abbrev nD (n : Nat) : D := .int (n : Int)
def ones (h k : Nat) : List Nat := (List.range k).filter fun i => h.testBit i
theorem ones_succ (h k : Nat) : ones h (k + 1) = ones h k ++ if h.testBit k then [k] else [] := by
  unfold ones
  rw [List.range_succ, List.filter_append]
  congr 1
  by_cases e : h.testBit k = true <;> simp [e]
theorem ones_stop {h k : Nat} (hk : h < 2 ^ k) : ∀ m : Nat, ones h (k + m) = ones h k
  | 0 => rfl
  | m + 1 => by
    have e : h.testBit (k + m) = false := Nat.testBit_lt_two_pow (Nat.lt_of_lt_of_le hk (Nat.pow_le_pow_right (by decide) (by omega)))
    rw [← Nat.add_assoc, ones_succ, e, ones_stop hk m]
    simp
theorem ones_mem {h k i : Nat} : i ∈ ones h k ↔ i < k ∧ h.testBit i = true := by
  unfold ones
  rw [List.mem_filter, List.mem_range]
theorem ones_len (h k : Nat) : (ones h k).length ≤ k := by
  unfold ones
  exact Nat.le_trans (List.length_filter_le _ _) (by rw [List.length_range]; exact Nat.le_refl _)
theorem loL_nD (n : Nat) : ∀ ps : List Nat, D.loL n (ps.map nD) = true
  | [] => rfl
  | p :: ps => by simp only [List.map_cons, D.loL, D.lo, loL_nD n ps, Bool.and_self]
theorem div_cast (h k : Nat) : ((h : Int) / 2 ^ k) = ((h / 2 ^ k : Nat) : Int) := by push_cast; rfl
theorem fdiv2_cast (h k : Nat) : ((h / 2 ^ k : Nat) : Int).fdiv 2 = ((h / 2 ^ (k + 1) : Nat) : Int) := by
  rw [Int.fdiv_eq_ediv_of_nonneg _ (by decide), Nat.pow_succ, ← Nat.div_div_eq_div_mul]
  rfl
theorem fmod2_cast (h k : Nat) : (((h / 2 ^ k : Nat) : Int).fmod 2 = 1) ↔ h.testBit k = true := by
  rw [Int.fmod_eq_emod_of_nonneg _ (by decide), Nat.testBit_eq_decide_div_mod_eq, decide_eq_true_eq]
  omega
theorem app_last {st : Store} {n : Nat} {o : O} (h : st.length = n) : (st ++ [o])[n]? = some o := by
  subst h
  rw [List.getElem?_append_right (Nat.le_refl _), Nat.sub_self]; rfl
theorem app_set {st : Store} {n : Nat} {o o2 : O} (h : st.length = n) : (st ++ [o]).set n o2 = st ++ [o2] := by
  subst h
  rw [List.set_append_right _ _ (Nat.le_refl _), Nat.sub_self]; rfl
theorem app_take {st : Store} {n : Nat} {o : O} (h : st.length = n) : (st ++ [o]).take n = st := by
  subst h
  rw [List.take_append_of_le_length (Nat.le_refl _), List.take_length]
theorem map_ones (h k : Nat) (b : Bool) (hb : h.testBit k = b) : (ones h (k + 1)).map nD = (ones h k).map nD ++ if b then [nD k] else [] := by
  rw [ones_succ, hb]
  cases b <;> simp
theorem nz_of {z : Nat} (h : ¬ 0 < (z : Int)) : z = 0 := by omega
def orL (ps : List Nat) : Nat := ps.foldl (fun a k => a ||| 2 ^ k) 0
theorem orL_bit (i : Nat) : ∀ (ps : List Nat) (a : Nat), (ps.foldl (fun a k => a ||| 2 ^ k) a).testBit i = (a.testBit i || decide (i ∈ ps))
  | [], a => by simp
  | p :: ps, a => by
    rw [List.foldl_cons, orL_bit i ps]
    simp only [Nat.testBit_or, Nat.testBit_two_pow, List.mem_cons]
    by_cases e : i = p
    · simp [e]
    · have e' : ¬ p = i := fun z => e z.symm
      simp [e, e']
theorem orL_ones {h : Nat} {ps : List Nat} (hh : h < 2 ^ 60) (e : ∀ i, i ∈ ps ↔ i ∈ ones h 61) : orL ps = h := by
  apply Nat.eq_of_testBit_eq
  intro i
  unfold orL
  rw [orL_bit]
  simp only [Nat.zero_testBit, Bool.false_or]
  cases hb : h.testBit i with
  | true =>
    refine decide_eq_true ((e i).mpr (ones_mem.mpr ⟨?_, hb⟩))
    apply Classical.byContradiction
    intro hc
    have := Nat.testBit_lt_two_pow (x := h) (i := i) (Nat.lt_of_lt_of_le hh (Nat.pow_le_pow_right (by decide) (by omega)))
    rw [this] at hb
    cases hb
  | false =>
    refine decide_eq_false fun hm => ?_
    have := (ones_mem.mp ((e i).mp hm)).2
    rw [hb] at this
    cases this
theorem PotAt.app {st : Store} {p : Nat} {T : Int} {ds : List D} (h : PotAt st p T) (q : D.loL 0 ds = true) : PotAt (st ++ [.lst ds]) p T := by
  have hl := h.lt
  obtain ⟨ho, a, b, c, hp, r⟩ := h
  exact ⟨ho.app q, a, b, c, by rw [List.getElem?_append_left hl]; exact hp, r⟩
theorem Pt.unapp {st s' : Store} {p : Nat} {T : Int} {o : O} (hl : p < st.length) (h : Pt p T (st ++ [o]) s') : ∃ s0, s' = s0 ++ [o] ∧ Pt p T st s0 := by
  obtain ⟨x, rfl, h⟩ := h
  rw [List.set_append_left _ _ hl] at h ⊢
  refine ⟨_, rfl, x, rfl, ?_⟩
  obtain ⟨ho, a, b, c, hp, r⟩ := h
  refine ⟨fun o h => ho o (List.mem_append_left _ h), a, b, c, ?_, r⟩
  rwa [List.getElem?_append_left (by simpa using hl)] at hp
theorem clip_none (n d : Nat) : clip n d none = d := rfl
theorem clip_int {n d : Nat} {v : Int} (h : 0 ≤ v) : clip n d (some v) = min v.toNat n := by
  unfold clip
  simp only
  rw [if_neg (by omega)]
  omega
theorem cut_to {ps : List Nat} {k : Nat} : cutD (ps.map nD) none (some (k : Int)) = (ps.take k).map nD := by
  unfold cutD
  rw [clip_none, clip_int (by omega), List.drop_zero, Nat.sub_zero, List.length_map, Int.toNat_natCast, ← List.map_take]
  congr 1
  exact (List.take_eq_take_min ..).symm
theorem insAt_map {qs : List Nat} {j : Int} {x : Nat} : insAt (qs.map nD) j (nD x) = (qs.take j.toNat ++ [x] ++ qs.drop j.toNat).map nD := by
  unfold insAt
  simp only [List.map_append, List.map_take, List.map_drop, List.map_cons, List.map_nil]
theorem sm_nD : ∀ {ps : List Nat}, (∀ p ∈ ps, p < 2 ^ 100) → D.smL (ps.map nD) = true
  | [], _ => rfl
  | p :: ps, h => by
    simp only [List.map_cons, D.smL, D.sm, Bool.and_eq_true, decide_eq_true_eq]
    exact ⟨by have := h p (List.mem_cons_self ..); omega, sm_nD fun q hq => h q (List.mem_cons_of_mem _ hq)⟩
theorem cnt_nD : ∀ ps : List Nat, D.cntL (ps.map nD) = ps.length
  | [] => rfl
  | p :: ps => by simp only [List.map_cons, D.cntL, D.cnt, cnt_nD ps, List.length_cons]; omega
theorem dep_nD : ∀ ps : List Nat, D.depL (ps.map nD) = 0
  | [] => rfl
  | p :: ps => by simp only [List.map_cons, D.depL, D.dep, dep_nD ps]; rfl
theorem repr_T {ps : List Nat} {st : Store} {Q : D → Store → Prop} (hp : ∀ p ∈ ps, p < 2 ^ 100) (hl : ps.length ≤ 3000) (h : Q (.str (D.tup (ps.map nD)).shw) st) : W (bltin .repr [.tup (ps.map nD)] st) Q :=
  W_repr (e := .tup (ps.map nD)) rfl (by simpa only [D.sm] using sm_nD hp) (by simp only [D.dep, dep_nD]; decide) (by simp only [D.cnt, cnt_nD]; omega) h
theorem repr_N {p : Nat} {st : Store} {Q : D → Store → Prop} (hp : p < 2 ^ 100) (h : Q (.str (nD p).shw) st) : W (bltin .repr [nD p] st) Q :=
  W_repr (e := nD p) rfl (by simp only [D.sm]; exact decide_eq_true (by omega)) (by simp [D.dep]) (by simp [D.cnt]) h
theorem ones_sm (h : Nat) : ∀ p ∈ ones h 61, p < 2 ^ 100 := fun p hp => Nat.lt_trans (ones_mem.mp hp).1 (by decide)
/-! ### rings -/
theorem srt_map {xs ys : List Nat} {key : Nat → Int} (hp : ys.Perm xs) (ho : ys.Pairwise fun a b => key a < key b) (hi : ∀ p ∈ xs, ∀ q ∈ xs, key p = key q → p = q) : srtD (xs.map nD) (xs.map key) = ys.map nD := by
  unfold srtD
  have ez : (xs.map nD).zip (xs.map key) = xs.map fun p => (nD p, key p) := by
    induction xs with
    | nil => rfl
    | cons x xs ih => simp only [List.map_cons, List.zip_cons_cons, List.cons.injEq, true_and]; exact (List.zip_map' ..)
  rw [ez]
  have e : ((xs.map fun p => (nD p, key p)).mergeSort fun a b => decide (a.2 ≤ b.2)) = ys.map fun p => (nD p, key p) := by
    have hP : ((xs.map fun p => (nD p, key p)).mergeSort fun a b => decide (a.2 ≤ b.2)).Perm (ys.map fun p => (nD p, key p)) := (List.mergeSort_perm _ _).trans (hp.symm.map _)
    refine List.Perm.eq_of_pairwise (le := fun a b => a.2 ≤ b.2) (fun a b ha hb h1 h2 => ?_) ?_ ?_ hP
    · have ha' := (List.mergeSort_perm _ _).mem_iff.mp ha
      have hb' := hb
      obtain ⟨p, hp1, rfl⟩ := List.mem_map.mp ha'
      obtain ⟨q, hq1, rfl⟩ := List.mem_map.mp hb'
      have := hi p hp1 q (hp.mem_iff.mp hq1) (Int.le_antisymm h1 h2)
      rw [this]
    · refine List.Pairwise.imp (fun h => of_decide_eq_true h) (List.pairwise_mergeSort (fun a b c h1 h2 => ?_) (fun a b => ?_) _)
      · simp only [decide_eq_true_eq] at h1 h2 ⊢
        omega
      · simp only [Bool.or_eq_true, decide_eq_true_eq]
        omega
    · rw [List.pairwise_map]
      exact ho.imp fun h => Int.le_of_lt h
  rw [e, List.map_map]
  rfl
/-- the ones of h from j round -/
def ring (q h j : Nat) : List Nat := ((List.range q).map fun i => (j + i) % q).filter fun k => h.testBit k
def akey (q j : Nat) (k : Nat) : Int := ((k : Int) - (j : Int)).fmod (q : Int)
theorem akey_at {q j i : Nat} (hj : j < q) (hi : i < q) : akey q j ((j + i) % q) = (i : Int) := by
  unfold akey
  rw [Int.fmod_eq_emod_of_nonneg _ (by omega)]
  have hq : (0 : Int) < q := by omega
  by_cases h : j + i < q
  · rw [Nat.mod_eq_of_lt h]
    have e : ((j + i : Nat) : Int) - (j : Int) = i := by omega
    rw [e]
    exact Int.emod_eq_of_lt (by omega) (by omega)
  · have e : (j + i) % q = j + i - q := by rw [Nat.mod_eq_sub_mod (by omega), Nat.mod_eq_of_lt (by omega)]
    rw [e]
    have e2 : ((j + i - q : Nat) : Int) - (j : Int) = (i : Int) + (q : Int) * (-1) := by omega
    rw [e2, Int.add_mul_emod_self_left]
    exact Int.emod_eq_of_lt (by omega) (by omega)
theorem at_akey {q j k : Nat} (hj : j < q) (hk : k < q) : ∃ i, i < q ∧ (j + i) % q = k ∧ akey q j k = (i : Int) := by
  by_cases h : j ≤ k
  · have e : (j + (k - j)) % q = k := by rw [Nat.add_sub_cancel' h, Nat.mod_eq_of_lt hk]
    exact ⟨k - j, by omega, e, by have := akey_at hj (i := k - j) (by omega); rwa [e] at this⟩
  · have e : (j + (k + q - j)) % q = k := by
      have : j + (k + q - j) = k + q := by omega
      rw [this, Nat.add_mod_right, Nat.mod_eq_of_lt hk]
    exact ⟨k + q - j, by omega, e, by have := akey_at hj (i := k + q - j) (by omega); rwa [e] at this⟩
theorem ring_mem {q h j k : Nat} (hj : j < q) : k ∈ ring q h j ↔ k < q ∧ h.testBit k = true := by
  unfold ring
  rw [List.mem_filter, List.mem_map]
  constructor
  · rintro ⟨⟨i, hi, rfl⟩, hb⟩
    exact ⟨Nat.mod_lt _ (by omega), hb⟩
  · rintro ⟨hk, hb⟩
    obtain ⟨i, hi, e, _⟩ := at_akey hj hk
    exact ⟨⟨i, List.mem_range.mpr hi, e⟩, hb⟩
theorem ring_pw {q h j : Nat} (hj : j < q) : (ring q h j).Pairwise fun a b => akey q j a < akey q j b := by
  unfold ring
  refine List.Pairwise.filter _ ?_
  rw [List.pairwise_map]
  refine List.Pairwise.imp_of_mem (fun ha hb h => ?_) List.pairwise_lt_range
  rw [akey_at hj (List.mem_range.mp ha), akey_at hj (List.mem_range.mp hb)]
  omega
theorem ones_nd (h k : Nat) : (ones h k).Nodup := by
  unfold ones
  exact List.Pairwise.filter _ List.nodup_range
theorem ring_nd {q h j : Nat} (hj : j < q) : (ring q h j).Nodup := (ring_pw hj).imp fun h e => by subst e; exact absurd h (Int.lt_irrefl _)
theorem bit_lt {q h k : Nat} (hh : h < 2 ^ q) (hb : h.testBit k = true) : k < q := by
  apply Classical.byContradiction
  intro hc
  have := Nat.testBit_lt_two_pow (x := h) (i := k) (Nat.lt_of_lt_of_le hh (Nat.pow_le_pow_right (by decide) (by omega)))
  rw [this] at hb
  cases hb
theorem ring_perm {q h j : Nat} (hj : j < q) (hq : q ≤ 60) (hh : h < 2 ^ q) : (ring q h j).Perm (ones h 61) := by
  refine (List.perm_ext_iff_of_nodup (ring_nd hj) (ones_nd h 61)).mpr fun k => ?_
  rw [ring_mem hj, ones_mem]
  exact ⟨fun ⟨a, b⟩ => ⟨by omega, b⟩, fun ⟨a, b⟩ => ⟨bit_lt hh b, b⟩⟩
theorem ring_srt {q h j : Nat} (hj : j < q) (hq : q ≤ 60) (hh : h < 2 ^ q) : srtD ((ones h 61).map nD) ((ones h 61).map (akey q j)) = (ring q h j).map nD := by
  refine srt_map (ring_perm hj hq hh) (ring_pw hj) fun a ha b hb e => ?_
  have ha := bit_lt hh (ones_mem.mp ha).2
  have hb := bit_lt hh (ones_mem.mp hb).2
  obtain ⟨i, hi, e1, e2⟩ := at_akey hj ha
  obtain ⟨i2, hi2, e3, e4⟩ := at_akey hj hb
  rw [e2, e4] at e
  have : i = i2 := by omega
  rw [← e1, ← e3, this]
theorem ring_len {q h j : Nat} : (ring q h j).length ≤ q := by
  unfold ring
  exact Nat.le_trans (List.length_filter_le _ _) (by rw [List.length_map, List.length_range]; exact Nat.le_refl _)
theorem ring_sm {q h j : Nat} (hj : j < q) (hq : q ≤ 60) : ∀ p ∈ ring q h j, p < 2 ^ 100 := fun p hp => Nat.lt_trans (ring_mem hj |>.mp hp).1 (by omega)
/-- the first, the last of a ring, or None -/
def fstD (l : List Nat) : D := match l.head? with | some p => nD p | none => .non
def lstOr (l : List Nat) : D := match l.getLast? with | some p => nD p | none => .non
theorem repr_S {d : D} {st : Store} {Q : D → Store → Prop} (hs : d.sm = true) (hd : d.dep ≤ 64) (hc : d.cnt ≤ 4000) (hr : ∀ n, d ≠ .ref n) (h : Q (.str d.shw) st) : W (bltin .repr [d] st) Q :=
  W_repr (e := d) (by cases d <;> first | rfl | exact absurd rfl (hr _)) hs hd hc h
theorem sm_ends {l : List Nat} (h : ∀ p ∈ l, p < 2 ^ 100) : ((fstD l).sm = true ∧ (fstD l).dep ≤ 64 ∧ (fstD l).cnt ≤ 4000 ∧ ∀ n, fstD l ≠ .ref n) ∧ ((lstOr l).sm = true ∧ (lstOr l).dep ≤ 64 ∧ (lstOr l).cnt ≤ 4000 ∧ ∀ n, lstOr l ≠ .ref n) := by
  have one : ∀ p : Nat, p < 2 ^ 100 → (nD p).sm = true ∧ (nD p).dep ≤ 64 ∧ (nD p).cnt ≤ 4000 ∧ ∀ n, nD p ≠ .ref n := fun p hp =>
    ⟨by simp only [D.sm]; exact decide_eq_true (by omega), by simp [D.dep], by simp [D.cnt], fun n e => by cases e⟩
  have non : (D.non).sm = true ∧ (D.non).dep ≤ 64 ∧ (D.non).cnt ≤ 4000 ∧ ∀ n, D.non ≠ .ref n := ⟨rfl, by decide, by simp [D.cnt], fun n e => by cases e⟩
  constructor
  · unfold fstD
    cases e : l.head? with
    | none => exact non
    | some p => exact one p (h p (List.mem_of_mem_head? e))
  · unfold lstOr
    cases e : l.getLast? with
    | none => exact non
    | some p => exact one p (h p (List.mem_of_getLast? e))
theorem smL_nD {l : List Nat} (h : ∀ p ∈ l, p < 2 ^ 100) : D.smL (l.map nD) = true := sm_nD h
theorem at_end {l : List Nat} (h : l ≠ []) : atD (l.map nD) (-1) = some (lstOr l) := by
  rw [at_last (by simpa using h), List.getLast?_map]
  unfold lstOr
  cases e : l.getLast? with
  | none => exact absurd (List.getLast?_eq_none_iff.mp e) h
  | some p => rfl
theorem at_fst {l : List Nat} (h : l ≠ []) : atD (l.map nD) 0 = some (fstD l) := by
  cases l with
  | nil => exact absurd rfl h
  | cons p l => exact at_0
theorem emp_ne {l : List Nat} (h : (l.map nD).isEmpty = false) : l ≠ [] := by
  cases l
  · cases h
  · simp
theorem emp_eq {l : List Nat} (h : (l.map nD).isEmpty = true) : l = [] := by
  cases l
  · rfl
  · cases h
theorem ring_nil {l : List Nat} : (!(l.map nD).isEmpty) = true ↔ l ≠ [] := by
  cases l <;> simp

/-! ### lists made with the store; hidden statements -/
theorem W_lc_st {ds : List D} {st : Store} {f : D → Store → Option (Option D × Store)} {Q : List D → Store → Prop} (I : Nat → List D → Store → Prop) (h0 : I 0 [] st)
    (step : ∀ i x acc s, ds[i]? = some x → I i acc s → W (f x s) fun o s => match o with | some d => I (i + 1) (acc ++ [d]) s | none => I (i + 1) acc s) (fin : ∀ acc s, I ds.length acc s → Q acc s) :
    W (lcGo (Itv.fix ds).nth f (ds.length + 1) 0 [] st) Q :=
  lcGo_ok I ds.length (fun i acc st _ hi => ⟨ds[i], by show some ds[i]? = _; rw [List.getElem?_eq_getElem hi]⟩) (fun acc st _ => by show some ds[ds.length]? = _; rw [List.getElem?_eq_none (Nat.le_refl _)])
    (fun i x acc s hi e h => step i x acc s (Option.some.inj e) h) (fun acc s h => fin acc s h) ds.length 0 [] st (Nat.zero_add _) h0
theorem bls_rep1 : ∀ m : Nat, bls (List.replicate m (D.bl true)) = some (List.replicate m true)
  | 0 => rfl
  | m + 1 => by simp only [List.replicate_succ, bls, bls_rep1 m]
theorem all_rep1 (m : Nat) : (List.replicate m true).all id = true := by simp
def ifLess (dfl : List D) (call : CallF) (fu c t : Nat) (m : Int) : SF := ex dfl call fu (.ife (.cmp .lt (.nm c) (.cI m)) (.cons (.set t (.lisR1 false (.nm c))) .nil) .nil)
theorem eex_ifLess (dfl : List D) (call : CallF) (fu : Nat) {c t : Nat} {m : Int} : ex dfl call fu (.ife (.cmp .lt (.nm c) (.cI m)) (.cons (.set t (.lisR1 false (.nm c))) .nil) .nil) = ifLess dfl call fu c t m := id rfl
theorem Z_ifLess {dfl : List D} {call : CallF} {fu c t : Nat} {m : Int} {env : Env} {st : Store} {q : SQ} {q0 : Nat} {ds : List D} (P : List D → Prop) (hc : env[c]? = some (some (.int q0))) (hq0 : q0 ≤ 1000) (ht : env[t]? = some (some (.lst ds))) (h1 : P ds) (h2 : P (rngD 0 q0))
    (k : ∀ ds', P ds' → q.nx (env.set t (some (.lst ds'))) st) : Z (ifLess dfl call fu c t m env st) q := by
  have hl : t < env.length := (List.getElem?_eq_some_iff.mp ht).1
  have e0 : env.set t (some (.lst ds)) = env := by
    obtain ⟨h, e⟩ := List.getElem?_eq_some_iff.mp ht
    rw [← e, List.set_getElem_self]
  have r0 : RgD 0 (q0 : Int) := ⟨by decide, by decide, by omega, by omega, by omega⟩
  unfold ifLess
  simp only [eev_repL, r_repD, Bool.true_eq_false, Bool.false_eq_true, W_bSrtk, eev_srtk, eevI_zip, inE, o_addL, o_addR, o_catL, c_in, c_notin, b_sorted, b_sum, b_maxL, b_minL, i_of, g_zipT, g_zipL, c_isNI, c_isNN, c_isNT, c_isNL, c_ntNI, c_ntNN, c_ntNT, c_ntNL, ints_map, W_b1, W_b2, W_b3, W_bIf, W_cst, W_vr, W_bAnd, W_bOr, truP_bl, W_consD, W_some, W_none, W_guard, Z_nil, Z_brk, Z_ctn, Z_sSeq, Z_sSet, Z_sPar, Z_sSetI, Z_sAug, Z_sExpr, Z_sRet, Z_sIf, Z_sFor, W_bLc, W_idx, Z_forStep, W_lcStep, wipeE, finF_keep, finF_clean, evs_nil, evO_no, evT_yes, eev_nm, eev_cI, eev_cB, eev_cN, eev_cS, eev_bin, eev_neg, eev_cmp, eev_and, eev_or, eev_not, eev_ife, eev_tup, eev_lst, eev_idx, eev_slc, eev_revT, eev_revL, eev_blt, eev_app, eev_ins, eev_call, eev_tupR1, eev_tupR2, eev_lisR1, eev_lisR2, eev_lc, eevO_no, eevO_so, eevs_nil, eevs_cons, eevT_yes, eevT_cmp, eevT_and, eevT_or, eevT_not, eevT_tr, eevAnd_nil, eevOr_nil, eevAll_nil, eevAll_cons, eevAny_nil, eevAny_cons, eevI_rng1, eevI_rng2, eevI_seq, eex_set, eex_setT, eex_par, eex_setI, eex_aug, eex_expr, eex_ret, eex_ife, eex_whl, eex_for_, eex_brk, eex_ctn, eexs_nil, eexs_cons, eevAnd_1, eevAnd_2, eevOr_1, eevOr_2, W_callN, selD, startE, putN, parPut, Tg.put, Tg.putL, W_fnB, o_add, o_sub, o_mul, o_fdiv, o_mod, o_pow, o_shl, o_shr, o_band, o_bor, o_bxor, o_addT, o_mulT, c_eqI, c_eqS, c_eqB, c_neI, c_neS, c_neB, c_lt, c_le, c_gt, c_ge, t_bl, t_int, t_tup, t_lst, n_neg, at_0, at_1, at_2, at_3, l_tup, l_lst, l_ref, ll_lst, ll_ref, b_len, b_tuple, b_list, b_abs, b_int, b_intB, b_max2, b_min2, b_all, b_any, a_ref, p_app, p_ins, p_set, set_0, set_1, set_2, s_tup, s_lst, i_int, r_tup, r_lst, g_tup, g_lst, g_ref, g_rng1, g_rng2, v_tupR1, v_tupR2, v_lisR1, v_lisR2, u_add, u_sub, W_copT, W_copV, W_truT, W_notV, W_notT, W_tupD, W_lstF, W_lstT, newF, newT, List.map_cons, List.map_nil, List.cons_append, List.nil_append, List.append_nil, List.length_cons, List.length_nil, List.replicate, List.getElem?_cons_zero, List.getElem?_cons_succ, List.set_cons_zero, List.set_cons_succ, List.getElem?_nil, Nat.reduceAdd, Nat.reduceLT, Nat.reduceSub, Nat.reduceEqDiff, ↓reduceIte, decide_eq_true_eq, decide_eq_false_iff_not, Bool.not_eq_true', Bool.not_eq_false', and_true, true_and, List.set_set, forall_const, true_implies, and_self, eq_self, Int.reduceLE, Int.reduceLT, Int.reducePow, Int.reduceToNat, Nat.reducePow, Int.reduceNeg, ne_eq, not_false_eq_true, Int.reduceEq, not_true_eq_false, true_or, or_true, Nat.reduceLeDiff, if_true, if_false, false_imp_iff, true_imp_iff, false_and, and_false, or_false, false_or, hc, hl, r0]
  refine ⟨fun _ => ?_, fun _ => ?_⟩
  · exact k _ h2
  · have := k _ h1
    rw [e0] at this
    exact this
theorem rng_nD (q : Nat) : rngD 0 (q : Nat) = (List.range q).map nD := by
  unfold rngD
  exact List.map_congr_left fun i _ => by rw [Int.zero_add]
end B
/-! P3: ways by bits; no program in sight. -/
namespace B
open PySem PyProof.Rows L2
theorem add_xor : ∀ (n a b : Nat), a ≤ n → a + b = (a ^^^ b) + 2 * (a &&& b)
  | 0, a, b, h => by
    have : a = 0 := by omega
    subst this
    simp
  | n + 1, a, b, h => by
    by_cases h0 : a = 0
    · subst h0; simp
    · have ih := add_xor n (a / 2) (b / 2) (by omega)
      have h1 := Nat.div_add_mod (a ^^^ b) 2
      have h2 := Nat.div_add_mod (a &&& b) 2
      rw [Nat.xor_div_two] at h1
      rw [Nat.and_div_two] at h2
      have h3 : (a &&& b) % 2 = 1 ↔ a % 2 = 1 ∧ b % 2 = 1 := Nat.and_mod_two_eq_one
      have h4 : (a ^^^ b) % 2 = 1 ↔ ¬(a % 2 = 1 ↔ b % 2 = 1) := Nat.xor_mod_two_eq_one
      have r : (a ^^^ b) % 2 + 2 * ((a &&& b) % 2) = a % 2 + b % 2 := by
        rcases Nat.mod_two_eq_zero_or_one a with ea | ea <;> rcases Nat.mod_two_eq_zero_or_one b with eb | eb <;> rcases Nat.mod_two_eq_zero_or_one (a ^^^ b) with ex | ex <;> rcases Nat.mod_two_eq_zero_or_one (a &&& b) with ey | ey <;> rw [ea, eb, ex] at h4 <;> rw [ea, eb, ey] at h3 <;> rw [ea, eb, ex, ey] <;> revert h3 h4 <;> decide
      clear h3 h4
      generalize (a ^^^ b) % 2 = rx at *
      generalize (a &&& b) % 2 = ry at *
      generalize a / 2 ^^^ b / 2 = X at *
      generalize a / 2 &&& b / 2 = Y at *
      omega
theorem bitXor_nat (a b : Nat) : Builtin.bitXor (a : Int) (b : Int) = ((a ^^^ b : Nat) : Int) := by
  rw [bitXor_and]
  have e : Builtin.bitAnd (a : Int) (b : Int) = ((a &&& b : Nat) : Int) := by
    unfold Builtin.bitAnd
    simp
  rw [e]
  have := add_xor a a b (Nat.le_refl _)
  omega
theorem bitAnd_nat (a b : Nat) : Builtin.bitAnd (a : Int) (b : Int) = ((a &&& b : Nat) : Int) := by
  unfold Builtin.bitAnd
  simp
theorem bitOr_nat (a b : Nat) : Builtin.bitOr (a : Int) (b : Int) = ((a ||| b : Nat) : Int) := by
  rw [bitOr_nn (Int.natCast_nonneg _) (Int.natCast_nonneg _), Int.toNat_natCast, Int.toNat_natCast]
theorem shl_nat (k : Nat) : (1 : Int) * 2 ^ ((k : Nat) : Int).toNat = ((2 ^ k : Nat) : Int) := by
  rw [Int.toNat_natCast, Int.one_mul]; push_cast; rfl
def nej (q w j : Nat) : List Nat := (ring q w j).filter (fun k => decide (k ≠ j))
theorem shl_nat2 (k : Nat) : (1 : Int) * 2 ^ k = ((2 ^ k : Nat) : Int) := by
  rw [Int.one_mul]; push_cast; rfl
def crs (q w j : Nat) : List Nat := j :: (nej q w j ++ if w.testBit j = true then [] else [j])
def wayL (a : Nat) : List Nat → List Nat
  | [] => [a]
  | k :: ks => a :: wayL (a ^^^ 2 ^ k) ks
def lastx (a : Nat) (ks : List Nat) : Nat := ks.foldl (fun x k => x ^^^ 2 ^ k) a
theorem wayL_snoc : ∀ (a : Nat) (ks : List Nat) (k : Nat), wayL a (ks ++ [k]) = wayL a ks ++ [lastx a ks ^^^ 2 ^ k]
  | a, [], k => rfl
  | a, x :: ks, k => by
    simp only [List.cons_append, wayL, wayL_snoc (a ^^^ 2 ^ x) ks k]
    rfl
theorem wayL_len : ∀ (a : Nat) (ks : List Nat), (wayL a ks).length = ks.length + 1
  | a, [] => rfl
  | a, x :: ks => by simp only [wayL, List.length_cons, wayL_len]
theorem wayL_get : ∀ (ks : List Nat) (a i : Nat), i ≤ ks.length → (wayL a ks)[i]? = some (lastx a (ks.take i))
  | [], a, i, h => by
    have : i = 0 := by simpa using h
    subst this; rfl
  | x :: ks, a, 0, h => rfl
  | x :: ks, a, i + 1, h => by
    simp only [wayL, List.getElem?_cons_succ, List.take_succ_cons]
    exact wayL_get ks _ i (by simpa using h)
theorem wayL_ne (a : Nat) (ks : List Nat) : wayL a ks ≠ [] := by cases ks <;> simp [wayL]
theorem wayL_last (a : Nat) (ks : List Nat) : (wayL a ks).getLast? = some (lastx a ks) := by
  rw [List.getLast?_eq_getElem?, wayL_len, Nat.add_sub_cancel, wayL_get ks a _ (Nat.le_refl _), List.take_length]
theorem lastx_lt {q a : Nat} (ha : a < 2 ^ q) : ∀ (ks : List Nat), (∀ k ∈ ks, k < q) → lastx a ks < 2 ^ q := by
  intro ks
  induction ks generalizing a with
  | nil => intro _; exact ha
  | cons k ks ih =>
    intro h
    exact ih (Nat.xor_lt_two_pow ha (Nat.pow_lt_pow_right (by decide) (h k (List.mem_cons_self ..)))) fun x hx => h x (List.mem_cons_of_mem _ hx)
theorem wayL_lt {q : Nat} : ∀ (ks : List Nat) (a : Nat), a < 2 ^ q → (∀ k ∈ ks, k < q) → ∀ x ∈ wayL a ks, x < 2 ^ q
  | [], a, ha, _, x, hx => by simp only [wayL, List.mem_singleton] at hx; subst hx; exact ha
  | k :: ks, a, ha, h, x, hx => by
    simp only [wayL, List.mem_cons] at hx
    rcases hx with rfl | hx
    · exact ha
    · exact wayL_lt ks _ (Nat.xor_lt_two_pow ha (Nat.pow_lt_pow_right (by decide) (h k (List.mem_cons_self ..)))) (fun x hx => h x (List.mem_cons_of_mem _ hx)) x hx
theorem crs_lt {q w j : Nat} (hj : j < q) : ∀ k ∈ crs q w j, k < q := fun k hk => by
  unfold crs nej at hk
  simp only [List.mem_cons, List.mem_append, List.mem_filter] at hk
  rcases hk with rfl | ⟨h, _⟩ | h
  · exact hj
  · exact ((ring_mem hj).mp h).1
  · split at h
    · cases h
    · rw [List.mem_singleton.mp h]; exact hj
theorem crs_len {q w j : Nat} : (crs q w j).length ≤ q + 2 := by
  unfold crs nej
  rw [List.length_cons, List.length_append]
  have h1 := List.length_filter_le (fun k => decide (k ≠ j)) (ring q w j)
  have h2 := ring_len (q := q) (h := w) (j := j)
  have h3 : (if w.testBit j = true then ([] : List Nat) else [j]).length ≤ 1 := by split <;> simp
  omega
theorem crs_ne (q w j : Nat) : crs q w j ≠ [] := by unfold crs; simp
/-- who tells: the last but one of the way -/
def tel (a : Nat) (ks : List Nat) : Nat := lastx a ks.dropLast
theorem at_pen {a : Nat} {ks : List Nat} (h : ks ≠ []) : atD ((wayL a ks).map nD) (-2) = some (nD (tel a ks)) := by
  have hl : 0 < ks.length := List.length_pos_iff.mpr h
  unfold atD ixOf
  rw [if_neg (by decide), List.length_map, wayL_len, if_pos (by omega)]
  simp only
  have e : (-2 + ((ks.length + 1 : Nat) : Int)).toNat = ks.length - 1 := by omega
  rw [e, List.getElem?_map, wayL_get ks a _ (by omega)]
  unfold tel
  rw [List.dropLast_eq_take]
  rfl
theorem tel_lt {q a : Nat} {ks : List Nat} (ha : a < 2 ^ q) (h : ∀ k ∈ ks, k < q) : tel a ks < 2 ^ q := lastx_lt ha _ fun k hk => h k (List.dropLast_subset _ hk)
/-- the ring but for its begin, as it is walked -/
def rest (q w j i : Nat) : List Nat := ((List.range i).map fun t => (j + (1 + t)) % q).filter fun k => w.testBit k
theorem rest_all {q w j : Nat} (hj : j < q) : rest q w j (q - 1) = nej q w j := by
  unfold nej rest ring
  obtain ⟨m, rfl⟩ : ∃ m, q = m + 1 := ⟨q - 1, by omega⟩
  have e0 : (j + 0) % (m + 1) = j := Nat.mod_eq_of_lt hj
  rw [Nat.add_sub_cancel, List.range_succ_eq_map, List.map_cons, e0, List.map_map]
  have e1 : ((List.range m).map ((fun i => (j + i) % (m + 1)) ∘ Nat.succ)) = (List.range m).map fun t => (j + (1 + t)) % (m + 1) :=
    List.map_congr_left fun t _ => by simp only [Function.comp, Nat.succ_eq_add_one, Nat.add_comm 1 t]
  rw [e1]
  have e2 : ∀ l : List Nat, (∀ k ∈ l, k ≠ j) → (l.filter fun k => w.testBit k) = ((j :: l).filter fun k => w.testBit k).filter fun k => decide (k ≠ j) := fun l hl => by
    have e3 : (l.filter fun k => w.testBit k).filter (fun k => decide (k ≠ j)) = l.filter fun k => w.testBit k := List.filter_eq_self.mpr fun k hk => decide_eq_true (hl k (List.mem_filter.mp hk).1)
    rw [List.filter_cons]
    split
    · rw [List.filter_cons, if_neg (by simp), e3]
    · exact e3.symm
  refine e2 _ fun k hk e => ?_
  obtain ⟨t, ht, rfl⟩ := List.mem_map.mp hk
  have h1 := akey_at hj (i := 1 + t) (by have := List.mem_range.mp ht; omega)
  have h2 := akey_at hj (i := 0) (by omega)
  rw [e0] at h2
  rw [e, h2] at h1
  omega
theorem rest_succ (q w j i : Nat) : rest q w j (i + 1) = rest q w j i ++ if w.testBit ((j + (1 + i)) % q) = true then [(j + (1 + i)) % q] else [] := by
  unfold rest
  rw [List.range_succ, List.map_append, List.filter_append]
  congr 1
  simp only [List.map_cons, List.map_nil, List.filter_cons, List.filter_nil]
theorem rest_len (q w j i : Nat) : (rest q w j i).length ≤ i := by
  unfold rest
  exact Nat.le_trans (List.length_filter_le _ _) (by rw [List.length_map, List.length_range]; exact Nat.le_refl _)
theorem crs_rest {q w j : Nat} (hj : j < q) : crs q w j = j :: (rest q w j (q - 1) ++ if w.testBit j = true then [] else [j]) := by
  unfold crs
  rw [rest_all hj]
theorem xor_back (a b : Nat) : a ^^^ (a ^^^ b) = b := by rw [← Nat.xor_assoc, Nat.xor_self, Nat.zero_xor]
theorem nd_len (l : List Nat) : (l.map nD).length = l.length := List.length_map ..
theorem repr_way {l : List Nat} {q : Nat} {st : Store} {Q : D → Store → Prop} (hq : q ≤ 60) (hp : ∀ p ∈ l, p < 2 ^ q) (hl : l.length ≤ 3000) (h : Q (.str (D.tup (l.map nD)).shw) st) : W (bltin .repr [.tup (l.map nD)] st) Q :=
  repr_T (fun p hp' => Nat.lt_of_lt_of_le (hp p hp') (Nat.pow_le_pow_right (by decide) (by omega))) hl h
theorem same_way {l : List Nat} {q : Nat} {st : Store} (hq : q ≤ 60) (hp : ∀ p ∈ l, p < 2 ^ q) : cop .eq (.tup (l.map nD)) (.tup (l.map nD)) st = some true ∧ cop .ne (.tup (l.map nD)) (.tup (l.map nD)) st = some false :=
  cop_same rfl (by simpa only [D.sm] using smL_nD fun p hp' => Nat.lt_of_lt_of_le (hp p hp') (Nat.pow_le_pow_right (by decide) (by omega))) (by simp only [D.dep, dep_nD]; decide)
/-! ### hands across, sorted -/
def accL (q h : Nat) : List Nat := (List.range q).map fun k => h ^^^ 2 ^ k
def srtN (l : List Nat) : List Nat := l.mergeSort fun a b => decide (a ≤ b)
theorem srtN_pw (l : List Nat) : (srtN l).Pairwise (· ≤ ·) := by
  refine List.Pairwise.imp (fun h => of_decide_eq_true h) (List.pairwise_mergeSort (fun a b c h1 h2 => ?_) (fun a b => ?_) l)
  · simp only [decide_eq_true_eq] at h1 h2 ⊢
    omega
  · simp only [Bool.or_eq_true, decide_eq_true_eq]
    omega
theorem srtN_perm (l : List Nat) : (srtN l).Perm l := List.mergeSort_perm _ _
theorem srtN_eq {a b : List Nat} (p : a.Perm b) (h : a.Pairwise (· ≤ ·)) : a = srtN b :=
  List.Perm.eq_of_pairwise (le := (· ≤ ·)) (fun _ _ _ _ h1 h2 => Nat.le_antisymm h1 h2) h (srtN_pw b) (p.trans (srtN_perm b).symm)
theorem srtN_mem {l : List Nat} {x : Nat} : x ∈ srtN l ↔ x ∈ l := (srtN_perm l).mem_iff
theorem srtN_len (l : List Nat) : (srtN l).length = l.length := (srtN_perm l).length_eq
theorem srtN_filter (l : List Nat) (p : Nat → Bool) : (srtN l).filter p = srtN (l.filter p) := srtN_eq ((srtN_perm l).filter p) ((srtN_pw l).filter p)
theorem srtI_nD (l : List Nat) : (srtI (l.map fun n : Nat => (n : Int))).map D.int = (srtN l).map nD := by
  have e : (srtN l).map (fun n : Nat => (n : Int)) = srtI (l.map fun n : Nat => (n : Int)) := srtI_eq ((srtN_perm l).map _) (by
    rw [List.pairwise_map]
    exact (srtN_pw l).imp fun h => Int.ofNat_le.mpr h)
  rw [← e, List.map_map]
  rfl
theorem ints_nD : ∀ l : List Nat, intsD (l.map nD) = some (l.map fun n : Nat => (n : Int))
  | [] => rfl
  | n :: l => by simp only [List.map_cons, intsD, ints_nD l]
theorem accL_lt {q h : Nat} (hh : h < 2 ^ q) : ∀ x ∈ accL q h, x < 2 ^ q := fun x hx => by
  obtain ⟨k, hk, rfl⟩ := List.mem_map.mp hx
  exact Nat.xor_lt_two_pow hh (Nat.pow_lt_pow_right (by decide) (List.mem_range.mp hk))
theorem accL_len (q h : Nat) : (accL q h).length = q := by unfold accL; simp
/-- who is taught by h -/
def hear (q h j s : Nat) : List Nat := (srtN (accL q h)).filter fun o => decide (tel s (crs q (o ^^^ s) j) = h)
theorem hear_lt {q h j s : Nat} (hh : h < 2 ^ q) : ∀ x ∈ hear q h j s, x < 2 ^ q := fun x hx => accL_lt hh x (srtN_mem.mp (List.mem_filter.mp hx).1)
theorem hear_len (q h j s : Nat) : (hear q h j s).length ≤ q := by
  unfold hear
  exact Nat.le_trans (List.length_filter_le _ _) (by rw [srtN_len, accL_len]; exact Nat.le_refl _)
theorem W_lc_live {n : Nat} {ds : List D} {st : Store} {f : D → Store → Option (Option D × Store)} {Q : List D → Store → Prop} (I : Nat → List D → Store → Prop) (h0 : I 0 [] st) (hl : ∀ i acc s, I i acc s → s[n]? = some (.lst ds))
    (step : ∀ i x acc s, ds[i]? = some x → I i acc s → W (f x s) fun o s => match o with | some d => I (i + 1) (acc ++ [d]) s | none => I (i + 1) acc s) (fin : ∀ acc s, I ds.length acc s → Q acc s) :
    W (lcGo (Itv.live n ds.length).nth f (ds.length + 1) 0 [] st) Q :=
  lcGo_ok I ds.length (fun i acc s h hi => ⟨ds[i], by simp only [Itv.live, hl i acc s h, List.getElem?_eq_getElem hi]⟩) (fun acc s h => by simp only [Itv.live, hl _ acc s h, List.getElem?_eq_none (Nat.le_refl _)])
    (fun i x acc s hi e h => step i x acc s (by simp only [Itv.live, hl i acc s h] at e; exact Option.some.inj e) h) (fun acc s h => fin acc s h) ds.length 0 [] st (Nat.zero_add _) h0
end B
/-! P4: from bit to bit round a ring; no program in sight. -/
namespace B
open PySem PyProof.Rows L2
/-- the ring from s, as offsets -/
def offs (q h s : Nat) : List Nat := (List.range q).filter fun i => h.testBit ((s + i) % q)
theorem ring_offs (q h s : Nat) : ring q h s = (offs q h s).map fun i => (s + i) % q := by
  unfold ring offs
  rw [List.filter_map]
  rfl
theorem range_cut {q t : Nat} (h : t ≤ q) : List.range q = List.range t ++ (List.range (q - t)).map (t + ·) := by
  have := List.range_add (n := t) (m := q - t)
  rw [Nat.add_sub_cancel' h] at this
  exact this
/-- behind k the ring goes on, and ends with k -/
theorem ring_next {q h s k : Nat} (hs : s < q) (hk : k ∈ ring q h s) : ∃ A B, ring q h s = A ++ k :: B ∧ ring q h ((k + 1) % q) = B ++ (A ++ [k]) := by
  obtain ⟨hkq, hkb⟩ := (ring_mem hs).mp hk
  obtain ⟨t, ht, e, _⟩ := at_akey hs hkq
  have e1 : List.range q = List.range t ++ [t] ++ (List.range (q - (t + 1))).map (t + 1 + ·) := by
    rw [range_cut (t := t + 1) ht, List.range_succ]
  refine ⟨((List.range t).map fun i => (s + i) % q).filter fun k => h.testBit k, (((List.range (q - (t + 1))).map (t + 1 + ·)).map fun i => (s + i) % q).filter fun k => h.testBit k, ?_, ?_⟩
  · unfold ring
    rw [e1, List.map_append, List.map_append, List.filter_append, List.filter_append, List.append_assoc]
    congr 1
    rw [List.map_cons, List.map_nil, e, List.filter_cons, if_pos hkb]
    rfl
  · unfold ring
    have e2 : (List.range q).map (fun i => ((k + 1) % q + i) % q) = (((List.range (q - (t + 1))).map (t + 1 + ·)).map fun i => (s + i) % q) ++ (((List.range t).map fun i => (s + i) % q) ++ [k]) := by
      have hq : (q - (t + 1)) ≤ q := by omega
      rw [range_cut (t := q - (t + 1)) hq, List.map_append]
      congr 1
      · rw [List.map_map]
        refine List.map_congr_left fun i _ => ?_
        show ((k + 1) % q + i) % q = (s + (t + 1 + i)) % q
        rw [Nat.mod_add_mod, ← e, Nat.add_assoc, Nat.mod_add_mod]
        congr 1
        omega
      · have e3 : q - (q - (t + 1)) = t + 1 := by omega
        rw [e3, List.range_succ, List.map_append, List.map_append, List.map_map]
        have key : ∀ i, ((k + 1) % q + (q - (t + 1) + i)) % q = (s + i) % q := fun i => by
          rw [Nat.mod_add_mod, ← e, Nat.add_assoc, Nat.mod_add_mod]
          have : s + t + (1 + (q - (t + 1) + i)) = s + i + q := by omega
          rw [this, Nat.add_mod_right]
        congr 1
        · exact List.map_congr_left fun i _ => key i
        · simp only [List.map_cons, List.map_nil]
          rw [key, e]
    rw [e2, List.filter_append, List.filter_append]
    congr 2
    rw [List.filter_cons, if_pos hkb]
    rfl
theorem ring_begin {q h s : Nat} (hs : s < q) (hb : h.testBit s = true) : ∃ B, ring q h s = s :: B := by
  unfold ring
  obtain ⟨m, rfl⟩ : ∃ m, q = m + 1 := ⟨q - 1, by omega⟩
  rw [List.range_succ_eq_map, List.map_cons, Nat.add_zero, Nat.mod_eq_of_lt hs, List.filter_cons, if_pos hb]
  exact ⟨_, rfl⟩
theorem split_uniq {A B A2 B2 : List Nat} {k : Nat} (nd : (A ++ k :: B).Nodup) (e : A ++ k :: B = A2 ++ k :: B2) : A = A2 ∧ B = B2 := by
  induction A generalizing A2 with
  | nil =>
    cases A2 with
    | nil => simp at e; exact ⟨rfl, e⟩
    | cons x A2 =>
      simp only [List.nil_append, List.cons_append, List.cons.injEq] at e
      obtain ⟨rfl, e⟩ := e
      rw [List.nil_append, List.nodup_cons] at nd
      exact absurd (by rw [e]; simp) nd.1
  | cons y A ih =>
    cases A2 with
    | nil =>
      simp only [List.nil_append, List.cons_append, List.cons.injEq] at e
      obtain ⟨rfl, e⟩ := e
      rw [List.cons_append, List.nodup_cons] at nd
      exact absurd (by simp) nd.1
    | cons x A2 =>
      simp only [List.cons_append, List.cons.injEq] at e
      obtain ⟨rfl, e⟩ := e
      obtain ⟨h1, h2⟩ := ih (List.nodup_cons.mp nd).2 e
      exact ⟨by rw [h1], h2⟩
/-- the next one behind k, where the ring from s stands as A, k, B -/
theorem next_at {q h s k : Nat} {A B : List Nat} (hs : s < q) (e : ring q h s = A ++ k :: B) : ring q h ((k + 1) % q) = B ++ (A ++ [k]) := by
  obtain ⟨A2, B2, e1, e2⟩ := ring_next (k := k) hs (by rw [e]; simp)
  have nd := ring_nd (h := h) hs
  rw [e] at nd
  obtain ⟨h1, h2⟩ := split_uniq nd (e.symm.trans e1)
  rw [e2, h1, h2]
/-- the arc from one to the next one, a whole round if there is none between -/
def arcQ (q a b : Nat) : Nat := if akey q a b = 0 then q else (akey q a b).toNat
theorem arcQ_at {q s i j : Nat} (hs : s < q) (hij : i < j) (hj : j < q) : arcQ q ((s + i) % q) ((s + j) % q) = j - i := by
  have hq : 0 < q := by omega
  have e : (s + j) % q = ((s + i) % q + (j - i)) % q := by
    rw [Nat.mod_add_mod]
    congr 1
    omega
  have e2 := akey_at (q := q) (j := (s + i) % q) (i := j - i) (Nat.mod_lt _ hq) (by omega)
  unfold arcQ
  rw [e, e2, if_neg (by omega), Int.toNat_natCast]
theorem arcQ_end {q s i : Nat} (hs : s < q) (hi : i < q) : arcQ q ((s + i) % q) s = q - i := by
  have hq : 0 < q := by omega
  unfold arcQ
  by_cases h0 : i = 0
  · subst h0
    have e := akey_at (q := q) (j := s) (i := 0) hs hq
    rw [Nat.add_zero, Nat.mod_eq_of_lt hs] at e ⊢
    rw [e]
    rfl
  · have e : s = ((s + i) % q + (q - i)) % q := by
      rw [Nat.mod_add_mod]
      have : s + i + (q - i) = s + q := by omega
      rw [this, Nat.add_mod_right, Nat.mod_eq_of_lt hs]
    have e2 := akey_at (q := q) (j := (s + i) % q) (i := q - i) (Nat.mod_lt _ hq) (by omega)
    rw [← e] at e2
    rw [e2, if_neg (by omega), Int.toNat_natCast]
/-- the arcs from each of a row to the next, at last to s -/
def arcs (q s : Nat) : List Nat → List Nat
  | [] => []
  | [x] => [arcQ q x s]
  | x :: y :: l => arcQ q x y :: arcs q s (y :: l)
theorem arcs_sum {q s : Nat} (hs : s < q) : ∀ (i : Nat) (l : List Nat), i < q → (∀ x ∈ l, x < q) → (i :: l).Pairwise (· < ·) → (arcs q s ((i :: l).map fun i => (s + i) % q)).sum = q - i
  | i, [], hi, _, _ => by simp only [List.map_cons, List.map_nil, arcs, List.sum_cons, List.sum_nil, arcQ_end hs hi]; omega
  | i, j :: l, hi, hl, hp => by
    have hj := hl j (List.mem_cons_self ..)
    have hij : i < j := (List.pairwise_cons.mp hp).1 j (List.mem_cons_self ..)
    have ih := arcs_sum hs j l hj (fun x hx => hl x (List.mem_cons_of_mem _ hx)) (List.pairwise_cons.mp hp).2
    simp only [List.map_cons, arcs, List.sum_cons, arcQ_at hs hij hj] at ih ⊢
    rw [ih]
    omega
theorem offs_pw (q h s : Nat) : (offs q h s).Pairwise (· < ·) := List.Pairwise.filter _ List.pairwise_lt_range
theorem offs_lt {q h s : Nat} : ∀ x ∈ offs q h s, x < q := fun x hx => List.mem_range.mp (List.mem_filter.mp hx).1
theorem ring_arcs {q h s : Nat} (hs : s < q) (hb : h.testBit s = true) : (arcs q s (ring q h s)).sum = q := by
  rw [ring_offs]
  have hm : 0 ∈ offs q h s := List.mem_filter.mpr ⟨List.mem_range.mpr (by omega), by rw [Nat.add_zero, Nat.mod_eq_of_lt hs]; exact hb⟩
  have hp := offs_pw q h s
  have hl := offs_lt (q := q) (h := h) (s := s)
  cases e : offs q h s with
  | nil => rw [e] at hm; cases hm
  | cons i l =>
    rw [e] at hm hp hl
    have h0 : i = 0 := by
      rcases List.mem_cons.mp hm with z | z
      · exact z.symm
      · have := (List.pairwise_cons.mp hp).1 0 z
        omega
    subst h0
    rw [arcs_sum hs 0 l (by omega) (fun x hx => hl x (List.mem_cons_of_mem _ hx)) hp]
    omega
theorem arcs_zip (q s : Nat) : ∀ (x : Nat) (l : List Nat), (List.zipWith (arcQ q) (x :: l) (l ++ [s])) = arcs q s (x :: l)
  | x, [] => rfl
  | x, y :: l => by
    rw [List.cons_append, List.zipWith_cons_cons, arcs_zip q s y l]
    rfl
theorem arc_both {q a b : Nat} (ha : a < q) (hb : b < q) : akey q a b + akey q b a = 0 ∨ akey q a b + akey q b a = (q : Int) := by
  have key : ∀ a b : Nat, a < q → b < q → a ≤ b → akey q a b + akey q b a = 0 ∨ akey q a b + akey q b a = (q : Int) := fun a b ha hb hab => by
    obtain ⟨i, hi, e1, e2⟩ := at_akey ha hb
    have e3 := akey_at (q := q) (j := b) (i := 0) hb (by omega)
    rw [Nat.add_zero, Nat.mod_eq_of_lt hb] at e3
    have e4 := akey_at (q := q) (j := a) (i := b - a) ha (by omega)
    rw [Nat.add_sub_cancel' hab, Nat.mod_eq_of_lt hb] at e4
    by_cases h : a = b
    · subst h
      left
      omega
    · right
      have e5 := akey_at (q := q) (j := b) (i := q + a - b) hb (by omega)
      have : b + (q + a - b) = a + q := by omega
      rw [this, Nat.add_mod_right, Nat.mod_eq_of_lt ha] at e5
      omega
  by_cases h : a ≤ b
  · exact key a b ha hb h
  · rw [Int.add_comm]
    exact key b a hb ha (by omega)
theorem truP_int {st : Store} {i : Int} {t f : Prop} : truP st (.int i) t f = ((i ≠ 0 → t) ∧ (i = 0 → f)) := by
  have e0 : tru st (.int i) = some (i != 0) := rfl
  unfold truP
  rw [e0]
  by_cases h : i = 0
  · subst h; simp
  · have e : (i != 0) = true := by simpa using h
    rw [e]
    simp [h]
theorem cut_one (l : List Nat) : cutD (l.map nD) (some 1) none = (l.drop 1).map nD := by
  unfold cutD
  rw [clip_none, clip_int (by decide), List.length_map]
  rw [← List.map_drop, ← List.map_take]
  congr 1
  cases l with
  | nil => rfl
  | cons x l =>
    have e : min (1 : Int).toNat (x :: l).length = 1 := by simp
    rw [e]
    simp
theorem sum_nat : ∀ l : List Nat, (l.map fun n : Nat => (n : Int)).sum = ((l.sum : Nat) : Int)
  | [] => rfl
  | n :: l => by simp only [List.map_cons, List.sum_cons, sum_nat l, Int.natCast_add]
theorem fst_next {q h s k : Nat} {A B : List Nat} (hs : s < q) (hb : h.testBit s = true) (e : ring q h s = A ++ k :: B) : fstD (ring q h ((k + 1) % q)) = nD (B.headD s) := by
  rw [next_at hs e]
  obtain ⟨C, eC⟩ := ring_begin hs hb
  rw [eC] at e
  cases B with
  | cons b B => rfl
  | nil =>
    cases A with
    | nil => simp at e; rw [e.1]; rfl
    | cons a A => simp at e; rw [e.1]; rfl
theorem srt_ring {q h s : Nat} (hs : s < q) (hq : q ≤ 60) (hh : h < 2 ^ q) : srtN (ring q h s) = ones h 61 :=
  (srtN_eq (ring_perm hs hq hh).symm ((List.Pairwise.filter _ List.pairwise_lt_range).imp fun h => Nat.le_of_lt h)).symm
theorem ring_has {q h s j : Nat} (hs : s < q) (hj : j < q) (hb : h.testBit s = true) : ring q h j ≠ [] := fun e => by
  have := (ring_mem hj).mpr ⟨hs, hb⟩
  rw [e] at this
  cases this
theorem last_some {l : List Nat} (h : l ≠ []) : ∃ A z, l = A ++ [z] ∧ lstOr l = nD z := by
  refine ⟨l.dropLast, l.getLast h, (List.dropLast_concat_getLast h).symm, ?_⟩
  unfold lstOr
  rw [List.getLast?_eq_some_getLast h]
theorem fst_some {l : List Nat} (h : l ≠ []) : ∃ z, fstD l = nD z := by
  cases l with
  | nil => exact absurd rfl h
  | cons z l => exact ⟨z, rfl⟩
theorem pred_mod {q p : Nat} (hp : p < q) : ((p : Int) - 1).fmod (q : Int) = (((p + q - 1) % q : Nat) : Int) ∧ ((p + q - 1) % q + 1) % q = p := by
  constructor
  · rw [Int.fmod_eq_emod_of_nonneg _ (Int.natCast_nonneg _)]
    have e : (p : Int) - 1 = ((p + q - 1 : Nat) : Int) + (q : Int) * (-1) := by omega
    rw [e, Int.add_mul_emod_self_left]
    rfl
  · rw [Nat.mod_add_mod]
    have e : p + q - 1 + 1 = p + q := by omega
    rw [e, Nat.add_mod_right, Nat.mod_eq_of_lt hp]
def aq (q : Nat) : D → Option D
  | .tup [.int a, .int b] => some (nD (arcQ q a.toNat b.toNat))
  | _ => none
theorem aq_zip (q : Nat) : ∀ (l m : List Nat), (zipD (l.map nD) (m.map nD)).filterMap (aq q) = (List.zipWith (arcQ q) l m).map nD
  | [], _ => rfl
  | _ :: _, [] => rfl
  | x :: l, y :: m => by
    have ih := aq_zip q l m
    unfold zipD at ih ⊢
    have e : aq q (.tup [nD x, nD y]) = some (nD (arcQ q x y)) := by show some (nD (arcQ q (x : Int).toNat (y : Int).toNat)) = _; rw [Int.toNat_natCast, Int.toNat_natCast]
    simp only [List.map_cons, List.zipWith_cons_cons, List.filterMap_cons, e, ih]
theorem zip_get {l m : List Nat} {i : Nat} {d : D} (h : (zipD (l.map nD) (m.map nD))[i]? = some d) : ∃ x y, l[i]? = some x ∧ m[i]? = some y ∧ d = .tup [nD x, nD y] := by
  unfold zipD at h
  rw [List.getElem?_zipWith_eq_some] at h
  obtain ⟨a, b, ha, hb, rfl⟩ := h
  rw [List.getElem?_map] at ha hb
  cases ex : l[i]? with
  | none => rw [ex] at ha; cases ha
  | some x =>
    cases ey : m[i]? with
    | none => rw [ey] at hb; cases hb
    | some y =>
      rw [ex] at ha
      rw [ey] at hb
      cases ha
      cases hb
      exact ⟨x, y, rfl, rfl, rfl⟩
theorem akey_nD' {q j k : Nat} (hj : j < q) (hk : k < q) : ∃ i, i < q ∧ akey q j k = ((i : Nat) : Int) := by
  obtain ⟨i, h, _, e⟩ := at_akey hj hk
  exact ⟨i, h, e⟩
end B
/-! P5: each number once, rising; what lies between a way's ends; no program in sight. -/
namespace B
open PySem PyProof.Rows L2
def btw (l : List Nat) : List Nat := (l.drop 1).take (l.length - 2)
theorem mem_cast {l : List Nat} {x : Nat} : (x : Int) ∈ (l.map fun n : Nat => (n : Int)) ↔ x ∈ l := by
  rw [List.mem_map]
  constructor
  · rintro ⟨y, hy, e⟩
    have : y = x := by omega
    exact this ▸ hy
  · intro h
    exact ⟨x, h, rfl⟩
def nzs (l : List Nat) : List Int := l.map fun n : Nat => (n : Int)
def usN (l : List Nat) : List Nat := (usI (nzs l)).map Int.toNat
theorem usI_perm (ns : List Int) : (usI ns).Perm (ddI ns) := List.mergeSort_perm _ _
theorem mem_usI {k : Int} {ns : List Int} : k ∈ usI ns ↔ k ∈ ns := by rw [(usI_perm ns).mem_iff, mem_ddI]
theorem len_usI (ns : List Int) : (usI ns).length ≤ ns.length := by rw [(usI_perm ns).length_eq]; exact length_ddI ns
theorem usI_cst (l : List Nat) : usI (nzs l) = nzs (usN l) := by
  unfold usN
  have h : ∀ k ∈ usI (nzs l), 0 ≤ k := fun k hk => by
    obtain ⟨n, _, rfl⟩ := List.mem_map.mp (mem_usI.mp hk)
    omega
  generalize usI (nzs l) = m at h
  unfold nzs
  rw [List.map_map]
  symm
  refine (List.map_congr_left fun k hk => ?_).trans (List.map_id m)
  show ((k.toNat : Nat) : Int) = k
  exact Int.toNat_of_nonneg (h k hk)
theorem mem_usN {k : Nat} {l : List Nat} : k ∈ usN l ↔ k ∈ l := by
  have h := mem_usI (k := (k : Int)) (ns := nzs l)
  rw [usI_cst] at h
  exact (mem_cast (l := usN l)).symm.trans (h.trans mem_cast)
theorem usN_len (l : List Nat) : (usN l).length ≤ l.length := by
  unfold usN
  rw [List.length_map]
  refine Nat.le_trans (len_usI _) (Nat.le_of_eq ?_)
  exact List.length_map ..
theorem usN_is {l m : List Nat} (h1 : m.Pairwise (· < ·)) (h : ∀ k, k ∈ m ↔ k ∈ l) : usN l = m := by
  have e : nzs m = usI (nzs l) := usI_is (by
    unfold nzs
    rw [List.pairwise_map]
    exact h1.imp fun hlt => by omega) fun k => by
    constructor
    · intro hk
      obtain ⟨n, hn, rfl⟩ := List.mem_map.mp hk
      exact List.mem_map.mpr ⟨n, (h n).mp hn, rfl⟩
    · intro hk
      obtain ⟨n, hn, rfl⟩ := List.mem_map.mp hk
      exact List.mem_map.mpr ⟨n, (h n).mpr hn, rfl⟩
  unfold usN
  rw [← e]
  unfold nzs
  rw [List.map_map]
  exact List.map_id m
theorem usI_nD (l : List Nat) : (usI (l.map fun n : Nat => (n : Int))).map D.int = (usN l).map nD := by
  have e : usI (l.map fun n : Nat => (n : Int)) = nzs (usN l) := usI_cst l
  rw [e]
  unfold nzs
  rw [List.map_map]
  rfl
theorem ddI_len (l : List Nat) : (ddI (l.map fun n : Nat => (n : Int))).length ≤ l.length := by
  refine Nat.le_trans (length_ddI _) (Nat.le_of_eq ?_)
  exact List.length_map ..
/-! ### between the ends of a way -/
theorem lastx_bit (k : Nat) : ∀ (ks : List Nat) (a : Nat), (lastx a ks).testBit k = (a.testBit k ^^ decide (ks.count k % 2 = 1))
  | [], a => by simp [lastx]
  | x :: ks, a => by
    have ih := lastx_bit k ks (a ^^^ 2 ^ x)
    have e : lastx a (x :: ks) = lastx (a ^^^ 2 ^ x) ks := rfl
    rw [e, ih, Nat.testBit_xor, Nat.testBit_two_pow, List.count_cons, Bool.xor_assoc]
    congr 1
    by_cases hx : x = k
    · subst hx
      simp only [decide_true, BEq.rfl, if_true]
      rcases Nat.mod_two_eq_zero_or_one (List.count x ks) with h | h
      · have h2 : (List.count x ks + 1) % 2 = 1 := by omega
        simp [h, h2]
      · have h2 : (List.count x ks + 1) % 2 = 0 := by omega
        simp [h, h2]
    · have h2 : (x == k) = false := beq_false_of_ne hx
      simp [hx]
theorem nej_nd {q w j : Nat} (hj : j < q) : (nej q w j).Nodup := List.Pairwise.filter _ (ring_nd hj)
theorem nej_ne {q w j k : Nat} (h : k ∈ nej q w j) : k ≠ j := of_decide_eq_true (List.mem_filter.mp h).2
theorem nej_bit {q w j k : Nat} (h : k ∈ nej q w j) : w.testBit k = true := by
  have h1 := (List.mem_filter.mp h).1
  unfold ring at h1
  exact (List.mem_filter.mp h1).2
theorem btw_at {l : List Nat} {x : Nat} (h : x ∈ btw l) : ∃ i, 1 ≤ i ∧ i + 1 < l.length ∧ l[i]? = some x := by
  unfold btw at h
  obtain ⟨i, hi, e⟩ := List.mem_take_iff_getElem.mp h
  rw [List.getElem_drop] at e
  rw [List.length_drop] at hi
  exact ⟨1 + i, by omega, by omega, by rw [List.getElem?_eq_getElem (by omega), e]⟩
theorem ends_out {q h s j x : Nat} (hj : j < q) (hx : x ∈ btw (wayL s (crs q (h ^^^ s) j))) : x ≠ s ∧ x ≠ h := by
  obtain ⟨i, h1, h2, h3⟩ := btw_at hx
  rw [wayL_len] at h2
  rw [wayL_get _ _ _ (by omega)] at h3
  cases h3
  have hnd := nej_nd (w := h ^^^ s) hj
  have hne : ∀ k ∈ nej q (h ^^^ s) j, k ≠ j := fun k hk => nej_ne hk
  have hbt : ∀ k ∈ nej q (h ^^^ s) j, (h ^^^ s).testBit k = true := fun k hk => nej_bit hk
  unfold crs at h2 ⊢
  generalize nej q (h ^^^ s) j = r at *
  obtain ⟨i, rfl⟩ : ∃ m, i = m + 1 := ⟨i - 1, by omega⟩
  rw [List.take_succ_cons]
  have hir : i ≤ r.length := by
    by_cases hb : (h ^^^ s).testBit j = true
    · rw [if_pos hb, List.append_nil, List.length_cons] at h2; omega
    · rw [if_neg hb, List.length_cons, List.length_append, List.length_singleton] at h2; omega
  have et : ∀ t : List Nat, (r ++ t).take i = r.take i := fun t => by rw [List.take_append_of_le_length hir]
  rw [et]
  have cj : (j :: r.take i).count j = 1 := by
    rw [List.count_cons, List.count_eq_zero.mpr fun hm => hne _ (List.mem_of_mem_take hm) rfl]
    simp
  have bj : (lastx s (j :: r.take i)).testBit j = !s.testBit j := by
    rw [lastx_bit, cj]
    cases s.testBit j <;> rfl
  refine ⟨fun e => ?_, fun e => ?_⟩
  · rw [e] at bj
    cases hs : s.testBit j <;> rw [hs] at bj <;> cases bj
  · by_cases hb : (h ^^^ s).testBit j = true
    · rw [if_pos hb, List.append_nil, List.length_cons] at h2
      have hp : r.length - 1 < r.length := by omega
      have hm : r[r.length - 1] ∈ r := List.getElem_mem hp
      have hn : r[r.length - 1] ∉ r.take i := fun hm2 => by
        obtain ⟨t, ht, e2⟩ := List.mem_take_iff_getElem.mp hm2
        exact List.pairwise_iff_getElem.mp hnd t (r.length - 1) (by omega) hp (by omega) e2
      have hbk := hbt _ hm
      have hjk := hne _ hm
      generalize r[r.length - 1] = k at *
      have bk : (lastx s (j :: r.take i)).testBit k = s.testBit k := by
        rw [lastx_bit, List.count_cons, List.count_eq_zero.mpr hn]
        have : (j == k) = false := beq_false_of_ne (Ne.symm hjk)
        simp [this]
      rw [e] at bk
      rw [Nat.testBit_xor, bk] at hbk
      cases hs : s.testBit k <;> rw [hs] at hbk <;> cases hbk
    · rw [e] at bj
      apply hb
      rw [Nat.testBit_xor, bj]
      cases s.testBit j <;> rfl
end B
/-! P6: ways grow one from another; no program in sight. -/
namespace B
open PySem PyProof.Rows L2
theorem filter_take (P : Nat → Bool) : ∀ (base : List Nat) (m : Nat), base.Nodup → base.filter (fun k => decide (k ∈ (base.filter P).take m)) = (base.filter P).take m
  | [], m, _ => by simp
  | x :: b, m, nd => by
    have hx := (List.nodup_cons.mp nd).1
    have nb := (List.nodup_cons.mp nd).2
    have hsub : ∀ m, x ∉ (b.filter P).take m := fun m hm => hx (List.mem_filter.mp (List.mem_of_mem_take hm)).1
    by_cases hp : P x = true
    · rw [List.filter_cons_of_pos hp]
      cases m with
      | zero => simp
      | succ m =>
        rw [List.take_succ_cons, List.filter_cons_of_pos (by simp)]
        congr 1
        refine (List.filter_congr fun k hk => ?_).trans (filter_take P b m nb)
        have hne : k ≠ x := fun e => hx (e ▸ hk)
        simp [hne]
    · rw [List.filter_cons_of_neg hp, List.filter_cons_of_neg (by simpa using hsub m)]
      exact filter_take P b m nb
def base (q j : Nat) : List Nat := (List.range (q - 1)).map fun t => (j + (1 + t)) % q
theorem nej_base {q j : Nat} (w : Nat) (hj : j < q) : nej q w j = (base q j).filter fun k => w.testBit k := (rest_all hj).symm
theorem base_full {q j : Nat} (hj : j < q) : nej q (2 ^ q - 1) j = base q j := by
  rw [nej_base _ hj, List.filter_eq_self]
  intro k hk
  obtain ⟨t, _, rfl⟩ := List.mem_map.mp hk
  rw [Nat.testBit_two_pow_sub_one]
  exact decide_eq_true (Nat.mod_lt _ (by omega))
theorem base_nd {q j : Nat} (hj : j < q) : (base q j).Nodup := base_full hj ▸ nej_nd hj
theorem base_ne {q j k : Nat} (hj : j < q) (h : k ∈ base q j) : k ≠ j := by rw [← base_full hj] at h; exact nej_ne h
theorem nej_mem {q w j k : Nat} (hj : j < q) : k ∈ nej q w j ↔ k < q ∧ w.testBit k = true ∧ k ≠ j := by
  unfold nej
  rw [List.mem_filter, ring_mem hj, decide_eq_true_eq, and_assoc]
/-- a hand told apart by these bits, once each -/
theorem crs_of {q w j m : Nat} (hj : j < q) {w2 : Nat} (hb : ∀ k, k ∈ base q j → w2.testBit k = decide (k ∈ (nej q w j).take m)) : crs q w2 j = j :: ((nej q w j).take m ++ if w2.testBit j = true then [] else [j]) := by
  unfold crs
  have e : nej q w2 j = (nej q w j).take m := by
    rw [nej_base w2 hj, List.filter_congr hb, nej_base w hj]
    exact filter_take _ _ _ (base_nd hj)
  rw [e]
theorem lxs_bit (s k : Nat) (ks : List Nat) : (lastx s ks ^^^ s).testBit k = decide (ks.count k % 2 = 1) := by
  rw [Nat.testBit_xor, lastx_bit]
  cases s.testBit k <;> cases decide (ks.count k % 2 = 1) <;> rfl
theorem count_nd {l : List Nat} (nd : l.Nodup) (k : Nat) : l.count k = if k ∈ l then 1 else 0 := by
  split
  · rename_i h
    have h1 := List.nodup_iff_count.mp nd k
    have h2 := List.count_pos_iff.mpr h
    omega
  · rename_i h; exact List.count_eq_zero.mpr h
theorem pre_crs {q w j s i : Nat} (hj : j < q) (h1 : 1 ≤ i) (hi : i ≤ (crs q w j).length) : crs q (lastx s ((crs q w j).take i) ^^^ s) j = (crs q w j).take i := by
  have nd := nej_nd (w := w) hj
  have hne : j ∉ nej q w j := fun h => nej_ne h rfl
  have hcr : crs q w j = j :: (nej q w j ++ if w.testBit j = true then [] else [j]) := rfl
  obtain ⟨m, rfl⟩ : ∃ m, i = m + 1 := ⟨i - 1, by omega⟩
  have ht : (crs q w j).take (m + 1) = j :: ((nej q w j).take m ++ (if w.testBit j = true then [] else [j]).take (m - (nej q w j).length)) := by
    rw [hcr, List.take_succ_cons, List.take_append]
  by_cases hm : m ≤ (nej q w j).length
  · have e0 : m - (nej q w j).length = 0 := by omega
    rw [e0, List.take_zero, List.append_nil] at ht
    rw [ht]
    have ndt : ((nej q w j).take m).Nodup := nd.sublist (List.take_sublist _ _)
    have hjt : j ∉ (nej q w j).take m := fun h => hne (List.mem_of_mem_take h)
    rw [crs_of (w := w) (m := m) hj fun k hk => ?_]
    · rw [lxs_bit, List.count_cons, List.count_eq_zero.mpr hjt]
      simp
    · rw [lxs_bit, List.count_cons, count_nd ndt]
      have hkj : (j == k) = false := beq_false_of_ne (Ne.symm (base_ne hj hk))
      rw [hkj]
      by_cases h : k ∈ (nej q w j).take m <;> simp [h]
  · have hb : ¬ w.testBit j = true := fun hb => by
      rw [hcr, if_pos hb, List.append_nil, List.length_cons] at hi
      omega
    rw [if_neg hb] at ht hcr
    have e1 : m - (nej q w j).length = 1 := by
      rw [hcr, List.length_cons, List.length_append, List.length_singleton] at hi
      omega
    have e2 : (nej q w j).take m = nej q w j := List.take_of_length_le (by omega)
    rw [e1, e2] at ht
    have e3 : [j].take 1 = [j] := rfl
    rw [e3] at ht
    rw [ht]
    show crs q (lastx s (j :: (nej q w j ++ [j])) ^^^ s) j = j :: (nej q w j ++ [j])
    have cj : (j :: (nej q w j ++ [j])).count j = 2 := by
      rw [List.count_cons, List.count_append, List.count_eq_zero.mpr hne]
      simp
    rw [crs_of (w := w) (m := (nej q w j).length) hj fun k hk => ?_]
    · rw [lxs_bit, cj, List.take_length]
      simp
    · have hkj := base_ne hj hk
      have h1 : (j == k) = false := beq_false_of_ne (Ne.symm hkj)
      rw [lxs_bit, List.count_cons, List.count_append, count_nd nd, List.take_length, h1, List.count_singleton, h1]
      by_cases h : k ∈ nej q w j <;> simp [h]
theorem lastx_crs {q h s j : Nat} (hj : j < q) (hh : h < 2 ^ q) (hs : s < 2 ^ q) : lastx s (crs q (h ^^^ s) j) = h := by
  have hw : h ^^^ s < 2 ^ q := Nat.xor_lt_two_pow hh hs
  have nd := nej_nd (w := h ^^^ s) hj
  have hne : j ∉ nej q (h ^^^ s) j := fun h => nej_ne h rfl
  have key : ∀ k, (lastx s (crs q (h ^^^ s) j) ^^^ s).testBit k = (h ^^^ s).testBit k := fun k => by
    rw [lxs_bit]
    have hmem := nej_mem (w := h ^^^ s) (k := k) hj
    unfold crs
    rw [List.count_cons, List.count_append, count_nd nd]
    by_cases hk : k = j
    · subst hk
      rw [if_neg hne]
      cases hb : (h ^^^ s).testBit k <;> simp
    · have h1 : (j == k) = false := beq_false_of_ne (Ne.symm hk)
      have h2 : List.count k (if (h ^^^ s).testBit j = true then [] else [j]) = 0 := List.count_eq_zero.mpr fun hm => by
        split at hm
        · exact absurd hm List.not_mem_nil
        · exact hk (List.mem_singleton.mp hm)
      rw [h1, h2]
      by_cases hb : (h ^^^ s).testBit k = true
      · have hlt : k < q := by
          rcases Nat.lt_or_ge k q with z | z
          · exact z
          · rw [Nat.testBit_lt_two_pow (Nat.lt_of_lt_of_le hw (Nat.pow_le_pow_right (by decide) z))] at hb
            cases hb
        rw [if_pos (hmem.mpr ⟨hlt, hb, hk⟩), hb]
        rfl
      · rw [if_neg fun z => hb (hmem.mp z).2.1]
        cases hc : (h ^^^ s).testBit k
        · rfl
        · exact absurd hc hb
  have e := Nat.eq_of_testBit_eq key
  have e2 := congrArg (· ^^^ s) e
  simp only [Nat.xor_assoc, Nat.xor_self, Nat.xor_zero] at e2
  exact e2
theorem wayL_take : ∀ (ks : List Nat) (a i : Nat), (wayL a ks).take (i + 1) = wayL a (ks.take i)
  | [], a, i => by simp [wayL]
  | k :: ks, a, 0 => by simp [wayL]
  | k :: ks, a, i + 1 => by
    simp only [wayL, List.take_succ_cons]
    rw [← wayL_take ks _ i]
theorem way_pre {q w j s i : Nat} (hj : j < q) (h1 : 1 ≤ i) (hi : i ≤ (crs q w j).length) : wayL s (crs q (lastx s ((crs q w j).take i) ^^^ s) j) = (wayL s (crs q w j)).take (i + 1) := by
  rw [pre_crs hj h1 hi, wayL_take]
theorem crs_pos (q w j : Nat) : 1 ≤ (crs q w j).length := by unfold crs; simp
theorem tel_take (s : Nat) (ks : List Nat) : tel s ks = lastx s (ks.take (ks.length - 1)) := by unfold tel; rw [List.dropLast_eq_take]
/-- the way but for its end is the teller's -/
theorem way_tel {q h s j : Nat} (hj : j < q) : (wayL s (crs q (h ^^^ s) j)).take ((wayL s (crs q (h ^^^ s) j)).length - 1) = if tel s (crs q (h ^^^ s) j) = s then [s] else wayL s (crs q (tel s (crs q (h ^^^ s) j) ^^^ s) j) := by
  have hp := crs_pos q (h ^^^ s) j
  rw [wayL_len, Nat.add_sub_cancel]
  obtain ⟨m, hm⟩ : ∃ m, (crs q (h ^^^ s) j).length = m + 1 := ⟨(crs q (h ^^^ s) j).length - 1, by omega⟩
  rw [hm, wayL_take, tel_take, hm, Nat.add_sub_cancel]
  by_cases h0 : m = 0
  · subst h0
    rw [List.take_zero]
    rw [if_pos (show lastx s [] = s from rfl)]
    rfl
  · have hx : lastx s ((crs q (h ^^^ s) j).take m) ∈ btw (wayL s (crs q (h ^^^ s) j)) := by
      unfold btw
      have hg := wayL_get (crs q (h ^^^ s) j) s m (by omega)
      obtain ⟨hl, e⟩ := List.getElem?_eq_some_iff.mp hg
      rw [← e]
      refine List.mem_take_iff_getElem.mpr ⟨m - 1, ?_, ?_⟩
      · rw [List.length_drop, wayL_len, hm]; omega
      · rw [List.getElem_drop]
        congr 1
        omega
    rw [if_neg (ends_out hj hx).1, way_pre hj (by omega) (by omega), wayL_take]
/-- who hears: its way is the teller's and itself -/
theorem way_hear {q h s j x : Nat} (hj : j < q) (hxq : x < 2 ^ q) (hs : s < 2 ^ q) (hne : h ≠ s) (hx : tel s (crs q (x ^^^ s) j) = h) : wayL s (crs q (x ^^^ s) j) = wayL s (crs q (h ^^^ s) j) ++ [x] := by
  have h1 := way_tel (h := x) (s := s) hj
  rw [hx, if_neg hne] at h1
  rw [← h1]
  have hl := wayL_last s (crs q (x ^^^ s) j)
  rw [lastx_crs hj hxq hs] at hl
  generalize wayL s (crs q (x ^^^ s) j) = L at hl
  obtain ⟨A, rfl⟩ := List.getLast?_eq_some_iff.mp hl
  simp
theorem way_at {q h s j i x : Nat} (hj : j < q) (h1 : 1 ≤ i) (hx : (wayL s (crs q (h ^^^ s) j))[i]? = some x) : wayL s (crs q (x ^^^ s) j) = (wayL s (crs q (h ^^^ s) j)).take (i + 1) := by
  have hl : i ≤ (crs q (h ^^^ s) j).length := by
    have := (List.getElem?_eq_some_iff.mp hx).1
    rw [wayL_len] at this
    omega
  rw [wayL_get _ _ _ hl] at hx
  cases hx
  exact way_pre hj h1 hl
theorem way_same {q h o s j a b x : Nat} (hj : j < q) (h1 : 1 ≤ a) (h2 : 1 ≤ b) (hx : (wayL s (crs q (h ^^^ s) j))[a]? = some x) (hy : (wayL s (crs q (o ^^^ s) j))[b]? = some x) :
    a = b ∧ (wayL s (crs q (h ^^^ s) j)).take (a + 1) = (wayL s (crs q (o ^^^ s) j)).take (a + 1) := by
  have e := (way_at hj h1 hx).symm.trans (way_at hj h2 hy)
  have l1 := (List.getElem?_eq_some_iff.mp hx).1
  have l2 := (List.getElem?_eq_some_iff.mp hy).1
  have hl := congrArg List.length e
  rw [List.length_take, List.length_take] at hl
  have : a = b := by omega
  subst this
  exact ⟨rfl, e⟩
/-- behind the place where two ways part no hand stands twice -/
theorem way_part {q h o s j c : Nat} (hj : j < q) (hA : c ≤ (wayL s (crs q (h ^^^ s) j)).length) (hB : c ≤ (wayL s (crs q (o ^^^ s) j)).length)
    (hc : c < (wayL s (crs q (h ^^^ s) j)).length → c < (wayL s (crs q (o ^^^ s) j)).length → (wayL s (crs q (h ^^^ s) j))[c]? ≠ (wayL s (crs q (o ^^^ s) j))[c]?) :
    ((wayL s (crs q (h ^^^ s) j)).drop c ++ (wayL s (crs q (o ^^^ s) j)).drop c).Nodup := by
  have lA := wayL_len s (crs q (h ^^^ s) j)
  have lB := wayL_len s (crs q (o ^^^ s) j)
  have a0 := wayL_get (crs q (h ^^^ s) j) s 0 (Nat.zero_le _)
  have b0 := wayL_get (crs q (o ^^^ s) j) s 0 (Nat.zero_le _)
  rw [List.take_zero] at a0 b0
  have c1 : 1 ≤ c := by
    rcases Nat.eq_zero_or_pos c with z | z
    · subst z
      exact absurd (a0.trans b0.symm) (hc (by omega) (by omega))
    · exact z
  have one : ∀ h : Nat, ((wayL s (crs q (h ^^^ s) j)).drop c).Nodup := fun h => by
    refine List.pairwise_iff_getElem.mpr fun a b ha hb hab e => ?_
    rw [List.length_drop] at ha hb
    rw [List.getElem_drop, List.getElem_drop] at e
    have h1 := way_same (h := h) (o := h) (s := s) (a := c + a) (b := c + b) (x := (wayL s (crs q (h ^^^ s) j))[c + a]) hj (by omega) (by omega) (List.getElem?_eq_getElem _) (by rw [e]; exact List.getElem?_eq_getElem _)
    omega
  refine List.nodup_append.mpr ⟨one h, one o, fun x hx y hy e => ?_⟩
  subst e
  obtain ⟨a, ha, ea⟩ := List.mem_iff_getElem.mp hx
  obtain ⟨b, hb, eb⟩ := List.mem_iff_getElem.mp hy
  rw [List.length_drop] at ha hb
  rw [List.getElem_drop] at ea eb
  obtain ⟨e1, e2⟩ := way_same (h := h) (o := o) (s := s) (a := c + a) (b := c + b) (x := x) hj (by omega) (by omega) (by rw [← ea]; exact List.getElem?_eq_getElem _) (by rw [← eb]; exact List.getElem?_eq_getElem _)
  refine hc (by omega) (by omega) ?_
  have e3 := congrArg (·[c]?) e2
  simp only [List.getElem?_take] at e3
  rwa [if_pos (by omega), if_pos (by omega)] at e3
theorem ddI_nd : ∀ {ns : List Int}, ns.Nodup → ddI ns = ns
  | [], _ => rfl
  | x :: r, h => by
    unfold ddI
    rw [if_neg (List.nodup_cons.mp h).1, ddI_nd (List.nodup_cons.mp h).2]
theorem ddI_ndN {l : List Nat} (h : l.Nodup) : (ddI (l.map fun n : Nat => (n : Int))).length = l.length := by
  have h2 : (l.map fun n : Nat => (n : Int)).Nodup := by
    refine List.pairwise_map.mpr (List.Pairwise.imp (fun {a b} hab e => ?_) h)
    omega
  rw [ddI_nd h2, List.length_map]
end B
/-! P7: what hangs on no law. -/
namespace B
open PySem PyProof.Rows L2
theorem W.call {α : Type} {r : Option (α × Store)} {x : α} {s : Store} {Q : α → Store → Prop} (h : W r fun d st' => d = x ∧ st' = s) (k : Q x s) : W r Q := h.mono fun d s' ⟨e, e2⟩ => by rw [e, e2]; exact k
theorem turns3 (n : Nat) : ∃ m : Int, (if (if (n : Int) < 3 then (n : Int) else 3) > 1 then if (n : Int) < 3 then (n : Int) else 3 else 1) = m ∧ 1 ≤ m ∧ m ≤ 3 := ⟨_, rfl, by split <;> omega, by split <;> (split <;> omega)⟩
theorem turns2 (n : Nat) : ∃ m : Int, (if (if (n : Int) < 2 then (n : Int) else 2) > 1 then if (n : Int) < 2 then (n : Int) else 2 else 1) = m ∧ 1 ≤ m ∧ m ≤ 2 := ⟨_, rfl, by split <;> omega, by split <;> (split <;> omega)⟩
theorem StOk.nil : StOk [] := fun o h => absurd h List.not_mem_nil
theorem W_lc_map {α : Type} {l : List α} {c : α → D} {f : D → Store → Option (Option D × Store)} {st : Store} {Q : List D → Store → Prop} (e : α → D) (step : ∀ x ∈ l, W (f (c x) st) fun o s => o = some (e x) ∧ s = st) (fin : Q (l.map e) st) :
    W (lcGo (Itv.fix (l.map c)).nth f ((l.map c).length + 1) 0 [] st) Q := by
  refine W_lc_st (fun i acc s => acc = (l.take i).map e ∧ s = st) ⟨rfl, rfl⟩ (fun i x acc s hx => ?_) fun acc s => ?_
  · rintro ⟨rfl, rfl⟩
    rw [List.getElem?_map] at hx
    cases h : l[i]? with
    | none => rw [h] at hx; cases hx
    | some y =>
      rw [h] at hx
      cases hx
      refine W.call (step y (List.mem_of_getElem? h)) ?_
      exact ⟨by rw [List.take_succ, h, List.map_append]; rfl, rfl⟩
  · rintro ⟨rfl, rfl⟩
    rw [List.length_map, List.take_length]
    exact fin
theorem W_lc_flt {α : Type} {l : List α} {c : α → D} {f : D → Store → Option (Option D × Store)} {st : Store} {Q : List D → Store → Prop} (b : α → Bool) (e : α → D) (step : ∀ x ∈ l, W (f (c x) st) fun o s => o = (if b x = true then some (e x) else none) ∧ s = st) (fin : Q ((l.filter b).map e) st) :
    W (lcGo (Itv.fix (l.map c)).nth f ((l.map c).length + 1) 0 [] st) Q := by
  refine W_lc_st (fun i acc s => acc = ((l.take i).filter b).map e ∧ s = st) ⟨rfl, rfl⟩ (fun i x acc s hx => ?_) fun acc s => ?_
  · rintro ⟨rfl, rfl⟩
    rw [List.getElem?_map] at hx
    cases h : l[i]? with
    | none => rw [h] at hx; cases hx
    | some y =>
      rw [h] at hx
      cases hx
      refine W.call (step y (List.mem_of_getElem? h)) ?_
      rw [List.take_succ, h, List.filter_append, List.map_append]
      by_cases hb : b y = true
      · rw [if_pos hb]
        exact ⟨by simp [hb], rfl⟩
      · rw [if_neg hb]
        exact ⟨by simp [hb], rfl⟩
  · rintro ⟨rfl, rfl⟩
    rw [List.length_map, List.take_length]
    exact fin
theorem rngD_map (lo : Int) (n : Nat) : rngD lo n = (List.range n).map fun (i : Nat) => D.int (lo + (i : Int)) := rfl
theorem W_lc_rng {lo : Int} {n : Nat} {f : D → Store → Option (Option D × Store)} {st : Store} {Q : List D → Store → Prop} (e : Nat → D) (step : ∀ i, i < n → W (f (.int (lo + (i : Int))) st) fun o s => o = some (e i) ∧ s = st) (fin : Q ((List.range n).map e) st) :
    W (lcGo (Itv.fix (rngD lo n)).nth f ((rngD lo n).length + 1) 0 [] st) Q := by
  rw [rngD_map]
  exact W_lc_map e (fun i hi => step i (List.mem_range.mp hi)) fin
theorem W_lc_rngN {q n : Nat} {f : D → Store → Option (Option D × Store)} {st : Store} {Q : List D → Store → Prop} (hn : (q : Int).toNat = n) (e : Nat → D) (step : ∀ i, i < n → W (f (nD i) st) fun o s => o = some (e i) ∧ s = st) (fin : Q ((List.range n).map e) st) :
    W (lcGo (Itv.fix (rngD 0 (q : Int).toNat)).nth f ((rngD 0 (q : Int).toNat).length + 1) 0 [] st) Q := by
  subst hn
  refine W_lc_rng e (fun i hi => ?_) fin
  rw [Int.zero_add]
  exact step i hi
theorem repr_L {ps : List Nat} {st : Store} {Q : D → Store → Prop} (hp : ∀ p ∈ ps, p < 2 ^ 100) (hl : ps.length ≤ 3000) (h : Q (.str (D.lst (ps.map nD)).shw) st) : W (bltin .repr [.lst (ps.map nD)] st) Q :=
  repr_S (by simp only [D.sm]; exact sm_nD hp) (by simp only [D.dep, dep_nD]; omega) (by simp only [D.cnt, cnt_nD]; omega) (fun n e => by cases e) h
theorem perm_range {l : List Nat} {q : Nat} (nd : l.Nodup) (h : ∀ k, k ∈ l ↔ k < q) : l.Perm (List.range q) :=
  (List.perm_ext_iff_of_nodup nd List.nodup_range).mpr fun k => by rw [h k, List.mem_range]
theorem srt_range {l : List Nat} {q : Nat} (nd : l.Nodup) (h : ∀ k, k ∈ l ↔ k < q) : srtN l = List.range q :=
  (srtN_eq (perm_range nd h).symm (List.pairwise_le_range)).symm
theorem W_lc_rngf {lo : Int} {n : Nat} {f : D → Store → Option (Option D × Store)} {st : Store} {Q : List D → Store → Prop} (b : Nat → Bool) (e : Nat → D) (step : ∀ i, i < n → W (f (.int (lo + (i : Int))) st) fun o s => o = (if b i = true then some (e i) else none) ∧ s = st) (fin : Q (((List.range n).filter b).map e) st) :
    W (lcGo (Itv.fix (rngD lo n)).nth f ((rngD lo n).length + 1) 0 [] st) Q := by
  rw [rngD_map]
  exact W_lc_flt b e (fun i hi => step i (List.mem_range.mp hi)) fin
theorem fold_max : ∀ (l : List Int) (a m : Int), a ≤ m → (∀ x ∈ l, x ≤ m) → (a = m ∨ m ∈ l) → l.foldl (fun a b => if a < b then b else a) a = m
  | [], a, m, h, _, e => by
    rcases e with e | e
    · exact e
    · cases e
  | x :: l, a, m, h, hx, e => by
    rw [List.foldl_cons]
    have h1 := hx x (List.mem_cons_self ..)
    have h2 : ∀ y ∈ l, y ≤ m := fun y hy => hx y (List.mem_cons_of_mem _ hy)
    refine fold_max l _ m (by split <;> omega) h2 ?_
    rcases e with e | e
    · left; rw [if_neg (by omega)]; exact e
    · rcases List.mem_cons.mp e with e | e
      · left
        by_cases c : a < x
        · rw [if_pos c]; exact e.symm
        · rw [if_neg c]; omega
      · exact .inr e
theorem maxI_eq {l : List Int} {m : Int} (hm : m ∈ l) (hx : ∀ x ∈ l, x ≤ m) : maxI l = some m := by
  cases l with
  | nil => cases hm
  | cons a l =>
    show some (l.foldl (fun a b => if a < b then b else a) a) = some m
    rw [fold_max l a m (hx a (List.mem_cons_self ..)) (fun x h => hx x (List.mem_cons_of_mem _ h)) ((List.mem_cons.mp hm).imp Eq.symm id)]

theorem cut_from {l : List Nat} {c : Nat} (h : c ≤ l.length) : cutD (l.map nD) (some (c : Int)) none = (l.drop c).map nD := by
  unfold cutD clip
  simp only [List.length_map]
  have e : (if (c : Int) < 0 then max ((c : Int) + (l.length : Int)) 0 else min (c : Int) (l.length : Int)).toNat = c := by
    rw [if_neg (by omega)]
    omega
  rw [e, ← List.map_drop, ← List.map_take, List.take_of_length_le (by rw [List.length_drop]; exact Nat.le_refl _)]

theorem prime5 {c : Int} (hc : 0 ≤ c) : ∃ r, atD [.int 2147483647, .int 2147483629, .int 2147483587, .int 2147483579, .int 2147483563] (c.fmod 5) = some (.int r) ∧ 0 < r ∧ r < 2147483648 := by
  have q1 : 0 ≤ c.fmod 5 := fm_nn (by decide)
  have q2 : c.fmod 5 < 5 := fm_lt (by decide)
  rcases (by omega : c.fmod 5 = 0 ∨ c.fmod 5 = 1 ∨ c.fmod 5 = 2 ∨ c.fmod 5 = 3 ∨ c.fmod 5 = 4) with e | e | e | e | e <;> rw [e, at_int (by decide) (by decide)] <;> exact ⟨_, rfl, by decide, by decide⟩
theorem if01 (p : Prop) [Decidable p] : (-18446744073709551616 : Int) < (if p then 1 else 0) ∧ (if p then (1 : Int) else 0) < 18446744073709551616 ∧ (0 : Int) ≤ (if p then 1 else 0) := by
  by_cases h : p <;> simp [h]
theorem fmod_nat (a b : Nat) : ((a : Int).fmod (b : Int)) = ((a % b : Nat) : Int) := by
  rw [Int.fmod_eq_emod_of_nonneg _ (Int.natCast_nonneg _)]; rfl
theorem lt60 {q h : Nat} (hq : q ≤ 60) (hh : h < 2 ^ q) : h < 2 ^ 60 := Nat.lt_of_lt_of_le hh (Nat.pow_le_pow_right (by decide) hq)
def ng (j : Nat) : D → Option D
  | .int i => if i = (j : Int) then none else some (.int i)
  | _ => none
theorem ng_all (j : Nat) : ∀ l : List Nat, (l.map nD).filterMap (ng j) = (l.filter fun k => decide (k ≠ j)).map nD
  | [] => rfl
  | k :: l => by
    have ih := ng_all j l
    by_cases h : k = j
    · have e : ng j (nD k) = none := by show (if (k : Int) = (j : Int) then none else some (D.int k)) = none; rw [if_pos (by omega)]
      rw [List.map_cons, List.filterMap_cons, e, List.filter_cons, if_neg (by simp [h])]
      exact ih
    · have e : ng j (nD k) = some (nD k) := by show (if (k : Int) = (j : Int) then none else some (D.int k)) = _; rw [if_neg (by omega)]
      rw [List.map_cons, List.filterMap_cons, e, List.filter_cons, if_pos (by simp [h]), List.map_cons]
      exact congrArg _ ih
def lz (q w j : Nat) : Nat := (crs q w j).getLast (crs_ne q w j)
theorem lz_lt {q w j : Nat} (hj : j < q) : lz q w j < q := crs_lt hj _ (List.getLast_mem _)
theorem at_lz (q w j : Nat) : atD ((crs q w j).map nD) (-1) = some (nD (lz q w j)) := by
  rw [at_last (by simpa using crs_ne q w j), List.getLast?_map, List.getLast?_eq_some_getLast (crs_ne q w j)]
  rfl
def aN (q j k : Nat) : Nat := (akey q j k).toNat
theorem aN_lt {q j k : Nat} (hj : j < q) (hk : k < q) : aN q j k < q := by
  obtain ⟨i, hi, e⟩ := akey_nD' hj hk
  unfold aN
  rw [e]
  exact hi
theorem akey_aN {q j k : Nat} (hj : j < q) (hk : k < q) : akey q j k = ((aN q j k : Nat) : Int) := by
  obtain ⟨i, hi, e⟩ := akey_nD' hj hk
  unfold aN
  rw [e]
  rfl
def dly (q w j : Nat) : Nat := if w.testBit j = true then aN q j (lz q w j) else q
theorem dly_le {q w j : Nat} (hj : j < q) : dly q w j ≤ q := by
  unfold dly
  have := aN_lt hj (lz_lt (w := w) hj)
  split <;> omega
def lastN (l : List Nat) : Nat := match l.getLast? with | some z => z | none => 0
theorem lastN_or {l : List Nat} (h : l ≠ []) : lstOr l = nD (lastN l) := by
  unfold lstOr lastN
  rw [List.getLast?_eq_some_getLast h]
theorem lastN_mem {l : List Nat} (h : l ≠ []) : lastN l ∈ l := by
  unfold lastN
  rw [List.getLast?_eq_some_getLast h]
  exact List.getLast_mem h
def sinceN (q m w i : Nat) : Nat := if i < m - 1 then i + dly q w (i % q) else i + aN q (i % q) (lastN (ring q w (i % q)))
theorem ring_ne {q w j : Nat} (hj : j < q) (hw : w < 2 ^ q) (h0 : w ≠ 0) : ring q w j ≠ [] := by
  obtain ⟨i, hi⟩ := Nat.exists_testBit_of_ne_zero h0
  exact ring_has (bit_lt hw hi) hj hi
theorem sinceN_le {q m w i : Nat} (hq : 0 < q) (hw : w < 2 ^ q) (h0 : w ≠ 0) : sinceN q m w i ≤ i + q := by
  have hk := Nat.mod_lt i hq
  unfold sinceN
  split
  · have := dly_le (w := w) hk; omega
  · have := aN_lt hk ((ring_mem hk).mp (lastN_mem (ring_ne hk hw h0))).1; omega
theorem xor_ne {h s : Nat} (hn : h ≠ s) : h ^^^ s ≠ 0 := fun e => hn (by
  have h1 : (h ^^^ s) ^^^ s = h := by rw [Nat.xor_assoc, Nat.xor_self, Nat.xor_zero]
  rw [e, Nat.zero_xor] at h1
  exact h1.symm)
def holdsB (q m h t i s : Nat) : Bool := decide (h = s) || decide (sinceN q m (h ^^^ s) i < t)
def mot (q m j upto : Int) : Int := if (if upto < m - 2 then upto else m - 2) < j then 0 else ((if upto < m - 2 then upto else m - 2) - j).fdiv q + 1
theorem mot_bd {q m j upto : Int} (hq : 0 < q) (hj : 0 ≤ j) (hm : 1 ≤ m) : 0 ≤ mot q m j upto ∧ mot q m j upto ≤ m := by
  unfold mot
  generalize hl : (if upto < m - 2 then upto else m - 2) = l
  have hl2 : l ≤ m - 2 := by rw [← hl]; split <;> omega
  split
  · omega
  · rename_i hn
    rw [Int.fdiv_eq_ediv_of_nonneg _ (by omega)]
    have h1 := Int.ediv_nonneg (a := l - j) (b := q) (by omega) (by omega)
    have h2 : (l - j) / q ≤ l - j := Int.ediv_le_self _ (by omega)
    omega
def manyS (q m h t s : Nat) : Nat → Int
  | 0 => if holdsB q m h t (m - 1) s then 1 else 0
  | i + 1 => manyS q m h t s i + mot q m i ((t : Int) - 1 - (dly q (h ^^^ s) i : Nat))
theorem manyS_bd {q m h t s : Nat} (hq : 0 < q) (hm : 1 ≤ m) : ∀ i : Nat, 0 ≤ manyS q m h t s i ∧ manyS q m h t s i ≤ 1 + i * m
  | 0 => by
    unfold manyS
    split <;> simp
  | i + 1 => by
    have ih := manyS_bd (h := h) (t := t) (s := s) hq hm i
    have hb := mot_bd (q := q) (m := m) (j := i) (upto := (t : Int) - 1 - (dly q (h ^^^ s) i : Nat)) (by omega) (by omega) (by omega)
    have e : ((i + 1 : Nat) : Int) * (m : Int) = (i : Int) * m + m := by
      rw [Int.natCast_add, Int.add_mul]
      simp
    unfold manyS
    rw [e]
    omega
def lk (q j b : Int) : Int := (if 0 > b then 0 else b) + (j - (if 0 > b then 0 else b)).fmod q
theorem lk_bd {q j b t : Int} (hq : 0 < q) (hq2 : q ≤ 60) (hb : b ≤ t) (ht : 0 ≤ t) : 0 ≤ lk q j b ∧ lk q j b ≤ t + 60 := by
  unfold lk
  have g1 : 0 ≤ (j - (if 0 > b then 0 else b)).fmod q := fm_nn hq
  have g2 : (j - (if 0 > b then 0 else b)).fmod q < q := fm_lt hq
  generalize hl : (if 0 > b then 0 else b) = l at *
  have : 0 ≤ l ∧ l ≤ t := by rw [← hl]; split <;> omega
  omega
theorem neL_nil {ds : List D} {st : Store} {n : Nat} (hn : st[n]? = some (.lst ds)) (h : D.smL ds = true) (hd : D.depL ds ≤ 60) : cop .ne (.ref n) (.lst []) st = some (!ds.isEmpty) := by
  have h' : (D.lst ds).sm = true := by simpa only [D.sm] using h
  have hd' : (D.lst ds).dep ≤ 64 := by simp only [D.dep]; omega
  obtain ⟨x, e, -⟩ := D.sm_py (.lst ds) h'
  show (match ((D.ref n).see st).py, ((D.lst []).see st).py with
      | some x, some y => if SeqAt.shaped x = true ∧ SeqAt.shaped y = true then some (!PyData.eqv x y) else none
      | _, _ => none) = some (!ds.isEmpty)
  have e0 : (D.ref n).see st = .lst ds := by
    unfold D.see
    simp only [hn]
  have e2' : ((D.lst []).see st).py = some (.list []) := rfl
  rw [e0, e, e2']
  simp only
  rw [if_pos ⟨shp_sm h' hd' e, by decide⟩]
  congr 2
  unfold D.py at e
  cases ds with
  | nil => cases e; rfl
  | cons d ds =>
    split at e
    · rename_i xs hx
      cases e
      unfold D.pyL at hx
      split at hx
      · split at hx
        · cases hx; rfl
        · cases hx
      · cases hx
    · cases e
theorem smL_int : ∀ {l : List Int}, (∀ x ∈ l, x.natAbs < 2 ^ 100) → D.smL (l.map D.int) = true ∧ D.depL (l.map D.int) = 0 ∧ ∀ n, D.loL n (l.map D.int) = true
  | [], _ => ⟨rfl, rfl, fun _ => rfl⟩
  | x :: l, h => by
    obtain ⟨a, b, c⟩ := smL_int fun y hy => h y (List.mem_cons_of_mem _ hy)
    refine ⟨?_, ?_, fun n => ?_⟩
    · simp only [List.map_cons, D.smL, D.sm, a, Bool.and_true]
      exact decide_eq_true (h x (List.mem_cons_self ..))
    · simp only [List.map_cons, D.depL, D.dep, b]; rfl
    · simp only [List.map_cons, D.loL, D.lo, c n, Bool.and_self]
def flL (q m h t s : Nat) : List Int := (((List.range q).map fun j : Nat => lk q j ((t : Int) - (dly q (h ^^^ s) j : Nat))).filter fun x => decide (x < (m : Int) - 1)) ++ if holdsB q m h t (m - 1) s = true then [] else [(m : Int) - 1]
def flD (q m h t s : Nat) : D := if h = s then .non else match minI (flL q m h t s) with
  | some x => .int x
  | none => .non
theorem flL_bd {q m h t s : Nat} (hq : q ≤ 60) (hq0 : 0 < q) (hm : 1 ≤ m) (hm2 : m ≤ 2 ^ 62) (ht : t ≤ 2 ^ 62) : ∀ x ∈ flL q m h t s, x.natAbs < 2 ^ 100 := fun x hx => by
  unfold flL at hx
  rcases List.mem_append.mp hx with z | z
  · obtain ⟨j, hj, rfl⟩ := List.mem_map.mp (List.mem_filter.mp z).1
    have := lk_bd (q := q) (j := j) (b := (t : Int) - (dly q (h ^^^ s) j : Nat)) (t := t) (by omega) (by omega) (by omega) (by omega)
    omega
  · split at z
    · cases z
    · rw [List.mem_singleton.mp z]
      omega
def lbL (q m w : Nat) : List Int := (List.range (m - (m - 1 - q))).map fun k : Nat => ((sinceN q m w (m - 1 - q + k) : Nat) : Int)
def lbD (q m h s : Nat) : D := if h = s then .non else match maxI (lbL q m (h ^^^ s)) with
  | some x => .int x
  | none => .non
theorem and_bit {w k : Nat} : w &&& 2 ^ k = 0 ↔ w.testBit k = false := by
  constructor
  · intro e
    have h := congrArg (fun x => x.testBit k) e
    simpa [Nat.testBit_and, Nat.testBit_two_pow] using h
  · intro h
    apply Nat.eq_of_testBit_eq
    intro i
    rw [Nat.testBit_and, Nat.testBit_two_pow, Nat.zero_testBit]
    by_cases e : k = i
    · subst e; simp [h]
    · simp [e]
def firstN (l : List Nat) : Nat := match l.head? with | some z => z | none => 0
theorem firstN_or {l : List Nat} (h : l ≠ []) : fstD l = nD (firstN l) := by
  cases l with
  | nil => exact absurd rfl h
  | cons x l => rfl
theorem firstN_mem {l : List Nat} (h : l ≠ []) : firstN l ∈ l := by
  cases l with
  | nil => exact absurd rfl h
  | cons x l => exact List.mem_cons_self ..
def treeN (q w k : Nat) : Nat := if w.testBit k = true then firstN (ring q w ((k + 1) % q)) else k
theorem treeN_lt {q w k : Nat} (hk : k < q) : treeN q w k < q := by
  unfold treeN
  split
  · rename_i hb
    have hk2 := Nat.mod_lt (k + 1) (show 0 < q by omega)
    exact ((ring_mem hk2).mp (firstN_mem (ring_has hk hk2 hb))).1
  · exact hk
def dueI (q w t : Nat) : Int := if w.testBit (t % q) = true then (t : Int) - (aN q (treeN q w (t % q)) (t % q) : Nat) else (t : Int) - q
def heardD (q m h t s : Nat) : D := if dueI q (h ^^^ s) t < 0 then .non else .tup [nD (h ^^^ 2 ^ (t % q)), .int (if (m : Int) - 1 < dueI q (h ^^^ s) t then (m : Int) - 1 else dueI q (h ^^^ s) t)]
def toldD (q m h t s : Nat) : D := if dueI q ((h ^^^ 2 ^ (t % q)) ^^^ s) t < 0 then .non else .tup [nD (h ^^^ 2 ^ (t % q)), .int (if (m : Int) - 1 < dueI q ((h ^^^ 2 ^ (t % q)) ^^^ s) t then (m : Int) - 1 else dueI q ((h ^^^ 2 ^ (t % q)) ^^^ s) t)]
/-! ### which tree's way ends by a bit -/
theorem lz_off {q w j : Nat} (hb : ¬ w.testBit j = true) : lz q w j = j := by
  have e : crs q w j = (j :: nej q w j) ++ [j] := by unfold crs; rw [if_neg hb]; rfl
  have h : (crs q w j).getLast? = some (lz q w j) := List.getLast?_eq_some_getLast (crs_ne q w j)
  rw [e, List.getLast?_concat] at h
  exact (Option.some.inj h).symm
theorem ring_j {q w j : Nat} (hj : j < q) (hb : w.testBit j = true) : ring q w j = j :: nej q w j := by
  obtain ⟨B, e⟩ := ring_begin hj hb
  have nd := ring_nd (h := w) hj
  unfold nej
  rw [e] at nd ⊢
  rw [List.filter_cons_of_neg (by simp)]
  congr 1
  symm
  rw [List.filter_eq_self]
  intro k hk
  exact decide_eq_true fun z => (List.nodup_cons.mp nd).1 (z ▸ hk)
theorem lz_on {q w j : Nat} (hj : j < q) (hb : w.testBit j = true) : (ring q w j).getLast? = some (lz q w j) := by
  have e : crs q w j = ring q w j := by rw [ring_j hj hb]; unfold crs; rw [if_pos hb, List.append_nil]
  have h : (crs q w j).getLast? = some (lz q w j) := List.getLast?_eq_some_getLast (crs_ne q w j)
  rw [← h, e]
theorem lz_tree {q w j k : Nat} (hj : j < q) (hk : k < q) : lz q w j = k ↔ j = treeN q w k := by
  have hk2 : (k + 1) % q < q := Nat.mod_lt _ (by omega)
  by_cases hbj : w.testBit j = true
  · have hl := lz_on hj hbj
    have hlb : w.testBit (lz q w j) = true := ((ring_mem hj).mp (List.mem_of_getLast? hl)).2
    by_cases hbk : w.testBit k = true
    · have hmem : k ∈ ring q w j := (ring_mem hj).mpr ⟨hk, hbk⟩
      obtain ⟨A, B, e1, e2⟩ := ring_next hj hmem
      have nd := ring_nd (h := w) hj
      have hh := ring_j hj hbj
      have ef : treeN q w k = firstN (B ++ (A ++ [k])) := by unfold treeN; rw [if_pos hbk, e2]
      rw [ef]
      rw [e1] at nd
      constructor
      · intro h
        rw [h, e1] at hl
        have hB : B = [] := by
          rcases List.eq_nil_or_concat B with z | ⟨B', z, rfl⟩
          · exact z
          · exfalso
            rw [List.concat_eq_append, show A ++ k :: (B' ++ [z]) = (A ++ k :: B') ++ [z] by simp, List.getLast?_concat] at hl
            cases Option.some.inj hl
            rw [List.concat_eq_append] at nd
            have := (List.nodup_append.mp nd).2.1
            rw [List.nodup_cons] at this
            exact this.1 (List.mem_append_right _ (List.mem_singleton.mpr rfl))
        subst hB
        rw [List.nil_append, ← e1, hh]
        rfl
      · intro h
        cases B with
        | nil =>
          rw [e1, List.getLast?_concat] at hl
          exact (Option.some.inj hl).symm
        | cons b B =>
          exfalso
          have hb : j = b := h
          subst hb
          rw [e1] at hh
          cases A with
          | nil =>
            have : k = j := (List.cons.inj hh).1
            subst this
            rw [List.nil_append, List.nodup_cons] at nd
            exact nd.1 (List.mem_cons_self ..)
          | cons a A =>
            have : a = j := (List.cons.inj hh).1
            subst this
            rw [List.cons_append, List.nodup_cons] at nd
            exact nd.1 (List.mem_append_right _ (List.mem_cons_of_mem _ (List.mem_cons_self ..)))
    · constructor
      · intro h
        rw [h] at hlb
        exact absurd hlb hbk
      · intro h
        unfold treeN at h
        rw [if_neg hbk] at h
        rw [h] at hbj
        exact absurd hbj hbk
  · rw [lz_off hbj]
    by_cases hbk : w.testBit k = true
    · constructor
      · intro h
        rw [h] at hbj
        exact absurd hbk hbj
      · intro h
        exfalso
        unfold treeN at h
        rw [if_pos hbk] at h
        have hm := ((ring_mem hk2).mp (firstN_mem (ring_has hk hk2 hbk))).2
        rw [← h] at hm
        exact hbj hm
    · unfold treeN
      rw [if_neg hbk]
theorem tree_bit {q w k : Nat} (hk : k < q) : w.testBit (treeN q w k) = w.testBit k := by
  have hk2 : (k + 1) % q < q := Nat.mod_lt _ (by omega)
  unfold treeN
  by_cases hb : w.testBit k = true
  · rw [if_pos hb, hb]
    exact ((ring_mem hk2).mp (firstN_mem (ring_has hk hk2 hb))).2
  · rw [if_neg hb]
/-- how late a letter comes by a bit -/
def lateN (q w k : Nat) : Nat := if w.testBit k = true then aN q (treeN q w k) k else q
theorem due_late (q w t : Nat) : dueI q w t = (t : Int) - (lateN q w (t % q) : Nat) := by
  unfold dueI lateN
  split <;> rfl
/-! ### marks -/
def mkN (q w : Nat) : List Nat := (List.range q).map fun k => w / 2 ^ k % 2
theorem mkN_len (q w : Nat) : (mkN q w).length = q := by unfold mkN; simp
theorem mkN_at {q w k : Nat} (hk : k < q) : (mkN q w)[k]? = some (w / 2 ^ k % 2) := by
  unfold mkN
  rw [List.getElem?_map, List.getElem?_range hk]
  rfl
theorem mkN_lt {q w : Nat} : ∀ x ∈ mkN q w, x < 2 := fun x hx => by
  obtain ⟨k, _, rfl⟩ := List.mem_map.mp hx
  omega
theorem mk_bit (w k : Nat) : w / 2 ^ k % 2 = if w.testBit k = true then 1 else 0 := by
  rw [← Nat.toNat_testBit]
  cases w.testBit k <;> rfl
theorem mkN_succ (i w : Nat) : mkN (i + 1) w = mkN i w ++ [w / 2 ^ i % 2] := by
  unfold mkN
  rw [List.range_succ, List.map_append]
  rfl
def num : List Nat → Nat
  | [] => 0
  | a :: l => a + 2 * num l
theorem num_rev (l : List Nat) : l.reverse.foldl (fun f x => 2 * f + x) 0 = num l := by
  rw [List.foldl_reverse]
  induction l with
  | nil => rfl
  | cons a l ih => rw [List.foldr_cons, ih]; show 2 * num l + a = a + 2 * num l; omega
theorem mkN_cons (q w : Nat) : mkN (q + 1) w = w % 2 :: mkN q (w / 2) := by
  unfold mkN
  rw [List.range_succ_eq_map, List.map_cons, List.map_map]
  congr 1
  · simp
  · refine List.map_congr_left fun k _ => ?_
    show w / 2 ^ (k + 1) % 2 = w / 2 / 2 ^ k % 2
    rw [Nat.div_div_eq_div_mul, Nat.pow_succ, Nat.mul_comm]
theorem num_mk : ∀ (q w : Nat), w < 2 ^ q → num (mkN q w) = w
  | 0, w, h => by
    have : w = 0 := by simpa using h
    subst this
    rfl
  | q + 1, w, h => by
    rw [mkN_cons]
    show w % 2 + 2 * num (mkN q (w / 2)) = w
    rw [num_mk q (w / 2) (by rw [Nat.pow_succ] at h; omega)]
    omega
theorem mk_flip {q h k : Nat} (hk : k < q) : (mkN q h).take k ++ [1 - h / 2 ^ k % 2] ++ (mkN q h).drop (k + 1) = mkN q (h ^^^ 2 ^ k) := by
  have hl := mkN_len q h
  refine List.ext_getElem? fun i => ?_
  rcases Nat.lt_or_ge i q with hi | hi
  · rw [mkN_at hi, mk_bit (h ^^^ 2 ^ k) i, Nat.testBit_xor, Nat.testBit_two_pow]
    rcases Nat.lt_trichotomy i k with c | c | c
    · rw [List.append_assoc, List.getElem?_append_left (by rw [List.length_take]; omega), List.getElem?_take, if_pos c, mkN_at hi, mk_bit]
      have : decide (k = i) = false := decide_eq_false (by omega)
      rw [this, Bool.xor_false]
    · subst c
      rw [List.append_assoc, List.getElem?_append_right (by rw [List.length_take]; omega), List.length_take, hl, show i - min i q = 0 by omega]
      rw [mk_bit h i]
      cases h.testBit i <;> simp
    · rw [List.getElem?_append_right (by rw [List.length_append, List.length_take]; simp; omega), List.getElem?_drop, List.length_append, List.length_take, List.length_singleton]
      rw [show k + 1 + (i - (min k (mkN q h).length + 1)) = i by omega, mkN_at hi, mk_bit]
      have : decide (k = i) = false := decide_eq_false (by omega)
      rw [this, Bool.xor_false]
  · rw [List.getElem?_eq_none (by rw [List.length_append, List.length_append, List.length_take, List.length_drop]; simp; omega), List.getElem?_eq_none (by rw [mkN_len]; omega)]
theorem mk_xor (q h s : Nat) : List.zipWith (fun a b => (a + b) % 2) (mkN q h) (mkN q s) = mkN q (h ^^^ s) := by
  unfold mkN
  rw [List.zipWith_map, List.zipWith_self]
  refine List.map_congr_left fun k _ => ?_
  show (h / 2 ^ k % 2 + s / 2 ^ k % 2) % 2 = _
  rw [mk_bit, mk_bit, mk_bit, Nat.testBit_xor]
  cases h.testBit k <;> cases s.testBit k <;> rfl

theorem foldl_snoc (l : List Nat) (x : Nat) : (l ++ [x]).foldl (fun f x => 2 * f + x) 0 = 2 * l.foldl (fun f x => 2 * f + x) 0 + x := by rw [List.foldl_append]; rfl
theorem foldl_bd : ∀ (l : List Nat), (∀ x ∈ l, x < 2) → l.foldl (fun f x => 2 * f + x) 0 < 2 ^ l.length := fun l => by
  suffices h : ∀ (l : List Nat) (a b : Nat), a < 2 ^ b → (∀ x ∈ l, x < 2) → l.foldl (fun f x => 2 * f + x) a < 2 ^ (b + l.length) by
    intro hx
    have := h l 0 0 (by decide) hx
    rwa [Nat.zero_add] at this
  intro l
  induction l with
  | nil => intro a b h _; exact h
  | cons x l ih =>
    intro a b h hx
    rw [List.foldl_cons, List.length_cons, show b + (l.length + 1) = (b + 1) + l.length by omega]
    refine ih _ _ ?_ fun y hy => hx y (List.mem_cons_of_mem _ hy)
    have := hx x (List.mem_cons_self ..)
    rw [Nat.pow_succ]
    omega
def axm : D → Option D
  | .tup [.int a, .int b] => some (.int ((a + b).fmod 2))
  | _ => none
theorem axm_zip : ∀ (l m : List Nat), (zipD (l.map nD) (m.map nD)).filterMap axm = (List.zipWith (fun a b => (a + b) % 2) l m).map nD
  | [], _ => rfl
  | _ :: _, [] => rfl
  | x :: l, y :: m => by
    have ih := axm_zip l m
    unfold zipD at ih ⊢
    have e : axm (.tup [nD x, nD y]) = some (nD ((x + y) % 2)) := by
      show some (D.int (((x : Int) + (y : Int)).fmod 2)) = _
      rw [show ((x : Int) + (y : Int)).fmod 2 = (((x + y) % 2 : Nat) : Int) from fmod_nat (x + y) 2]
    simp only [List.map_cons, List.zipWith_cons_cons, List.filterMap_cons, e, ih]
theorem mk_at {q w k : Nat} (hk : k < q) : atD ((mkN q w).map nD) (k : Int) = some (nD (w / 2 ^ k % 2)) := by
  rw [at_int (by omega) (by rw [List.length_map, mkN_len]; omega), Int.toNat_natCast, List.getElem?_map, mkN_at hk]
  rfl
theorem mk_one {w k : Nat} : ((w / 2 ^ k % 2 : Nat) : Int) = 1 ↔ w.testBit k = true := by
  rw [mk_bit]
  cases w.testBit k <;> simp
/-- the tree whose way ends by a bit, found -/
def fndT (q w k i : Nat) : List D := if treeN q w k < i then [.tup [nD (treeN q w k), nD (lateN q w k)]] else []
structure Sm (d : D) : Prop where
  sm : d.sm = true
  lo : d.lo 0 = true
  dep : d.dep ≤ 1
  cnt : d.cnt ≤ 9
theorem Sm.non : Sm .non := ⟨rfl, rfl, by simp [D.dep], by simp [D.cnt]⟩
theorem Sm.bl (b : Bool) : Sm (.bl b) := ⟨rfl, rfl, by simp [D.dep], by simp [D.cnt]⟩
theorem Sm.int {i : Int} (h : i.natAbs < 2 ^ 100) : Sm (.int i) := ⟨by simp only [D.sm]; exact decide_eq_true h, rfl, by simp [D.dep], by simp [D.cnt]⟩
theorem Sm.pair {i j : Int} (h : i.natAbs < 2 ^ 100) (h2 : j.natAbs < 2 ^ 100) : Sm (.tup [.int i, .int j]) := by
  refine ⟨?_, rfl, by simp [D.dep, D.depL], by simp [D.cnt, D.cntL]⟩
  simp only [D.sm, D.smL, Bool.and_eq_true, Bool.and_true]
  exact ⟨decide_eq_true h, decide_eq_true h2⟩
theorem Sm.rep {d : D} {st : Store} {Q : D → Store → Prop} (h : Sm d) (hr : ∀ n, d ≠ .ref n) (k : Q (.str d.shw) st) : W (bltin .repr [d] st) Q := repr_S h.sm (by have := h.dep; omega) (by have := h.cnt; omega) hr k
theorem heard_sm {q m h t s : Nat} (hq : q ≤ 60) (hq0 : 0 < q) (hm : 1 ≤ m) (hm2 : m ≤ 2 ^ 62) (ht : t ≤ 2 ^ 62) (hh : h < 2 ^ q) : Sm (heardD q m h t s) := by
  unfold heardD
  have hk := Nat.mod_lt t hq0
  have hx : h ^^^ 2 ^ (t % q) < 2 ^ q := Nat.xor_lt_two_pow hh (Nat.pow_lt_pow_right (by decide) hk)
  have hp : 2 ^ q ≤ 2 ^ 60 := Nat.pow_le_pow_right (by decide) hq
  split
  · exact .non
  · rename_i h0
    refine .pair (by omega) ?_
    have hd : dueI q (h ^^^ s) t ≤ t := by
      unfold dueI
      split <;> omega
    split <;> omega
theorem heard_nr {q m h t s n : Nat} : heardD q m h t s ≠ .ref n := by
  unfold heardD
  split <;> intro e <;> cases e

theorem num_lt : ∀ l : List Nat, (∀ x ∈ l, x < 2) → num l < 2 ^ l.length
  | [], _ => by decide
  | a :: l, h => by
    have ih := num_lt l fun x hx => h x (List.mem_cons_of_mem _ hx)
    have ha := h a (List.mem_cons_self ..)
    show a + 2 * num l < 2 ^ (l.length + 1)
    rw [Nat.pow_succ]
    omega
theorem mk_num : ∀ l : List Nat, (∀ x ∈ l, x < 2) → mkN l.length (num l) = l
  | [], _ => rfl
  | a :: l, h => by
    have ih := mk_num l fun x hx => h x (List.mem_cons_of_mem _ hx)
    have ha := h a (List.mem_cons_self ..)
    rw [List.length_cons, mkN_cons]
    have e : num (a :: l) = a + 2 * num l := rfl
    rw [e, show (a + 2 * num l) % 2 = a by omega, show (a + 2 * num l) / 2 = num l by omega, ih]
theorem marks_of : ∀ {ds : List D}, (∀ d ∈ ds, ∃ x : Nat, x < 2 ∧ d = nD x) → ∃ w, w < 2 ^ ds.length ∧ ds = (mkN ds.length w).map nD := fun {ds} h => by
  have : ∃ l : List Nat, l.length = ds.length ∧ (∀ x ∈ l, x < 2) ∧ ds = l.map nD := by
    induction ds with
    | nil => exact ⟨[], rfl, fun x hx => absurd hx List.not_mem_nil, rfl⟩
    | cons d ds ih =>
      obtain ⟨l, h1, h2, h3⟩ := ih fun d hd => h d (List.mem_cons_of_mem _ hd)
      obtain ⟨x, hx, rfl⟩ := h d (List.mem_cons_self ..)
      exact ⟨x :: l, by simp [h1], fun y hy => (List.mem_cons.mp hy).elim (fun e => e ▸ hx) (h2 y), by rw [h3]; rfl⟩
  obtain ⟨l, h1, h2, h3⟩ := this
  exact ⟨num l, h1 ▸ num_lt l h2, by rw [← h1, mk_num l h2]; exact h3⟩
theorem at_mem {x : List D} {i : Int} (h0 : 0 ≤ i) (h : i < x.length) : ∃ d, atD x i = some d ∧ d ∈ x := by
  rw [at_int h0 h]
  have hl : i.toNat < x.length := by omega
  exact ⟨_, List.getElem?_eq_getElem hl, List.getElem_mem hl⟩
theorem rng_some {lo : Int} {n i : Nat} {x : D} (h : (rngD lo n)[i]? = some x) : i < n ∧ x = .int (lo + i) := by
  rw [rngD_get] at h
  split at h
  · rename_i hi
    cases h
    exact ⟨hi, rfl⟩
  · cases h
theorem rng_len (lo : Int) (n : Nat) : (rngD lo n).length = n := by unfold rngD; simp
theorem bit_mod (i : Int) : ∃ x : Nat, x < 2 ∧ D.int (i.fmod 2) = nD x := by
  have h0 : 0 ≤ i.fmod 2 := Int.fmod_nonneg_of_pos i (by decide)
  have h1 : i.fmod 2 < 2 := Int.fmod_lt_of_pos i (by decide)
  exact ⟨(i.fmod 2).toNat, by omega, by show D.int (i.fmod 2) = D.int ((i.fmod 2).toNat : Int); rw [Int.toNat_of_nonneg h0]⟩
theorem bit_if (p : Prop) [Decidable p] : ∃ x : Nat, x < 2 ∧ D.int (if p then 1 else 0) = nD x := by
  by_cases h : p
  · exact ⟨1, by decide, by rw [if_pos h]; rfl⟩
  · exact ⟨0, by decide, by rw [if_neg h]; rfl⟩
theorem mx_ring {q w j : Nat} (hj : j < q) (hw : w < 2 ^ q) (h0 : w ≠ 0) : maxI (((List.range q).filter fun k => w.testBit k).map (akey q j)) = some ((aN q j (lastN (ring q w j)) : Nat) : Int) := by
  have hn := ring_ne hj hw h0
  have hm := lastN_mem hn
  have hm2 := (ring_mem hj).mp hm
  rw [← akey_aN hj hm2.1]
  refine maxI_eq ?_ fun x hx => ?_
  · exact List.mem_map.mpr ⟨_, List.mem_filter.mpr ⟨List.mem_range.mpr hm2.1, hm2.2⟩, rfl⟩
  · obtain ⟨k, hk, rfl⟩ := List.mem_map.mp hx
    have hk2 := List.mem_filter.mp hk
    have hkr : k ∈ ring q w j := (ring_mem hj).mpr ⟨List.mem_range.mp hk2.1, hk2.2⟩
    have hp := ring_pw (h := w) hj
    have hl : ∃ A, ring q w j = A ++ [lastN (ring q w j)] := by
      refine ⟨(ring q w j).dropLast, ?_⟩
      have := List.dropLast_concat_getLast hn
      unfold lastN
      rw [List.getLast?_eq_some_getLast hn]
      exact this.symm
    obtain ⟨A, hA⟩ := hl
    generalize lastN (ring q w j) = z at *
    rw [hA] at hkr hp
    rcases List.mem_append.mp hkr with c | c
    · exact Int.le_of_lt ((List.pairwise_append.mp hp).2.2 k c z (List.mem_singleton.mpr rfl))
    · rw [List.mem_singleton.mp c]; exact Int.le_refl _
theorem late_on {q w j : Nat} (hj : j < q) (hb : w.testBit j = true) : dly q w j = aN q j (lastN (ring q w j)) := by
  unfold dly lastN
  rw [if_pos hb, lz_on hj hb]
theorem late_off {q w j : Nat} (hb : ¬ w.testBit j = true) : dly q w j = q := by
  unfold dly
  rw [if_neg hb]
theorem keys_map (q j : Nat) (l : List Nat) : l.map (fun k => D.int (akey q j k)) = (l.map (akey q j)).map D.int := by rw [List.map_map]; rfl
theorem mk_zero {w k : Nat} : ((w / 2 ^ k % 2 : Nat) : Int) = 0 ↔ ¬ w.testBit k = true := by
  rw [mk_bit]
  cases w.testBit k <;> simp
def trL (q w b : Nat) : List Nat := (List.range q).map fun i => treeN q w ((b + i) % q)
theorem trL_srt {q w b : Nat} (hq : 0 < q) : srtN (trL q w b) = List.range q := by
  refine srt_range ?_ fun k => ?_
  · unfold trL
    unfold List.Nodup
    rw [List.pairwise_map]
    refine List.Pairwise.imp_of_mem (fun {i j} hi hj hij => ?_) (List.nodup_range (n := q))
    intro e
    have hi := List.mem_range.mp hi
    have hj := List.mem_range.mp hj
    have h1 := Nat.mod_lt (b + i) hq
    have h2 := Nat.mod_lt (b + j) hq
    have ht := treeN_lt (w := w) h1
    have e1 := (lz_tree (w := w) ht h1).mpr rfl
    have e2 := (lz_tree (w := w) ht h2).mpr e
    have e3 : (b + i) % q = (b + j) % q := by rw [← e1, ← e2]
    apply hij
    have m1 := Nat.div_add_mod (b + i) q
    have m2 := Nat.div_add_mod (b + j) q
    rw [e3] at m1
    rcases Nat.lt_trichotomy ((b + i) / q) ((b + j) / q) with c | c | c
    · have := Nat.mul_le_mul_left q (show (b + i) / q + 1 ≤ (b + j) / q from c)
      rw [Nat.mul_add] at this
      omega
    · rw [c] at m1; omega
    · have := Nat.mul_le_mul_left q (show (b + j) / q + 1 ≤ (b + i) / q from c)
      rw [Nat.mul_add] at this
      omega
  · unfold trL
    rw [List.mem_map]
    constructor
    · rintro ⟨i, _, rfl⟩
      exact treeN_lt (Nat.mod_lt _ hq)
    · intro hk
      have hl := lz_lt (q := q) (w := w) hk
      obtain ⟨i, hi, he⟩ : ∃ i, i < q ∧ (b + i) % q = lz q w k := by
        refine ⟨(lz q w k + (q - b % q)) % q, Nat.mod_lt _ hq, ?_⟩
        rw [Nat.add_mod, Nat.mod_mod, ← Nat.add_mod]
        have hb := Nat.mod_lt b hq
        rw [show b + (lz q w k + (q - b % q)) = lz q w k + (b + (q - b % q)) by omega, Nat.add_mod]
        have : (b + (q - b % q)) % q = 0 := by
          have m := Nat.div_add_mod b q
          rw [show b + (q - b % q) = q * (b / q + 1) by rw [Nat.mul_add]; omega, Nat.mul_mod_right]
        rw [this, Nat.add_zero, Nat.mod_mod, Nat.mod_eq_of_lt hl]
      exact ⟨i, List.mem_range.mpr hi, by rw [he]; exact ((lz_tree hk hl).mp rfl).symm⟩
theorem trL_lt {q w b : Nat} (hq : 0 < q) : ∀ x ∈ trL q w b, x < q := fun x hx => by
  unfold trL at hx
  obtain ⟨i, _, rfl⟩ := List.mem_map.mp hx
  exact treeN_lt (Nat.mod_lt _ hq)
theorem trL_len (q w b : Nat) : (trL q w b).length = q := by unfold trL; simp
/-! ### when a letter is first heard -/
theorem aN_eq {q j k : Nat} (hj : j < q) (hk : k < q) : aN q j k = if j ≤ k then k - j else k + q - j := by
  have h := aN_lt hj hk
  obtain ⟨i, hi, e1, e2⟩ := at_akey hj hk
  have e3 : aN q j k = i := by unfold aN; rw [e2]; rfl
  rw [e3]
  rcases Nat.lt_or_ge (j + i) q with c | c
  · rw [Nat.mod_eq_of_lt c] at e1
    rw [if_pos (by omega)]; omega
  · rw [Nat.mod_eq_sub_mod c, Nat.mod_eq_of_lt (by omega)] at e1
    rw [if_neg (by omega)]; omega
theorem mod_add {q i x : Nat} (hq : 0 < q) (hx : x ≤ q) : (i + x) % q = if i % q + x < q then i % q + x else i % q + x - q := by
  have h := Nat.mod_lt i hq
  rw [← Nat.mod_add_mod]
  split
  · rename_i c; exact Nat.mod_eq_of_lt c
  · rename_i c
    rw [Nat.mod_eq_sub_mod (by omega)]
    rcases Nat.lt_or_ge (i % q + x - q) q with d | d
    · exact Nat.mod_eq_of_lt d
    · omega
/-- the farthest arc from j to a bit -/
def la (q w j : Nat) : Nat := aN q j (lastN (ring q w j))
theorem la_mem {q w j : Nat} (hj : j < q) (hw : w < 2 ^ q) (h0 : w ≠ 0) : ∃ k, k < q ∧ w.testBit k = true ∧ aN q j k = la q w j ∧ lastN (ring q w j) = k := by
  have hm := (ring_mem hj).mp (lastN_mem (ring_ne hj hw h0))
  exact ⟨_, hm.1, hm.2, rfl, rfl⟩
theorem la_max {q w j k : Nat} (hj : j < q) (hw : w < 2 ^ q) (hk : w.testBit k = true) : aN q j k ≤ la q w j := by
  have hkq := bit_lt hw hk
  have h0 : w ≠ 0 := fun e => by rw [e, Nat.zero_testBit] at hk; cases hk
  have hn := ring_ne hj hw h0
  have hkr : k ∈ ring q w j := (ring_mem hj).mpr ⟨hkq, hk⟩
  have hp := ring_pw (h := w) hj
  have hm2 := (ring_mem hj).mp (lastN_mem hn)
  unfold la
  obtain ⟨A, hA⟩ : ∃ A, ring q w j = A ++ [lastN (ring q w j)] := by
    refine ⟨(ring q w j).dropLast, ?_⟩
    unfold lastN
    rw [List.getLast?_eq_some_getLast hn]
    exact (List.dropLast_concat_getLast hn).symm
  generalize lastN (ring q w j) = z at *
  rw [hA] at hkr hp
  rcases List.mem_append.mp hkr with c | c
  · have := (List.pairwise_append.mp hp).2.2 k c z (List.mem_singleton.mpr rfl)
    rw [akey_aN hj hkq, akey_aN hj hm2.1] at this
    omega
  · rw [List.mem_singleton.mp c]; exact Nat.le_refl _
theorem la_lt {q w j : Nat} (hj : j < q) (hw : w < 2 ^ q) (h0 : w ≠ 0) : la q w j < q := by
  obtain ⟨k, hk, _, e, _⟩ := la_mem hj hw h0
  rw [← e]
  exact aN_lt hj hk
theorem aN_inj {q j k l : Nat} (hj : j < q) (hk : k < q) (hl : l < q) (h : aN q j k = aN q j l) : k = l := by
  rw [aN_eq hj hk, aN_eq hj hl] at h
  split at h <;> (split at h <;> omega)
theorem dly_on {q w j : Nat} (hj : j < q) (hb : w.testBit j = true) : dly q w j = la q w j := by
  unfold dly la lastN
  rw [if_pos hb, lz_on hj hb]
theorem dly_off {q w j : Nat} (hb : ¬ w.testBit j = true) : dly q w j = q := by
  unfold dly
  rw [if_neg hb]
theorem dly_lt {q w j : Nat} (hj : j < q) (hw : w < 2 ^ q) (hb : w.testBit j = true) : dly q w j < q := by
  rw [dly_on hj hb]
  exact la_lt hj hw fun e => by rw [e, Nat.zero_testBit] at hb; cases hb
theorem aN_sub {q a b c : Nat} (ha : a < q) (hb : b < q) (hc : c < q) (h : aN q a b ≤ aN q a c) : aN q b c = aN q a c - aN q a b := by
  rw [aN_eq ha hb, aN_eq ha hc] at h
  rw [aN_eq hb hc, aN_eq ha hc, aN_eq ha hb]
  by_cases h1 : a ≤ b <;> by_cases h2 : a ≤ c <;> by_cases h3 : b ≤ c <;> simp only [h1, h2, h3, if_true, if_false] at h ⊢ <;> omega
/-- by a bit of the set: the tree's farthest bit is it -/
theorem tree_on {q w k : Nat} (hk : k < q) (hb : w.testBit k = true) : treeN q w k < q ∧ w.testBit (treeN q w k) = true ∧ lastN (ring q w (treeN q w k)) = k ∧ lateN q w k = la q w (treeN q w k) := by
  have ht := treeN_lt (w := w) hk
  have hbt : w.testBit (treeN q w k) = true := by rw [tree_bit hk, hb]
  have hz := (lz_tree (w := w) ht hk).mpr rfl
  have hl := lz_on ht hbt
  have e : lastN (ring q w (treeN q w k)) = k := by unfold lastN; rw [hl, hz]
  refine ⟨ht, hbt, e, ?_⟩
  unfold lateN la
  rw [if_pos hb, e]
theorem late_le {q w k : Nat} (hk : k < q) (hw : w < 2 ^ q) : lateN q w k ≤ q := by
  by_cases hb : w.testBit k = true
  · obtain ⟨ht, hbt, _, e⟩ := tree_on hk hb
    rw [e]
    exact Nat.le_of_lt (la_lt ht hw fun z => by rw [z, Nat.zero_testBit] at hb; cases hb)
  · unfold lateN; rw [if_neg hb]; exact Nat.le_refl _
theorem sinceN_ge (q m w i : Nat) : i ≤ sinceN q m w i := by
  unfold sinceN
  split <;> omega
/-- what is first heard at a beat is heard at it -/
theorem since_heard {q m w i t : Nat} (hq : 0 < q) (hw : w < 2 ^ q) (h0 : w ≠ 0) (hi : i < m) (e : sinceN q m w i = t) : lateN q w (t % q) ≤ t ∧ min (t - lateN q w (t % q)) (m - 1) = i := by
  have hj := Nat.mod_lt i hq
  unfold sinceN at e
  by_cases c : i < m - 1
  · rw [if_pos c] at e
    by_cases hb : w.testBit (i % q) = true
    · have hd := dly_on hj hb
      have hl := lz_lt (w := w) hj
      have hk : lastN (ring q w (i % q)) = lz q w (i % q) := by unfold lastN; rw [lz_on hj hb]
      have hla : la q w (i % q) = aN q (i % q) (lz q w (i % q)) := by unfold la; rw [hk]
      have hlt := la_lt hj hw h0
      have ht : t % q = lz q w (i % q) := by
        rw [← e, hd, mod_add hq (by omega), hla, aN_eq hj hl]
        split <;> (split at * <;> omega)
      have htr := (lz_tree (w := w) hj hl).mp rfl
      have hzb : w.testBit (lz q w (i % q)) = true := ((ring_mem hj).mp (List.mem_of_getLast? (lz_on hj hb))).2
      have hlate : lateN q w (t % q) = la q w (i % q) := by
        rw [ht]
        unfold lateN
        rw [if_pos hzb, ← htr, hla]
      rw [hlate]
      omega
    · have hd := dly_off (q := q) hb
      have ht : t % q = i % q := by rw [← e, hd, Nat.add_mod_right]
      have hlate : lateN q w (t % q) = q := by unfold lateN; rw [ht, if_neg hb]
      rw [hlate]
      omega
  · rw [if_neg c] at e
    have e : i + la q w (i % q) = t := e
    obtain ⟨z, hz, hzb, hza, hzl⟩ := la_mem hj hw h0
    have hlt := la_lt hj hw h0
    have ht : t % q = z := by
      rw [← e, mod_add hq (by omega), ← hza, aN_eq hj hz]
      split <;> (split at * <;> omega)
    obtain ⟨h1, h2, h3, h4⟩ := tree_on hz hzb
    have hp := la_max hj hw h2
    have hlate : lateN q w (t % q) ≤ la q w (i % q) := by
      rw [ht, h4]
      unfold la
      rw [h3]
      show aN q (treeN q w z) z ≤ la q w (i % q)
      rw [← hza] at hp ⊢
      rw [aN_sub hj h1 hz hp]
      omega
    omega
/-- what is heard was first heard by then -/
theorem heard_since {q m w t : Nat} (hq : 0 < q) (hw : w < 2 ^ q) (h0 : w ≠ 0) (hm : 1 ≤ m) (hl : lateN q w (t % q) ≤ t) :
    sinceN q m w (min (t - lateN q w (t % q)) (m - 1)) ≤ t ∧ (t - lateN q w (t % q) < m - 1 → sinceN q m w (t - lateN q w (t % q)) = t) := by
  have hk := Nat.mod_lt t hq
  have key : t - lateN q w (t % q) < m - 1 → sinceN q m w (t - lateN q w (t % q)) = t := fun c => by
    unfold sinceN
    rw [if_pos c]
    by_cases hb : w.testBit (t % q) = true
    · obtain ⟨h1, h2, h3, h4⟩ := tree_on hk hb
      have hlt := la_lt h1 hw h0
      have ha : aN q (treeN q w (t % q)) (t % q) = lateN q w (t % q) := by rw [h4]; unfold la; rw [h3]
      have hj : (t - lateN q w (t % q)) % q = treeN q w (t % q) := by
        have hx := mod_add (i := t - lateN q w (t % q)) hq (show lateN q w (t % q) ≤ q by omega)
        rw [Nat.sub_add_cancel hl] at hx
        have hy := Nat.mod_lt (t - lateN q w (t % q)) hq
        rw [aN_eq h1 hk] at ha
        generalize lateN q w (t % q) = L at *
        split at ha <;> (split at hx <;> omega)
      rw [hj, dly_on h1 h2, ← h4]
      omega
    · have hlate : lateN q w (t % q) = q := by unfold lateN; rw [if_neg hb]
      have hj : (t - lateN q w (t % q)) % q = t % q := by
        rw [hlate] at hl ⊢
        exact (Nat.mod_eq_sub_mod hl).symm
      rw [hj, dly_off hb]
      omega
  refine ⟨?_, key⟩
  by_cases c : t - lateN q w (t % q) < m - 1
  · rw [Nat.min_eq_left (by omega), key c]
    exact Nat.le_refl _
  · rw [Nat.min_eq_right (by omega)]
    unfold sinceN
    rw [if_neg (by omega)]
    show m - 1 + la q w ((m - 1) % q) ≤ t
    have hj := Nat.mod_lt (m - 1) hq
    have hlt := la_lt hj hw h0
    by_cases hb : w.testBit (t % q) = true
    · obtain ⟨h1, h2, h3, h4⟩ := tree_on hk hb
      obtain ⟨z, hz, hzb, hza, hzl⟩ := la_mem hj hw h0
      have hmx := la_max h1 hw hzb
      have hp := la_max hj hw h2
      have ha : aN q (treeN q w (t % q)) (t % q) = lateN q w (t % q) := by rw [h4]; unfold la; rw [h3]
      rw [← h4] at hmx
      rcases Nat.lt_or_ge (t - (m - 1)) (la q w ((m - 1) % q)) with d | d
      · exfalso
        have hx := mod_add (i := m - 1) (x := t - (m - 1)) hq (by omega)
        rw [show m - 1 + (t - (m - 1)) = t by omega] at hx
        rw [aN_eq h1 hk] at ha
        rw [aN_eq h1 hz] at hmx
        rw [aN_eq hj hz] at hza
        generalize la q w ((m - 1) % q) = A at *
        generalize lateN q w (t % q) = L at *
        generalize (m - 1) % q = j0 at *
        generalize treeN q w (t % q) = j' at *
        rw [aN_eq hj h1] at hp
        generalize t % q = k at *
        split at hx <;> split at ha <;> split at hmx <;> split at hza <;> split at hp <;> omega
      · omega
    · have hlate : lateN q w (t % q) = q := by unfold lateN; rw [if_neg hb]
      omega
theorem bit_flip {w k i : Nat} : (w ^^^ 2 ^ k).testBit i = (w.testBit i ^^ decide (k = i)) := by rw [Nat.testBit_xor, Nat.testBit_two_pow]
/-- who tells it for the first time had it ahead -/
theorem since_teller {q m w i t : Nat} (hq : 0 < q) (hw : w < 2 ^ q) (h0 : w ≠ 0) (hi : i < m) (e : sinceN q m w i = t) : w ^^^ 2 ^ (t % q) = 0 ∨ sinceN q m (w ^^^ 2 ^ (t % q)) i < t := by
  have hj := Nat.mod_lt i hq
  have hk := Nat.mod_lt t hq
  have hw' : w ^^^ 2 ^ (t % q) < 2 ^ q := Nat.xor_lt_two_pow hw (Nat.pow_lt_pow_right (by decide) hk)
  by_cases hz : w ^^^ 2 ^ (t % q) = 0
  · exact .inl hz
  · right
    -- where k is the farthest bit from j, all others are nearer
    have near : ∀ j, j < q → w.testBit (t % q) = true → aN q j (t % q) = la q w j → la q (w ^^^ 2 ^ (t % q)) j < la q w j := fun j hj hkb ha => by
      obtain ⟨z, hzq, hzb, hza, _⟩ := la_mem hj hw' hz
      rw [bit_flip] at hzb
      have hzk : z ≠ t % q := fun c => by rw [c, hkb] at hzb; simp at hzb
      have hzw : w.testBit z = true := by
        rw [decide_eq_false (fun c => hzk c.symm), Bool.xor_false] at hzb
        exact hzb
      have h1 := la_max hj hw hzw
      rw [← hza]
      rcases Nat.lt_or_ge (aN q j z) (la q w j) with d | d
      · exact d
      · exact absurd (aN_inj hj hzq hk (by omega)) hzk
    unfold sinceN at e ⊢
    by_cases c : i < m - 1
    · rw [if_pos c] at e ⊢
      by_cases hb : w.testBit (i % q) = true
      · have hd := dly_on hj hb
        obtain ⟨z, hzq, hzb, hza, _⟩ := la_mem hj hw h0
        have hlt := la_lt hj hw h0
        have ht : t % q = z := by
          rw [← e, hd, mod_add hq (by omega), ← hza, aN_eq hj hzq]
          split <;> (split at * <;> omega)
        have hn := near (i % q) hj (by rw [ht]; exact hzb) (by rw [ht]; exact hza)
        by_cases hb' : (w ^^^ 2 ^ (t % q)).testBit (i % q) = true
        · rw [dly_on hj hb']
          omega
        · exfalso
          rw [bit_flip, hb] at hb'
          have hkj : t % q = i % q := by
            apply Classical.byContradiction
            intro d
            rw [decide_eq_false d] at hb'
            exact hb' rfl
          have h00 : la q w (i % q) = 0 := by rw [← hza, ← ht, hkj, aN_eq hj hj, if_pos (Nat.le_refl _), Nat.sub_self]
          omega
      · have ht : t % q = i % q := by rw [← e, dly_off hb, Nat.add_mod_right]
        have hb' : (w ^^^ 2 ^ (t % q)).testBit (i % q) = true := by
          rw [bit_flip, ht]
          simp at hb
          simp [hb]
        rw [dly_off hb] at e
        have := dly_lt hj hw' hb'
        omega
    · rw [if_neg c] at e ⊢
      have e : i + la q w (i % q) = t := e
      show i + la q (w ^^^ 2 ^ (t % q)) (i % q) < t
      obtain ⟨z, hzq, hzb, hza, _⟩ := la_mem hj hw h0
      have hlt := la_lt hj hw h0
      have ht : t % q = z := by
        rw [← e, mod_add hq (by omega), ← hza, aN_eq hj hzq]
        split <;> (split at * <;> omega)
      have hn := near (i % q) hj (by rw [ht]; exact hzb) (by rw [ht]; exact hza)
      omega

/-! ### what is heard, by trees' lateness -/
theorem hD_some {q m h t s : Nat} (hl : lateN q (h ^^^ s) (t % q) ≤ t) (hm : 1 ≤ m) : heardD q m h t s = .tup [nD (h ^^^ 2 ^ (t % q)), nD (min (t - lateN q (h ^^^ s) (t % q)) (m - 1))] := by
  unfold heardD
  rw [due_late]
  generalize lateN q (h ^^^ s) (t % q) = L at *
  rw [if_neg (by omega)]
  congr 3
  congr 1
  split <;> omega
theorem hD_none {q m h t s : Nat} (hl : ¬ lateN q (h ^^^ s) (t % q) ≤ t) : heardD q m h t s = .non := by
  unfold heardD
  rw [due_late]
  generalize lateN q (h ^^^ s) (t % q) = L at *
  rw [if_pos (by omega)]
theorem tD_some {q m h t s : Nat} (hl : lateN q ((h ^^^ 2 ^ (t % q)) ^^^ s) (t % q) ≤ t) (hm : 1 ≤ m) : toldD q m h t s = .tup [nD (h ^^^ 2 ^ (t % q)), nD (min (t - lateN q ((h ^^^ 2 ^ (t % q)) ^^^ s) (t % q)) (m - 1))] := by
  unfold toldD
  rw [due_late]
  generalize lateN q ((h ^^^ 2 ^ (t % q)) ^^^ s) (t % q) = L at *
  rw [if_neg (by omega)]
  congr 3
  congr 1
  split <;> omega
theorem tD_none {q m h t s : Nat} (hl : ¬ lateN q ((h ^^^ 2 ^ (t % q)) ^^^ s) (t % q) ≤ t) : toldD q m h t s = .non := by
  unfold toldD
  rw [due_late]
  generalize lateN q ((h ^^^ 2 ^ (t % q)) ^^^ s) (t % q) = L at *
  rw [if_pos (by omega)]
theorem inc_eq {a b : List Nat} (ha : a.Pairwise (· < ·)) (hb : b.Pairwise (· < ·)) (h : ∀ x, x ∈ a ↔ x ∈ b) : a = b := by
  have p : a.Perm b := (List.perm_ext_iff_of_nodup (ha.imp fun h => Nat.ne_of_lt h) (hb.imp fun h => Nat.ne_of_lt h)).mpr h
  rw [srtN_eq p (ha.imp fun h => Nat.le_of_lt h), ← srtN_eq (List.Perm.refl b) (hb.imp fun h => Nat.le_of_lt h)]
theorem cop_eqR {n : Nat} {xs : List D} {st : Store} (h : st[n]? = some (.lst xs)) (hs : D.smL xs = true) (hd : D.depL xs ≤ 60) : cop .eq (.ref n) (.lst xs) st = some true := by
  have hs' : (D.lst xs).sm = true := by simpa only [D.sm] using hs
  have hd' : (D.lst xs).dep ≤ 64 := by simp only [D.dep]; omega
  obtain ⟨x, e, -⟩ := D.sm_py (.lst xs) hs'
  have e1 : D.see st (.ref n) = .lst xs := by simp only [D.see, h]
  show (match (D.see st (.ref n)).py, (D.see st (.lst xs)).py with
      | some x, some y => if SeqAt.shaped x = true ∧ SeqAt.shaped y = true then some (PyData.eqv x y) else none
      | _, _ => none) = some true
  have e2 : (D.see st (.lst xs)).py = some x := e
  rw [e1, e2]
  show (match (D.lst xs).py, some x with
      | some x, some y => if SeqAt.shaped x = true ∧ SeqAt.shaped y = true then some (PyData.eqv x y) else none
      | _, _ => none) = some true
  rw [e]
  simp only
  rw [if_pos ⟨shp_sm hs' hd' e, shp_sm hs' hd' e⟩, SeqAt.eqv_refl x (D.sm_lay _ _ hs' e).1]
theorem mk_set {q h k : Nat} (hk : k < q) : ((mkN q h).map nD).set k (nD (1 - h / 2 ^ k % 2)) = (mkN q (h ^^^ 2 ^ k)).map nD := by
  rw [← mk_flip hk, ← List.map_set]
  congr 1
  have hl := mkN_len q h
  rw [List.set_eq_take_append_cons_drop, if_pos (by omega)]
  simp

/-! ### how many letters -/
def cntI (q x j : Int) : Int := if x - 1 < j then 0 else (x - 1 - j).fdiv q + 1
theorem mot_cnt (q m j u : Int) : mot q m j u = cntI q ((if u < m - 2 then u else m - 2) + 1) j := by
  unfold mot cntI
  rw [Int.add_sub_cancel]
theorem fdiv_succ {q x : Int} (hq : 0 < q) : (x + 1).fdiv q = x.fdiv q + if (x + 1) % q = 0 then 1 else 0 := by
  rw [Int.fdiv_eq_ediv_of_nonneg _ (by omega), Int.fdiv_eq_ediv_of_nonneg _ (by omega)]
  have h1 := Int.mul_ediv_add_emod x q
  have h2 := Int.mul_ediv_add_emod (x + 1) q
  have h3 := Int.emod_nonneg x (show q ≠ 0 by omega)
  have h4 := Int.emod_lt_of_pos x hq
  have h5 := Int.emod_nonneg (x + 1) (show q ≠ 0 by omega)
  have h6 := Int.emod_lt_of_pos (x + 1) hq
  generalize x / q = a at *
  generalize (x + 1) / q = b at *
  generalize x % q = c at *
  generalize (x + 1) % q = d at *
  have h7 : q * (b - a) = 1 + c - d := by rw [Int.mul_sub]; omega
  by_cases hd : d = 0
  · rw [if_pos hd]
    rcases Int.lt_trichotomy (b - a) 1 with k | k | k
    · have : q * (b - a) ≤ q * 0 := Int.mul_le_mul_of_nonneg_left (by omega) (by omega)
      omega
    · omega
    · have : q * 2 ≤ q * (b - a) := Int.mul_le_mul_of_nonneg_left (by omega) (by omega)
      omega
  · rw [if_neg hd]
    rcases Int.lt_trichotomy (b - a) 0 with k | k | k
    · have : q * (b - a) ≤ q * (-1) := Int.mul_le_mul_of_nonneg_left (by omega) (by omega)
      omega
    · omega
    · have : q * 1 ≤ q * (b - a) := Int.mul_le_mul_of_nonneg_left (by omega) (by omega)
      omega
theorem cnt_succ {q x j : Int} (hq : 0 < q) : cntI q (x + 1) j = cntI q x j + if j ≤ x ∧ (x - j) % q = 0 then 1 else 0 := by
  unfold cntI
  by_cases h1 : x < j
  · rw [if_pos (by omega), if_pos (by omega), if_neg (by omega)]
    rfl
  · by_cases h2 : x = j
    · subst h2
      rw [if_neg (by omega), if_pos (by omega), if_pos ⟨by omega, by rw [Int.sub_self]; rfl⟩]
      rw [show x + 1 - 1 - x = 0 by omega, Int.zero_fdiv]
    · rw [if_neg (by omega), if_neg (by omega)]
      have h := fdiv_succ (x := x - 1 - j) hq
      rw [show x - 1 - j + 1 = x - j by omega] at h
      rw [show x + 1 - 1 - j = x - j by omega, h]
      by_cases h3 : (x - j) % q = 0
      · rw [if_pos h3, if_pos ⟨by omega, h3⟩]
      · rw [if_neg h3, if_neg fun z => h3 z.2, Int.add_zero, Int.add_zero]
theorem emod_nat_sub {q i j : Nat} (hj : j < q) (h : j ≤ i) : (((i : Int) - (j : Int)) % (q : Int) = 0) ↔ i % q = j := by
  have e : (i : Int) - (j : Int) = ((i - j : Nat) : Int) := by omega
  rw [e, ← Int.natCast_emod]
  have h1 := Nat.div_add_mod (i - j) q
  constructor
  · intro h2
    have h3 : (i - j) % q = 0 := by omega
    have : i = j + q * ((i - j) / q) := by omega
    rw [this, Nat.add_mul_mod_self_left, Nat.mod_eq_of_lt hj]
  · intro h2
    have h3 := Nat.div_add_mod i q
    have : i - j = q * (i / q) := by omega
    rw [this, Nat.mul_mod_right]
    rfl
/-- whether a letter ahead of the last one is heard at t, and of which tree -/
def hitT (q m w t : Nat) : Option Nat := if lateN q w (t % q) ≤ t ∧ t - lateN q w (t % q) < m - 1 then some ((t - lateN q w (t % q)) % q) else none
theorem mot_step {q m w t j : Nat} (hq : 0 < q) (hw : w < 2 ^ q) (h0 : w ≠ 0) (hm : 1 ≤ m) (hj : j < q) :
    mot q m j (((t + 1 : Nat) : Int) - 1 - (dly q w j : Nat)) = mot q m j ((t : Int) - 1 - (dly q w j : Nat)) + if hitT q m w t = some j then 1 else 0 := by
  rw [mot_cnt, mot_cnt]
  have e1 : ((t + 1 : Nat) : Int) - 1 - (dly q w j : Nat) = (t : Int) - 1 - (dly q w j : Nat) + 1 := by push_cast; omega
  rw [e1]
  by_cases c : (t : Int) - 1 - (dly q w j : Nat) + 1 < (m : Int) - 1
  · have e2 : (if (t : Int) - 1 - (dly q w j : Nat) + 1 < (m : Int) - 2 then (t : Int) - 1 - (dly q w j : Nat) + 1 else (m : Int) - 2) = (t : Int) - (dly q w j : Nat) := by split <;> omega
    have e3 : (if (t : Int) - 1 - (dly q w j : Nat) < (m : Int) - 2 then (t : Int) - 1 - (dly q w j : Nat) else (m : Int) - 2) = (t : Int) - (dly q w j : Nat) - 1 := by split <;> omega
    rw [e2, e3, Int.sub_add_cancel, cnt_succ (by omega)]
    congr 1
    have key : ((j : Int) ≤ (t : Int) - (dly q w j : Nat) ∧ ((t : Int) - (dly q w j : Nat) - j) % (q : Int) = 0) ↔ hitT q m w t = some j := by
      constructor
      · rintro ⟨a, b⟩
        have e4 : (t : Int) - (dly q w j : Nat) = ((t - dly q w j : Nat) : Int) := by omega
        rw [e4, emod_nat_sub hj (by omega)] at b
        have hs : sinceN q m w (t - dly q w j) = t := by
          unfold sinceN
          rw [if_pos (by omega), b]
          omega
        have h := since_heard hq hw h0 (by omega) hs
        unfold hitT
        have h2 : t - lateN q w (t % q) = t - dly q w j := by
          have := h.2
          rw [Nat.min_def] at this
          split at this <;> omega
        rw [if_pos ⟨h.1, by omega⟩, h2, b]
      · intro h
        unfold hitT at h
        split at h
        · rename_i hl
          cases h
          have hs := (heard_since (m := m) hq hw h0 hm hl.1).2 hl.2
          unfold sinceN at hs
          rw [if_pos hl.2] at hs
          have hmod := Nat.mod_le (t - lateN q w (t % q)) q
          refine ⟨by omega, ?_⟩
          have e4 : (t : Int) - (dly q w ((t - lateN q w (t % q)) % q) : Nat) = ((t - lateN q w (t % q) : Nat) : Int) := by omega
          rw [e4, emod_nat_sub hj hmod]
        · cases h
    by_cases k : hitT q m w t = some j
    · rw [if_pos k, if_pos (key.mpr k)]
    · rw [if_neg k, if_neg fun z => k (key.mp z)]
  · have e2 : (if (t : Int) - 1 - (dly q w j : Nat) + 1 < (m : Int) - 2 then (t : Int) - 1 - (dly q w j : Nat) + 1 else (m : Int) - 2) = (m : Int) - 2 := by split <;> omega
    have e3 : (if (t : Int) - 1 - (dly q w j : Nat) < (m : Int) - 2 then (t : Int) - 1 - (dly q w j : Nat) else (m : Int) - 2) = (m : Int) - 2 := by split <;> omega
    rw [e2, e3, if_neg]
    · omega
    · intro h
      unfold hitT at h
      split at h
      · rename_i hl
        cases h
        have hs := (heard_since (m := m) hq hw h0 hm hl.1).2 hl.2
        unfold sinceN at hs
        rw [if_pos hl.2] at hs
        omega
      · cases h
theorem manyS_step0 {q m h t s : Nat} (hq : 0 < q) (hh : h < 2 ^ q) (hs : s < 2 ^ q) (hne : h ≠ s) (hm : 1 ≤ m) : ∀ i : Nat, i ≤ q →
    manyS q m h (t + 1) s i = manyS q m h t s i + (if sinceN q m (h ^^^ s) (m - 1) = t then 1 else 0) + (match hitT q m (h ^^^ s) t with | some j => if j < i then 1 else 0 | none => 0)
  | 0, _ => by
    have e : ∀ t', manyS q m h t' s 0 = if holdsB q m h t' (m - 1) s = true then 1 else 0 := fun _ => rfl
    rw [e, e]
    unfold holdsB
    rw [decide_eq_false hne, Bool.false_or, Bool.false_or]
    simp only [decide_eq_true_eq]
    have : (match hitT q m (h ^^^ s) t with | some j => if j < 0 then (1 : Int) else 0 | none => 0) = 0 := by split <;> simp
    rw [this]
    split <;> split <;> split <;> omega
  | i + 1, hi => by
    have ih := manyS_step0 (t := t) hq hh hs hne hm i (by omega)
    have e : ∀ t', manyS q m h t' s (i + 1) = manyS q m h t' s i + mot q m i ((t' : Int) - 1 - (dly q (h ^^^ s) i : Nat)) := fun _ => rfl
    rw [e, e, ih, mot_step hq (Nat.xor_lt_two_pow hh hs) (xor_ne hne) hm (show i < q by omega)]
    cases hitT q m (h ^^^ s) t with
    | none => simp; omega
    | some j =>
      simp only [Option.some.injEq]
      split <;> split <;> split <;> omega
theorem manyS_step {q m h t s : Nat} (hq : 0 < q) (hh : h < 2 ^ q) (hs : s < 2 ^ q) (hne : h ≠ s) (hm : 1 ≤ m) :
    manyS q m h (t + 1) s q = manyS q m h t s q + if lateN q (h ^^^ s) (t % q) ≤ t ∧ sinceN q m (h ^^^ s) (min (t - lateN q (h ^^^ s) (t % q)) (m - 1)) = t then 1 else 0 := by
  have hw := Nat.xor_lt_two_pow hh hs
  have h0 := xor_ne hne
  rw [manyS_step0 hq hh hs hne hm q (Nat.le_refl _)]
  have hlast : sinceN q m (h ^^^ s) (m - 1) = t → lateN q (h ^^^ s) (t % q) ≤ t ∧ min (t - lateN q (h ^^^ s) (t % q)) (m - 1) = m - 1 := fun e => since_heard hq hw h0 (by omega) e
  have hhs := fun a => heard_since (m := m) (t := t) hq hw h0 hm a
  generalize h ^^^ s = w at *
  unfold hitT
  by_cases hl : lateN q w (t % q) ≤ t
  · by_cases hc : t - lateN q w (t % q) < m - 1
    · have h2 := (hhs hl).2 hc
      have h3 : ¬ sinceN q m w (m - 1) = t := fun e => by
        have := (hlast e).2
        omega
      rw [if_neg h3, if_pos ⟨hl, hc⟩, Nat.min_eq_left (by omega), if_pos ⟨hl, h2⟩]
      simp only [Nat.mod_lt _ hq, if_true]
      omega
    · rw [Nat.min_eq_right (by omega)]
      by_cases h3 : sinceN q m w (m - 1) = t
      · rw [if_pos h3, if_neg fun z => hc z.2, if_pos ⟨hl, h3⟩]; exact Int.add_zero _
      · rw [if_neg h3, if_neg fun z => hc z.2, if_neg fun z => h3 z.2]; exact Int.add_zero _
  · have h3 : ¬ sinceN q m w (m - 1) = t := fun e => hl (hlast e).1
    rw [if_neg h3, if_neg fun z => hl z.1, if_neg fun z => hl z.1]
    exact Int.add_zero _
theorem manyS_zero {q m h s : Nat} (hne : h ≠ s) : ∀ i : Nat, manyS q m h 0 s i = 0
  | 0 => by
    have e : manyS q m h 0 s 0 = if holdsB q m h 0 (m - 1) s = true then 1 else 0 := rfl
    rw [e, if_neg]
    unfold holdsB
    rw [decide_eq_false hne]
    simp
  | i + 1 => by
    have e : manyS q m h 0 s (i + 1) = manyS q m h 0 s i + mot q m i (((0 : Nat) : Int) - 1 - (dly q (h ^^^ s) i : Nat)) := rfl
    rw [e, manyS_zero hne i]
    unfold mot
    rw [if_pos]
    · rfl
    · split <;> omega
def cntS (q M : Nat) : Nat → Int
  | 0 => 0
  | i + 1 => cntS q M i + cntI q M i
theorem cntS_succ {q M : Nat} (hq : 0 < q) : ∀ i : Nat, i ≤ q → cntS q (M + 1) i = cntS q M i + if M % q < i then 1 else 0
  | 0, _ => by simp [cntS]
  | i + 1, hi => by
    have e : cntI q ((M + 1 : Nat) : Int) i = cntI q M i + if (i : Int) ≤ (M : Int) ∧ ((M : Int) - i) % (q : Int) = 0 then 1 else 0 := by
      rw [show ((M + 1 : Nat) : Int) = (M : Int) + 1 by push_cast; rfl, cnt_succ (by omega)]
    show cntS q (M + 1) i + cntI q ((M + 1 : Nat) : Int) i = cntS q M i + cntI q M i + _
    rw [cntS_succ hq i (by omega), e]
    have key : ((i : Int) ≤ (M : Int) ∧ ((M : Int) - i) % (q : Int) = 0) ↔ M % q = i := by
      constructor
      · rintro ⟨a, b⟩
        exact (emod_nat_sub (by omega) (by omega)).mp b
      · intro a
        have := Nat.mod_le M q
        exact ⟨by omega, (emod_nat_sub (by omega) (by omega)).mpr a⟩
    by_cases k : M % q = i
    · rw [if_pos (key.mpr k), if_neg (by omega), if_pos (by omega)]; omega
    · rw [if_neg fun z => k (key.mp z)]
      split <;> split <;> omega
theorem cntS_all {q : Nat} (hq : 0 < q) : ∀ M : Nat, cntS q M q = M
  | 0 => by
    have : ∀ i : Nat, cntS q 0 i = 0 := fun i => by
      induction i with
      | zero => rfl
      | succ i ih =>
        show cntS q 0 i + cntI q ((0 : Nat) : Int) i = 0
        rw [ih]
        unfold cntI
        rw [if_pos (by omega)]
        rfl
    rw [this]
    rfl
  | M + 1 => by
    rw [cntS_succ hq q (Nat.le_refl _), cntS_all hq M, if_pos (Nat.mod_lt _ hq)]
    push_cast
    rfl
theorem manyS_end {q m h t s : Nat} (hq : 0 < q) (hh : h < 2 ^ q) (hs : s < 2 ^ q) (hne : h ≠ s) (hm : 1 ≤ m) (ht : m - 1 + q ≤ t) : manyS q m h t s q = m := by
  have hw := Nat.xor_lt_two_pow hh hs
  have h0 := xor_ne hne
  have key : ∀ i : Nat, i ≤ q → manyS q m h t s i = 1 + cntS q (m - 1) i := fun i => by
    induction i with
    | zero =>
      intro _
      have e : manyS q m h t s 0 = if holdsB q m h t (m - 1) s = true then 1 else 0 := rfl
      have hl : sinceN q m (h ^^^ s) (m - 1) < m - 1 + q := by
        unfold sinceN
        rw [if_neg (by omega)]
        show m - 1 + la q (h ^^^ s) ((m - 1) % q) < _
        have := la_lt (Nat.mod_lt (m - 1) hq) hw h0
        omega
      rw [e, if_pos]
      · rfl
      · unfold holdsB
        rw [Bool.or_eq_true]
        exact .inr (decide_eq_true (by omega))
    | succ i ih =>
      intro hi
      have e : manyS q m h t s (i + 1) = manyS q m h t s i + mot q m i ((t : Int) - 1 - (dly q (h ^^^ s) i : Nat)) := rfl
      have hd := dly_le (w := h ^^^ s) (show i < q by omega)
      have e2 : (if (t : Int) - 1 - (dly q (h ^^^ s) i : Nat) < (m : Int) - 2 then (t : Int) - 1 - (dly q (h ^^^ s) i : Nat) else (m : Int) - 2) + 1 = ((m - 1 : Nat) : Int) := by split <;> omega
      rw [e, ih (by omega), mot_cnt, e2]
      show _ = 1 + (cntS q (m - 1) i + cntI q ((m - 1 : Nat) : Int) i)
      omega
  rw [key q (Nat.le_refl _), cntS_all hq]
  omega

theorem sinceN_last {q m w : Nat} : sinceN q m w (m - 1) = m - 1 + la q w ((m - 1) % q) := by
  unfold sinceN
  rw [if_neg (by omega)]
  rfl
theorem la_sub {q w w' j : Nat} (hj : j < q) (hw : w < 2 ^ q) (hw' : w' < 2 ^ q) (h0 : w' ≠ 0) (hs : ∀ k, w'.testBit k = true → w.testBit k = true) : la q w' j ≤ la q w j := by
  obtain ⟨k, hk, hb, e, _⟩ := la_mem hj hw' h0
  rw [← e]
  exact la_max hj hw (hs k hb)
/-- whoever tells has it ahead -/
theorem teller_has {q m w t : Nat} (hq : 0 < q) (hw : w < 2 ^ q) (hm : 1 ≤ m) (hl : lateN q w (t % q) ≤ t) :
    w ^^^ 2 ^ (t % q) = 0 ∨ sinceN q m (w ^^^ 2 ^ (t % q)) (min (t - lateN q w (t % q)) (m - 1)) < t := by
  have hk := Nat.mod_lt t hq
  have hw' : w ^^^ 2 ^ (t % q) < 2 ^ q := Nat.xor_lt_two_pow hw (Nat.pow_lt_pow_right (by decide) hk)
  have hj := Nat.mod_lt (m - 1) hq
  by_cases hb : w.testBit (t % q) = true
  · have h0 : w ≠ 0 := fun e => by rw [e, Nat.zero_testBit] at hb; cases hb
    have hs := heard_since (m := m) hq hw h0 hm hl
    by_cases c : t - lateN q w (t % q) < m - 1
    · rw [Nat.min_eq_left (by omega)]
      exact since_teller hq hw h0 (by omega) (hs.2 c)
    · rw [Nat.min_eq_right (by omega)] at hs ⊢
      by_cases hz : w ^^^ 2 ^ (t % q) = 0
      · exact .inl hz
      · right
        rcases Nat.lt_or_ge (sinceN q m w (m - 1)) t with d | d
        · refine Nat.lt_of_le_of_lt ?_ d
          rw [sinceN_last, sinceN_last]
          refine Nat.add_le_add_left (la_sub hj hw hw' hz fun k hkb => ?_) _
          rw [bit_flip] at hkb
          by_cases e : t % q = k
          · rw [← e]; exact hb
          · rw [decide_eq_false e, Bool.xor_false] at hkb; exact hkb
        · rcases since_teller hq hw h0 (show m - 1 < m by omega) (show sinceN q m w (m - 1) = t by omega) with e | e
          · exact absurd e hz
          · exact e
  · right
    have hlate : lateN q w (t % q) = q := by unfold lateN; rw [if_neg hb]
    rw [hlate] at hl ⊢
    have hb' : (w ^^^ 2 ^ (t % q)).testBit (t % q) = true := by
      rw [bit_flip]
      simp at hb
      simp [hb]
    have hz : w ^^^ 2 ^ (t % q) ≠ 0 := fun e => by rw [e, Nat.zero_testBit] at hb'; cases hb'
    by_cases c : t - q < m - 1
    · rw [Nat.min_eq_left (by omega)]
      unfold sinceN
      rw [if_pos c, ← Nat.mod_eq_sub_mod hl]
      have := dly_lt hk hw' hb'
      omega
    · rw [Nat.min_eq_right (by omega), sinceN_last]
      have := la_lt hj hw' hz
      omega
theorem root_last {q m w i t : Nat} (hq : 0 < q) (hw : w < 2 ^ q) (hi : i < m - 1) (e : sinceN q m w i = t) (hz : w ^^^ 2 ^ (t % q) = 0) : t = i := by
  have hj := Nat.mod_lt i hq
  have hk := Nat.mod_lt t hq
  have hww : w = 2 ^ (t % q) := by
    have h := congrArg (· ^^^ 2 ^ (t % q)) hz
    simpa [Nat.xor_assoc] using h
  have hbit : ∀ b, w.testBit b = true → b = t % q := fun b hb => by
    rw [hww, Nat.testBit_two_pow] at hb
    exact (of_decide_eq_true hb).symm
  unfold sinceN at e
  rw [if_pos hi] at e
  by_cases hb : w.testBit (i % q) = true
  · have h0 : w ≠ 0 := fun e => by rw [e, Nat.zero_testBit] at hb; cases hb
    obtain ⟨z, hzq, hzb, hza, _⟩ := la_mem hj hw h0
    have h1 := hbit _ hzb
    have h2 := hbit _ hb
    have hla : la q w (i % q) = 0 := by rw [← hza, h1, ← h2, aN_eq hj hj, if_pos (Nat.le_refl _), Nat.sub_self]
    rw [dly_on hj hb, hla] at e
    omega
  · have ht : t % q = i % q := by rw [← e, dly_off hb, Nat.add_mod_right]
    exfalso
    apply hb
    rw [hww, ← ht, Nat.testBit_two_pow]
    simp

def manyD (q m h t s : Nat) : Int := if h = s then (m : Int) else manyS q m h t s q
theorem manyD_next {q m h t s : Nat} (hq : 0 < q) (hh : h < 2 ^ q) (hs : s < 2 ^ q) (hm : 1 ≤ m) (hl : lateN q (h ^^^ s) (t % q) ≤ t) :
    manyD q m h (t + 1) s = manyD q m h t s + if holdsB q m h t (min (t - lateN q (h ^^^ s) (t % q)) (m - 1)) s = false then 1 else 0 := by
  unfold manyD holdsB
  by_cases hne : h = s
  · rw [if_pos hne, if_pos hne, if_neg (by simp [hne])]; exact (Int.add_zero _).symm
  · rw [if_neg hne, if_neg hne, manyS_step hq hh hs hne hm]
    have hsi := (heard_since (m := m) (t := t) hq (Nat.xor_lt_two_pow hh hs) (xor_ne hne) hm hl).1
    congr 1
    generalize min (t - lateN q (h ^^^ s) (t % q)) (m - 1) = L at *
    by_cases c : sinceN q m (h ^^^ s) L = t
    · rw [if_pos ⟨hl, c⟩, if_pos (by simp [hne, c])]
    · rw [if_neg fun z => c z.2, if_neg (by simp [hne]; omega)]
theorem manyD_none {q m h t s : Nat} (hq : 0 < q) (hh : h < 2 ^ q) (hs : s < 2 ^ q) (hm : 1 ≤ m) (hl : ¬ lateN q (h ^^^ s) (t % q) ≤ t) : manyD q m h (t + 1) s = manyD q m h t s := by
  unfold manyD
  by_cases hne : h = s
  · rw [if_pos hne, if_pos hne]
  · rw [if_neg hne, if_neg hne, manyS_step hq hh hs hne hm, if_neg fun z => hl z.1, Int.add_zero]
theorem holds_next {q m h t s : Nat} (hq : 0 < q) (hh : h < 2 ^ q) (hs : s < 2 ^ q) (hm : 1 ≤ m) (hl : lateN q (h ^^^ s) (t % q) ≤ t) : holdsB q m h (t + 1) (min (t - lateN q (h ^^^ s) (t % q)) (m - 1)) s = true := by
  unfold holdsB
  rw [Bool.or_eq_true]
  by_cases hne : h = s
  · exact .inl (decide_eq_true hne)
  · have := (heard_since (m := m) (t := t) hq (Nat.xor_lt_two_pow hh hs) (xor_ne hne) hm hl).1
    exact .inr (decide_eq_true (by omega))
theorem manyD_zero {q m h s : Nat} : manyD q m h 0 s = (m : Int) * (if (h : Int) = (s : Int) then 1 else 0) := by
  unfold manyD
  by_cases hne : h = s
  · rw [if_pos hne, if_pos (by omega), Int.mul_one]
  · rw [if_neg hne, if_neg (by omega), Int.mul_zero, manyS_zero hne]
theorem manyD_end {q m h t s : Nat} (hq : 0 < q) (hh : h < 2 ^ q) (hs : s < 2 ^ q) (hm : 1 ≤ m) (ht : m - 1 + q ≤ t) : manyD q m h t s = m := by
  unfold manyD
  split
  · rfl
  · rename_i hne
    exact manyS_end hq hh hs hne hm ht
/-- the last beat: by it each lacks one yet, where there are two letters or more -/
theorem since_lastbeat {q m w : Nat} (hq : 0 < q) (hw : w < 2 ^ q) (h0 : w ≠ 0) (hm : 2 ≤ m) : ∃ L, L < m ∧ sinceN q m w L = m - 2 + q := by
  have hk := Nat.mod_lt (m - 2 + q) hq
  by_cases hb : w.testBit ((m - 2 + q) % q) = true
  · refine ⟨m - 1, by omega, ?_⟩
    have hj := Nat.mod_lt (m - 1) hq
    rw [sinceN_last]
    have h1 := la_lt hj hw h0
    have h2 := la_max hj hw hb
    have hx := mod_add (i := m - 1) (x := q - 1) hq (by omega)
    rw [show m - 1 + (q - 1) = m - 2 + q by omega] at hx
    rw [aN_eq hj hk] at h2
    generalize la q w ((m - 1) % q) = A at *
    generalize (m - 1) % q = j0 at *
    generalize (m - 2 + q) % q = k at *
    split at hx <;> split at h2 <;> omega
  · refine ⟨m - 2, by omega, ?_⟩
    have hlate : lateN q w ((m - 2 + q) % q) = q := by unfold lateN; rw [if_neg hb]
    have h := (heard_since (m := m) (t := m - 2 + q) hq hw h0 (by omega) (by rw [hlate]; omega)).2 (by rw [hlate]; omega)
    rw [hlate] at h
    rw [show m - 2 + q - q = m - 2 by omega] at h
    exact h
theorem manyD_ahead {q m h s : Nat} (hq : 0 < q) (hh : h < 2 ^ q) (hs : s < 2 ^ q) (hm : 2 ≤ m) : manyD q m h (m - 2 + q) s = m ↔ h = s := by
  constructor
  · intro e
    apply Classical.byContradiction
    intro hne
    have h1 := manyS_end (m := m) (t := m - 2 + q + 1) hq hh hs hne (by omega) (by omega)
    rw [manyS_step hq hh hs hne (by omega)] at h1
    have hw := Nat.xor_lt_two_pow hh hs
    obtain ⟨L, hL, hL2⟩ := since_lastbeat hq hw (xor_ne hne) hm
    obtain ⟨a, b⟩ := since_heard hq hw (xor_ne hne) hL hL2
    unfold manyD at e
    rw [if_neg hne] at e
    rw [b, if_pos ⟨a, hL2⟩] at h1
    omega
  · intro e
    unfold manyD
    rw [if_pos e]
theorem manyD_one {q h s : Nat} (hq : 0 < q) (hh : h < 2 ^ q) (hs : s < 2 ^ q) : manyD q 1 h (q - 1) s = 1 ↔ ¬ (h ^^^ s).testBit (q - 1) = true := by
  unfold manyD
  by_cases hne : h = s
  · rw [if_pos hne, hne, Nat.xor_self, Nat.zero_testBit]
    simp
  · rw [if_neg hne]
    have hw := Nat.xor_lt_two_pow hh hs
    have h0 := xor_ne hne
    have h1 := manyS_end (m := 1) (t := q - 1 + 1) hq hh hs hne (by omega) (by omega)
    rw [manyS_step hq hh hs hne (by omega)] at h1
    have hmin : ∀ x, min x (1 - 1) = 0 := fun x => by omega
    rw [hmin] at h1
    have hs0 : sinceN q 1 (h ^^^ s) 0 = la q (h ^^^ s) 0 := by
      have := sinceN_last (q := q) (m := 1) (w := h ^^^ s)
      simpa using this
    have h2 := la_lt hq hw h0
    obtain ⟨k, hk, hkb, hka, _⟩ := la_mem hq hw h0
    rw [aN_eq hq hk, if_pos (Nat.zero_le _)] at hka
    have key : sinceN q 1 (h ^^^ s) 0 = q - 1 ↔ (h ^^^ s).testBit (q - 1) = true := by
      rw [hs0]
      constructor
      · intro e
        rw [← e, ← hka]
        exact hkb
      · intro hb
        have := la_max hq hw hb
        rw [aN_eq hq (by omega), if_pos (Nat.zero_le _)] at this
        omega
    by_cases c : sinceN q 1 (h ^^^ s) 0 = q - 1
    · have hl := (since_heard hq hw h0 (by omega) c).1
      rw [if_pos ⟨hl, c⟩] at h1
      constructor
      · intro e; omega
      · intro hb; exact absurd (key.mp c) hb
    · rw [if_neg fun z => c z.2] at h1
      constructor
      · intro _ hb; exact c (key.mpr hb)
      · intro _; omega
theorem half_count : ∀ q, q < 6 → 1 ≤ q → ∀ s, s < 2 ^ q → ((List.range (2 ^ q)).filter fun h => !(h ^^^ s).testBit (q - 1)).length = 2 ^ (q - 1) := by decide +kernel
theorem flip_count {q k : Nat} (hk : k < q) (P : Nat → Bool) : ((List.range (2 ^ q)).filter fun h => P (h ^^^ 2 ^ k)).length = ((List.range (2 ^ q)).filter P).length := by
  have hp : ((List.range (2 ^ q)).map (· ^^^ 2 ^ k)).Perm (List.range (2 ^ q)) := by
    refine perm_range ?_ fun x => ?_
    · unfold List.Nodup
      rw [List.pairwise_map]
      refine (List.nodup_range (n := 2 ^ q)).imp fun {a b} h e => h ?_
      have := congrArg (· ^^^ 2 ^ k) e
      simpa [Nat.xor_assoc] using this
    · rw [List.mem_map]
      constructor
      · rintro ⟨a, ha, rfl⟩
        exact Nat.xor_lt_two_pow (List.mem_range.mp ha) (Nat.pow_lt_pow_right (by decide) hk)
      · intro hx
        exact ⟨x ^^^ 2 ^ k, List.mem_range.mpr (Nat.xor_lt_two_pow hx (Nat.pow_lt_pow_right (by decide) hk)), by simp [Nat.xor_assoc]⟩
  have h1 := (hp.filter P).length_eq
  rw [← h1, List.filter_map, List.length_map]
  rfl
theorem filter_one {l : List Nat} {s : Nat} (nd : l.Pairwise (· < ·)) (hs : s ∈ l) {P : Nat → Bool} (h : ∀ x ∈ l, P x = true ↔ x = s) : l.filter P = [s] := by
  refine inc_eq (nd.filter _) (List.pairwise_singleton ..) fun x => ?_
  rw [List.mem_filter, List.mem_singleton]
  constructor
  · rintro ⟨a, b⟩; exact (h x a).mp b
  · rintro rfl; exact ⟨hs, (h x hs).mpr rfl⟩

theorem xcancel (h k : Nat) : (h ^^^ k) ^^^ k = h := by rw [Nat.xor_assoc, Nat.xor_self, Nat.xor_zero]
theorem xswap (h k s : Nat) : (h ^^^ k) ^^^ s = (h ^^^ s) ^^^ k := by rw [Nat.xor_assoc, Nat.xor_comm k s, ← Nat.xor_assoc]
theorem told_back {q m h t s : Nat} (hl : lateN q (h ^^^ s) (t % q) ≤ t) (hm : 1 ≤ m) : toldD q m (h ^^^ 2 ^ (t % q)) t s = .tup [nD h, nD (min (t - lateN q (h ^^^ s) (t % q)) (m - 1))] := by
  have h1 := tD_some (h := h ^^^ 2 ^ (t % q)) (s := s) (m := m) (by rw [xcancel]; exact hl) hm
  rw [xcancel] at h1
  exact h1
theorem holds_teller {q m h t s : Nat} (hq : 0 < q) (hh : h < 2 ^ q) (hs : s < 2 ^ q) (hm : 1 ≤ m) (hl : lateN q (h ^^^ s) (t % q) ≤ t) : holdsB q m (h ^^^ 2 ^ (t % q)) t (min (t - lateN q (h ^^^ s) (t % q)) (m - 1)) s = true := by
  unfold holdsB
  rw [xswap, Bool.or_eq_true]
  rcases teller_has (m := m) hq (Nat.xor_lt_two_pow hh hs) hm hl with e | e
  · left
    refine decide_eq_true ?_
    rw [← xswap] at e
    have := congrArg (· ^^^ s) e
    simpa [Nat.xor_assoc] using this
  · exact .inr (decide_eq_true e)
theorem same_two {a b : Nat} (ha : a < 2 ^ 99) (hb : b < 2 ^ 99) (st : Store) : cop .ne (.tup [nD a, nD b]) (.tup [nD a, nD b]) st = some false :=
  (cop_same rfl (by simp only [D.sm, D.smL, Bool.and_true, Bool.and_eq_true]; exact ⟨decide_eq_true (by omega), decide_eq_true (by omega)⟩) (by simp [D.dep, D.depL])).2
theorem smL_of {ds : List D} (h : ∀ d ∈ ds, d.sm = true) : D.smL ds = true := by
  induction ds with
  | nil => rfl
  | cons d ds ih =>
    simp only [D.smL, Bool.and_eq_true]
    exact ⟨h d (List.mem_cons_self ..), ih fun x hx => h x (List.mem_cons_of_mem _ hx)⟩
theorem depL_int : ∀ l : List Int, D.depL (l.map D.int) = 0
  | [] => rfl
  | x :: l => by simp only [List.map_cons, D.depL, D.dep, depL_int l, Nat.max_self]
theorem same_ints {l : List Int} (h : ∀ x ∈ l, x.natAbs < 2 ^ 100) (st : Store) : cop .eq (.lst (l.map D.int)) (.lst (l.map D.int)) st = some true ∧ cop .ne (.lst (l.map D.int)) (.lst (l.map D.int)) st = some false :=
  cop_same rfl (by
    simp only [D.sm]
    refine smL_of fun d hd => ?_
    obtain ⟨x, hx, rfl⟩ := List.mem_map.mp hd
    exact decide_eq_true (h x hx)) (by simp only [D.dep, depL_int]; omega)
theorem map_ints {α : Type} (l : List α) (f : α → Int) : l.map (fun x => D.int (f x)) = (l.map f).map D.int := by rw [List.map_map]; rfl
theorem rep_range (n : Nat) (d : D) : (List.replicate n [d]).flatten = (List.range n).map fun _ => d := by
  induction n with
  | zero => rfl
  | succ n ih => rw [List.replicate_succ, List.range_succ_eq_map, List.flatten_cons, ih]; simp
theorem pw5 {q : Nat} (h1 : 1 ≤ q) (h5 : q ≤ 5) : atD [D.int 2, .int 4, .int 8, .int 16, .int 32] ((q : Int) - 1) = some (nD (2 ^ q)) := by
  obtain rfl | rfl | rfl | rfl | rfl : q = 1 ∨ q = 2 ∨ q = 3 ∨ q = 4 ∨ q = 5 := by omega
  all_goals rfl
/-! ### who has what, beat by beat -/
def cellD (q m s T h i : Nat) : D := if h = s then .int (-1) else if sinceN q m (h ^^^ s) i < T then nD (sinceN q m (h ^^^ s) i) else .non
def rowD (q m s T h : Nat) : List D := (List.range m).map fun i => cellD q m s T h i
theorem row_len (q m s T h : Nat) : (rowD q m s T h).length = m := by unfold rowD; simp
theorem row_at {q m s T h i : Nat} (hi : i < m) : (rowD q m s T h)[i]? = some (cellD q m s T h i) := by
  unfold rowD
  rw [List.getElem?_map, List.getElem?_range hi]
  rfl
theorem row_atD {q m s T h i : Nat} (hi : i < m) : atD (rowD q m s T h) (i : Int) = some (cellD q m s T h i) := by
  rw [at_int (by omega) (by rw [row_len]; omega), Int.toNat_natCast, row_at hi]
theorem cell_lo (q m s T h i : Nat) : (cellD q m s T h i).lo 0 = true := by
  unfold cellD
  split
  · rfl
  · split <;> rfl
theorem row_lo (q m s T h : Nat) : D.loL 0 (rowD q m s T h) = true := by
  rw [loL_iff]
  intro d hd
  unfold rowD at hd
  obtain ⟨i, _, rfl⟩ := List.mem_map.mp hd
  exact cell_lo ..
def rowsS (q m s t c N : Nat) : Store := (List.range N).map fun h => O.lst (rowD q m s (if h < c then t + 1 else t) h)
theorem rows_at {q m s t c N h : Nat} {st : Store} (hh : h < N) : (st ++ rowsS q m s t c N)[st.length + h]? = some (.lst (rowD q m s (if h < c then t + 1 else t) h)) := by
  rw [List.getElem?_append_right (by omega), Nat.add_sub_cancel_left]
  unfold rowsS
  rw [List.getElem?_map, List.getElem?_range hh]
  rfl
theorem rows_ok {q m s t c N : Nat} {st : Store} (hs : StOk st) : StOk (st ++ rowsS q m s t c N) := fun o ho => by
  rcases List.mem_append.mp ho with h | h
  · exact hs o h
  · unfold rowsS at h
    obtain ⟨h, _, rfl⟩ := List.mem_map.mp h
    exact row_lo ..
theorem rows_end (q m s t N : Nat) : rowsS q m s t N N = rowsS q m s (t + 1) 0 N := by
  unfold rowsS
  refine List.map_congr_left fun h hh => ?_
  rw [if_pos (List.mem_range.mp hh), if_neg (by omega)]
theorem rows_set {q m s t c N : Nat} {st : Store} (hc : c < N) : (st ++ rowsS q m s t c N).set (st.length + c) (.lst (rowD q m s (t + 1) c)) = st ++ rowsS q m s t (c + 1) N := by
  rw [List.set_append_right _ _ (by omega), Nat.add_sub_cancel_left]
  congr 1
  refine List.ext_getElem? fun h => ?_
  unfold rowsS
  rw [List.getElem?_set]
  by_cases e : c = h
  · subst e
    rw [if_pos rfl, if_pos (by simp; omega), List.getElem?_map, List.getElem?_range hc]
    simp
  · rw [if_neg e, List.getElem?_map, List.getElem?_map]
    rcases Nat.lt_or_ge h N with k | k
    · rw [List.getElem?_range k]
      show some (O.lst (rowD q m s (if h < c then t + 1 else t) h)) = some (O.lst (rowD q m s (if h < c + 1 then t + 1 else t) h))
      by_cases d : h < c
      · rw [if_pos d, if_pos (by omega)]
      · rw [if_neg d, if_neg (by omega)]
    · rw [List.getElem?_eq_none (by simpa using k)]
      rfl
theorem rows_skip {q m s t c N : Nat} (h : rowD q m s (t + 1) c = rowD q m s t c) : rowsS q m s t c N = rowsS q m s t (c + 1) N := by
  unfold rowsS
  refine List.map_congr_left fun x hx => ?_
  rcases Nat.lt_trichotomy x c with k | k | k
  · rw [if_pos k, if_pos (by omega)]
  · subst k
    rw [if_neg (by omega), if_pos (by omega), h]
  · rw [if_neg (by omega), if_neg (by omega)]
theorem row_root {q m s t : Nat} : rowD q m s (t + 1) s = rowD q m s t s := by
  unfold rowD
  refine List.map_congr_left fun i _ => ?_
  unfold cellD
  rw [if_pos rfl, if_pos rfl]
/-- nothing new at this beat -/
theorem row_same {q m h s t : Nat} (hq : 0 < q) (hh : h < 2 ^ q) (hs : s < 2 ^ q) (hne : h ≠ s) (hn : lateN q (h ^^^ s) (t % q) ≤ t → sinceN q m (h ^^^ s) (min (t - lateN q (h ^^^ s) (t % q)) (m - 1)) ≠ t) : rowD q m s (t + 1) h = rowD q m s t h := by
  unfold rowD
  refine List.map_congr_left fun i hi => ?_
  have hi := List.mem_range.mp hi
  unfold cellD
  rw [if_neg hne, if_neg hne]
  have : sinceN q m (h ^^^ s) i ≠ t := fun e => by
    obtain ⟨a, b⟩ := since_heard hq (Nat.xor_lt_two_pow hh hs) (xor_ne hne) hi e
    exact hn a (by rw [b]; exact e)
  by_cases c : sinceN q m (h ^^^ s) i < t
  · rw [if_pos c, if_pos (by omega)]
  · rw [if_neg c, if_neg (by omega)]
/-- one letter more at this beat -/
theorem row_new {q m h s t : Nat} (hq : 0 < q) (hh : h < 2 ^ q) (hs : s < 2 ^ q) (hne : h ≠ s) (hl : lateN q (h ^^^ s) (t % q) ≤ t) (he : sinceN q m (h ^^^ s) (min (t - lateN q (h ^^^ s) (t % q)) (m - 1)) = t) (hm : 1 ≤ m) :
    (rowD q m s t h).set (min (t - lateN q (h ^^^ s) (t % q)) (m - 1)) (nD t) = rowD q m s (t + 1) h := by
  refine List.ext_getElem? fun i => ?_
  rw [List.getElem?_set]
  have hlen := row_len q m s t h
  by_cases hi : i < m
  · rw [row_at hi, row_at hi]
    by_cases e : min (t - lateN q (h ^^^ s) (t % q)) (m - 1) = i
    · rw [if_pos e, if_pos (by omega)]
      unfold cellD
      rw [if_neg hne, ← e, he, if_pos (by omega)]
    · rw [if_neg e]
      unfold cellD
      rw [if_neg hne, if_neg hne]
      have : sinceN q m (h ^^^ s) i ≠ t := fun e2 => e (since_heard hq (Nat.xor_lt_two_pow hh hs) (xor_ne hne) hi e2).2
      by_cases c : sinceN q m (h ^^^ s) i < t
      · rw [if_pos c, if_pos (by omega)]
      · rw [if_neg c, if_neg (by omega)]
  · rw [if_neg (by omega), List.getElem?_eq_none (by omega), List.getElem?_eq_none (by rw [row_len]; omega)]

def lbB (q w j late : Nat) : Bool := (List.range q).all fun k => !w.testBit k || decide ((if j ≤ k then k - j else k + q - j) < late)
def dlB (q w j late : Nat) : Bool := decide (w = 0) || if w.testBit j = true then lbB q w j late else decide (q < late)
theorem lbB_la {q w j late : Nat} (hj : j < q) (hw : w < 2 ^ q) (h0 : w ≠ 0) : lbB q w j late = decide (la q w j < late) := by
  rw [Bool.eq_iff_iff, decide_eq_true_eq]
  unfold lbB
  rw [List.all_eq_true]
  constructor
  · intro h
    obtain ⟨k, hk, hkb, hka, _⟩ := la_mem hj hw h0
    have := h k (List.mem_range.mpr hk)
    rw [hkb] at this
    rw [← hka, aN_eq hj hk]
    simpa using this
  · intro h k hk
    have hk := List.mem_range.mp hk
    cases hb : w.testBit k with
    | false => rfl
    | true =>
      have := la_max hj hw hb
      rw [aN_eq hj hk] at this
      simp
      omega
theorem lbB_zero (q j late : Nat) : lbB q 0 j late = true := by
  unfold lbB
  rw [List.all_eq_true]
  intro k _
  rw [Nat.zero_testBit]
  rfl
theorem holds_lb {q m h s i late : Nat} (hq : 0 < q) (hh : h < 2 ^ q) (hs : s < 2 ^ q) (hm : 1 ≤ m) (hi : i = m - 1) : holdsB q m h (i + late) i s = lbB q (h ^^^ s) (i % q) late := by
  unfold holdsB
  subst hi
  by_cases hne : h = s
  · rw [hne, Nat.xor_self, lbB_zero]; simp
  · rw [lbB_la (Nat.mod_lt _ hq) (Nat.xor_lt_two_pow hh hs) (xor_ne hne), sinceN_last, decide_eq_false hne, Bool.false_or, decide_eq_decide]
    omega
theorem holds_dl {q m h s i late : Nat} (hq : 0 < q) (hh : h < 2 ^ q) (hs : s < 2 ^ q) (hi : i < m - 1) : holdsB q m h (i + late) i s = dlB q (h ^^^ s) (i % q) late := by
  unfold holdsB dlB
  by_cases hne : h = s
  · rw [hne, Nat.xor_self]; simp
  · have h0 := xor_ne hne
    have hj := Nat.mod_lt i hq
    have hw := Nat.xor_lt_two_pow hh hs
    rw [decide_eq_false hne, decide_eq_false h0, Bool.false_or, Bool.false_or]
    unfold sinceN
    rw [if_pos hi]
    by_cases hb : (h ^^^ s).testBit (i % q) = true
    · rw [if_pos hb, lbB_la hj hw h0, dly_on hj hb, decide_eq_decide]
      omega
    · rw [if_neg hb, dly_off hb, decide_eq_decide]
      omega
theorem xor_count {q s : Nat} (hs : s < 2 ^ q) (P : Nat → Bool) : ((List.range (2 ^ q)).filter fun h => P (h ^^^ s)).length = ((List.range (2 ^ q)).filter P).length := by
  have hp : ((List.range (2 ^ q)).map (· ^^^ s)).Perm (List.range (2 ^ q)) := by
    refine perm_range ?_ fun x => ?_
    · unfold List.Nodup
      rw [List.pairwise_map]
      refine (List.nodup_range (n := 2 ^ q)).imp fun {a b} h e => h ?_
      have := congrArg (· ^^^ s) e
      simpa [Nat.xor_assoc] using this
    · rw [List.mem_map]
      constructor
      · rintro ⟨a, ha, rfl⟩
        exact Nat.xor_lt_two_pow (List.mem_range.mp ha) hs
      · intro hx
        exact ⟨x ^^^ s, List.mem_range.mpr (Nat.xor_lt_two_pow hx hs), by simp [Nat.xor_assoc]⟩
  have h1 := (hp.filter P).length_eq
  rw [← h1, List.filter_map, List.length_map]
  rfl
theorem lb_count : ∀ q, q < 7 → ∀ j, j < q → ∀ late, late < q + 1 → ((List.range (2 ^ q)).filter fun w => lbB q w j late).length = 2 ^ late := by decide +kernel
theorem dl_count : ∀ q, q < 7 → ∀ j, j < q → ∀ late, late < q + 2 → ((List.range (2 ^ q)).filter fun w => dlB q w j late).length = (if late = 0 then 1 else if late = q + 1 then 2 ^ q else 2 ^ (late - 1) + 1) := by decide +kernel
def dueL (q m i : Nat) : List Nat := if i = m - 1 then (List.range (q + 1)).map (2 ^ ·) else (1 :: (List.range q).map fun k => 2 ^ k + 1) ++ [2 ^ q]
theorem dueL_at {q m i late d s : Nat} (hq : 0 < q) (hq6 : q ≤ 6) (hm : 1 ≤ m) (hi : i < m) (hs : s < 2 ^ q) (h : (dueL q m i)[late]? = some d) : ((List.range (2 ^ q)).filter fun h => holdsB q m h (i + late) i s).length = d := by
  have hj := Nat.mod_lt i hq
  unfold dueL at h
  by_cases c : i = m - 1
  · rw [if_pos c] at h
    rw [List.getElem?_map] at h
    have hl : late < q + 1 := by
      apply Classical.byContradiction
      intro hc
      rw [List.getElem?_eq_none (by simpa using Nat.le_of_not_lt hc)] at h
      cases h
    rw [List.getElem?_range hl] at h
    cases h
    rw [List.filter_congr (q := fun h => lbB q (h ^^^ s) (i % q) late) fun h hh => holds_lb hq (List.mem_range.mp hh) hs hm c, xor_count hs fun w => lbB q w (i % q) late]
    exact lb_count q (by omega) (i % q) hj late hl
  · rw [if_neg c] at h
    have hl : late < q + 2 := by
      have := (List.getElem?_eq_some_iff.mp h).1
      simp at this
      omega
    rw [List.filter_congr (q := fun h => dlB q (h ^^^ s) (i % q) late) fun h hh => holds_dl hq (List.mem_range.mp hh) hs (by omega), xor_count hs fun w => dlB q w (i % q) late]
    rw [dl_count q (by omega) (i % q) hj late hl]
    rcases Nat.lt_trichotomy late (q + 1) with k | k | k
    · cases late with
      | zero =>
        have h : some 1 = some d := h
        cases h
        rfl
      | succ late =>
        rw [if_neg (by omega), if_neg (by omega)]
        rw [List.getElem?_append_left (by simp; omega), List.getElem?_cons_succ, List.getElem?_map, List.getElem?_range (by omega)] at h
        cases h
        rfl
    · rw [if_neg (by omega), if_pos k]
      rw [List.getElem?_append_right (by simp; omega)] at h
      have : late - (1 :: (List.range q).map fun k => 2 ^ k + 1).length = 0 := by simp; omega
      rw [this] at h
      cases h
      rfl
    · omega
theorem last_map {f : Nat → Nat} (k : Nat) : lstOr ((List.range (k + 1)).map f) = nD (f k) := by
  unfold lstOr
  rw [List.range_succ, List.map_append, List.map_cons, List.map_nil, List.getLast?_concat]

def lbX (q m w : Nat) : Nat := if 1 < m then m - 2 + q else sinceN q m w 0
theorem lbX_max {q m w i : Nat} (hq : 0 < q) (hw : w < 2 ^ q) (h0 : w ≠ 0) (hi : i < m) : sinceN q m w i ≤ lbX q m w := by
  unfold lbX
  by_cases c : 1 < m
  · rw [if_pos c]
    by_cases d : i < m - 1
    · have := sinceN_le (m := m) (i := i) hq hw h0
      omega
    · have e : i = m - 1 := by omega
      subst e
      rw [sinceN_last]
      have := la_lt (Nat.mod_lt (m - 1) hq) hw h0
      omega
  · rw [if_neg c]
    have e : i = 0 := by omega
    subst e
    exact Nat.le_refl _
theorem lbX_in {q m w : Nat} (hq : 0 < q) (hw : w < 2 ^ q) (h0 : w ≠ 0) (hm : 1 ≤ m) : ∃ i, i < m ∧ m - 1 - q ≤ i ∧ sinceN q m w i = lbX q m w := by
  unfold lbX
  by_cases c : 1 < m
  · rw [if_pos c]
    obtain ⟨L, hL, e⟩ := since_lastbeat (m := m) hq hw h0 (by omega)
    have := sinceN_le (m := m) (i := L) hq hw h0
    exact ⟨L, hL, by omega, e⟩
  · rw [if_neg c]
    exact ⟨0, by omega, by omega, rfl⟩
theorem lbD_eq {q m h s : Nat} (hq : 0 < q) (hh : h < 2 ^ q) (hs : s < 2 ^ q) (hm : 1 ≤ m) : lbD q m h s = if h = s then .non else nD (lbX q m (h ^^^ s)) := by
  unfold lbD
  by_cases hne : h = s
  · rw [if_pos hne, if_pos hne]
  · rw [if_neg hne, if_neg hne]
    have hw := Nat.xor_lt_two_pow hh hs
    have h0 := xor_ne hne
    have e : maxI (lbL q m (h ^^^ s)) = some (lbX q m (h ^^^ s) : Int) := by
      obtain ⟨i, hi, hi2, hi3⟩ := lbX_in hq hw h0 hm
      refine maxI_eq ?_ fun x hx => ?_
      · unfold lbL
        refine List.mem_map.mpr ⟨i - (m - 1 - q), List.mem_range.mpr (by omega), ?_⟩
        rw [show m - 1 - q + (i - (m - 1 - q)) = i by omega, hi3]
      · unfold lbL at hx
        obtain ⟨k, hk, rfl⟩ := List.mem_map.mp hx
        have hk := List.mem_range.mp hk
        have := lbX_max (m := m) (i := m - 1 - q + k) hq hw h0 (by omega)
        omega
    rw [e]
theorem row_max {q m h s T : Nat} (hq : 0 < q) (hh : h < 2 ^ q) (hs : s < 2 ^ q) (hm : 1 ≤ m) (hne : h ≠ s) (hT : m + q ≤ T) : ∃ l : List Int, intsD (rowD q m s T h) = some l ∧ maxI l = some (lbX q m (h ^^^ s) : Int) := by
  have hw := Nat.xor_lt_two_pow hh hs
  have h0 := xor_ne hne
  have e : rowD q m s T h = ((List.range m).map fun i => sinceN q m (h ^^^ s) i).map nD := by
    unfold rowD
    rw [List.map_map]
    refine List.map_congr_left fun i hi => ?_
    have hi := List.mem_range.mp hi
    have := sinceN_le (m := m) (i := i) hq hw h0
    unfold cellD
    rw [if_neg hne, if_pos (by omega)]
    rfl
  refine ⟨_, by rw [e, ints_nD], ?_⟩
  obtain ⟨i, hi, _, hi3⟩ := lbX_in hq hw h0 hm
  refine maxI_eq ?_ fun x hx => ?_
  · exact mem_cast.mpr (List.mem_map.mpr ⟨i, List.mem_range.mpr hi, hi3⟩)
  · obtain ⟨n, hn, rfl⟩ := List.mem_map.mp hx
    obtain ⟨i, hi, rfl⟩ := List.mem_map.mp hn
    have := lbX_max (m := m) hq hw h0 (List.mem_range.mp hi)
    omega
theorem lbX_le {q m w : Nat} (hq : 0 < q) (hw : w < 2 ^ q) (h0 : w ≠ 0) (hm : 1 ≤ m) : (1 < m ∧ lbX q m w ≤ m - 2 + q) ∨ (m = 1 ∧ lbX q m w ≤ q - 1) := by
  unfold lbX
  by_cases c : 1 < m
  · rw [if_pos c]; exact .inl ⟨c, Nat.le_refl _⟩
  · have e : m = 1 := by omega
    subst e
    right
    rw [if_neg c]
    have h1 := sinceN_last (q := q) (m := 1) (w := w)
    have h2 := la_lt hq hw h0
    simp at h1
    exact ⟨rfl, by omega⟩
theorem lbX_top {q m s : Nat} (hq : 0 < q) (hs : s < 2 ^ q) (hm : 1 ≤ m) : ∃ h, h < 2 ^ q ∧ h ≠ s ∧ lbX q m (h ^^^ s) + 1 = m - 1 + q := by
  have hp : 2 ^ (q - 1) < 2 ^ q := Nat.pow_lt_pow_right (by decide) (by omega)
  have hx : (s ^^^ 2 ^ (q - 1)) ^^^ s = 2 ^ (q - 1) := by rw [Nat.xor_comm s, Nat.xor_assoc, Nat.xor_self, Nat.xor_zero]
  refine ⟨s ^^^ 2 ^ (q - 1), Nat.xor_lt_two_pow hs hp, fun e => ?_, ?_⟩
  · rw [e, Nat.xor_self] at hx
    have := Nat.pow_pos (n := q - 1) (show 0 < 2 by decide)
    omega
  · rw [hx]
    unfold lbX
    by_cases c : 1 < m
    · rw [if_pos c]; omega
    · have e : m = 1 := by omega
      subst e
      rw [if_neg c]
      have h1 := sinceN_last (q := q) (m := 1) (w := 2 ^ (q - 1))
      have h0 : 2 ^ (q - 1) ≠ 0 := Nat.ne_of_gt (Nat.pow_pos (by decide))
      obtain ⟨k, hk, hkb, hka, _⟩ := la_mem (q := q) (j := 0) hq hp h0
      rw [Nat.testBit_two_pow] at hkb
      have := of_decide_eq_true hkb
      rw [aN_eq hq hk, if_pos (Nat.zero_le _)] at hka
      simp at h1
      omega

def lkN (q j b : Nat) : Nat := b + (j + q - b % q) % q
theorem lk_nat {q j : Nat} {b : Int} (hq : 0 < q) (hj : j < q) : ∃ y : Nat, lk q j b = (y : Int) ∧ b ≤ y ∧ y % q = j ∧ ∀ i : Nat, b ≤ i → i % q = j → y ≤ i := by
  unfold lk
  have key : ∀ c : Nat, ∃ y : Nat, (c : Int) + ((j : Int) - (c : Int)).fmod (q : Int) = (y : Int) ∧ c ≤ y ∧ y % q = j ∧ ∀ i : Nat, c ≤ i → i % q = j → y ≤ i := fun c => by
    have h0 : 0 ≤ ((j : Int) - (c : Int)).fmod (q : Int) := Int.fmod_nonneg_of_pos _ (by omega)
    have h1 : ((j : Int) - (c : Int)).fmod (q : Int) < q := Int.fmod_lt_of_pos _ (by omega)
    have h2 := Int.mul_fdiv_add_fmod ((j : Int) - (c : Int)) (q : Int)
    generalize ((j : Int) - (c : Int)).fmod (q : Int) = r at *
    generalize ((j : Int) - (c : Int)).fdiv (q : Int) = a at *
    have hm : ((c : Int) + r) % (q : Int) = j := by
      have e : (c : Int) + r = j + q * (-a) := by rw [Int.mul_neg]; omega
      rw [e, Int.add_mul_emod_self_left]
      exact Int.emod_eq_of_lt (by omega) (by omega)
    have hy : ((c : Int) + r) = (((c : Int) + r).toNat : Int) := by omega
    refine ⟨((c : Int) + r).toNat, hy, by omega, ?_, fun i hi hij => ?_⟩
    · rw [hy] at hm
      rw [← Int.natCast_emod] at hm
      omega
    · apply Classical.byContradiction
      intro hc
      have hd1 := Nat.div_add_mod i q
      have hm2 : ((c : Int) + r).toNat % q = j := by rw [hy, ← Int.natCast_emod] at hm; omega
      have hd2 := Nat.div_add_mod (((c : Int) + r).toNat) q
      generalize ((c : Int) + r).toNat = y at *
      have h3 : q * (i / q) < q * (y / q) := by omega
      have h4 := Nat.lt_of_mul_lt_mul_left h3
      have h5 : q * (i / q + 1) ≤ q * (y / q) := Nat.mul_le_mul_left q h4
      rw [Nat.mul_add] at h5
      omega
  by_cases hb : 0 > b
  · rw [if_pos hb]
    obtain ⟨y, a, b', c, d⟩ := key 0
    exact ⟨y, a, by omega, c, fun i hi hij => d i (by omega) hij⟩
  · rw [if_neg hb]
    obtain ⟨y, a, b', c, d⟩ := key b.toNat
    have e : ((b.toNat : Nat) : Int) = b := by omega
    rw [e] at a
    exact ⟨y, a, by omega, c, fun i hi hij => d i (by omega) hij⟩
theorem lk_law {q j : Nat} {b : Int} (hq : 0 < q) (hj : j < q) : (j : Int) + (if (b - 1 - j).fdiv q + 1 > 0 then (b - 1 - j).fdiv q + 1 else 0) * q = lk q j b := by
  obtain ⟨y, e, hb, hy, hmin⟩ := lk_nat (b := b) hq hj
  rw [e]
  have h0 : 0 ≤ (b - 1 - j).fmod q := Int.fmod_nonneg_of_pos _ (by omega)
  have h1 : (b - 1 - j).fmod q < q := Int.fmod_lt_of_pos _ (by omega)
  have h2 := Int.mul_fdiv_add_fmod (b - 1 - j) (q : Int)
  generalize (b - 1 - j).fmod q = r at *
  generalize (b - 1 - j).fdiv q = a at *
  have hd := Nat.div_add_mod y q
  split
  · rename_i ha
    have hk : 0 ≤ a + 1 := by omega
    obtain ⟨k, hk2⟩ : ∃ k : Nat, a + 1 = (k : Int) := ⟨(a + 1).toNat, by omega⟩
    rw [hk2]
    have e2 : (j : Int) + k * q = ((j + k * q : Nat) : Int) := by push_cast; rfl
    rw [e2]
    have h3 : b ≤ ((j + k * q : Nat) : Int) := by
      have : (q : Int) * (a + 1) = q * a + q := by rw [Int.mul_add, Int.mul_one]
      rw [hk2] at this
      have e3 : ((k * q : Nat) : Int) = (q : Int) * k := by push_cast; rw [Int.mul_comm]
      rw [Int.natCast_add, e3]
      omega
    have h4 := hmin (j + k * q) h3 (by rw [Nat.add_mul_mod_self_right, Nat.mod_eq_of_lt hj])
    have h5 : y = j + k * q := by
      apply Classical.byContradiction
      intro hc
      have h6 : q * (y / q) < q * k := by rw [Nat.mul_comm k q] at h4 hc; omega
      have h7 := Nat.lt_of_mul_lt_mul_left h6
      have h8 : q * (y / q + 1) ≤ q * k := Nat.mul_le_mul_left q h7
      rw [Nat.mul_add] at h8
      have h9 : (q : Int) * (a + 1) = q * a + q := by rw [Int.mul_add, Int.mul_one]
      rw [hk2] at h9
      have h10 : ((q * k : Nat) : Int) = (q : Int) * k := by push_cast; rfl
      omega
    rw [h5]
  · rename_i ha
    rw [Int.zero_mul, Int.add_zero]
    have h3 : b ≤ (j : Int) := by
      have : (q : Int) * a ≤ q * (-1) := Int.mul_le_mul_of_nonneg_left (by omega) (by omega)
      omega
    have h4 := hmin j h3 (Nat.mod_eq_of_lt hj)
    have h5 := Nat.mod_le y q
    omega
theorem fold_min : ∀ (l : List Int) (a m : Int), m ≤ a → (∀ x ∈ l, m ≤ x) → (a = m ∨ m ∈ l) → l.foldl (fun a b => if b < a then b else a) a = m
  | [], a, m, h, _, e => by
    rcases e with e | e
    · exact e
    · cases e
  | x :: l, a, m, h, hx, e => by
    rw [List.foldl_cons]
    have h1 := hx x (List.mem_cons_self ..)
    have h2 : ∀ y ∈ l, m ≤ y := fun y hy => hx y (List.mem_cons_of_mem _ hy)
    refine fold_min l _ m (by split <;> omega) h2 ?_
    rcases e with e | e
    · left; rw [if_neg (by omega)]; exact e
    · rcases List.mem_cons.mp e with e | e
      · left
        by_cases c : x < a
        · rw [if_pos c]; exact e.symm
        · rw [if_neg c]; omega
      · exact .inr e
theorem minI_eq {l : List Int} {m : Int} (hm : m ∈ l) (hx : ∀ x ∈ l, m ≤ x) : minI l = some m := by
  cases l with
  | nil => cases hm
  | cons a l =>
    show some (l.foldl (fun a b => if b < a then b else a) a) = some m
    rw [fold_min l a m (hx a (List.mem_cons_self ..)) (fun x h => hx x (List.mem_cons_of_mem _ h)) ((List.mem_cons.mp hm).imp Eq.symm id)]
def lacksL (q m h t s : Nat) : List Nat := (List.range m).filter fun i => !holdsB q m h t i s
def hdD : List Nat → D
  | [] => .non
  | i :: _ => nD i
theorem lacks_mem {q m h t s i : Nat} (hne : h ≠ s) : i ∈ lacksL q m h t s ↔ i < m ∧ t ≤ sinceN q m (h ^^^ s) i := by
  unfold lacksL holdsB
  rw [List.mem_filter, List.mem_range, decide_eq_false hne, Bool.false_or]
  simp
theorem flL_in {q m h t s : Nat} (hq : 0 < q) (hm : 1 ≤ m) (hne : h ≠ s) : ∀ x ∈ flL q m h t s, ∃ i : Nat, x = (i : Int) ∧ i ∈ lacksL q m h t s := fun x hx => by
  unfold flL at hx
  rcases List.mem_append.mp hx with hx | hx
  · obtain ⟨h1, h2⟩ := List.mem_filter.mp hx
    obtain ⟨j, hj, rfl⟩ := List.mem_map.mp h1
    have hj := List.mem_range.mp hj
    have h2 := of_decide_eq_true h2
    obtain ⟨y, e, hb, hy, hmin⟩ := lk_nat (b := (t : Int) - (dly q (h ^^^ s) j : Nat)) hq hj
    rw [e] at h2
    refine ⟨y, e, (lacks_mem hne).mpr ⟨by omega, ?_⟩⟩
    unfold sinceN
    rw [if_pos (by omega), hy]
    omega
  · split at hx
    · cases hx
    · rename_i hc
      have e := List.mem_singleton.mp hx
      refine ⟨m - 1, by omega, (lacks_mem hne).mpr ⟨by omega, ?_⟩⟩
      unfold holdsB at hc
      rw [decide_eq_false hne, Bool.false_or] at hc
      simpa using hc
theorem flL_le {q m h t s i : Nat} (hq : 0 < q) (hm : 1 ≤ m) (hne : h ≠ s) (hi : i ∈ lacksL q m h t s) : ∃ x ∈ flL q m h t s, x ≤ (i : Int) := by
  obtain ⟨h1, h2⟩ := (lacks_mem hne).mp hi
  unfold flL
  by_cases c : i < m - 1
  · have hj := Nat.mod_lt i hq
    obtain ⟨y, e, hb, hy, hmin⟩ := lk_nat (b := (t : Int) - (dly q (h ^^^ s) (i % q) : Nat)) hq hj
    unfold sinceN at h2
    rw [if_pos c] at h2
    have hle := hmin i (by omega) rfl
    refine ⟨_, List.mem_append_left _ (List.mem_filter.mpr ⟨List.mem_map.mpr ⟨i % q, List.mem_range.mpr hj, rfl⟩, decide_eq_true (by rw [e]; omega)⟩), by rw [e]; omega⟩
  · have e : i = m - 1 := by omega
    subst e
    refine ⟨(m : Int) - 1, List.mem_append_right _ ?_, by omega⟩
    have : ¬ holdsB q m h t (m - 1) s = true := by
      unfold holdsB
      rw [decide_eq_false hne, Bool.false_or]
      simp
      omega
    rw [if_neg this]
    exact List.mem_singleton.mpr rfl
theorem flD_eq {q m h t s : Nat} (hq : 0 < q) (hm : 1 ≤ m) : flD q m h t s = hdD (lacksL q m h t s) := by
  unfold flD
  by_cases hne : h = s
  · rw [if_pos hne]
    have : lacksL q m h t s = [] := by
      unfold lacksL holdsB
      rw [decide_eq_true hne]
      simp
    rw [this]
    rfl
  · rw [if_neg hne]
    have hin := flL_in (t := t) hq hm hne
    have hle := fun i => flL_le (t := t) (i := i) hq hm hne
    have pw : (lacksL q m h t s).Pairwise (· < ·) := List.Pairwise.filter _ List.pairwise_lt_range
    generalize lacksL q m h t s = L at *
    cases L with
    | nil =>
      have : flL q m h t s = [] := by
        cases hf : flL q m h t s with
        | nil => rfl
        | cons x l =>
          obtain ⟨i, _, hi⟩ := hin x (by rw [hf]; exact List.mem_cons_self ..)
          cases hi
      rw [this]
      rfl
    | cons i L =>
      have hge : ∀ k ∈ i :: L, i ≤ k := fun k hk => by
        rcases List.mem_cons.mp hk with e | e
        · omega
        · exact Nat.le_of_lt ((List.pairwise_cons.mp pw).1 k e)
      obtain ⟨x, hx, hxi⟩ := hle i (List.mem_cons_self ..)
      obtain ⟨k, e, hk⟩ := hin x hx
      have := hge k hk
      have hm2 : minI (flL q m h t s) = some (i : Int) := minI_eq (by rw [show (i : Int) = x by omega]; exact hx) fun y hy => by
        obtain ⟨k, e, hk⟩ := hin y hy
        have := hge k hk
        omega
      rw [hm2]
      rfl
theorem neLs_nil {ds : List D} {st : Store} (h : D.smL ds = true) (hd : D.depL ds ≤ 60) : cop .ne (.lst ds) (.lst []) st = some (!ds.isEmpty) := by
  have h' : (D.lst ds).sm = true := by simpa only [D.sm] using h
  have hd' : (D.lst ds).dep ≤ 64 := by simp only [D.dep]; omega
  obtain ⟨x, e, -⟩ := D.sm_py (.lst ds) h'
  have e2 : (D.lst []).py = some (.list []) := rfl
  show (match ((D.lst ds).see st).py, ((D.lst []).see st).py with
      | some x, some y => if SeqAt.shaped x = true ∧ SeqAt.shaped y = true then some (!PyData.eqv x y) else none
      | _, _ => none) = some (!ds.isEmpty)
  have e' : ((D.lst ds).see st).py = some x := e
  have e2' : ((D.lst []).see st).py = some (.list []) := e2
  rw [e', e2']
  simp only
  rw [if_pos ⟨shp_sm h' hd' e, by decide⟩]
  congr 2
  unfold D.py at e
  cases ds with
  | nil => cases e; rfl
  | cons d ds =>
    split at e
    · rename_i xs hx
      cases e
      unfold D.pyL at hx
      split at hx
      · split at hx
        · cases hx; rfl
        · cases hx
      · cases hx
    · cases e

/-! ### tellers and hearers by all trees -/
theorem tel_lz {q h s j : Nat} (hj : j < q) (hh : h < 2 ^ q) (hs : s < 2 ^ q) : tel s (crs q (h ^^^ s) j) = h ^^^ 2 ^ lz q (h ^^^ s) j := by
  have e := lastx_crs hj hh hs
  have hne := crs_ne q (h ^^^ s) j
  have hsp : crs q (h ^^^ s) j = (crs q (h ^^^ s) j).dropLast ++ [lz q (h ^^^ s) j] := (List.dropLast_concat_getLast hne).symm
  unfold tel
  generalize lz q (h ^^^ s) j = z at *
  generalize (crs q (h ^^^ s) j).dropLast = ks at *
  rw [hsp] at e
  unfold lastx at e ⊢
  rw [List.foldl_append] at e
  have e : (List.foldl (fun x k => x ^^^ 2 ^ k) s ks) ^^^ 2 ^ z = h := e
  rw [← e, xcancel]
theorem xor_pow_inj {h a b : Nat} (e : h ^^^ 2 ^ a = h ^^^ 2 ^ b) : a = b := by
  have h1 : 2 ^ a = 2 ^ b := by
    have := congrArg (h ^^^ ·) e
    simpa [← Nat.xor_assoc] using this
  exact (Nat.pow_right_inj (by decide)).mp h1
theorem accL_nd (q h : Nat) : (accL q h).Nodup := by
  unfold accL List.Nodup
  rw [List.pairwise_map]
  exact (List.nodup_range (n := q)).imp fun hab e => hab (xor_pow_inj e)
theorem tellers_near {q h s : Nat} (hh : h < 2 ^ q) (hs : s < 2 ^ q) : srtN ((List.range q).map fun j => tel s (crs q (h ^^^ s) j)) = srtN (accL q h) := by
  have e : (List.range q).map (fun j => tel s (crs q (h ^^^ s) j)) = (List.range q).map fun j => h ^^^ 2 ^ lz q (h ^^^ s) j := List.map_congr_left fun j hj => tel_lz (List.mem_range.mp hj) hh hs
  rw [e]
  have hp : ((List.range q).map fun j => h ^^^ 2 ^ lz q (h ^^^ s) j).Perm (accL q h) := by
    refine (List.perm_ext_iff_of_nodup ?_ (accL_nd q h)).mpr fun x => ?_
    · unfold List.Nodup
      rw [List.pairwise_map]
      refine List.Pairwise.imp_of_mem (fun {a b} ha hb hab e2 => ?_) (List.nodup_range (n := q))
      have ha := List.mem_range.mp ha
      have hb := List.mem_range.mp hb
      have h1 := xor_pow_inj e2
      have h2 := (lz_tree (w := h ^^^ s) ha (lz_lt ha)).mp rfl
      have h3 := (lz_tree (w := h ^^^ s) hb (lz_lt (w := h ^^^ s) ha)).mp h1.symm
      exact hab (by rw [h2, ← h3])
    · unfold accL
      rw [List.mem_map, List.mem_map]
      constructor
      · rintro ⟨j, hj, rfl⟩
        exact ⟨lz q (h ^^^ s) j, List.mem_range.mpr (lz_lt (List.mem_range.mp hj)), rfl⟩
      · rintro ⟨k, hk, rfl⟩
        have hk := List.mem_range.mp hk
        have ht := treeN_lt (w := h ^^^ s) hk
        exact ⟨treeN q (h ^^^ s) k, List.mem_range.mpr ht, by rw [(lz_tree ht hk).mpr rfl]⟩
  exact (srtN_eq ((srtN_perm _).trans hp) (srtN_pw _))
theorem hear_mem {q h j s x : Nat} (hj : j < q) (hh : h < 2 ^ q) (hs : s < 2 ^ q) : x ∈ hear q h j s ↔ ∃ k, k < q ∧ x = h ^^^ 2 ^ k ∧ j = treeN q (x ^^^ s) k := by
  unfold hear
  rw [List.mem_filter, srtN_mem, decide_eq_true_eq]
  unfold accL
  rw [List.mem_map]
  constructor
  · rintro ⟨⟨k, hk, rfl⟩, e⟩
    have hk := List.mem_range.mp hk
    have hx : h ^^^ 2 ^ k < 2 ^ q := Nat.xor_lt_two_pow hh (Nat.pow_lt_pow_right (by decide) hk)
    rw [tel_lz hj hx hs] at e
    have h2 : lz q ((h ^^^ 2 ^ k) ^^^ s) j = k := by
      refine xor_pow_inj (h := h ^^^ 2 ^ k) ?_
      rw [e, xcancel]
    exact ⟨k, hk, rfl, (lz_tree hj hk).mp h2⟩
  · rintro ⟨k, hk, rfl, e⟩
    have hx : h ^^^ 2 ^ k < 2 ^ q := Nat.xor_lt_two_pow hh (Nat.pow_lt_pow_right (by decide) hk)
    refine ⟨⟨k, List.mem_range.mpr hk, rfl⟩, ?_⟩
    rw [tel_lz hj hx hs, (lz_tree hj hk).mpr e, xcancel]
theorem srtN_nd {l : List Nat} (h : l.Nodup) : (srtN l).Nodup := (srtN_perm l).nodup_iff.mpr h
theorem hear_nd (q h j s : Nat) : (hear q h j s).Nodup := List.Pairwise.filter _ (srtN_nd (accL_nd q h))
def everyL (q h s : Nat) (T : List Nat) : List Nat := (T.map fun j => hear q h j s).flatten
theorem every_snoc (q h s : Nat) (T : List Nat) (j : Nat) : everyL q h s (T ++ [j]) = everyL q h s T ++ hear q h j s := by
  unfold everyL
  rw [List.map_append, List.flatten_append]
  simp
theorem every_nd {q h s : Nat} (hh : h < 2 ^ q) (hs : s < 2 ^ q) : ∀ T : List Nat, T.Nodup → (∀ j ∈ T, j < q) → (everyL q h s T).Nodup
  | [], _, _ => by unfold everyL; simp
  | j :: T, nd, hT => by
    have ih := every_nd hh hs T (List.nodup_cons.mp nd).2 fun k hk => hT k (List.mem_cons_of_mem _ hk)
    have e : everyL q h s (j :: T) = hear q h j s ++ everyL q h s T := by unfold everyL; simp
    rw [e, List.nodup_append]
    refine ⟨hear_nd .., ih, fun a ha b hb hab => ?_⟩
    subst hab
    have hj := hT j (List.mem_cons_self ..)
    obtain ⟨k, hk, e1, e2⟩ := (hear_mem hj hh hs).mp ha
    unfold everyL at hb
    obtain ⟨l, hl, hal⟩ := List.mem_flatten.mp hb
    obtain ⟨j', hj', rfl⟩ := List.mem_map.mp hl
    obtain ⟨k', hk', e1', e2'⟩ := (hear_mem (hT j' (List.mem_cons_of_mem _ hj')) hh hs).mp hal
    have hkk : k = k' := xor_pow_inj (h := h) (by rw [← e1, e1'])
    subst hkk
    exact (List.nodup_cons.mp nd).1 (by rw [e2, ← e2']; exact hj')
theorem every_near {q h s x : Nat} {T : List Nat} (hx : x ∈ everyL q h s T) : x ∈ srtN (accL q h) := by
  unfold everyL at hx
  obtain ⟨l, hl, hal⟩ := List.mem_flatten.mp hx
  obtain ⟨j, _, rfl⟩ := List.mem_map.mp hl
  exact (List.mem_filter.mp hal).1
theorem every_all {q h s : Nat} (hh : h < 2 ^ q) (hs : s < 2 ^ q) : srtN (everyL q h s (List.range q)) = srtN (accL q h) := by
  have hp : (everyL q h s (List.range q)).Perm (accL q h) := by
    refine (List.perm_ext_iff_of_nodup (every_nd hh hs _ List.nodup_range fun j hj => List.mem_range.mp hj) (accL_nd q h)).mpr fun x => ?_
    constructor
    · intro hx; exact srtN_mem.mp (every_near hx)
    · intro hx
      unfold accL at hx
      obtain ⟨k, hk, e⟩ := List.mem_map.mp hx
      have hk := List.mem_range.mp hk
      have ht := treeN_lt (w := x ^^^ s) hk
      unfold everyL
      exact List.mem_flatten.mpr ⟨_, List.mem_map.mpr ⟨treeN q (x ^^^ s) k, List.mem_range.mpr ht, rfl⟩, (hear_mem ht hh hs).mpr ⟨k, hk, e.symm, rfl⟩⟩
  exact (srtN_eq ((srtN_perm _).trans hp) (srtN_pw _))
theorem every_len (q h s : Nat) (hq : q ≤ 60) : ∀ T : List Nat, (everyL q h s T).length ≤ 60 * T.length
  | [] => by unfold everyL; simp
  | j :: T => by
    have ih := every_len q h s hq T
    have e : everyL q h s (j :: T) = hear q h j s ++ everyL q h s T := by unfold everyL; simp
    have := hear_len q h j s
    rw [e, List.length_append, List.length_cons]
    omega

theorem cut_btw (l : List Nat) : cutD (l.map nD) (some 1) (some (-1)) = (btw l).map nD := by
  unfold cutD btw
  have e1 : clip (l.map nD).length 0 (some 1) = min 1 l.length := by rw [clip_int (by decide), List.length_map]; rfl
  have e2 : clip (l.map nD).length (l.map nD).length (some (-1)) = l.length - 1 := by
    unfold clip
    rw [List.length_map]
    simp only
    rw [if_pos (by decide)]
    omega
  rw [e1, e2, ← List.map_drop, ← List.map_take]
  congr 1
  cases l with
  | nil => rfl
  | cons x l =>
    have e : min 1 (x :: l).length = 1 := by simp
    rw [e]
    rfl
theorem btw_mem {l : List Nat} {x : Nat} (h : x ∈ btw l) : x ∈ l := List.mem_of_mem_drop (List.mem_of_mem_take h)
theorem btw_len (l : List Nat) : (btw l).length ≤ l.length := by
  unfold btw
  rw [List.length_take, List.length_drop]
  omega
theorem bls_map (bs : List Bool) : bls (bs.map D.bl) = some bs := by
  induction bs with
  | nil => rfl
  | cons b bs ih => simp only [List.map_cons, bls, ih]
def sp (lot l : List Nat) : Bool := (btw l).any fun x => decide (x ∈ lot)
/-- is it in the lot? of each -/
def inLot (lot : List Nat) : D → Option D
  | .int i => some (.bl (decide (i ∈ lot.map fun n : Nat => (n : Int))))
  | _ => none
theorem inLot_all (lot : List Nat) : ∀ l : List Nat, (l.map nD).filterMap (inLot lot) = (l.map fun x => decide (x ∈ lot)).map D.bl
  | [] => rfl
  | x :: l => by
    have ih := inLot_all lot l
    have e : inLot lot (nD x) = some (.bl (decide (x ∈ lot))) := by
      show some (D.bl (decide ((x : Int) ∈ lot.map fun n : Nat => (n : Int)))) = _
      congr 2
      rw [decide_eq_decide]
      exact mem_cast
    simp only [List.map_cons, List.filterMap_cons, e, ih]
theorem any_lot (lot l : List Nat) : ((btw l).map fun x => decide (x ∈ lot)).any id = sp lot l := by
  unfold sp
  rw [List.any_map]
  rfl
/-- those not gone -/
def cm (q : Nat) (gone : List Nat) : List Nat := (List.range q).filter fun t => !decide (t ∈ gone)
def notIn (gone : List Nat) : D → Option D
  | .int i => if i ∈ (gone.map fun n : Nat => (n : Int)) then none else some (.int i)
  | _ => none
theorem notIn_all (gone : List Nat) : ∀ l : List Nat, (l.map fun (i : Nat) => D.int (0 + (i : Int))).filterMap (notIn gone) = (l.filter fun t => !decide (t ∈ gone)).map nD
  | [] => rfl
  | x :: l => by
    have ih := notIn_all gone l
    by_cases h : x ∈ gone
    · have e : notIn gone (.int (0 + (x : Int))) = none := by
        show (if (0 + (x : Int)) ∈ (gone.map fun n : Nat => (n : Int)) then none else some (D.int (0 + (x : Int)))) = none
        rw [Int.zero_add, if_pos (mem_cast.mpr h)]
      rw [List.map_cons, List.filterMap_cons, e, List.filter_cons, if_neg (by simp [h])]
      exact ih
    · have e : notIn gone (.int (0 + (x : Int))) = some (nD x) := by
        show (if (0 + (x : Int)) ∈ (gone.map fun n : Nat => (n : Int)) then none else some (D.int (0 + (x : Int)))) = _
        rw [Int.zero_add, if_neg (fun z => h (mem_cast.mp z))]
      rw [List.map_cons, List.filterMap_cons, e, List.filter_cons, if_pos (by simp [h]), List.map_cons]
      exact congrArg _ ih
def spl (q h : Nat) (lot : List Nat) (s : Nat) : List Nat := (List.range q).filter fun j => sp lot (wayL s (crs q (h ^^^ s) j))
theorem spl_lt {q h : Nat} {lot : List Nat} {s : Nat} : ∀ x ∈ spl q h lot s, x < q := fun x hx => List.mem_range.mp (List.mem_filter.mp hx).1
theorem spl_len (q h : Nat) (lot : List Nat) (s : Nat) : (spl q h lot s).length ≤ q := by
  unfold spl
  exact Nat.le_trans (List.length_filter_le _ _) (by rw [List.length_range]; exact Nat.le_refl _)
theorem filt_succ (i : Nat) (P : Nat → Bool) : (List.range (i + 1)).filter P = (List.range i).filter P ++ if P i = true then [i] else [] := by
  rw [List.range_succ, List.filter_append]
  congr 1
  rw [List.filter_cons, List.filter_nil]
theorem filt_len (i : Nat) (P : Nat → Bool) : ((List.range i).filter P).length ≤ i :=
  Nat.le_trans (List.length_filter_le _ _) (by rw [List.length_range]; exact Nat.le_refl _)
/-! ### ways apart -/
theorem btw_bits {q h s j x : Nat} (hj : j < q) (hh : h < 2 ^ q) (hs : s < 2 ^ q) (hx : x ∈ btw (wayL s (crs q (h ^^^ s) j))) :
    (x ^^^ s).testBit j = true ∧ (∀ b, (x ^^^ s).testBit b = true → b ≠ j → (h ^^^ s).testBit b = true) ∧
    ((h ^^^ s).testBit j = true → (∃ c, (h ^^^ s).testBit c = true ∧ (x ^^^ s).testBit c = false) ∧ ∀ c, (h ^^^ s).testBit c = true → (x ^^^ s).testBit c = false → ∀ b, (x ^^^ s).testBit b = true → aN q j b < aN q j c) := by
  have hw := Nat.xor_lt_two_pow hh hs
  obtain ⟨i, hi1, hi2, hi3⟩ := btw_at hx
  rw [wayL_len] at hi2
  rw [wayL_get _ _ _ (by omega)] at hi3
  have hxe : lastx s ((crs q (h ^^^ s) j).take i) = x := Option.some.inj hi3
  subst hxe
  obtain ⟨i, rfl⟩ : ∃ i', i = i' + 1 := ⟨i - 1, by omega⟩
  have hnd := nej_nd (w := h ^^^ s) hj
  have hil : i ≤ (nej q (h ^^^ s) j).length ∧ ((h ^^^ s).testBit j = true → i < (nej q (h ^^^ s) j).length) := by
    unfold crs at hi2
    rw [List.length_cons, List.length_append] at hi2
    by_cases hb : (h ^^^ s).testBit j = true
    · rw [if_pos hb, List.length_nil] at hi2
      exact ⟨by omega, fun _ => by omega⟩
    · rw [if_neg hb, List.length_singleton] at hi2
      exact ⟨by omega, fun z => absurd z hb⟩
  have htk : (crs q (h ^^^ s) j).take (i + 1) = j :: (nej q (h ^^^ s) j).take i := by
    unfold crs
    rw [List.take_succ_cons, List.take_append_of_le_length hil.1]
  have hnd2 : (j :: (nej q (h ^^^ s) j).take i).Nodup := by
    refine List.nodup_cons.mpr ⟨fun z => nej_ne (List.mem_of_mem_take z) rfl, ?_⟩
    exact List.Pairwise.sublist (List.take_sublist _ _) hnd
  have hbit : ∀ b, (lastx s ((crs q (h ^^^ s) j).take (i + 1)) ^^^ s).testBit b = decide (b = j ∨ b ∈ (nej q (h ^^^ s) j).take i) := fun b => by
    rw [lxs_bit, htk, count_nd hnd2]
    by_cases c : b ∈ j :: (nej q (h ^^^ s) j).take i
    · rw [if_pos c]
      rw [decide_eq_true (List.mem_cons.mp c)]
      rfl
    · rw [if_neg c, decide_eq_false fun z => c (List.mem_cons.mpr z)]
      rfl
  refine ⟨by rw [hbit]; exact decide_eq_true (.inl rfl), fun b hb hbj => ?_, fun hwj => ?_⟩
  · rw [hbit] at hb
    rcases of_decide_eq_true hb with e | e
    · exact absurd e hbj
    · exact nej_bit (List.mem_of_mem_take e)
  · have hlt := hil.2 hwj
    have hsp : nej q (h ^^^ s) j = (nej q (h ^^^ s) j).take i ++ (nej q (h ^^^ s) j).drop i := (List.take_append_drop ..).symm
    have hrj := ring_j hj hwj
    have hpw := ring_pw (h := h ^^^ s) hj
    rw [hrj] at hpw
    have hpw2 := (List.pairwise_cons.mp hpw)
    refine ⟨⟨(nej q (h ^^^ s) j)[i], nej_bit (List.getElem_mem hlt), ?_⟩, fun c hc hcx b hb => ?_⟩
    · rw [hbit]
      refine decide_eq_false fun z => ?_
      rcases z with z | z
      · exact nej_ne (List.getElem_mem hlt) z
      · rw [hsp] at hnd
        exact (List.nodup_append.mp hnd).2.2 _ z _ (by rw [List.drop_eq_getElem_cons hlt]; exact List.mem_cons_self ..) rfl
    · rw [hbit] at hb hcx
      have hcx := of_decide_eq_false hcx
      have hcq := bit_lt hw hc
      have hcj : c ≠ j := fun e => hcx (.inl e)
      have hcn : c ∈ nej q (h ^^^ s) j := (nej_mem hj).mpr ⟨hcq, hc, hcj⟩
      have hcd : c ∈ (nej q (h ^^^ s) j).drop i := by
        rw [hsp] at hcn
        rcases List.mem_append.mp hcn with z | z
        · exact absurd (.inr z) hcx
        · exact z
      have hkey : akey q j b < akey q j c := by
        rcases of_decide_eq_true hb with e | e
        · rw [e]
          exact hpw2.1 _ hcn
        · have h3 := hpw2.2
          rw [hsp] at h3
          exact (List.pairwise_append.mp h3).2.2 b e c hcd
      have hbq : b < q := by
        rcases of_decide_eq_true hb with e | e
        · rw [e]; exact hj
        · exact bit_lt hw (nej_bit (List.mem_of_mem_take e))
      rw [akey_aN hj hbq, akey_aN hj hcq] at hkey
      omega
theorem aN_cyc {q j k c : Nat} (hj : j < q) (hk : k < q) (hc : c < q) (h1 : aN q j k < aN q j c) (h2 : aN q k j < aN q k c) : j = k := by
  rw [aN_eq hj hk, aN_eq hj hc] at h1
  rw [aN_eq hk hj, aN_eq hk hc] at h2
  by_cases a : j ≤ k <;> by_cases b : j ≤ c <;> by_cases d : k ≤ c <;> by_cases e : k ≤ j <;> simp only [a, b, d, e, if_true, if_false] at h1 h2 <;> omega
/-- a hand lies between on one way at the most -/
theorem btw_one {q h s j k x : Nat} (hj : j < q) (hk : k < q) (hh : h < 2 ^ q) (hs : s < 2 ^ q) (hx : x ∈ btw (wayL s (crs q (h ^^^ s) j))) (hy : x ∈ btw (wayL s (crs q (h ^^^ s) k))) : j = k := by
  obtain ⟨a1, a2, a3⟩ := btw_bits hj hh hs hx
  obtain ⟨b1, b2, b3⟩ := btw_bits hk hh hs hy
  apply Classical.byContradiction
  intro hne
  have hjw := b2 j a1 hne
  have hkw := a2 k b1 fun e => hne e.symm
  obtain ⟨⟨c, hcw, hcx⟩, hA⟩ := a3 hjw
  obtain ⟨_, hB⟩ := b3 hkw
  exact hne (aN_cyc hj hk (bit_lt (Nat.xor_lt_two_pow hh hs) hcw) (hA c hcw hcx k b1) (hB c hcw hcx j a1))
theorem spl_one_le {q h s x : Nat} (hh : h < 2 ^ q) (hs : s < 2 ^ q) : (spl q h [x] s).length ≤ 1 := by
  have hone : ∀ j ∈ spl q h [x] s, ∀ k ∈ spl q h [x] s, j = k := fun j hj k hk => by
    unfold spl at hj hk
    obtain ⟨j1, j2⟩ := List.mem_filter.mp hj
    obtain ⟨k1, k2⟩ := List.mem_filter.mp hk
    unfold sp at j2 k2
    rw [List.any_eq_true] at j2 k2
    obtain ⟨y, hy, e⟩ := j2
    obtain ⟨z, hz, e2⟩ := k2
    have e := List.mem_singleton.mp (of_decide_eq_true e)
    have e2 := List.mem_singleton.mp (of_decide_eq_true e2)
    subst e e2
    exact btw_one (List.mem_range.mp j1) (List.mem_range.mp k1) hh hs hy hz
  have nd : (spl q h [x] s).Nodup := List.Pairwise.filter _ List.nodup_range
  generalize spl q h [x] s = L at *
  match L with
  | [] => simp
  | [a] => simp
  | a :: b :: L => exact absurd (hone a (by simp) b (by simp)) (fun e => by rw [e] at nd; simp at nd)
theorem spl_end {q h s x : Nat} (he : x = h ∨ x = s) : spl q h [x] s = [] := by
  unfold spl
  rw [List.filter_eq_nil_iff]
  intro j hj hc
  unfold sp at hc
  rw [List.any_eq_true] at hc
  obtain ⟨y, hy, e⟩ := hc
  have e := List.mem_singleton.mp (of_decide_eq_true e)
  subst e
  have := ends_out (List.mem_range.mp hj) hy
  rcases he with e | e
  · exact this.2 e
  · exact this.1 e
theorem mem_spl {q h s j : Nat} {lot : List Nat} : j ∈ spl q h lot s ↔ j < q ∧ ∃ x ∈ lot, x ∈ btw (wayL s (crs q (h ^^^ s) j)) := by
  unfold spl sp
  rw [List.mem_filter, List.mem_range, List.any_eq_true]
  constructor
  · rintro ⟨a, y, hy, e⟩
    exact ⟨a, y, of_decide_eq_true e, hy⟩
  · rintro ⟨a, y, hy, e⟩
    exact ⟨a, y, e, decide_eq_true hy⟩
theorem spl_near {q h s k : Nat} (hk : k < q) (hh : h < 2 ^ q) (hs : s < 2 ^ q) (hne : h ^^^ 2 ^ k ≠ s) : (spl q h [h ^^^ 2 ^ k] s).length = 1 := by
  have h1 := spl_one_le (x := h ^^^ 2 ^ k) hh hs
  have hj := treeN_lt (w := h ^^^ s) hk
  have hin : treeN q (h ^^^ s) k ∈ spl q h [h ^^^ 2 ^ k] s := by
    rw [mem_spl]
    refine ⟨hj, _, List.mem_singleton.mpr rfl, ?_⟩
    have ht : tel s (crs q (h ^^^ s) (treeN q (h ^^^ s) k)) = h ^^^ 2 ^ k := by rw [tel_lz hj hh hs, (lz_tree hj hk).mpr rfl]
    have hcl := crs_pos q (h ^^^ s) (treeN q (h ^^^ s) k)
    generalize crs q (h ^^^ s) (treeN q (h ^^^ s) k) = ks at *
    have hl := wayL_len s ks
    have hg := wayL_get ks s (ks.length - 1) (by omega)
    rw [← tel_take, ht] at hg
    have hk1 : ks.length - 1 ≠ 0 := fun e => by
      rw [e] at hg
      have h0 := wayL_get ks s 0 (by omega)
      rw [h0] at hg
      have := Option.some.inj hg
      rw [List.take_zero] at this
      exact hne this.symm
    unfold btw
    rw [List.mem_iff_getElem?]
    refine ⟨ks.length - 2, ?_⟩
    rw [List.getElem?_take, if_pos (by omega), List.getElem?_drop]
    rw [show 1 + (ks.length - 2) = ks.length - 1 by omega]
    exact hg
  have := List.length_pos_of_mem hin
  omega
theorem filter_or_len {α : Type} (l : List α) (p r : α → Bool) : (l.filter fun x => p x || r x).length ≤ (l.filter p).length + (l.filter r).length := by
  induction l with
  | nil => simp
  | cons a l ih =>
    simp only [List.filter_cons]
    cases hp : p a <;> cases hr : r a <;> simp <;> omega
theorem spl_count {q h s : Nat} (hh : h < 2 ^ q) (hs : s < 2 ^ q) : ∀ lot : List Nat, (spl q h lot s).length ≤ (lot.filter fun x => !decide (x = h ∨ x = s)).length
  | [] => by
    have : spl q h [] s = [] := by
      unfold spl
      rw [List.filter_eq_nil_iff]
      intro j _ hc
      unfold sp at hc
      rw [List.any_eq_true] at hc
      obtain ⟨y, _, e⟩ := hc
      exact absurd (of_decide_eq_true e) List.not_mem_nil
    rw [this]
    simp
  | x :: lot => by
    have ih := spl_count hh hs lot
    have h1 : (spl q h [x] s).length ≤ if x = h ∨ x = s then 0 else 1 := by
      split
      · rename_i he
        rw [spl_end he]
        simp
      · exact spl_one_le hh hs
    have e : spl q h (x :: lot) s = (List.range q).filter fun j => sp [x] (wayL s (crs q (h ^^^ s) j)) || sp lot (wayL s (crs q (h ^^^ s) j)) := by
      unfold spl
      refine List.filter_congr fun j _ => ?_
      unfold sp
      rw [Bool.eq_iff_iff, Bool.or_eq_true, List.any_eq_true, List.any_eq_true, List.any_eq_true]
      constructor
      · rintro ⟨y, hy, e⟩
        rcases List.mem_cons.mp (of_decide_eq_true e) with z | z
        · exact .inl ⟨y, hy, decide_eq_true (List.mem_singleton.mpr z)⟩
        · exact .inr ⟨y, hy, decide_eq_true z⟩
      · rintro (⟨y, hy, e⟩ | ⟨y, hy, e⟩)
        · exact ⟨y, hy, decide_eq_true (List.mem_cons.mpr (.inl (List.mem_singleton.mp (of_decide_eq_true e))))⟩
        · exact ⟨y, hy, decide_eq_true (List.mem_cons_of_mem _ (of_decide_eq_true e))⟩
    have h2 := filter_or_len (List.range q) (fun j => sp [x] (wayL s (crs q (h ^^^ s) j))) (fun j => sp lot (wayL s (crs q (h ^^^ s) j)))
    rw [e, List.filter_cons]
    have h3 : (spl q h [x] s).length = ((List.range q).filter fun j => sp [x] (wayL s (crs q (h ^^^ s) j))).length := rfl
    have h4 : (spl q h lot s).length = ((List.range q).filter fun j => sp lot (wayL s (crs q (h ^^^ s) j))).length := rfl
    by_cases he : x = h ∨ x = s
    · rw [if_pos he] at h1
      have hd : (!decide (x = h ∨ x = s)) = false := by rw [decide_eq_true he]; rfl
      rw [if_neg (by rw [hd]; exact Bool.false_ne_true)]
      omega
    · rw [if_neg he] at h1
      have hd : (!decide (x = h ∨ x = s)) = true := by rw [decide_eq_false he]; rfl
      rw [if_pos hd, List.length_cons]
      omega
def splE (q h s : Nat) (lot : List Nat) : List Nat := (lot.map fun x => spl q h [x] s).flatten
theorem splE_snoc (q h s : Nat) (lot : List Nat) (x : Nat) : splE q h s (lot ++ [x]) = splE q h s lot ++ spl q h [x] s := by
  unfold splE
  rw [List.map_append, List.flatten_append]
  simp
theorem splE_us {q h s : Nat} (lot : List Nat) : usN (splE q h s lot) = spl q h lot s := by
  refine usN_is (List.Pairwise.filter _ List.pairwise_lt_range) fun j => ?_
  rw [mem_spl]
  unfold splE
  rw [List.mem_flatten]
  constructor
  · rintro ⟨hj, x, hx, hb⟩
    exact ⟨_, List.mem_map.mpr ⟨x, hx, rfl⟩, mem_spl.mpr ⟨hj, x, List.mem_singleton.mpr rfl, hb⟩⟩
  · rintro ⟨l, hl, hjl⟩
    obtain ⟨x, hx, rfl⟩ := List.mem_map.mp hl
    obtain ⟨hj, y, hy, hb⟩ := mem_spl.mp hjl
    rw [List.mem_singleton.mp hy] at hb
    exact ⟨hj, x, hx, hb⟩
theorem splE_len {q h s : Nat} (hh : h < 2 ^ q) (hs : s < 2 ^ q) : ∀ lot : List Nat, (splE q h s lot).length ≤ lot.length
  | [] => by unfold splE; simp
  | x :: lot => by
    have ih := splE_len hh hs lot
    have h1 := spl_one_le (x := x) hh hs
    have e : splE q h s (x :: lot) = spl q h [x] s ++ splE q h s lot := by unfold splE; simp
    rw [e, List.length_append, List.length_cons]
    omega

end B
namespace B
open PySem PySem.Spec PyProof.Rows L2
abbrev i_bits : Nat := 0
abbrev i_arc : Nat := 1
abbrev i_round_bits : Nat := 2
abbrev i_has_bit : Nat := 3
abbrev i_across : Nat := 4
abbrev i_crossed : Nat := 5
abbrev i_way : Nat := 6
abbrev i_delay : Nat := 7
abbrev i_teller : Nat := 8
abbrev i_hearers : Nat := 9
abbrev i__law_pot : Nat := 10
abbrev i__law_take : Nat := 11
abbrev i__law_gone : Nat := 12
abbrev i__law_right : Nat := 13
abbrev i_law : Nat := 14
def fd_bits : FD := ⟨1, 3, false,
    (.cons (.par [1, 2] (.cons (.lst true .nil) (.cons (.cI 0) .nil)))
    (.cons (.whl (.cmp .gt (.bin .shr (.nm 0) (.nm 2)) (.cI 0)) (.cons (.ife (.cmp .eq (.bin .mod (.bin .shr (.nm 0) (.nm 2)) (.cI 2)) (.cI 1)) (.cons (.expr (.app (.nm 1) (.nm 2)))
        .nil) .nil)
      (.cons (.aug 2 .add (.cI 1))
      .nil)))
    (.cons (.ret (.blt .tuple (.cons (.nm 1) .nil)))
    .nil)))⟩
def fd_arc : FD := ⟨3, 3, true,
    (.cons (.ret (.bin .mod (.bin .sub (.nm 2) (.nm 1)) (.nm 0)))
    .nil)⟩
def fd_round_bits : FD := ⟨3, 3, true,
    (.cons (.ret (.blt .tuple (.cons (.srtk (.call i_bits 1 0 [.arg 0] (.cons (.nm 1) .nil) .nil) i_arc 0 2) .nil)))
    .nil)⟩
def fd_has_bit : FD := ⟨2, 2, true,
    (.cons (.ret (.cmp .eq (.bin .mod (.bin .shr (.nm 0) (.nm 1)) (.cI 2)) (.cI 1)))
    .nil)⟩
def fd_across : FD := ⟨2, 3, true,
    (.cons (.ret (.blt .tuple (.cons (.blt (.sorted false) (.cons (.lc false (.bin .bxor (.nm 1) (.bin .shl (.cI 1) (.nm 2))) (.nm 2) (.rng1 (.nm 0)) .yes [("k", 2)]) .nil)) .nil)))
    .nil)⟩
def fd_crossed : FD := ⟨4, 7, true,
    (.cons (.set 4 (.bin .bxor (.nm 1) (.nm 3)))
    (.cons (.set 5 (.lc false (.nm 6) (.nm 6) (.seq (.call i_round_bits 3 0 [.arg 0, .arg 1, .arg 2] (.cons (.nm 0) (.cons (.nm 4) (.cons (.nm 2) .nil))) .nil)) (.cmp .ne (.nm 6) (.nm 2)) [("k", 6)]))
    (.cons (.ret (.blt .tuple (.cons (.bin .add (.bin .add (.lst false (.cons (.nm 2) .nil)) (.nm 5)) (.repL false (.cons (.nm 2) .nil) (.blt .int (.cons (.not (.call i_has_bit 2 0 [.arg 0, .arg 1] (.cons (.nm 4) (.cons (.nm 2) .nil)) .nil)) .nil)))) .nil)))
    .nil)))⟩
def fd_way : FD := ⟨4, 6, false,
    (.cons (.set 4 (.lst true (.cons (.nm 3) .nil)))
    (.cons (.for_ (.nm 5) (.seq (.call i_crossed 3 1 [.arg 0, .arg 1, .arg 2, .arg 3] (.cons (.nm 0) (.cons (.nm 1) (.cons (.nm 2) .nil))) (.cons (.nm 3) .nil))) (.cons (.expr (.app (.nm 4) (.bin .bxor (.idx (.nm 4) (.neg (.cI 1))) (.bin .shl (.cI 1) (.nm 5)))))
      .nil))
    (.cons (.ret (.blt .tuple (.cons (.nm 4) .nil)))
    .nil)))⟩
def fd_delay : FD := ⟨4, 4, true,
    (.cons (.ife (.not (.tr (.call i_has_bit 2 0 [.arg 0, .arg 1] (.cons (.bin .bxor (.nm 1) (.nm 3)) (.cons (.nm 2) .nil)) .nil))) (.cons (.ret (.nm 0))
      .nil) .nil)
    (.cons (.ret (.call i_arc 3 0 [.arg 0, .arg 1, .arg 2] (.cons (.nm 0) (.cons (.nm 2) (.cons (.idx (.call i_crossed 3 1 [.arg 0, .arg 1, .arg 2, .arg 3] (.cons (.nm 0) (.cons (.nm 1) (.cons (.nm 2) .nil))) (.cons (.nm 3) .nil)) (.neg (.cI 1))) .nil))) .nil))
    .nil))⟩
def fd_teller : FD := ⟨4, 4, true,
    (.cons (.ret (.idx (.call i_way 3 1 [.arg 0, .arg 1, .arg 2, .arg 3] (.cons (.nm 0) (.cons (.nm 1) (.cons (.nm 2) .nil))) (.cons (.nm 3) .nil)) (.neg (.cI 2))))
    .nil)⟩
def fd_hearers : FD := ⟨4, 5, true,
    (.cons (.ret (.blt .tuple (.cons (.lc false (.nm 4) (.nm 4) (.seq (.call i_across 2 0 [.arg 0, .arg 1] (.cons (.nm 0) (.cons (.nm 1) .nil)) .nil)) (.cmp .eq (.call i_teller 3 1 [.arg 0, .arg 1, .arg 2, .arg 3] (.cons (.nm 0) (.cons (.nm 4) (.cons (.nm 2) .nil))) (.cons (.nm 3) .nil)) (.nm 1)) [("one", 4)]) .nil)))
    .nil)⟩
def fd__law_pot : FD := ⟨2, 4, true,
    (.cons (.set 2 (.ife (.cmp .lt (.nm 1) (.blt .len (.cons (.nm 0) .nil))) (.idx (.nm 0) (.nm 1)) (.cI 0)))
    (.cons (.set 3 (.ife (.cmp .ge (.blt .abs (.cons (.nm 2) .nil)) (.bin .pow (.cI 10) (.cI 18))) (.blt .abs (.cons (.nm 2) .nil)) (.cI 0)))
    (.cons (.ret (.lst true (.cons (.nm 3) (.cons (.bin .mod (.bin .mul (.bin .add (.bin .add (.bin .mod (.nm 2) (.cI 2305843009213693951)) (.bin .mul (.bin .mul (.cI 104729) (.nm 1)) (.nm 1))) (.cI 11)) (.cI 48271)) (.cI 2305843009213693921)) (.cons (.cI 0) .nil)))))
    .nil)))⟩
def fd__law_take : FD := ⟨2, 6, true,
    (.cons (.ife (.cmp .gt (.idx (.nm 0) (.cI 0)) (.cI 0)) (.cons (.set 5 (.bin .mod (.idx (.nm 0) (.cI 0)) (.nm 1)))
      (.cons (.setI (.nm 0) (.cI 0) (.bin .fdiv (.idx (.nm 0) (.cI 0)) (.nm 1)))
      (.cons (.ret (.nm 5))
      .nil))) .nil)
    (.cons (.set 2 (.bin .add (.idx (.nm 0) (.cI 2)) (.cI 1)))
    (.cons (.setI (.nm 0) (.cI 2) (.nm 2))
    (.cons (.set 3 (.idx (.lst false (.cons (.cI 2305843009213693951) (.cons (.cI 999999999989) (.cons (.cI 1000000000039) (.cons (.cI 67280421310721) .nil))))) (.bin .mod (.nm 2) (.cI 4))))
    (.cons (.set 4 (.bin .mod (.bin .pow (.bin .add (.bin .add (.idx (.nm 0) (.cI 1)) (.bin .mul (.bin .mul (.cI 7919) (.nm 2)) (.nm 2))) (.bin .mul (.cI 65537) (.nm 2))) (.cI 3)) (.nm 3)))
    (.cons (.ret (.bin .mod (.bin .add (.bin .fdiv (.nm 4) (.cI 4099)) (.bin .mul (.bin .fdiv (.nm 4) (.cI 1000003)) (.cI 7))) (.nm 1)))
    .nil))))))⟩
def fd__law_gone : FD := ⟨3, 7, false,
    (.cons (.par [3, 4] (.cons (.lst true .nil) (.cons (.lst true (.cons (.nm 2) .nil)) .nil)))
    (.cons (.whl (.and (.cons (.cmp .ne (.nm 4) (.lst false .nil)) (.cons (.cmp .le (.blt .len (.cons (.nm 3) .nil)) (.bin .shl (.cI 1) (.nm 0))) .nil))) (.cons (.set 5 (.pop (.nm 4)))
      (.cons (.for_ (.nm 6) (.seq (.call i_hearers 3 1 [.arg 0, .arg 1, .arg 2, .arg 3] (.cons (.nm 0) (.cons (.nm 5) (.cons (.nm 1) .nil))) (.cons (.nm 2) .nil))) (.cons (.expr (.app (.nm 3) (.tup (.cons (.nm 5) (.cons (.nm 6) .nil)))))
        (.cons (.expr (.ext (.nm 4) (.repL false (.cons (.nm 6) .nil) (.blt .int (.cons (.cmp .ne (.nm 6) (.nm 2)) .nil)))))
        .nil)))
      .nil)))
    (.cons (.ret (.nm 3))
    .nil)))⟩
def fd__law_right : FD := ⟨3, 11, true,
    (.cons (.set 3 (.lisR1 false (.bin .shl (.cI 1) (.nm 0))))
    (.cons (.set 4 (.call i__law_gone 3 0 [.arg 0, .arg 1, .arg 2] (.cons (.nm 0) (.cons (.nm 1) (.cons (.nm 2) .nil))) .nil))
    (.cons (.ife (.cmp .ne (.blt (.sorted false) (.cons (.lc false (.nm 9) (.tup [(.nm 8), (.nm 9)]) (.seq (.nm 4)) .yes [("_law_here", 8), ("_law_other", 9)]) .nil)) (.nm 3)) (.cons (.ret (.cB false))
      .nil) .nil)
    (.cons (.ife (.not (.tr (.blt .all (.cons (.lc false (.cmp .eq (.call i_teller 3 1 [.arg 0, .arg 1, .arg 2, .arg 3] (.cons (.nm 0) (.cons (.nm 9) (.cons (.nm 1) .nil))) (.cons (.nm 2) .nil)) (.nm 8)) (.tup [(.nm 8), (.nm 9)]) (.seq (.nm 4)) .yes [("_law_here", 8), ("_law_other", 9)]) .nil)))) (.cons (.ret (.cB false))
      .nil) .nil)
    (.cons (.set 5 (.lc false (.call i_delay 3 1 [.arg 0, .arg 1, .arg 2, .arg 3] (.cons (.nm 0) (.cons (.nm 7) (.cons (.nm 1) .nil))) (.cons (.nm 2) .nil)) (.nm 7) (.seq (.nm 3)) .yes [("_law_one", 7)]))
    (.cons (.set 6 (.bin .add (.bin .add (.lst false (.cons (.cI 1) .nil)) (.lc false (.bin .shl (.cI 1) (.nm 10)) (.nm 10) (.rng1 (.bin .sub (.nm 0) (.cI 1))) .yes [("_law_beat", 10)])) (.lst false (.cons (.bin .shl (.cI 1) (.bin .sub (.nm 0) (.cI 1))) .nil))))
    (.cons (.ret (.and (.cons (.cmp .eq (.lc false (.cnt (.nm 5) (.nm 10)) (.nm 10) (.rng1 (.bin .add (.nm 0) (.cI 1))) .yes [("_law_beat", 10)]) (.nm 6)) (.cons (.cmp .eq (.idx (.nm 5) (.nm 2)) (.nm 0)) .nil))))
    .nil)))))))⟩
def fd_law : FD := ⟨1, 6, false,
    (.cons (.for_ (.nm 1) (.rng1 (.blt .max2 (.cons (.cI 1) (.cons (.blt .min2 (.cons (.cI 2) (.cons (.blt .len (.cons (.nm 0) .nil)) .nil))) .nil)))) (.cons (.set 2 (.call i__law_pot 2 0 [.arg 0, .arg 1] (.cons (.nm 0) (.cons (.nm 1) .nil)) .nil))
      (.cons (.for_ (.nm 3) (.rng2 (.cI 1) (.cI 6)) (.cons (.set 4 (.call i__law_take 2 0 [.arg 0, .arg 1] (.cons (.nm 2) (.cons (.bin .shl (.cI 1) (.nm 3)) .nil)) .nil))
        (.cons (.ife (.not (.tr (.blt .all (.cons (.lc false (.call i__law_right 3 0 [.arg 0, .arg 1, .arg 2] (.cons (.nm 3) (.cons (.nm 5) (.cons (.nm 4) .nil))) .nil) (.nm 5) (.rng1 (.nm 3)) .yes [("_law_tree", 5)]) .nil)))) (.cons (.ret (.cB false))
          .nil) .nil)
        .nil)))
      .nil)))
    (.cons (.ret (.cB true))
    .nil))⟩
def topS (i : Nat) : PySem.Stmt := PySem.Challenge.pw_beatferry_k11_trees_of_all_hands.main.body.getD i (.Pass ⟨0, 0, 0, 0⟩)
def d_bits : Def1 := ⟨"bits", topS 1, ["hand", "found", "k"], ["hand"], [⟨1, [], [.arg 0]⟩], fd_bits⟩
def d_arc : Def1 := ⟨"arc", topS 2, ["q", "j", "k"], ["q", "j", "k"], [⟨3, [], [.arg 0, .arg 1, .arg 2]⟩], fd_arc⟩
def d_round_bits : Def1 := ⟨"round_bits", topS 3, ["q", "hand", "j"], ["q", "hand", "j"], [⟨3, [], [.arg 0, .arg 1, .arg 2]⟩], fd_round_bits⟩
def d_has_bit : Def1 := ⟨"has_bit", topS 5, ["hand", "k"], ["hand", "k"], [⟨2, [], [.arg 0, .arg 1]⟩], fd_has_bit⟩
def d_across : Def1 := ⟨"across", topS 6, ["q", "hand", "k"], ["q", "hand"], [⟨2, [], [.arg 0, .arg 1]⟩], fd_across⟩
def d_crossed : Def1 := ⟨"crossed", topS 7, ["q", "hand", "j", "source", "wanted", "rest", "k"], ["q", "hand", "j", "source"], [⟨3, ["source"], [.arg 0, .arg 1, .arg 2, .arg 3]⟩], fd_crossed⟩
def d_way : Def1 := ⟨"way", topS 8, ["q", "hand", "j", "source", "found", "k"], ["q", "hand", "j", "source"], [⟨3, ["source"], [.arg 0, .arg 1, .arg 2, .arg 3]⟩], fd_way⟩
def d_delay : Def1 := ⟨"delay", topS 9, ["q", "hand", "j", "source"], ["q", "hand", "j", "source"], [⟨3, ["source"], [.arg 0, .arg 1, .arg 2, .arg 3]⟩], fd_delay⟩
def d_teller : Def1 := ⟨"teller", topS 10, ["q", "hand", "j", "source"], ["q", "hand", "j", "source"], [⟨3, ["source"], [.arg 0, .arg 1, .arg 2, .arg 3]⟩], fd_teller⟩
def d_hearers : Def1 := ⟨"hearers", topS 11, ["q", "hand", "j", "source", "one"], ["q", "hand", "j", "source"], [⟨3, ["source"], [.arg 0, .arg 1, .arg 2, .arg 3]⟩], fd_hearers⟩
def d__law_pot : Def1 := ⟨"_law_pot", topS 13, ["_law_script", "_law_k", "_law_cell", "_law_own"], ["_law_script", "_law_k"], [⟨2, [], [.arg 0, .arg 1]⟩], fd__law_pot⟩
def d__law_take : Def1 := ⟨"_law_take", topS 14, ["_law_pot_here", "_law_size", "_law_turn", "_law_prime", "_law_mixed", "_law_digit"], ["_law_pot_here", "_law_size"], [⟨2, [], [.arg 0, .arg 1]⟩], fd__law_take⟩
def d__law_gone : Def1 := ⟨"_law_gone", topS 15, ["_law_size", "_law_tree", "_law_root", "_law_found", "_law_waiting", "_law_here", "_law_other"], ["_law_size", "_law_tree", "_law_root"], [⟨3, [], [.arg 0, .arg 1, .arg 2]⟩], fd__law_gone⟩
def d__law_right : Def1 := ⟨"_law_right", topS 16, ["_law_size", "_law_tree", "_law_root", "_law_every", "_law_gone_here", "_law_late", "_law_due", "_law_one", "_law_here", "_law_other", "_law_beat"], ["_law_size", "_law_tree", "_law_root"], [⟨3, [], [.arg 0, .arg 1, .arg 2]⟩], fd__law_right⟩
def d_law : Def1 := ⟨"law", topS 17, ["_law_script", "_law_k", "_law_pot_here", "_law_size", "_law_root", "_law_tree"], ["_law_script"], [⟨1, [], [.arg 0]⟩], fd_law⟩
def GP : Prg := ⟨[d_bits, d_arc, d_round_bits, d_has_bit, d_across, d_crossed, d_way, d_delay, d_teller, d_hearers, d__law_pot, d__law_take, d__law_gone, d__law_right, d_law], [.int 0], ["abs", "all", "int", "len", "list", "max", "min", "range", "sorted", "tuple"]⟩
theorem GP_ok : GP.ok = true := by decide +kernel
@[irreducible] def GT : List FD := GP.tbl
theorem GT_eq : GT = GP.tbl := by unfold GT; rfl
theorem GT_at {f : Nat} {fd : FD} (h : GP.tbl[f]? = some fd) : GT[f]? = some fd := by rw [GT_eq]; exact h
theorem shp_bits {K : PySem.W.Frag} {kV doc pm : Value} {an : Option Addr} {cdv ct : Value} : ∀ sh ∈ d_bits.shs, ShpOk K (defFn "bits" (topS 1) kV doc pm an cdv ct) d_bits.ps [.int 0] sh := by
  refine List.forall_mem_cons.mpr ⟨?_, (fun _ h => by cases h)⟩
  · refine ⟨[.int 0 default], .cons ⟨default, rfl⟩ .nil, fun s us ws zs X l1 l2 e => ?_⟩
    match us, ws, l1, l2 with
    | [u0], [], _, _ =>
      have e2 : some [u0] = some zs := e
      cases e2
      exact .of_eq rfl
theorem shp_arc {K : PySem.W.Frag} {kV doc pm : Value} {an : Option Addr} {cdv ct : Value} : ∀ sh ∈ d_arc.shs, ShpOk K (defFn "arc" (topS 2) kV doc pm an cdv ct) d_arc.ps [.int 0] sh := by
  refine List.forall_mem_cons.mpr ⟨?_, (fun _ h => by cases h)⟩
  · refine ⟨[.int 0 default], .cons ⟨default, rfl⟩ .nil, fun s us ws zs X l1 l2 e => ?_⟩
    match us, ws, l1, l2 with
    | [u0, u1, u2], [], _, _ =>
      have e2 : some [u0, u1, u2] = some zs := e
      cases e2
      exact .of_eq rfl
theorem shp_round_bits {K : PySem.W.Frag} {kV doc pm : Value} {an : Option Addr} {cdv ct : Value} : ∀ sh ∈ d_round_bits.shs, ShpOk K (defFn "round_bits" (topS 3) kV doc pm an cdv ct) d_round_bits.ps [.int 0] sh := by
  refine List.forall_mem_cons.mpr ⟨?_, (fun _ h => by cases h)⟩
  · refine ⟨[.int 0 default], .cons ⟨default, rfl⟩ .nil, fun s us ws zs X l1 l2 e => ?_⟩
    match us, ws, l1, l2 with
    | [u0, u1, u2], [], _, _ =>
      have e2 : some [u0, u1, u2] = some zs := e
      cases e2
      exact .of_eq rfl
theorem shp_has_bit {K : PySem.W.Frag} {kV doc pm : Value} {an : Option Addr} {cdv ct : Value} : ∀ sh ∈ d_has_bit.shs, ShpOk K (defFn "has_bit" (topS 5) kV doc pm an cdv ct) d_has_bit.ps [.int 0] sh := by
  refine List.forall_mem_cons.mpr ⟨?_, (fun _ h => by cases h)⟩
  · refine ⟨[.int 0 default], .cons ⟨default, rfl⟩ .nil, fun s us ws zs X l1 l2 e => ?_⟩
    match us, ws, l1, l2 with
    | [u0, u1], [], _, _ =>
      have e2 : some [u0, u1] = some zs := e
      cases e2
      exact .of_eq rfl
theorem shp_across {K : PySem.W.Frag} {kV doc pm : Value} {an : Option Addr} {cdv ct : Value} : ∀ sh ∈ d_across.shs, ShpOk K (defFn "across" (topS 6) kV doc pm an cdv ct) d_across.ps [.int 0] sh := by
  refine List.forall_mem_cons.mpr ⟨?_, (fun _ h => by cases h)⟩
  · refine ⟨[.int 0 default], .cons ⟨default, rfl⟩ .nil, fun s us ws zs X l1 l2 e => ?_⟩
    match us, ws, l1, l2 with
    | [u0, u1], [], _, _ =>
      have e2 : some [u0, u1] = some zs := e
      cases e2
      exact .of_eq rfl
theorem shp_crossed {K : PySem.W.Frag} {kV doc pm : Value} {an : Option Addr} {cdv ct : Value} (hk : KwAt K kV) : ∀ sh ∈ d_crossed.shs, ShpOk K (defFn "crossed" (topS 7) kV doc pm an cdv ct) d_crossed.ps [.int 0] sh := by
  refine List.forall_mem_cons.mpr ⟨?_, (fun _ h => by cases h)⟩
  · obtain ⟨D, t, rfl, z⟩ := hk
    refine ⟨[.int 0 t], .cons ⟨t, rfl⟩ .nil, fun s us ws zs X l1 l2 e => ?_⟩
    match us, ws, l1, l2 with
    | [u0, u1, u2], [w0], _, _ =>
      have e2 : some [u0, u1, u2, w0] = some zs := e
      cases e2
      exact .of_eq rfl
theorem shp_way {K : PySem.W.Frag} {kV doc pm : Value} {an : Option Addr} {cdv ct : Value} (hk : KwAt K kV) : ∀ sh ∈ d_way.shs, ShpOk K (defFn "way" (topS 8) kV doc pm an cdv ct) d_way.ps [.int 0] sh := by
  refine List.forall_mem_cons.mpr ⟨?_, (fun _ h => by cases h)⟩
  · obtain ⟨D, t, rfl, z⟩ := hk
    refine ⟨[.int 0 t], .cons ⟨t, rfl⟩ .nil, fun s us ws zs X l1 l2 e => ?_⟩
    match us, ws, l1, l2 with
    | [u0, u1, u2], [w0], _, _ =>
      have e2 : some [u0, u1, u2, w0] = some zs := e
      cases e2
      exact .of_eq rfl
theorem shp_delay {K : PySem.W.Frag} {kV doc pm : Value} {an : Option Addr} {cdv ct : Value} (hk : KwAt K kV) : ∀ sh ∈ d_delay.shs, ShpOk K (defFn "delay" (topS 9) kV doc pm an cdv ct) d_delay.ps [.int 0] sh := by
  refine List.forall_mem_cons.mpr ⟨?_, (fun _ h => by cases h)⟩
  · obtain ⟨D, t, rfl, z⟩ := hk
    refine ⟨[.int 0 t], .cons ⟨t, rfl⟩ .nil, fun s us ws zs X l1 l2 e => ?_⟩
    match us, ws, l1, l2 with
    | [u0, u1, u2], [w0], _, _ =>
      have e2 : some [u0, u1, u2, w0] = some zs := e
      cases e2
      exact .of_eq rfl
theorem shp_teller {K : PySem.W.Frag} {kV doc pm : Value} {an : Option Addr} {cdv ct : Value} (hk : KwAt K kV) : ∀ sh ∈ d_teller.shs, ShpOk K (defFn "teller" (topS 10) kV doc pm an cdv ct) d_teller.ps [.int 0] sh := by
  refine List.forall_mem_cons.mpr ⟨?_, (fun _ h => by cases h)⟩
  · obtain ⟨D, t, rfl, z⟩ := hk
    refine ⟨[.int 0 t], .cons ⟨t, rfl⟩ .nil, fun s us ws zs X l1 l2 e => ?_⟩
    match us, ws, l1, l2 with
    | [u0, u1, u2], [w0], _, _ =>
      have e2 : some [u0, u1, u2, w0] = some zs := e
      cases e2
      exact .of_eq rfl
theorem shp_hearers {K : PySem.W.Frag} {kV doc pm : Value} {an : Option Addr} {cdv ct : Value} (hk : KwAt K kV) : ∀ sh ∈ d_hearers.shs, ShpOk K (defFn "hearers" (topS 11) kV doc pm an cdv ct) d_hearers.ps [.int 0] sh := by
  refine List.forall_mem_cons.mpr ⟨?_, (fun _ h => by cases h)⟩
  · obtain ⟨D, t, rfl, z⟩ := hk
    refine ⟨[.int 0 t], .cons ⟨t, rfl⟩ .nil, fun s us ws zs X l1 l2 e => ?_⟩
    match us, ws, l1, l2 with
    | [u0, u1, u2], [w0], _, _ =>
      have e2 : some [u0, u1, u2, w0] = some zs := e
      cases e2
      exact .of_eq rfl
theorem shp__law_pot {K : PySem.W.Frag} {kV doc pm : Value} {an : Option Addr} {cdv ct : Value} : ∀ sh ∈ d__law_pot.shs, ShpOk K (defFn "_law_pot" (topS 13) kV doc pm an cdv ct) d__law_pot.ps [.int 0] sh := by
  refine List.forall_mem_cons.mpr ⟨?_, (fun _ h => by cases h)⟩
  · refine ⟨[.int 0 default], .cons ⟨default, rfl⟩ .nil, fun s us ws zs X l1 l2 e => ?_⟩
    match us, ws, l1, l2 with
    | [u0, u1], [], _, _ =>
      have e2 : some [u0, u1] = some zs := e
      cases e2
      exact .of_eq rfl
theorem shp__law_take {K : PySem.W.Frag} {kV doc pm : Value} {an : Option Addr} {cdv ct : Value} : ∀ sh ∈ d__law_take.shs, ShpOk K (defFn "_law_take" (topS 14) kV doc pm an cdv ct) d__law_take.ps [.int 0] sh := by
  refine List.forall_mem_cons.mpr ⟨?_, (fun _ h => by cases h)⟩
  · refine ⟨[.int 0 default], .cons ⟨default, rfl⟩ .nil, fun s us ws zs X l1 l2 e => ?_⟩
    match us, ws, l1, l2 with
    | [u0, u1], [], _, _ =>
      have e2 : some [u0, u1] = some zs := e
      cases e2
      exact .of_eq rfl
theorem shp__law_gone {K : PySem.W.Frag} {kV doc pm : Value} {an : Option Addr} {cdv ct : Value} : ∀ sh ∈ d__law_gone.shs, ShpOk K (defFn "_law_gone" (topS 15) kV doc pm an cdv ct) d__law_gone.ps [.int 0] sh := by
  refine List.forall_mem_cons.mpr ⟨?_, (fun _ h => by cases h)⟩
  · refine ⟨[.int 0 default], .cons ⟨default, rfl⟩ .nil, fun s us ws zs X l1 l2 e => ?_⟩
    match us, ws, l1, l2 with
    | [u0, u1, u2], [], _, _ =>
      have e2 : some [u0, u1, u2] = some zs := e
      cases e2
      exact .of_eq rfl
theorem shp__law_right {K : PySem.W.Frag} {kV doc pm : Value} {an : Option Addr} {cdv ct : Value} : ∀ sh ∈ d__law_right.shs, ShpOk K (defFn "_law_right" (topS 16) kV doc pm an cdv ct) d__law_right.ps [.int 0] sh := by
  refine List.forall_mem_cons.mpr ⟨?_, (fun _ h => by cases h)⟩
  · refine ⟨[.int 0 default], .cons ⟨default, rfl⟩ .nil, fun s us ws zs X l1 l2 e => ?_⟩
    match us, ws, l1, l2 with
    | [u0, u1, u2], [], _, _ =>
      have e2 : some [u0, u1, u2] = some zs := e
      cases e2
      exact .of_eq rfl
theorem shp_law {K : PySem.W.Frag} {kV doc pm : Value} {an : Option Addr} {cdv ct : Value} : ∀ sh ∈ d_law.shs, ShpOk K (defFn "law" (topS 17) kV doc pm an cdv ct) d_law.ps [.int 0] sh := by
  refine List.forall_mem_cons.mpr ⟨?_, (fun _ h => by cases h)⟩
  · refine ⟨[.int 0 default], .cons ⟨default, rfl⟩ .nil, fun s us ws zs X l1 l2 e => ?_⟩
    match us, ws, l1, l2 with
    | [u0], [], _, _ =>
      have e2 : some [u0] = some zs := e
      cases e2
      exact .of_eq rfl
end B
namespace B
open PySem PyProof.Rows L2

end B
namespace B
open PySem PyProof.Rows L2

end B
namespace B
open PySem PyProof.Rows L2
theorem take_ok {fu n p : Nat} {T s : Int} {st : Store} (h : PotAt st p T) (hT : T ≤ 16777216) (h1 : 1 ≤ s) (h2 : s < 1073741824) :
    W (runF GT GP.dfl fu (n + 1) i__law_take [.ref p, .int s] st) fun d st' => ∃ x, d = .int x ∧ (0 ≤ x ∧ x < s) ∧ Pt p (T + 1) st st' := by
  have hlt := h.lt
  obtain ⟨ho, a, b, c, hp, ha, hb, hb2, hc, hcT⟩ := h
  have hset : ∀ o, (st.set p o)[p]? = some o := fun o => set_self hlt
  refine W_runF (fd := fd__law_take) (GT_at rfl) rfl ?_
  simp only [fd__law_take, eev_popI, eev_rem, eev_cnt, p_popI, p_rem, p_asL2, p_cnt, eev_dnew, eev_dget, eev_dgetE, eev_din, eevT_din, eev_dlen, eev_dcmp, eex_dput, Z_sPutD, d_nil, k_one, k_two, k_three, p_dgetI, p_dgetT, p_asDc, p_dgetEI, p_dgetET, p_dinTI, p_dinTT, p_dinVI, p_dinVT, p_dputI, p_dputT, p_dlen, p_dnewI, p_dnewT, o_pairD, o_todD, eev_ext, eev_pop, eex_setII, Z_sSetII, p_ext, p_pop, c_isBB, c_ntBB, eev_cmp2, eevT_cmp2, eevI_enum, eex_rais, W_bCh, g_enL, g_enT, eev_sset, eev_lset, o_sset, o_lset, i_ofS, eevI_rvsd, g_rvT, g_rvL, eev_catM, o_catLM, eev_repL, r_repD, Bool.true_eq_false, Bool.false_eq_true, W_bSrtk, eev_srtk, eevI_zip, inE, o_addL, o_addR, o_catL, c_in, c_notin, b_sorted, b_sum, b_maxL, b_minL, i_of, g_zipT, g_zipL, g_zipR, c_isNI, c_isNN, c_isNT, c_isNL, c_ntNI, c_ntNN, c_ntNT, c_ntNL, ints_map, W_b1, W_b2, W_b3, W_bIf, W_cst, W_vr, W_bAnd, W_bOr, truP_bl, W_consD, W_some, W_none, W_guard, Z_nil, Z_brk, Z_ctn, Z_sSeq, Z_sSet, Z_sPar, Z_sSetI, Z_sAug, Z_sExpr, Z_sRet, Z_sIf, Z_sFor, W_bLc, W_idx, Z_forStep, W_lcStep, wipeE, finF_keep, finF_clean, evs_nil, evO_no, evT_yes, eev_nm, eev_cI, eev_cB, eev_cN, eev_cS, eev_bin, eev_neg, eev_cmp, eev_and, eev_or, eev_not, eev_ife, eev_tup, eev_lst, eev_idx, eev_slc, eev_revT, eev_revL, eev_blt, eev_app, eev_ins, eev_call, eev_tupR1, eev_tupR2, eev_lisR1, eev_lisR2, eev_lc, eevO_no, eevO_so, eevs_nil, eevs_cons, eevT_yes, eevT_cmp, eevT_and, eevT_or, eevT_not, eevT_tr, eevAnd_nil, eevOr_nil, eevAll_nil, eevAll_cons, eevAny_nil, eevAny_cons, eevI_rng1, eevI_rng2, eevI_seq, eex_set, eex_setT, eex_par, eex_setI, eex_aug, eex_expr, eex_ret, eex_ife, eex_whl, eex_for_, eex_brk, eex_ctn, eexs_nil, eexs_cons, eevAnd_1, eevAnd_2, eevOr_1, eevOr_2, W_callN, selD, startE, putN, parPut, Tg.put, Tg.putL, W_fnB, o_add, o_sub, o_mul, o_fdiv, o_mod, o_pow, o_shl, o_shr, o_band, o_bor, o_bxor, o_addT, o_mulT, c_eqI, c_eqS, c_eqB, c_neI, c_neS, c_neB, c_lt, c_le, c_gt, c_ge, t_bl, t_int, t_tup, t_lst, n_neg, at_0, at_1, at_2, at_3, l_tup, l_lst, l_ref, ll_lst, ll_ref, b_len, b_tuple, b_list, b_abs, b_int, b_intB, b_max2, b_min2, b_all, b_any, a_ref, p_app, p_ins, p_set, set_0, set_1, set_2, s_tup, s_lst, i_int, r_tup, r_lst, g_tup, g_lst, g_ref, g_rng1, g_rng2, v_tupR1, v_tupR2, v_lisR1, v_lisR2, u_add, u_sub, W_copT, W_copV, W_truT, W_notV, W_notT, W_tupD, W_lstF, W_lstT, newF, newT, List.map_cons, List.map_nil, List.cons_append, List.nil_append, List.append_nil, List.length_cons, List.length_nil, List.replicate, List.getElem?_cons_zero, List.getElem?_cons_succ, List.set_cons_zero, List.set_cons_succ, List.getElem?_nil, Nat.reduceAdd, Nat.reduceLT, Nat.reduceSub, Nat.reduceEqDiff, ↓reduceIte, decide_eq_true_eq, decide_eq_false_iff_not, Bool.not_eq_true', Bool.not_eq_false', and_true, true_and, List.set_set, forall_const, true_implies, and_self, eq_self, Int.reduceLE, Int.reduceLT, Int.reducePow, Int.reduceToNat, Nat.reducePow, Int.reduceNeg, ne_eq, not_false_eq_true, Int.reduceEq, not_true_eq_false, true_or, or_true, Nat.reduceLeDiff, if_true, if_false, false_imp_iff, true_imp_iff, false_and, and_false, or_false, false_or, hp, hset]
  refine ⟨fun h => ⟨by omega, by omega, _, rfl, ⟨fm_nn (by omega), fm_lt (by omega)⟩, _, rfl, ho.set rfl, _, _, _, hset _, fd_nn ha (by omega), hb, hb2, hc, by omega⟩, fun h => ?_⟩
  obtain ⟨r, hr, hr0⟩ : ∃ r, atD [.int 2305843009213693951, .int 999999999989, .int 1000000000039, .int 67280421310721] ((c + 1).fmod 4) = some (.int r) ∧ 0 < r := by
    have q1 : 0 ≤ (c + 1).fmod 4 := fm_nn (by decide)
    have q2 : (c + 1).fmod 4 < 4 := fm_lt (by decide)
    rcases (by omega : (c + 1).fmod 4 = 0 ∨ (c + 1).fmod 4 = 1 ∨ (c + 1).fmod 4 = 2 ∨ (c + 1).fmod 4 = 3) with e | e | e | e <;> rw [e]
    · exact ⟨_, at_0, by decide⟩
    · exact ⟨_, at_1, by decide⟩
    · exact ⟨_, at_2, by decide⟩
    · exact ⟨_, at_3, by decide⟩
  have hq : (c + 1) * (c + 1) ≤ 16777217 * 16777217 := Int.mul_le_mul (by omega) (by omega) (by omega) (by omega)
  have hq0 : 0 ≤ (c + 1) * (c + 1) := Int.mul_nonneg (by omega) (by omega)
  rw [Int.mul_assoc] 
  simp only [hr, eev_popI, eev_rem, eev_cnt, p_popI, p_rem, p_asL2, p_cnt, eev_dnew, eev_dget, eev_dgetE, eev_din, eevT_din, eev_dlen, eev_dcmp, eex_dput, Z_sPutD, d_nil, k_one, k_two, k_three, p_dgetI, p_dgetT, p_asDc, p_dgetEI, p_dgetET, p_dinTI, p_dinTT, p_dinVI, p_dinVT, p_dputI, p_dputT, p_dlen, p_dnewI, p_dnewT, o_pairD, o_todD, eev_ext, eev_pop, eex_setII, Z_sSetII, p_ext, p_pop, c_isBB, c_ntBB, eev_cmp2, eevT_cmp2, eevI_enum, eex_rais, W_bCh, g_enL, g_enT, eev_sset, eev_lset, o_sset, o_lset, i_ofS, eevI_rvsd, g_rvT, g_rvL, eev_catM, o_catLM, eev_repL, r_repD, Bool.true_eq_false, Bool.false_eq_true, W_bSrtk, eev_srtk, eevI_zip, inE, o_addL, o_addR, o_catL, c_in, c_notin, b_sorted, b_sum, b_maxL, b_minL, i_of, g_zipT, g_zipL, g_zipR, c_isNI, c_isNN, c_isNT, c_isNL, c_ntNI, c_ntNN, c_ntNT, c_ntNL, ints_map, W_b1, W_b2, W_b3, W_bIf, W_cst, W_vr, W_bAnd, W_bOr, truP_bl, W_consD, W_some, W_none, W_guard, Z_nil, Z_brk, Z_ctn, Z_sSeq, Z_sSet, Z_sPar, Z_sSetI, Z_sAug, Z_sExpr, Z_sRet, Z_sIf, Z_sFor, W_bLc, W_idx, Z_forStep, W_lcStep, wipeE, finF_keep, finF_clean, evs_nil, evO_no, evT_yes, eev_nm, eev_cI, eev_cB, eev_cN, eev_cS, eev_bin, eev_neg, eev_cmp, eev_and, eev_or, eev_not, eev_ife, eev_tup, eev_lst, eev_idx, eev_slc, eev_revT, eev_revL, eev_blt, eev_app, eev_ins, eev_call, eev_tupR1, eev_tupR2, eev_lisR1, eev_lisR2, eev_lc, eevO_no, eevO_so, eevs_nil, eevs_cons, eevT_yes, eevT_cmp, eevT_and, eevT_or, eevT_not, eevT_tr, eevAnd_nil, eevOr_nil, eevAll_nil, eevAll_cons, eevAny_nil, eevAny_cons, eevI_rng1, eevI_rng2, eevI_seq, eex_set, eex_setT, eex_par, eex_setI, eex_aug, eex_expr, eex_ret, eex_ife, eex_whl, eex_for_, eex_brk, eex_ctn, eexs_nil, eexs_cons, eevAnd_1, eevAnd_2, eevOr_1, eevOr_2, W_callN, selD, startE, putN, parPut, Tg.put, Tg.putL, W_fnB, o_add, o_sub, o_mul, o_fdiv, o_mod, o_pow, o_shl, o_shr, o_band, o_bor, o_bxor, o_addT, o_mulT, c_eqI, c_eqS, c_eqB, c_neI, c_neS, c_neB, c_lt, c_le, c_gt, c_ge, t_bl, t_int, t_tup, t_lst, n_neg, at_0, at_1, at_2, at_3, l_tup, l_lst, l_ref, ll_lst, ll_ref, b_len, b_tuple, b_list, b_abs, b_int, b_intB, b_max2, b_min2, b_all, b_any, a_ref, p_app, p_ins, p_set, set_0, set_1, set_2, s_tup, s_lst, i_int, r_tup, r_lst, g_tup, g_lst, g_ref, g_rng1, g_rng2, v_tupR1, v_tupR2, v_lisR1, v_lisR2, u_add, u_sub, W_copT, W_copV, W_truT, W_notV, W_notT, W_tupD, W_lstF, W_lstT, newF, newT, List.map_cons, List.map_nil, List.cons_append, List.nil_append, List.append_nil, List.length_cons, List.length_nil, List.replicate, List.getElem?_cons_zero, List.getElem?_cons_succ, List.set_cons_zero, List.set_cons_succ, List.getElem?_nil, Nat.reduceAdd, Nat.reduceLT, Nat.reduceSub, Nat.reduceEqDiff, ↓reduceIte, decide_eq_true_eq, decide_eq_false_iff_not, Bool.not_eq_true', Bool.not_eq_false', and_true, true_and, List.set_set, forall_const, true_implies, and_self, eq_self, Int.reduceLE, Int.reduceLT, Int.reducePow, Int.reduceToNat, Nat.reducePow, Int.reduceNeg, ne_eq, not_false_eq_true, Int.reduceEq, not_true_eq_false, true_or, or_true, Nat.reduceLeDiff, if_true, if_false, false_imp_iff, true_imp_iff, false_and, and_false, or_false, false_or, hset]
  repeat ((with_reducible refine And.intro ?_ ?_); · first | omega | decide | (unfold SL; omega))
  refine ⟨_, rfl, ⟨fm_nn (by omega), fm_lt (by omega)⟩, _, rfl, ho.set rfl, _, _, _, hset _, ha, hb, hb2, by omega, by omega⟩
theorem pot_ok {fu n : Nat} {k : Int} {ns : List Int} {st : Store} (hs : StOk st) (hk : 0 ≤ k ∧ k ≤ 64) :
    W (runF GT GP.dfl fu (n + 1) i__law_pot [.lst (ns.map D.int), .int k] st) fun d st' => d = .ref st.length ∧ ∃ o, st' = st ++ [o] ∧ PotAt st' st.length 0 := by
  have key : ∀ a c : Int, 0 ≤ a → PotAt (st ++ [.lst [.int a, .int (((c.fmod 2305843009213693951 + 104729 * k * k + 11) * 48271).fmod 2305843009213693921), .int 0]]) st.length 0 := fun a c ha =>
    ⟨hs.app rfl, a, _, 0, by rw [List.getElem?_append_right (Nat.le_refl _), Nat.sub_self]; rfl, ha, fm_nn (by decide), Int.lt_trans (fm_lt (by decide)) (by decide), by decide, by decide⟩
  refine W_runF (fd := fd__law_pot) (GT_at rfl) rfl ?_
  simp only [fd__law_pot, eev_popI, eev_rem, eev_cnt, p_popI, p_rem, p_asL2, p_cnt, eev_dnew, eev_dget, eev_dgetE, eev_din, eevT_din, eev_dlen, eev_dcmp, eex_dput, Z_sPutD, d_nil, k_one, k_two, k_three, p_dgetI, p_dgetT, p_asDc, p_dgetEI, p_dgetET, p_dinTI, p_dinTT, p_dinVI, p_dinVT, p_dputI, p_dputT, p_dlen, p_dnewI, p_dnewT, o_pairD, o_todD, eev_ext, eev_pop, eex_setII, Z_sSetII, p_ext, p_pop, c_isBB, c_ntBB, eev_cmp2, eevT_cmp2, eevI_enum, eex_rais, W_bCh, g_enL, g_enT, eev_sset, eev_lset, o_sset, o_lset, i_ofS, eevI_rvsd, g_rvT, g_rvL, eev_catM, o_catLM, eev_repL, r_repD, Bool.true_eq_false, Bool.false_eq_true, W_bSrtk, eev_srtk, eevI_zip, inE, o_addL, o_addR, o_catL, c_in, c_notin, b_sorted, b_sum, b_maxL, b_minL, i_of, g_zipT, g_zipL, g_zipR, c_isNI, c_isNN, c_isNT, c_isNL, c_ntNI, c_ntNN, c_ntNT, c_ntNL, ints_map, W_b1, W_b2, W_b3, W_bIf, W_cst, W_vr, W_bAnd, W_bOr, truP_bl, W_consD, W_some, W_none, W_guard, Z_nil, Z_brk, Z_ctn, Z_sSeq, Z_sSet, Z_sPar, Z_sSetI, Z_sAug, Z_sExpr, Z_sRet, Z_sIf, Z_sFor, W_bLc, W_idx, Z_forStep, W_lcStep, wipeE, finF_keep, finF_clean, evs_nil, evO_no, evT_yes, eev_nm, eev_cI, eev_cB, eev_cN, eev_cS, eev_bin, eev_neg, eev_cmp, eev_and, eev_or, eev_not, eev_ife, eev_tup, eev_lst, eev_idx, eev_slc, eev_revT, eev_revL, eev_blt, eev_app, eev_ins, eev_call, eev_tupR1, eev_tupR2, eev_lisR1, eev_lisR2, eev_lc, eevO_no, eevO_so, eevs_nil, eevs_cons, eevT_yes, eevT_cmp, eevT_and, eevT_or, eevT_not, eevT_tr, eevAnd_nil, eevOr_nil, eevAll_nil, eevAll_cons, eevAny_nil, eevAny_cons, eevI_rng1, eevI_rng2, eevI_seq, eex_set, eex_setT, eex_par, eex_setI, eex_aug, eex_expr, eex_ret, eex_ife, eex_whl, eex_for_, eex_brk, eex_ctn, eexs_nil, eexs_cons, eevAnd_1, eevAnd_2, eevOr_1, eevOr_2, W_callN, selD, startE, putN, parPut, Tg.put, Tg.putL, W_fnB, o_add, o_sub, o_mul, o_fdiv, o_mod, o_pow, o_shl, o_shr, o_band, o_bor, o_bxor, o_addT, o_mulT, c_eqI, c_eqS, c_eqB, c_neI, c_neS, c_neB, c_lt, c_le, c_gt, c_ge, t_bl, t_int, t_tup, t_lst, n_neg, at_0, at_1, at_2, at_3, l_tup, l_lst, l_ref, ll_lst, ll_ref, b_len, b_tuple, b_list, b_abs, b_int, b_intB, b_max2, b_min2, b_all, b_any, a_ref, p_app, p_ins, p_set, set_0, set_1, set_2, s_tup, s_lst, i_int, r_tup, r_lst, g_tup, g_lst, g_ref, g_rng1, g_rng2, v_tupR1, v_tupR2, v_lisR1, v_lisR2, u_add, u_sub, W_copT, W_copV, W_truT, W_notV, W_notT, W_tupD, W_lstF, W_lstT, newF, newT, List.map_cons, List.map_nil, List.cons_append, List.nil_append, List.append_nil, List.length_cons, List.length_nil, List.replicate, List.getElem?_cons_zero, List.getElem?_cons_succ, List.set_cons_zero, List.set_cons_succ, List.getElem?_nil, Nat.reduceAdd, Nat.reduceLT, Nat.reduceSub, Nat.reduceEqDiff, ↓reduceIte, decide_eq_true_eq, decide_eq_false_iff_not, Bool.not_eq_true', Bool.not_eq_false', and_true, true_and, List.set_set, forall_const, true_implies, and_self, eq_self, Int.reduceLE, Int.reduceLT, Int.reducePow, Int.reduceToNat, Nat.reducePow, Int.reduceNeg, ne_eq, not_false_eq_true, Int.reduceEq, not_true_eq_false, true_or, or_true, Nat.reduceLeDiff, if_true, if_false, false_imp_iff, true_imp_iff, false_and, and_false, or_false, false_or]
  refine ⟨fun h => ?_, fun h => ?_⟩
  · rw [at_int hk.1 h]
    obtain ⟨i, hi⟩ : ∃ i, (ns.map D.int)[k.toNat]? = some (.int i) := by
      rw [List.getElem?_map]
      rw [List.length_map] at h
      have hl : k.toNat < ns.length := by omega
      rw [List.getElem?_eq_getElem hl]
      exact ⟨_, rfl⟩
    rw [hi]
    simp only [eev_popI, eev_rem, eev_cnt, p_popI, p_rem, p_asL2, p_cnt, eev_dnew, eev_dget, eev_dgetE, eev_din, eevT_din, eev_dlen, eev_dcmp, eex_dput, Z_sPutD, d_nil, k_one, k_two, k_three, p_dgetI, p_dgetT, p_asDc, p_dgetEI, p_dgetET, p_dinTI, p_dinTT, p_dinVI, p_dinVT, p_dputI, p_dputT, p_dlen, p_dnewI, p_dnewT, o_pairD, o_todD, eev_ext, eev_pop, eex_setII, Z_sSetII, p_ext, p_pop, c_isBB, c_ntBB, eev_cmp2, eevT_cmp2, eevI_enum, eex_rais, W_bCh, g_enL, g_enT, eev_sset, eev_lset, o_sset, o_lset, i_ofS, eevI_rvsd, g_rvT, g_rvL, eev_catM, o_catLM, eev_repL, r_repD, Bool.true_eq_false, Bool.false_eq_true, W_bSrtk, eev_srtk, eevI_zip, inE, o_addL, o_addR, o_catL, c_in, c_notin, b_sorted, b_sum, b_maxL, b_minL, i_of, g_zipT, g_zipL, g_zipR, c_isNI, c_isNN, c_isNT, c_isNL, c_ntNI, c_ntNN, c_ntNT, c_ntNL, ints_map, W_b1, W_b2, W_b3, W_bIf, W_cst, W_vr, W_bAnd, W_bOr, truP_bl, W_consD, W_some, W_none, W_guard, Z_nil, Z_brk, Z_ctn, Z_sSeq, Z_sSet, Z_sPar, Z_sSetI, Z_sAug, Z_sExpr, Z_sRet, Z_sIf, Z_sFor, W_bLc, W_idx, Z_forStep, W_lcStep, wipeE, finF_keep, finF_clean, evs_nil, evO_no, evT_yes, eev_nm, eev_cI, eev_cB, eev_cN, eev_cS, eev_bin, eev_neg, eev_cmp, eev_and, eev_or, eev_not, eev_ife, eev_tup, eev_lst, eev_idx, eev_slc, eev_revT, eev_revL, eev_blt, eev_app, eev_ins, eev_call, eev_tupR1, eev_tupR2, eev_lisR1, eev_lisR2, eev_lc, eevO_no, eevO_so, eevs_nil, eevs_cons, eevT_yes, eevT_cmp, eevT_and, eevT_or, eevT_not, eevT_tr, eevAnd_nil, eevOr_nil, eevAll_nil, eevAll_cons, eevAny_nil, eevAny_cons, eevI_rng1, eevI_rng2, eevI_seq, eex_set, eex_setT, eex_par, eex_setI, eex_aug, eex_expr, eex_ret, eex_ife, eex_whl, eex_for_, eex_brk, eex_ctn, eexs_nil, eexs_cons, eevAnd_1, eevAnd_2, eevOr_1, eevOr_2, W_callN, selD, startE, putN, parPut, Tg.put, Tg.putL, W_fnB, o_add, o_sub, o_mul, o_fdiv, o_mod, o_pow, o_shl, o_shr, o_band, o_bor, o_bxor, o_addT, o_mulT, c_eqI, c_eqS, c_eqB, c_neI, c_neS, c_neB, c_lt, c_le, c_gt, c_ge, t_bl, t_int, t_tup, t_lst, n_neg, at_0, at_1, at_2, at_3, l_tup, l_lst, l_ref, ll_lst, ll_ref, b_len, b_tuple, b_list, b_abs, b_int, b_intB, b_max2, b_min2, b_all, b_any, a_ref, p_app, p_ins, p_set, set_0, set_1, set_2, s_tup, s_lst, i_int, r_tup, r_lst, g_tup, g_lst, g_ref, g_rng1, g_rng2, v_tupR1, v_tupR2, v_lisR1, v_lisR2, u_add, u_sub, W_copT, W_copV, W_truT, W_notV, W_notT, W_tupD, W_lstF, W_lstT, newF, newT, List.map_cons, List.map_nil, List.cons_append, List.nil_append, List.append_nil, List.length_cons, List.length_nil, List.replicate, List.getElem?_cons_zero, List.getElem?_cons_succ, List.set_cons_zero, List.set_cons_succ, List.getElem?_nil, Nat.reduceAdd, Nat.reduceLT, Nat.reduceSub, Nat.reduceEqDiff, ↓reduceIte, decide_eq_true_eq, decide_eq_false_iff_not, Bool.not_eq_true', Bool.not_eq_false', and_true, true_and, List.set_set, forall_const, true_implies, and_self, eq_self, Int.reduceLE, Int.reduceLT, Int.reducePow, Int.reduceToNat, Nat.reducePow, Int.reduceNeg, ne_eq, not_false_eq_true, Int.reduceEq, not_true_eq_false, true_or, or_true, Nat.reduceLeDiff, if_true, if_false, false_imp_iff, true_imp_iff, false_and, and_false, or_false, false_or]
    repeat ((with_reducible refine And.intro ?_ ?_); · first | omega | decide | (unfold SL; omega))
    refine ⟨fun h2 => ?_, fun h2 => ?_⟩
    · repeat ((with_reducible refine And.intro ?_ ?_); · first | omega | decide | (unfold SL; omega))
      exact ⟨_, rfl, key _ i (by split <;> omega)⟩
    · repeat ((with_reducible refine And.intro ?_ ?_); · first | omega | decide | (unfold SL; omega))
      exact ⟨_, rfl, key _ i (by omega)⟩
  · repeat ((with_reducible refine And.intro ?_ ?_); · first | omega | decide | (unfold SL; omega))
    repeat ((with_reducible refine And.intro ?_ ?_); · first | omega | decide | (unfold SL; omega))
    exact ⟨_, rfl, key _ 0 (by omega)⟩
end B
namespace B
open PySem PyProof.Rows L2
theorem bits_ok {fu n h : Nat} {st : Store} (hs : StOk st) (hh : h < 2 ^ 60) (hfu : 100 ≤ fu) :
    W (runF GT GP.dfl fu (n + 1) i_bits [.int h] st) fun d st' => d = .tup ((ones h 61).map nD) ∧ st' = st := by
  refine W_runF (fd := fd_bits) (GT_at rfl) rfl ?_
  simp only [fd_bits, eev_popI, eev_rem, eev_cnt, p_popI, p_rem, p_asL2, p_cnt, eev_dnew, eev_dget, eev_dgetE, eev_din, eevT_din, eev_dlen, eev_dcmp, eex_dput, Z_sPutD, d_nil, k_one, k_two, k_three, p_dgetI, p_dgetT, p_asDc, p_dgetEI, p_dgetET, p_dinTI, p_dinTT, p_dinVI, p_dinVT, p_dputI, p_dputT, p_dlen, p_dnewI, p_dnewT, o_pairD, o_todD, eev_ext, eev_pop, eex_setII, Z_sSetII, p_ext, p_pop, c_isBB, c_ntBB, eev_cmp2, eevT_cmp2, eevI_enum, eex_rais, W_bCh, g_enL, g_enT, eev_sset, eev_lset, o_sset, o_lset, i_ofS, eevI_rvsd, g_rvT, g_rvL, eev_catM, o_catLM, eev_repL, r_repD, Bool.true_eq_false, Bool.false_eq_true, W_bSrtk, eev_srtk, eevI_zip, inE, o_addL, o_addR, o_catL, c_in, c_notin, b_sorted, b_sum, b_maxL, b_minL, i_of, g_zipT, g_zipL, g_zipR, c_isNI, c_isNN, c_isNT, c_isNL, c_ntNI, c_ntNN, c_ntNT, c_ntNL, ints_map, W_b1, W_b2, W_b3, W_bIf, W_cst, W_vr, W_bAnd, W_bOr, truP_bl, W_consD, W_some, W_none, W_guard, Z_nil, Z_brk, Z_ctn, Z_sSeq, Z_sSet, Z_sPar, Z_sSetI, Z_sAug, Z_sExpr, Z_sRet, Z_sIf, Z_sFor, W_bLc, W_idx, Z_forStep, W_lcStep, wipeE, finF_keep, finF_clean, evs_nil, evO_no, evT_yes, eev_nm, eev_cI, eev_cB, eev_cN, eev_cS, eev_bin, eev_neg, eev_cmp, eev_and, eev_or, eev_not, eev_ife, eev_tup, eev_lst, eev_idx, eev_slc, eev_revT, eev_revL, eev_blt, eev_app, eev_ins, eev_call, eev_tupR1, eev_tupR2, eev_lisR1, eev_lisR2, eev_lc, eevO_no, eevO_so, eevs_nil, eevs_cons, eevT_yes, eevT_cmp, eevT_and, eevT_or, eevT_not, eevT_tr, eevAnd_nil, eevOr_nil, eevAll_nil, eevAll_cons, eevAny_nil, eevAny_cons, eevI_rng1, eevI_rng2, eevI_seq, eex_set, eex_setT, eex_par, eex_setI, eex_aug, eex_expr, eex_ret, eex_ife, eex_whl, eex_for_, eex_brk, eex_ctn, eexs_nil, eexs_cons, eevAnd_1, eevAnd_2, eevOr_1, eevOr_2, W_callN, selD, startE, putN, parPut, Tg.put, Tg.putL, W_fnB, o_add, o_sub, o_mul, o_fdiv, o_mod, o_pow, o_shl, o_shr, o_band, o_bor, o_bxor, o_addT, o_mulT, c_eqI, c_eqS, c_eqB, c_neI, c_neS, c_neB, c_lt, c_le, c_gt, c_ge, t_bl, t_int, t_tup, t_lst, n_neg, at_0, at_1, at_2, at_3, l_tup, l_lst, l_ref, ll_lst, ll_ref, b_len, b_tuple, b_list, b_abs, b_int, b_intB, b_max2, b_min2, b_all, b_any, a_ref, p_app, p_ins, p_set, set_0, set_1, set_2, s_tup, s_lst, i_int, r_tup, r_lst, g_tup, g_lst, g_ref, g_rng1, g_rng2, v_tupR1, v_tupR2, v_lisR1, v_lisR2, u_add, u_sub, W_copT, W_copV, W_truT, W_notV, W_notT, W_tupD, W_lstF, W_lstT, newF, newT, List.map_cons, List.map_nil, List.cons_append, List.nil_append, List.append_nil, List.length_cons, List.length_nil, List.replicate, List.getElem?_cons_zero, List.getElem?_cons_succ, List.set_cons_zero, List.set_cons_succ, List.getElem?_nil, Nat.reduceAdd, Nat.reduceLT, Nat.reduceSub, Nat.reduceEqDiff, ↓reduceIte, decide_eq_true_eq, decide_eq_false_iff_not, Bool.not_eq_true', Bool.not_eq_false', and_true, true_and, List.set_set, forall_const, true_implies, and_self, eq_self, Int.reduceLE, Int.reduceLT, Int.reducePow, Int.reduceToNat, Nat.reducePow, Int.reduceNeg, ne_eq, not_false_eq_true, Int.reduceEq, not_true_eq_false, true_or, or_true, Nat.reduceLeDiff, if_true, if_false, false_imp_iff, true_imp_iff, false_and, and_false, or_false, false_or]
  repeat ((with_reducible refine And.intro ?_ ?_); · first | omega | decide | (unfold SL; omega))
  refine Z_whl (fun m env s => ∃ k, m + k = 61 ∧ env = [some (.int h), some (.ref st.length), some (.int (k : Nat))] ∧ s = st ++ [.lst ((ones h k).map nD)]) ?step fu 61 _ _ (by omega) ⟨0, rfl, by simp, rfl⟩
  case step =>
    rintro m env s ⟨k, hm, rfl, rfl⟩
    simp only [eev_popI, eev_rem, eev_cnt, p_popI, p_rem, p_asL2, p_cnt, eev_dnew, eev_dget, eev_dgetE, eev_din, eevT_din, eev_dlen, eev_dcmp, eex_dput, Z_sPutD, d_nil, k_one, k_two, k_three, p_dgetI, p_dgetT, p_asDc, p_dgetEI, p_dgetET, p_dinTI, p_dinTT, p_dinVI, p_dinVT, p_dputI, p_dputT, p_dlen, p_dnewI, p_dnewT, o_pairD, o_todD, eev_ext, eev_pop, eex_setII, Z_sSetII, p_ext, p_pop, c_isBB, c_ntBB, eev_cmp2, eevT_cmp2, eevI_enum, eex_rais, W_bCh, g_enL, g_enT, eev_sset, eev_lset, o_sset, o_lset, i_ofS, eevI_rvsd, g_rvT, g_rvL, eev_catM, o_catLM, eev_repL, r_repD, Bool.true_eq_false, Bool.false_eq_true, W_bSrtk, eev_srtk, eevI_zip, inE, o_addL, o_addR, o_catL, c_in, c_notin, b_sorted, b_sum, b_maxL, b_minL, i_of, g_zipT, g_zipL, g_zipR, c_isNI, c_isNN, c_isNT, c_isNL, c_ntNI, c_ntNN, c_ntNT, c_ntNL, ints_map, W_b1, W_b2, W_b3, W_bIf, W_cst, W_vr, W_bAnd, W_bOr, truP_bl, W_consD, W_some, W_none, W_guard, Z_nil, Z_brk, Z_ctn, Z_sSeq, Z_sSet, Z_sPar, Z_sSetI, Z_sAug, Z_sExpr, Z_sRet, Z_sIf, Z_sFor, W_bLc, W_idx, Z_forStep, W_lcStep, wipeE, finF_keep, finF_clean, evs_nil, evO_no, evT_yes, eev_nm, eev_cI, eev_cB, eev_cN, eev_cS, eev_bin, eev_neg, eev_cmp, eev_and, eev_or, eev_not, eev_ife, eev_tup, eev_lst, eev_idx, eev_slc, eev_revT, eev_revL, eev_blt, eev_app, eev_ins, eev_call, eev_tupR1, eev_tupR2, eev_lisR1, eev_lisR2, eev_lc, eevO_no, eevO_so, eevs_nil, eevs_cons, eevT_yes, eevT_cmp, eevT_and, eevT_or, eevT_not, eevT_tr, eevAnd_nil, eevOr_nil, eevAll_nil, eevAll_cons, eevAny_nil, eevAny_cons, eevI_rng1, eevI_rng2, eevI_seq, eex_set, eex_setT, eex_par, eex_setI, eex_aug, eex_expr, eex_ret, eex_ife, eex_whl, eex_for_, eex_brk, eex_ctn, eexs_nil, eexs_cons, eevAnd_1, eevAnd_2, eevOr_1, eevOr_2, W_callN, selD, startE, putN, parPut, Tg.put, Tg.putL, W_fnB, o_add, o_sub, o_mul, o_fdiv, o_mod, o_pow, o_shl, o_shr, o_band, o_bor, o_bxor, o_addT, o_mulT, c_eqI, c_eqS, c_eqB, c_neI, c_neS, c_neB, c_lt, c_le, c_gt, c_ge, t_bl, t_int, t_tup, t_lst, n_neg, at_0, at_1, at_2, at_3, l_tup, l_lst, l_ref, ll_lst, ll_ref, b_len, b_tuple, b_list, b_abs, b_int, b_intB, b_max2, b_min2, b_all, b_any, a_ref, p_app, p_ins, p_set, set_0, set_1, set_2, s_tup, s_lst, i_int, r_tup, r_lst, g_tup, g_lst, g_ref, g_rng1, g_rng2, v_tupR1, v_tupR2, v_lisR1, v_lisR2, u_add, u_sub, W_copT, W_copV, W_truT, W_notV, W_notT, W_tupD, W_lstF, W_lstT, newF, newT, List.map_cons, List.map_nil, List.cons_append, List.nil_append, List.append_nil, List.length_cons, List.length_nil, List.replicate, List.getElem?_cons_zero, List.getElem?_cons_succ, List.set_cons_zero, List.set_cons_succ, List.getElem?_nil, Nat.reduceAdd, Nat.reduceLT, Nat.reduceSub, Nat.reduceEqDiff, ↓reduceIte, decide_eq_true_eq, decide_eq_false_iff_not, Bool.not_eq_true', Bool.not_eq_false', and_true, true_and, List.set_set, forall_const, true_implies, and_self, eq_self, Int.reduceLE, Int.reduceLT, Int.reducePow, Int.reduceToNat, Nat.reducePow, Int.reduceNeg, ne_eq, not_false_eq_true, Int.reduceEq, not_true_eq_false, true_or, or_true, Nat.reduceLeDiff, if_true, if_false, false_imp_iff, true_imp_iff, false_and, and_false, or_false, false_or, app_last, Int.toNat_natCast, div_cast]
    repeat ((with_reducible refine And.intro ?_ ?_); · first | omega | decide | (unfold SL; omega))
    refine ⟨fun hp => ?_, fun hn => ?_⟩
    · have hk : k < 60 := by
        apply Classical.byContradiction
        intro hc
        have : h / 2 ^ k = 0 := Nat.div_eq_of_lt (Nat.lt_of_lt_of_le hh (Nat.pow_le_pow_right (by decide) (by omega)))
        rw [this] at hp
        exact absurd hp (by decide)
      refine ⟨m - 1, by omega, ?_⟩
      simp only [eev_popI, eev_rem, eev_cnt, p_popI, p_rem, p_asL2, p_cnt, eev_dnew, eev_dget, eev_dgetE, eev_din, eevT_din, eev_dlen, eev_dcmp, eex_dput, Z_sPutD, d_nil, k_one, k_two, k_three, p_dgetI, p_dgetT, p_asDc, p_dgetEI, p_dgetET, p_dinTI, p_dinTT, p_dinVI, p_dinVT, p_dputI, p_dputT, p_dlen, p_dnewI, p_dnewT, o_pairD, o_todD, eev_ext, eev_pop, eex_setII, Z_sSetII, p_ext, p_pop, c_isBB, c_ntBB, eev_cmp2, eevT_cmp2, eevI_enum, eex_rais, W_bCh, g_enL, g_enT, eev_sset, eev_lset, o_sset, o_lset, i_ofS, eevI_rvsd, g_rvT, g_rvL, eev_catM, o_catLM, eev_repL, r_repD, Bool.true_eq_false, Bool.false_eq_true, W_bSrtk, eev_srtk, eevI_zip, inE, o_addL, o_addR, o_catL, c_in, c_notin, b_sorted, b_sum, b_maxL, b_minL, i_of, g_zipT, g_zipL, g_zipR, c_isNI, c_isNN, c_isNT, c_isNL, c_ntNI, c_ntNN, c_ntNT, c_ntNL, ints_map, W_b1, W_b2, W_b3, W_bIf, W_cst, W_vr, W_bAnd, W_bOr, truP_bl, W_consD, W_some, W_none, W_guard, Z_nil, Z_brk, Z_ctn, Z_sSeq, Z_sSet, Z_sPar, Z_sSetI, Z_sAug, Z_sExpr, Z_sRet, Z_sIf, Z_sFor, W_bLc, W_idx, Z_forStep, W_lcStep, wipeE, finF_keep, finF_clean, evs_nil, evO_no, evT_yes, eev_nm, eev_cI, eev_cB, eev_cN, eev_cS, eev_bin, eev_neg, eev_cmp, eev_and, eev_or, eev_not, eev_ife, eev_tup, eev_lst, eev_idx, eev_slc, eev_revT, eev_revL, eev_blt, eev_app, eev_ins, eev_call, eev_tupR1, eev_tupR2, eev_lisR1, eev_lisR2, eev_lc, eevO_no, eevO_so, eevs_nil, eevs_cons, eevT_yes, eevT_cmp, eevT_and, eevT_or, eevT_not, eevT_tr, eevAnd_nil, eevOr_nil, eevAll_nil, eevAll_cons, eevAny_nil, eevAny_cons, eevI_rng1, eevI_rng2, eevI_seq, eex_set, eex_setT, eex_par, eex_setI, eex_aug, eex_expr, eex_ret, eex_ife, eex_whl, eex_for_, eex_brk, eex_ctn, eexs_nil, eexs_cons, eevAnd_1, eevAnd_2, eevOr_1, eevOr_2, W_callN, selD, startE, putN, parPut, Tg.put, Tg.putL, W_fnB, o_add, o_sub, o_mul, o_fdiv, o_mod, o_pow, o_shl, o_shr, o_band, o_bor, o_bxor, o_addT, o_mulT, c_eqI, c_eqS, c_eqB, c_neI, c_neS, c_neB, c_lt, c_le, c_gt, c_ge, t_bl, t_int, t_tup, t_lst, n_neg, at_0, at_1, at_2, at_3, l_tup, l_lst, l_ref, ll_lst, ll_ref, b_len, b_tuple, b_list, b_abs, b_int, b_intB, b_max2, b_min2, b_all, b_any, a_ref, p_app, p_ins, p_set, set_0, set_1, set_2, s_tup, s_lst, i_int, r_tup, r_lst, g_tup, g_lst, g_ref, g_rng1, g_rng2, v_tupR1, v_tupR2, v_lisR1, v_lisR2, u_add, u_sub, W_copT, W_copV, W_truT, W_notV, W_notT, W_tupD, W_lstF, W_lstT, newF, newT, List.map_cons, List.map_nil, List.cons_append, List.nil_append, List.append_nil, List.length_cons, List.length_nil, List.replicate, List.getElem?_cons_zero, List.getElem?_cons_succ, List.set_cons_zero, List.set_cons_succ, List.getElem?_nil, Nat.reduceAdd, Nat.reduceLT, Nat.reduceSub, Nat.reduceEqDiff, ↓reduceIte, decide_eq_true_eq, decide_eq_false_iff_not, Bool.not_eq_true', Bool.not_eq_false', and_true, true_and, List.set_set, forall_const, true_implies, and_self, eq_self, Int.reduceLE, Int.reduceLT, Int.reducePow, Int.reduceToNat, Nat.reducePow, Int.reduceNeg, ne_eq, not_false_eq_true, Int.reduceEq, not_true_eq_false, true_or, or_true, Nat.reduceLeDiff, if_true, if_false, false_imp_iff, true_imp_iff, false_and, and_false, or_false, false_or, app_last, Int.toNat_natCast, div_cast, fmod2_cast, fdiv2_cast]
      repeat ((with_reducible refine And.intro ?_ ?_); · first | omega | decide | (unfold SL; omega))
      refine ⟨fun hb => ?_, fun hb => ?_⟩
      · have hl := ones_len h k
        rw [List.length_map]
        repeat ((with_reducible refine And.intro ?_ ?_); · first | omega | decide | (unfold SL; omega))
        refine ⟨k + 1, by omega, by simp, ?_⟩
        rw [app_set rfl, map_ones h k true hb]; rfl
      · refine ⟨k + 1, by omega, by simp, ?_⟩
        rw [map_ones h k false (by simpa using hb)]; simp
    · have h0 : h < 2 ^ k := by
        have : h / 2 ^ k = 0 := nz_of hn
        rcases Nat.div_eq_zero_iff.mp this with q | q
        · exact absurd q (Nat.ne_of_gt (Nat.pow_pos (by decide)))
        · exact q
      have e : ones h 61 = ones h k := by
        have := ones_stop h0 (61 - k)
        rwa [Nat.add_sub_cancel' (by omega)] at this
      refine W_cleanP (by simpa only [D.lo] using loL_nD 0 _) (hs.app (loL_nD 0 _)) ⟨by rw [e], app_take rfl⟩
end B
namespace B
open PySem PyProof.Rows L2
theorem arc_eq {fu n : Nat} {q j k : Int} {st : Store} (hq : q ≠ 0) : runF GT GP.dfl fu (n + 1) i_arc [.int q, .int j, .int k] st = some (.int ((k - j).fmod q), st) := by
  have h : W (runF GT GP.dfl fu (n + 1) i_arc [.int q, .int j, .int k] st) fun d s => d = .int ((k - j).fmod q) ∧ s = st := by
    refine W_runF (fd := fd_arc) (GT_at rfl) rfl ?_
    simp only [fd_arc, eev_popI, eev_rem, eev_cnt, p_popI, p_rem, p_asL2, p_cnt, eev_dnew, eev_dget, eev_dgetE, eev_din, eevT_din, eev_dlen, eev_dcmp, eex_dput, Z_sPutD, d_nil, k_one, k_two, k_three, p_dgetI, p_dgetT, p_asDc, p_dgetEI, p_dgetET, p_dinTI, p_dinTT, p_dinVI, p_dinVT, p_dputI, p_dputT, p_dlen, p_dnewI, p_dnewT, o_pairD, o_todD, eev_ext, eev_pop, eex_setII, Z_sSetII, p_ext, p_pop, c_isBB, c_ntBB, eev_cmp2, eevT_cmp2, eevI_enum, eex_rais, W_bCh, g_enL, g_enT, eev_sset, eev_lset, o_sset, o_lset, i_ofS, eevI_rvsd, g_rvT, g_rvL, eev_catM, o_catLM, eev_repL, r_repD, Bool.true_eq_false, Bool.false_eq_true, W_bSrtk, eev_srtk, eevI_zip, inE, o_addL, o_addR, o_catL, c_in, c_notin, b_sorted, b_sum, b_maxL, b_minL, i_of, g_zipT, g_zipL, g_zipR, c_isNI, c_isNN, c_isNT, c_isNL, c_ntNI, c_ntNN, c_ntNT, c_ntNL, ints_map, W_b1, W_b2, W_b3, W_bIf, W_cst, W_vr, W_bAnd, W_bOr, truP_bl, W_consD, W_some, W_none, W_guard, Z_nil, Z_brk, Z_ctn, Z_sSeq, Z_sSet, Z_sPar, Z_sSetI, Z_sAug, Z_sExpr, Z_sRet, Z_sIf, Z_sFor, W_bLc, W_idx, Z_forStep, W_lcStep, wipeE, finF_keep, finF_clean, evs_nil, evO_no, evT_yes, eev_nm, eev_cI, eev_cB, eev_cN, eev_cS, eev_bin, eev_neg, eev_cmp, eev_and, eev_or, eev_not, eev_ife, eev_tup, eev_lst, eev_idx, eev_slc, eev_revT, eev_revL, eev_blt, eev_app, eev_ins, eev_call, eev_tupR1, eev_tupR2, eev_lisR1, eev_lisR2, eev_lc, eevO_no, eevO_so, eevs_nil, eevs_cons, eevT_yes, eevT_cmp, eevT_and, eevT_or, eevT_not, eevT_tr, eevAnd_nil, eevOr_nil, eevAll_nil, eevAll_cons, eevAny_nil, eevAny_cons, eevI_rng1, eevI_rng2, eevI_seq, eex_set, eex_setT, eex_par, eex_setI, eex_aug, eex_expr, eex_ret, eex_ife, eex_whl, eex_for_, eex_brk, eex_ctn, eexs_nil, eexs_cons, eevAnd_1, eevAnd_2, eevOr_1, eevOr_2, W_callN, selD, startE, putN, parPut, Tg.put, Tg.putL, W_fnB, o_add, o_sub, o_mul, o_fdiv, o_mod, o_pow, o_shl, o_shr, o_band, o_bor, o_bxor, o_addT, o_mulT, c_eqI, c_eqS, c_eqB, c_neI, c_neS, c_neB, c_lt, c_le, c_gt, c_ge, t_bl, t_int, t_tup, t_lst, n_neg, at_0, at_1, at_2, at_3, l_tup, l_lst, l_ref, ll_lst, ll_ref, b_len, b_tuple, b_list, b_abs, b_int, b_intB, b_max2, b_min2, b_all, b_any, a_ref, p_app, p_ins, p_set, set_0, set_1, set_2, s_tup, s_lst, i_int, r_tup, r_lst, g_tup, g_lst, g_ref, g_rng1, g_rng2, v_tupR1, v_tupR2, v_lisR1, v_lisR2, u_add, u_sub, W_copT, W_copV, W_truT, W_notV, W_notT, W_tupD, W_lstF, W_lstT, newF, newT, List.map_cons, List.map_nil, List.cons_append, List.nil_append, List.append_nil, List.length_cons, List.length_nil, List.replicate, List.getElem?_cons_zero, List.getElem?_cons_succ, List.set_cons_zero, List.set_cons_succ, List.getElem?_nil, Nat.reduceAdd, Nat.reduceLT, Nat.reduceSub, Nat.reduceEqDiff, ↓reduceIte, decide_eq_true_eq, decide_eq_false_iff_not, Bool.not_eq_true', Bool.not_eq_false', and_true, true_and, List.set_set, forall_const, true_implies, and_self, eq_self, Int.reduceLE, Int.reduceLT, Int.reducePow, Int.reduceToNat, Nat.reducePow, Int.reduceNeg, ne_eq, not_false_eq_true, Int.reduceEq, not_true_eq_false, true_or, or_true, Nat.reduceLeDiff, if_true, if_false, false_imp_iff, true_imp_iff, false_and, and_false, or_false, false_or]
    exact hq
  obtain ⟨d, s, e, rfl, rfl⟩ := h.out
  exact e
theorem arc_ok {fu n q j k : Nat} {st : Store} (hq : 0 < q) : W (runF GT GP.dfl fu (n + 1) i_arc [.int q, .int j, .int k] st) fun d st' => d = .int (akey q j k) ∧ st' = st := by
  rw [arc_eq (by omega)]
  exact ⟨rfl, rfl⟩
theorem keys_arc {fu n q j : Nat} (hq : 0 < q) : ∀ ps : List Nat, keysD (runF GT GP.dfl fu (n + 1)) i_arc (q : Int) (j : Int) (ps.map nD) = some (ps.map (akey q j))
  | [] => rfl
  | p :: ps => by
    simp only [List.map_cons, keysD]
    rw [arc_eq (by omega)]
    simp only [keys_arc hq ps]
    rfl
theorem round_ok {fu n q h j : Nat} {st : Store} (hs : StOk st) (hq : q ≤ 60) (hj : j < q) (hh : h < 2 ^ q) (hfu : 100 ≤ fu) :
    W (runF GT GP.dfl fu (n + 2) i_round_bits [.int q, .int h, .int j] st) fun d st' => d = .tup ((ring q h j).map nD) ∧ st' = st := by
  refine W_runF (fd := fd_round_bits) (GT_at rfl) rfl ?_
  simp only [fd_round_bits, eev_popI, eev_rem, eev_cnt, p_popI, p_rem, p_asL2, p_cnt, eev_dnew, eev_dget, eev_dgetE, eev_din, eevT_din, eev_dlen, eev_dcmp, eex_dput, Z_sPutD, d_nil, k_one, k_two, k_three, p_dgetI, p_dgetT, p_asDc, p_dgetEI, p_dgetET, p_dinTI, p_dinTT, p_dinVI, p_dinVT, p_dputI, p_dputT, p_dlen, p_dnewI, p_dnewT, o_pairD, o_todD, eev_ext, eev_pop, eex_setII, Z_sSetII, p_ext, p_pop, c_isBB, c_ntBB, eev_cmp2, eevT_cmp2, eevI_enum, eex_rais, W_bCh, g_enL, g_enT, eev_sset, eev_lset, o_sset, o_lset, i_ofS, eevI_rvsd, g_rvT, g_rvL, eev_catM, o_catLM, eev_repL, r_repD, Bool.true_eq_false, Bool.false_eq_true, W_bSrtk, eev_srtk, eevI_zip, inE, o_addL, o_addR, o_catL, c_in, c_notin, b_sorted, b_sum, b_maxL, b_minL, i_of, g_zipT, g_zipL, g_zipR, c_isNI, c_isNN, c_isNT, c_isNL, c_ntNI, c_ntNN, c_ntNT, c_ntNL, ints_map, W_b1, W_b2, W_b3, W_bIf, W_cst, W_vr, W_bAnd, W_bOr, truP_bl, W_consD, W_some, W_none, W_guard, Z_nil, Z_brk, Z_ctn, Z_sSeq, Z_sSet, Z_sPar, Z_sSetI, Z_sAug, Z_sExpr, Z_sRet, Z_sIf, Z_sFor, W_bLc, W_idx, Z_forStep, W_lcStep, wipeE, finF_keep, finF_clean, evs_nil, evO_no, evT_yes, eev_nm, eev_cI, eev_cB, eev_cN, eev_cS, eev_bin, eev_neg, eev_cmp, eev_and, eev_or, eev_not, eev_ife, eev_tup, eev_lst, eev_idx, eev_slc, eev_revT, eev_revL, eev_blt, eev_app, eev_ins, eev_call, eev_tupR1, eev_tupR2, eev_lisR1, eev_lisR2, eev_lc, eevO_no, eevO_so, eevs_nil, eevs_cons, eevT_yes, eevT_cmp, eevT_and, eevT_or, eevT_not, eevT_tr, eevAnd_nil, eevOr_nil, eevAll_nil, eevAll_cons, eevAny_nil, eevAny_cons, eevI_rng1, eevI_rng2, eevI_seq, eex_set, eex_setT, eex_par, eex_setI, eex_aug, eex_expr, eex_ret, eex_ife, eex_whl, eex_for_, eex_brk, eex_ctn, eexs_nil, eexs_cons, eevAnd_1, eevAnd_2, eevOr_1, eevOr_2, W_callN, selD, startE, putN, parPut, Tg.put, Tg.putL, W_fnB, o_add, o_sub, o_mul, o_fdiv, o_mod, o_pow, o_shl, o_shr, o_band, o_bor, o_bxor, o_addT, o_mulT, c_eqI, c_eqS, c_eqB, c_neI, c_neS, c_neB, c_lt, c_le, c_gt, c_ge, t_bl, t_int, t_tup, t_lst, n_neg, at_0, at_1, at_2, at_3, l_tup, l_lst, l_ref, ll_lst, ll_ref, b_len, b_tuple, b_list, b_abs, b_int, b_intB, b_max2, b_min2, b_all, b_any, a_ref, p_app, p_ins, p_set, set_0, set_1, set_2, s_tup, s_lst, i_int, r_tup, r_lst, g_tup, g_lst, g_ref, g_rng1, g_rng2, v_tupR1, v_tupR2, v_lisR1, v_lisR2, u_add, u_sub, W_copT, W_copV, W_truT, W_notV, W_notT, W_tupD, W_lstF, W_lstT, newF, newT, List.map_cons, List.map_nil, List.cons_append, List.nil_append, List.append_nil, List.length_cons, List.length_nil, List.replicate, List.getElem?_cons_zero, List.getElem?_cons_succ, List.set_cons_zero, List.set_cons_succ, List.getElem?_nil, Nat.reduceAdd, Nat.reduceLT, Nat.reduceSub, Nat.reduceEqDiff, ↓reduceIte, decide_eq_true_eq, decide_eq_false_iff_not, Bool.not_eq_true', Bool.not_eq_false', and_true, true_and, List.set_set, forall_const, true_implies, and_self, eq_self, Int.reduceLE, Int.reduceLT, Int.reducePow, Int.reduceToNat, Nat.reducePow, Int.reduceNeg, ne_eq, not_false_eq_true, Int.reduceEq, not_true_eq_false, true_or, or_true, Nat.reduceLeDiff, if_true, if_false, false_imp_iff, true_imp_iff, false_and, and_false, or_false, false_or]
  refine (bits_ok hs (lt60 hq hh) hfu).mono fun d s1 ⟨e, e2⟩ => ?_
  subst e e2
  simp only [eev_popI, eev_rem, eev_cnt, p_popI, p_rem, p_asL2, p_cnt, eev_dnew, eev_dget, eev_dgetE, eev_din, eevT_din, eev_dlen, eev_dcmp, eex_dput, Z_sPutD, d_nil, k_one, k_two, k_three, p_dgetI, p_dgetT, p_asDc, p_dgetEI, p_dgetET, p_dinTI, p_dinTT, p_dinVI, p_dinVT, p_dputI, p_dputT, p_dlen, p_dnewI, p_dnewT, o_pairD, o_todD, eev_ext, eev_pop, eex_setII, Z_sSetII, p_ext, p_pop, c_isBB, c_ntBB, eev_cmp2, eevT_cmp2, eevI_enum, eex_rais, W_bCh, g_enL, g_enT, eev_sset, eev_lset, o_sset, o_lset, i_ofS, eevI_rvsd, g_rvT, g_rvL, eev_catM, o_catLM, eev_repL, r_repD, Bool.true_eq_false, Bool.false_eq_true, W_bSrtk, eev_srtk, eevI_zip, inE, o_addL, o_addR, o_catL, c_in, c_notin, b_sorted, b_sum, b_maxL, b_minL, i_of, g_zipT, g_zipL, g_zipR, c_isNI, c_isNN, c_isNT, c_isNL, c_ntNI, c_ntNN, c_ntNT, c_ntNL, ints_map, W_b1, W_b2, W_b3, W_bIf, W_cst, W_vr, W_bAnd, W_bOr, truP_bl, W_consD, W_some, W_none, W_guard, Z_nil, Z_brk, Z_ctn, Z_sSeq, Z_sSet, Z_sPar, Z_sSetI, Z_sAug, Z_sExpr, Z_sRet, Z_sIf, Z_sFor, W_bLc, W_idx, Z_forStep, W_lcStep, wipeE, finF_keep, finF_clean, evs_nil, evO_no, evT_yes, eev_nm, eev_cI, eev_cB, eev_cN, eev_cS, eev_bin, eev_neg, eev_cmp, eev_and, eev_or, eev_not, eev_ife, eev_tup, eev_lst, eev_idx, eev_slc, eev_revT, eev_revL, eev_blt, eev_app, eev_ins, eev_call, eev_tupR1, eev_tupR2, eev_lisR1, eev_lisR2, eev_lc, eevO_no, eevO_so, eevs_nil, eevs_cons, eevT_yes, eevT_cmp, eevT_and, eevT_or, eevT_not, eevT_tr, eevAnd_nil, eevOr_nil, eevAll_nil, eevAll_cons, eevAny_nil, eevAny_cons, eevI_rng1, eevI_rng2, eevI_seq, eex_set, eex_setT, eex_par, eex_setI, eex_aug, eex_expr, eex_ret, eex_ife, eex_whl, eex_for_, eex_brk, eex_ctn, eexs_nil, eexs_cons, eevAnd_1, eevAnd_2, eevOr_1, eevOr_2, W_callN, selD, startE, putN, parPut, Tg.put, Tg.putL, W_fnB, o_add, o_sub, o_mul, o_fdiv, o_mod, o_pow, o_shl, o_shr, o_band, o_bor, o_bxor, o_addT, o_mulT, c_eqI, c_eqS, c_eqB, c_neI, c_neS, c_neB, c_lt, c_le, c_gt, c_ge, t_bl, t_int, t_tup, t_lst, n_neg, at_0, at_1, at_2, at_3, l_tup, l_lst, l_ref, ll_lst, ll_ref, b_len, b_tuple, b_list, b_abs, b_int, b_intB, b_max2, b_min2, b_all, b_any, a_ref, p_app, p_ins, p_set, set_0, set_1, set_2, s_tup, s_lst, i_int, r_tup, r_lst, g_tup, g_lst, g_ref, g_rng1, g_rng2, v_tupR1, v_tupR2, v_lisR1, v_lisR2, u_add, u_sub, W_copT, W_copV, W_truT, W_notV, W_notT, W_tupD, W_lstF, W_lstT, newF, newT, List.map_cons, List.map_nil, List.cons_append, List.nil_append, List.append_nil, List.length_cons, List.length_nil, List.replicate, List.getElem?_cons_zero, List.getElem?_cons_succ, List.set_cons_zero, List.set_cons_succ, List.getElem?_nil, Nat.reduceAdd, Nat.reduceLT, Nat.reduceSub, Nat.reduceEqDiff, ↓reduceIte, decide_eq_true_eq, decide_eq_false_iff_not, Bool.not_eq_true', Bool.not_eq_false', and_true, true_and, List.set_set, forall_const, true_implies, and_self, eq_self, Int.reduceLE, Int.reduceLT, Int.reducePow, Int.reduceToNat, Nat.reducePow, Int.reduceNeg, ne_eq, not_false_eq_true, Int.reduceEq, not_true_eq_false, true_or, or_true, Nat.reduceLeDiff, if_true, if_false, false_imp_iff, true_imp_iff, false_and, and_false, or_false, false_or, keys_arc (Nat.lt_of_le_of_lt (Nat.zero_le _) hj), ring_srt hj hq hh]
end B
namespace B
open PySem PyProof.Rows L2
theorem hasbit_ok {fu n h k : Nat} {st : Store} : W (runF GT GP.dfl fu (n + 1) i_has_bit [.int h, .int k] st) fun d st' => d = .bl (h.testBit k) ∧ st' = st := by
  refine W_runF (fd := fd_has_bit) (GT_at rfl) rfl ?_
  simp only [fd_has_bit, eev_popI, eev_rem, eev_cnt, p_popI, p_rem, p_asL2, p_cnt, eev_dnew, eev_dget, eev_dgetE, eev_din, eevT_din, eev_dlen, eev_dcmp, eex_dput, Z_sPutD, d_nil, k_one, k_two, k_three, p_dgetI, p_dgetT, p_asDc, p_dgetEI, p_dgetET, p_dinTI, p_dinTT, p_dinVI, p_dinVT, p_dputI, p_dputT, p_dlen, p_dnewI, p_dnewT, o_pairD, o_todD, eev_ext, eev_pop, eex_setII, Z_sSetII, p_ext, p_pop, c_isBB, c_ntBB, eev_cmp2, eevT_cmp2, eevI_enum, eex_rais, W_bCh, g_enL, g_enT, eev_sset, eev_lset, o_sset, o_lset, i_ofS, eevI_rvsd, g_rvT, g_rvL, eev_catM, o_catLM, eev_repL, r_repD, Bool.true_eq_false, Bool.false_eq_true, W_bSrtk, eev_srtk, eevI_zip, inE, o_addL, o_addR, o_catL, c_in, c_notin, b_sorted, b_sum, b_maxL, b_minL, i_of, g_zipT, g_zipL, g_zipR, c_isNI, c_isNN, c_isNT, c_isNL, c_ntNI, c_ntNN, c_ntNT, c_ntNL, ints_map, W_b1, W_b2, W_b3, W_bIf, W_cst, W_vr, W_bAnd, W_bOr, truP_bl, W_consD, W_some, W_none, W_guard, Z_nil, Z_brk, Z_ctn, Z_sSeq, Z_sSet, Z_sPar, Z_sSetI, Z_sAug, Z_sExpr, Z_sRet, Z_sIf, Z_sFor, W_bLc, W_idx, Z_forStep, W_lcStep, wipeE, finF_keep, finF_clean, evs_nil, evO_no, evT_yes, eev_nm, eev_cI, eev_cB, eev_cN, eev_cS, eev_bin, eev_neg, eev_cmp, eev_and, eev_or, eev_not, eev_ife, eev_tup, eev_lst, eev_idx, eev_slc, eev_revT, eev_revL, eev_blt, eev_app, eev_ins, eev_call, eev_tupR1, eev_tupR2, eev_lisR1, eev_lisR2, eev_lc, eevO_no, eevO_so, eevs_nil, eevs_cons, eevT_yes, eevT_cmp, eevT_and, eevT_or, eevT_not, eevT_tr, eevAnd_nil, eevOr_nil, eevAll_nil, eevAll_cons, eevAny_nil, eevAny_cons, eevI_rng1, eevI_rng2, eevI_seq, eex_set, eex_setT, eex_par, eex_setI, eex_aug, eex_expr, eex_ret, eex_ife, eex_whl, eex_for_, eex_brk, eex_ctn, eexs_nil, eexs_cons, eevAnd_1, eevAnd_2, eevOr_1, eevOr_2, W_callN, selD, startE, putN, parPut, Tg.put, Tg.putL, W_fnB, o_add, o_sub, o_mul, o_fdiv, o_mod, o_pow, o_shl, o_shr, o_band, o_bor, o_bxor, o_addT, o_mulT, c_eqI, c_eqS, c_eqB, c_neI, c_neS, c_neB, c_lt, c_le, c_gt, c_ge, t_bl, t_int, t_tup, t_lst, n_neg, at_0, at_1, at_2, at_3, l_tup, l_lst, l_ref, ll_lst, ll_ref, b_len, b_tuple, b_list, b_abs, b_int, b_intB, b_max2, b_min2, b_all, b_any, a_ref, p_app, p_ins, p_set, set_0, set_1, set_2, s_tup, s_lst, i_int, r_tup, r_lst, g_tup, g_lst, g_ref, g_rng1, g_rng2, v_tupR1, v_tupR2, v_lisR1, v_lisR2, u_add, u_sub, W_copT, W_copV, W_truT, W_notV, W_notT, W_tupD, W_lstF, W_lstT, newF, newT, List.map_cons, List.map_nil, List.cons_append, List.nil_append, List.append_nil, List.length_cons, List.length_nil, List.replicate, List.getElem?_cons_zero, List.getElem?_cons_succ, List.set_cons_zero, List.set_cons_succ, List.getElem?_nil, Nat.reduceAdd, Nat.reduceLT, Nat.reduceSub, Nat.reduceEqDiff, ↓reduceIte, decide_eq_true_eq, decide_eq_false_iff_not, Bool.not_eq_true', Bool.not_eq_false', and_true, true_and, List.set_set, forall_const, true_implies, and_self, eq_self, Int.reduceLE, Int.reduceLT, Int.reducePow, Int.reduceToNat, Nat.reducePow, Int.reduceNeg, ne_eq, not_false_eq_true, Int.reduceEq, not_true_eq_false, true_or, or_true, Nat.reduceLeDiff, if_true, if_false, false_imp_iff, true_imp_iff, false_and, and_false, or_false, false_or]
  repeat ((with_reducible refine And.intro ?_ ?_); · first | omega | decide | (unfold SL; omega))
  rw [Int.toNat_natCast, div_cast]
  congr 1
  rw [Bool.eq_iff_iff, decide_eq_true_eq]
  exact fmod2_cast h k
theorem crossed_ok {fu n q h j s : Nat} {st : Store} (hs : StOk st) (hq : q ≤ 60) (hj : j < q) (hh : h < 2 ^ q) (hs2 : s < 2 ^ q) (hfu : 100 ≤ fu) :
    W (runF GT GP.dfl fu (n + 3) i_crossed [.int q, .int h, .int j, .int s] st) fun d st' => d = .tup ((crs q (h ^^^ s) j).map nD) ∧ st' = st := by
  have hw := Nat.xor_lt_two_pow hh hs2
  refine W_runF (fd := fd_crossed) (GT_at rfl) rfl ?_
  simp only [fd_crossed, eev_popI, eev_rem, eev_cnt, p_popI, p_rem, p_asL2, p_cnt, eev_dnew, eev_dget, eev_dgetE, eev_din, eevT_din, eev_dlen, eev_dcmp, eex_dput, Z_sPutD, d_nil, k_one, k_two, k_three, p_dgetI, p_dgetT, p_asDc, p_dgetEI, p_dgetET, p_dinTI, p_dinTT, p_dinVI, p_dinVT, p_dputI, p_dputT, p_dlen, p_dnewI, p_dnewT, o_pairD, o_todD, eev_ext, eev_pop, eex_setII, Z_sSetII, p_ext, p_pop, c_isBB, c_ntBB, eev_cmp2, eevT_cmp2, eevI_enum, eex_rais, W_bCh, g_enL, g_enT, eev_sset, eev_lset, o_sset, o_lset, i_ofS, eevI_rvsd, g_rvT, g_rvL, eev_catM, o_catLM, eev_repL, r_repD, Bool.true_eq_false, Bool.false_eq_true, W_bSrtk, eev_srtk, eevI_zip, inE, o_addL, o_addR, o_catL, c_in, c_notin, b_sorted, b_sum, b_maxL, b_minL, i_of, g_zipT, g_zipL, g_zipR, c_isNI, c_isNN, c_isNT, c_isNL, c_ntNI, c_ntNN, c_ntNT, c_ntNL, ints_map, W_b1, W_b2, W_b3, W_bIf, W_cst, W_vr, W_bAnd, W_bOr, truP_bl, W_consD, W_some, W_none, W_guard, Z_nil, Z_brk, Z_ctn, Z_sSeq, Z_sSet, Z_sPar, Z_sSetI, Z_sAug, Z_sExpr, Z_sRet, Z_sIf, Z_sFor, W_bLc, W_idx, Z_forStep, W_lcStep, wipeE, finF_keep, finF_clean, evs_nil, evO_no, evT_yes, eev_nm, eev_cI, eev_cB, eev_cN, eev_cS, eev_bin, eev_neg, eev_cmp, eev_and, eev_or, eev_not, eev_ife, eev_tup, eev_lst, eev_idx, eev_slc, eev_revT, eev_revL, eev_blt, eev_app, eev_ins, eev_call, eev_tupR1, eev_tupR2, eev_lisR1, eev_lisR2, eev_lc, eevO_no, eevO_so, eevs_nil, eevs_cons, eevT_yes, eevT_cmp, eevT_and, eevT_or, eevT_not, eevT_tr, eevAnd_nil, eevOr_nil, eevAll_nil, eevAll_cons, eevAny_nil, eevAny_cons, eevI_rng1, eevI_rng2, eevI_seq, eex_set, eex_setT, eex_par, eex_setI, eex_aug, eex_expr, eex_ret, eex_ife, eex_whl, eex_for_, eex_brk, eex_ctn, eexs_nil, eexs_cons, eevAnd_1, eevAnd_2, eevOr_1, eevOr_2, W_callN, selD, startE, putN, parPut, Tg.put, Tg.putL, W_fnB, o_add, o_sub, o_mul, o_fdiv, o_mod, o_pow, o_shl, o_shr, o_band, o_bor, o_bxor, o_addT, o_mulT, c_eqI, c_eqS, c_eqB, c_neI, c_neS, c_neB, c_lt, c_le, c_gt, c_ge, t_bl, t_int, t_tup, t_lst, n_neg, at_0, at_1, at_2, at_3, l_tup, l_lst, l_ref, ll_lst, ll_ref, b_len, b_tuple, b_list, b_abs, b_int, b_intB, b_max2, b_min2, b_all, b_any, a_ref, p_app, p_ins, p_set, set_0, set_1, set_2, s_tup, s_lst, i_int, r_tup, r_lst, g_tup, g_lst, g_ref, g_rng1, g_rng2, v_tupR1, v_tupR2, v_lisR1, v_lisR2, u_add, u_sub, W_copT, W_copV, W_truT, W_notV, W_notT, W_tupD, W_lstF, W_lstT, newF, newT, List.map_cons, List.map_nil, List.cons_append, List.nil_append, List.append_nil, List.length_cons, List.length_nil, List.replicate, List.getElem?_cons_zero, List.getElem?_cons_succ, List.set_cons_zero, List.set_cons_succ, List.getElem?_nil, Nat.reduceAdd, Nat.reduceLT, Nat.reduceSub, Nat.reduceEqDiff, ↓reduceIte, decide_eq_true_eq, decide_eq_false_iff_not, Bool.not_eq_true', Bool.not_eq_false', and_true, true_and, List.set_set, forall_const, true_implies, and_self, eq_self, Int.reduceLE, Int.reduceLT, Int.reducePow, Int.reduceToNat, Nat.reducePow, Int.reduceNeg, ne_eq, not_false_eq_true, Int.reduceEq, not_true_eq_false, true_or, or_true, Nat.reduceLeDiff, if_true, if_false, false_imp_iff, true_imp_iff, false_and, and_false, or_false, false_or, bitXor_nat]
  refine (round_ok hs hq hj hw hfu).mono fun d s1 ⟨e, e2⟩ => ?_
  subst e e2
  simp only [eev_popI, eev_rem, eev_cnt, p_popI, p_rem, p_asL2, p_cnt, eev_dnew, eev_dget, eev_dgetE, eev_din, eevT_din, eev_dlen, eev_dcmp, eex_dput, Z_sPutD, d_nil, k_one, k_two, k_three, p_dgetI, p_dgetT, p_asDc, p_dgetEI, p_dgetET, p_dinTI, p_dinTT, p_dinVI, p_dinVT, p_dputI, p_dputT, p_dlen, p_dnewI, p_dnewT, o_pairD, o_todD, eev_ext, eev_pop, eex_setII, Z_sSetII, p_ext, p_pop, c_isBB, c_ntBB, eev_cmp2, eevT_cmp2, eevI_enum, eex_rais, W_bCh, g_enL, g_enT, eev_sset, eev_lset, o_sset, o_lset, i_ofS, eevI_rvsd, g_rvT, g_rvL, eev_catM, o_catLM, eev_repL, r_repD, Bool.true_eq_false, Bool.false_eq_true, W_bSrtk, eev_srtk, eevI_zip, inE, o_addL, o_addR, o_catL, c_in, c_notin, b_sorted, b_sum, b_maxL, b_minL, i_of, g_zipT, g_zipL, g_zipR, c_isNI, c_isNN, c_isNT, c_isNL, c_ntNI, c_ntNN, c_ntNT, c_ntNL, ints_map, W_b1, W_b2, W_b3, W_bIf, W_cst, W_vr, W_bAnd, W_bOr, truP_bl, W_consD, W_some, W_none, W_guard, Z_nil, Z_brk, Z_ctn, Z_sSeq, Z_sSet, Z_sPar, Z_sSetI, Z_sAug, Z_sExpr, Z_sRet, Z_sIf, Z_sFor, W_bLc, W_idx, Z_forStep, W_lcStep, wipeE, finF_keep, finF_clean, evs_nil, evO_no, evT_yes, eev_nm, eev_cI, eev_cB, eev_cN, eev_cS, eev_bin, eev_neg, eev_cmp, eev_and, eev_or, eev_not, eev_ife, eev_tup, eev_lst, eev_idx, eev_slc, eev_revT, eev_revL, eev_blt, eev_app, eev_ins, eev_call, eev_tupR1, eev_tupR2, eev_lisR1, eev_lisR2, eev_lc, eevO_no, eevO_so, eevs_nil, eevs_cons, eevT_yes, eevT_cmp, eevT_and, eevT_or, eevT_not, eevT_tr, eevAnd_nil, eevOr_nil, eevAll_nil, eevAll_cons, eevAny_nil, eevAny_cons, eevI_rng1, eevI_rng2, eevI_seq, eex_set, eex_setT, eex_par, eex_setI, eex_aug, eex_expr, eex_ret, eex_ife, eex_whl, eex_for_, eex_brk, eex_ctn, eexs_nil, eexs_cons, eevAnd_1, eevAnd_2, eevOr_1, eevOr_2, W_callN, selD, startE, putN, parPut, Tg.put, Tg.putL, W_fnB, o_add, o_sub, o_mul, o_fdiv, o_mod, o_pow, o_shl, o_shr, o_band, o_bor, o_bxor, o_addT, o_mulT, c_eqI, c_eqS, c_eqB, c_neI, c_neS, c_neB, c_lt, c_le, c_gt, c_ge, t_bl, t_int, t_tup, t_lst, n_neg, at_0, at_1, at_2, at_3, l_tup, l_lst, l_ref, ll_lst, ll_ref, b_len, b_tuple, b_list, b_abs, b_int, b_intB, b_max2, b_min2, b_all, b_any, a_ref, p_app, p_ins, p_set, set_0, set_1, set_2, s_tup, s_lst, i_int, r_tup, r_lst, g_tup, g_lst, g_ref, g_rng1, g_rng2, v_tupR1, v_tupR2, v_lisR1, v_lisR2, u_add, u_sub, W_copT, W_copV, W_truT, W_notV, W_notT, W_tupD, W_lstF, W_lstT, newF, newT, List.map_cons, List.map_nil, List.cons_append, List.nil_append, List.append_nil, List.length_cons, List.length_nil, List.replicate, List.getElem?_cons_zero, List.getElem?_cons_succ, List.set_cons_zero, List.set_cons_succ, List.getElem?_nil, Nat.reduceAdd, Nat.reduceLT, Nat.reduceSub, Nat.reduceEqDiff, ↓reduceIte, decide_eq_true_eq, decide_eq_false_iff_not, Bool.not_eq_true', Bool.not_eq_false', and_true, true_and, List.set_set, forall_const, true_implies, and_self, eq_self, Int.reduceLE, Int.reduceLT, Int.reducePow, Int.reduceToNat, Nat.reducePow, Int.reduceNeg, ne_eq, not_false_eq_true, Int.reduceEq, not_true_eq_false, true_or, or_true, Nat.reduceLeDiff, if_true, if_false, false_imp_iff, true_imp_iff, false_and, and_false, or_false, false_or]
  have hrl := ring_len (q := q) (h := h ^^^ s) (j := j)
  have hfl := List.length_filter_le (fun k => decide (k ≠ j)) (ring q (h ^^^ s) j)
  refine W_lc_fix (ng j) (fun i x hx => ?_) ?_
  · rw [List.getElem?_map] at hx
    cases e : (ring q (h ^^^ s) j)[i]? with
    | none => rw [e] at hx; cases hx
    | some k =>
      rw [e] at hx
      cases hx
      simp only [eev_popI, eev_rem, eev_cnt, p_popI, p_rem, p_asL2, p_cnt, eev_dnew, eev_dget, eev_dgetE, eev_din, eevT_din, eev_dlen, eev_dcmp, eex_dput, Z_sPutD, d_nil, k_one, k_two, k_three, p_dgetI, p_dgetT, p_asDc, p_dgetEI, p_dgetET, p_dinTI, p_dinTT, p_dinVI, p_dinVT, p_dputI, p_dputT, p_dlen, p_dnewI, p_dnewT, o_pairD, o_todD, eev_ext, eev_pop, eex_setII, Z_sSetII, p_ext, p_pop, c_isBB, c_ntBB, eev_cmp2, eevT_cmp2, eevI_enum, eex_rais, W_bCh, g_enL, g_enT, eev_sset, eev_lset, o_sset, o_lset, i_ofS, eevI_rvsd, g_rvT, g_rvL, eev_catM, o_catLM, eev_repL, r_repD, Bool.true_eq_false, Bool.false_eq_true, W_bSrtk, eev_srtk, eevI_zip, inE, o_addL, o_addR, o_catL, c_in, c_notin, b_sorted, b_sum, b_maxL, b_minL, i_of, g_zipT, g_zipL, g_zipR, c_isNI, c_isNN, c_isNT, c_isNL, c_ntNI, c_ntNN, c_ntNT, c_ntNL, ints_map, W_b1, W_b2, W_b3, W_bIf, W_cst, W_vr, W_bAnd, W_bOr, truP_bl, W_consD, W_some, W_none, W_guard, Z_nil, Z_brk, Z_ctn, Z_sSeq, Z_sSet, Z_sPar, Z_sSetI, Z_sAug, Z_sExpr, Z_sRet, Z_sIf, Z_sFor, W_bLc, W_idx, Z_forStep, W_lcStep, wipeE, finF_keep, finF_clean, evs_nil, evO_no, evT_yes, eev_nm, eev_cI, eev_cB, eev_cN, eev_cS, eev_bin, eev_neg, eev_cmp, eev_and, eev_or, eev_not, eev_ife, eev_tup, eev_lst, eev_idx, eev_slc, eev_revT, eev_revL, eev_blt, eev_app, eev_ins, eev_call, eev_tupR1, eev_tupR2, eev_lisR1, eev_lisR2, eev_lc, eevO_no, eevO_so, eevs_nil, eevs_cons, eevT_yes, eevT_cmp, eevT_and, eevT_or, eevT_not, eevT_tr, eevAnd_nil, eevOr_nil, eevAll_nil, eevAll_cons, eevAny_nil, eevAny_cons, eevI_rng1, eevI_rng2, eevI_seq, eex_set, eex_setT, eex_par, eex_setI, eex_aug, eex_expr, eex_ret, eex_ife, eex_whl, eex_for_, eex_brk, eex_ctn, eexs_nil, eexs_cons, eevAnd_1, eevAnd_2, eevOr_1, eevOr_2, W_callN, selD, startE, putN, parPut, Tg.put, Tg.putL, W_fnB, o_add, o_sub, o_mul, o_fdiv, o_mod, o_pow, o_shl, o_shr, o_band, o_bor, o_bxor, o_addT, o_mulT, c_eqI, c_eqS, c_eqB, c_neI, c_neS, c_neB, c_lt, c_le, c_gt, c_ge, t_bl, t_int, t_tup, t_lst, n_neg, at_0, at_1, at_2, at_3, l_tup, l_lst, l_ref, ll_lst, ll_ref, b_len, b_tuple, b_list, b_abs, b_int, b_intB, b_max2, b_min2, b_all, b_any, a_ref, p_app, p_ins, p_set, set_0, set_1, set_2, s_tup, s_lst, i_int, r_tup, r_lst, g_tup, g_lst, g_ref, g_rng1, g_rng2, v_tupR1, v_tupR2, v_lisR1, v_lisR2, u_add, u_sub, W_copT, W_copV, W_truT, W_notV, W_notT, W_tupD, W_lstF, W_lstT, newF, newT, List.map_cons, List.map_nil, List.cons_append, List.nil_append, List.append_nil, List.length_cons, List.length_nil, List.replicate, List.getElem?_cons_zero, List.getElem?_cons_succ, List.set_cons_zero, List.set_cons_succ, List.getElem?_nil, Nat.reduceAdd, Nat.reduceLT, Nat.reduceSub, Nat.reduceEqDiff, ↓reduceIte, decide_eq_true_eq, decide_eq_false_iff_not, Bool.not_eq_true', Bool.not_eq_false', and_true, true_and, List.set_set, forall_const, true_implies, and_self, eq_self, Int.reduceLE, Int.reduceLT, Int.reducePow, Int.reduceToNat, Nat.reducePow, Int.reduceNeg, ne_eq, not_false_eq_true, Int.reduceEq, not_true_eq_false, true_or, or_true, Nat.reduceLeDiff, if_true, if_false, false_imp_iff, true_imp_iff, false_and, and_false, or_false, false_or]
      refine ⟨fun hne => ?_, fun he => ?_⟩
      · show some (D.int k) = if (k : Int) = (j : Int) then none else some (D.int k)
        rw [if_neg hne]
      · show none = if (k : Int) = (j : Int) then none else some (D.int k)
        rw [if_pos (by simpa using he)]
  · rw [ng_all]
    have hl : (nej q (h ^^^ s) j).length ≤ 60 := by unfold nej; omega
    have en : (ring q (h ^^^ s) j).filter (fun k => decide (k ≠ j)) = nej q (h ^^^ s) j := rfl
    rw [en]
    simp only [List.length_map, eev_popI, eev_rem, eev_cnt, p_popI, p_rem, p_asL2, p_cnt, eev_dnew, eev_dget, eev_dgetE, eev_din, eevT_din, eev_dlen, eev_dcmp, eex_dput, Z_sPutD, d_nil, k_one, k_two, k_three, p_dgetI, p_dgetT, p_asDc, p_dgetEI, p_dgetET, p_dinTI, p_dinTT, p_dinVI, p_dinVT, p_dputI, p_dputT, p_dlen, p_dnewI, p_dnewT, o_pairD, o_todD, eev_ext, eev_pop, eex_setII, Z_sSetII, p_ext, p_pop, c_isBB, c_ntBB, eev_cmp2, eevT_cmp2, eevI_enum, eex_rais, W_bCh, g_enL, g_enT, eev_sset, eev_lset, o_sset, o_lset, i_ofS, eevI_rvsd, g_rvT, g_rvL, eev_catM, o_catLM, eev_repL, r_repD, Bool.true_eq_false, Bool.false_eq_true, W_bSrtk, eev_srtk, eevI_zip, inE, o_addL, o_addR, o_catL, c_in, c_notin, b_sorted, b_sum, b_maxL, b_minL, i_of, g_zipT, g_zipL, g_zipR, c_isNI, c_isNN, c_isNT, c_isNL, c_ntNI, c_ntNN, c_ntNT, c_ntNL, ints_map, W_b1, W_b2, W_b3, W_bIf, W_cst, W_vr, W_bAnd, W_bOr, truP_bl, W_consD, W_some, W_none, W_guard, Z_nil, Z_brk, Z_ctn, Z_sSeq, Z_sSet, Z_sPar, Z_sSetI, Z_sAug, Z_sExpr, Z_sRet, Z_sIf, Z_sFor, W_bLc, W_idx, Z_forStep, W_lcStep, wipeE, finF_keep, finF_clean, evs_nil, evO_no, evT_yes, eev_nm, eev_cI, eev_cB, eev_cN, eev_cS, eev_bin, eev_neg, eev_cmp, eev_and, eev_or, eev_not, eev_ife, eev_tup, eev_lst, eev_idx, eev_slc, eev_revT, eev_revL, eev_blt, eev_app, eev_ins, eev_call, eev_tupR1, eev_tupR2, eev_lisR1, eev_lisR2, eev_lc, eevO_no, eevO_so, eevs_nil, eevs_cons, eevT_yes, eevT_cmp, eevT_and, eevT_or, eevT_not, eevT_tr, eevAnd_nil, eevOr_nil, eevAll_nil, eevAll_cons, eevAny_nil, eevAny_cons, eevI_rng1, eevI_rng2, eevI_seq, eex_set, eex_setT, eex_par, eex_setI, eex_aug, eex_expr, eex_ret, eex_ife, eex_whl, eex_for_, eex_brk, eex_ctn, eexs_nil, eexs_cons, eevAnd_1, eevAnd_2, eevOr_1, eevOr_2, W_callN, selD, startE, putN, parPut, Tg.put, Tg.putL, W_fnB, o_add, o_sub, o_mul, o_fdiv, o_mod, o_pow, o_shl, o_shr, o_band, o_bor, o_bxor, o_addT, o_mulT, c_eqI, c_eqS, c_eqB, c_neI, c_neS, c_neB, c_lt, c_le, c_gt, c_ge, t_bl, t_int, t_tup, t_lst, n_neg, at_0, at_1, at_2, at_3, l_tup, l_lst, l_ref, ll_lst, ll_ref, b_len, b_tuple, b_list, b_abs, b_int, b_intB, b_max2, b_min2, b_all, b_any, a_ref, p_app, p_ins, p_set, set_0, set_1, set_2, s_tup, s_lst, i_int, r_tup, r_lst, g_tup, g_lst, g_ref, g_rng1, g_rng2, v_tupR1, v_tupR2, v_lisR1, v_lisR2, u_add, u_sub, W_copT, W_copV, W_truT, W_notV, W_notT, W_tupD, W_lstF, W_lstT, newF, newT, List.map_cons, List.map_nil, List.cons_append, List.nil_append, List.append_nil, List.length_cons, List.length_nil, List.replicate, List.getElem?_cons_zero, List.getElem?_cons_succ, List.set_cons_zero, List.set_cons_succ, List.getElem?_nil, Nat.reduceAdd, Nat.reduceLT, Nat.reduceSub, Nat.reduceEqDiff, ↓reduceIte, decide_eq_true_eq, decide_eq_false_iff_not, Bool.not_eq_true', Bool.not_eq_false', and_true, true_and, List.set_set, forall_const, true_implies, and_self, eq_self, Int.reduceLE, Int.reduceLT, Int.reducePow, Int.reduceToNat, Nat.reducePow, Int.reduceNeg, ne_eq, not_false_eq_true, Int.reduceEq, not_true_eq_false, true_or, or_true, Nat.reduceLeDiff, if_true, if_false, false_imp_iff, true_imp_iff, false_and, and_false, or_false, false_or]
    repeat ((with_reducible refine And.intro ?_ ?_); · first | omega | decide | (unfold SL; omega))
    refine (hasbit_ok (h := h ^^^ s) (k := j)).mono fun d s2 ⟨e, e2⟩ => ?_
    subst e e2
    simp only [eev_popI, eev_rem, eev_cnt, p_popI, p_rem, p_asL2, p_cnt, eev_dnew, eev_dget, eev_dgetE, eev_din, eevT_din, eev_dlen, eev_dcmp, eex_dput, Z_sPutD, d_nil, k_one, k_two, k_three, p_dgetI, p_dgetT, p_asDc, p_dgetEI, p_dgetET, p_dinTI, p_dinTT, p_dinVI, p_dinVT, p_dputI, p_dputT, p_dlen, p_dnewI, p_dnewT, o_pairD, o_todD, eev_ext, eev_pop, eex_setII, Z_sSetII, p_ext, p_pop, c_isBB, c_ntBB, eev_cmp2, eevT_cmp2, eevI_enum, eex_rais, W_bCh, g_enL, g_enT, eev_sset, eev_lset, o_sset, o_lset, i_ofS, eevI_rvsd, g_rvT, g_rvL, eev_catM, o_catLM, eev_repL, r_repD, Bool.true_eq_false, Bool.false_eq_true, W_bSrtk, eev_srtk, eevI_zip, inE, o_addL, o_addR, o_catL, c_in, c_notin, b_sorted, b_sum, b_maxL, b_minL, i_of, g_zipT, g_zipL, g_zipR, c_isNI, c_isNN, c_isNT, c_isNL, c_ntNI, c_ntNN, c_ntNT, c_ntNL, ints_map, W_b1, W_b2, W_b3, W_bIf, W_cst, W_vr, W_bAnd, W_bOr, truP_bl, W_consD, W_some, W_none, W_guard, Z_nil, Z_brk, Z_ctn, Z_sSeq, Z_sSet, Z_sPar, Z_sSetI, Z_sAug, Z_sExpr, Z_sRet, Z_sIf, Z_sFor, W_bLc, W_idx, Z_forStep, W_lcStep, wipeE, finF_keep, finF_clean, evs_nil, evO_no, evT_yes, eev_nm, eev_cI, eev_cB, eev_cN, eev_cS, eev_bin, eev_neg, eev_cmp, eev_and, eev_or, eev_not, eev_ife, eev_tup, eev_lst, eev_idx, eev_slc, eev_revT, eev_revL, eev_blt, eev_app, eev_ins, eev_call, eev_tupR1, eev_tupR2, eev_lisR1, eev_lisR2, eev_lc, eevO_no, eevO_so, eevs_nil, eevs_cons, eevT_yes, eevT_cmp, eevT_and, eevT_or, eevT_not, eevT_tr, eevAnd_nil, eevOr_nil, eevAll_nil, eevAll_cons, eevAny_nil, eevAny_cons, eevI_rng1, eevI_rng2, eevI_seq, eex_set, eex_setT, eex_par, eex_setI, eex_aug, eex_expr, eex_ret, eex_ife, eex_whl, eex_for_, eex_brk, eex_ctn, eexs_nil, eexs_cons, eevAnd_1, eevAnd_2, eevOr_1, eevOr_2, W_callN, selD, startE, putN, parPut, Tg.put, Tg.putL, W_fnB, o_add, o_sub, o_mul, o_fdiv, o_mod, o_pow, o_shl, o_shr, o_band, o_bor, o_bxor, o_addT, o_mulT, c_eqI, c_eqS, c_eqB, c_neI, c_neS, c_neB, c_lt, c_le, c_gt, c_ge, t_bl, t_int, t_tup, t_lst, n_neg, at_0, at_1, at_2, at_3, l_tup, l_lst, l_ref, ll_lst, ll_ref, b_len, b_tuple, b_list, b_abs, b_int, b_intB, b_max2, b_min2, b_all, b_any, a_ref, p_app, p_ins, p_set, set_0, set_1, set_2, s_tup, s_lst, i_int, r_tup, r_lst, g_tup, g_lst, g_ref, g_rng1, g_rng2, v_tupR1, v_tupR2, v_lisR1, v_lisR2, u_add, u_sub, W_copT, W_copV, W_truT, W_notV, W_notT, W_tupD, W_lstF, W_lstT, newF, newT, List.map_cons, List.map_nil, List.cons_append, List.nil_append, List.append_nil, List.length_cons, List.length_nil, List.replicate, List.getElem?_cons_zero, List.getElem?_cons_succ, List.set_cons_zero, List.set_cons_succ, List.getElem?_nil, Nat.reduceAdd, Nat.reduceLT, Nat.reduceSub, Nat.reduceEqDiff, ↓reduceIte, decide_eq_true_eq, decide_eq_false_iff_not, Bool.not_eq_true', Bool.not_eq_false', and_true, true_and, List.set_set, forall_const, true_implies, and_self, eq_self, Int.reduceLE, Int.reduceLT, Int.reducePow, Int.reduceToNat, Nat.reducePow, Int.reduceNeg, ne_eq, not_false_eq_true, Int.reduceEq, not_true_eq_false, true_or, or_true, Nat.reduceLeDiff, if_true, if_false, false_imp_iff, true_imp_iff, false_and, and_false, or_false, false_or]
    unfold crs
    cases hb : (h ^^^ s).testBit j with
    | true =>
      simp only [eev_popI, eev_rem, eev_cnt, p_popI, p_rem, p_asL2, p_cnt, eev_dnew, eev_dget, eev_dgetE, eev_din, eevT_din, eev_dlen, eev_dcmp, eex_dput, Z_sPutD, d_nil, k_one, k_two, k_three, p_dgetI, p_dgetT, p_asDc, p_dgetEI, p_dgetET, p_dinTI, p_dinTT, p_dinVI, p_dinVT, p_dputI, p_dputT, p_dlen, p_dnewI, p_dnewT, o_pairD, o_todD, eev_ext, eev_pop, eex_setII, Z_sSetII, p_ext, p_pop, c_isBB, c_ntBB, eev_cmp2, eevT_cmp2, eevI_enum, eex_rais, W_bCh, g_enL, g_enT, eev_sset, eev_lset, o_sset, o_lset, i_ofS, eevI_rvsd, g_rvT, g_rvL, eev_catM, o_catLM, eev_repL, r_repD, Bool.true_eq_false, Bool.false_eq_true, W_bSrtk, eev_srtk, eevI_zip, inE, o_addL, o_addR, o_catL, c_in, c_notin, b_sorted, b_sum, b_maxL, b_minL, i_of, g_zipT, g_zipL, g_zipR, c_isNI, c_isNN, c_isNT, c_isNL, c_ntNI, c_ntNN, c_ntNT, c_ntNL, ints_map, W_b1, W_b2, W_b3, W_bIf, W_cst, W_vr, W_bAnd, W_bOr, truP_bl, W_consD, W_some, W_none, W_guard, Z_nil, Z_brk, Z_ctn, Z_sSeq, Z_sSet, Z_sPar, Z_sSetI, Z_sAug, Z_sExpr, Z_sRet, Z_sIf, Z_sFor, W_bLc, W_idx, Z_forStep, W_lcStep, wipeE, finF_keep, finF_clean, evs_nil, evO_no, evT_yes, eev_nm, eev_cI, eev_cB, eev_cN, eev_cS, eev_bin, eev_neg, eev_cmp, eev_and, eev_or, eev_not, eev_ife, eev_tup, eev_lst, eev_idx, eev_slc, eev_revT, eev_revL, eev_blt, eev_app, eev_ins, eev_call, eev_tupR1, eev_tupR2, eev_lisR1, eev_lisR2, eev_lc, eevO_no, eevO_so, eevs_nil, eevs_cons, eevT_yes, eevT_cmp, eevT_and, eevT_or, eevT_not, eevT_tr, eevAnd_nil, eevOr_nil, eevAll_nil, eevAll_cons, eevAny_nil, eevAny_cons, eevI_rng1, eevI_rng2, eevI_seq, eex_set, eex_setT, eex_par, eex_setI, eex_aug, eex_expr, eex_ret, eex_ife, eex_whl, eex_for_, eex_brk, eex_ctn, eexs_nil, eexs_cons, eevAnd_1, eevAnd_2, eevOr_1, eevOr_2, W_callN, selD, startE, putN, parPut, Tg.put, Tg.putL, W_fnB, o_add, o_sub, o_mul, o_fdiv, o_mod, o_pow, o_shl, o_shr, o_band, o_bor, o_bxor, o_addT, o_mulT, c_eqI, c_eqS, c_eqB, c_neI, c_neS, c_neB, c_lt, c_le, c_gt, c_ge, t_bl, t_int, t_tup, t_lst, n_neg, at_0, at_1, at_2, at_3, l_tup, l_lst, l_ref, ll_lst, ll_ref, b_len, b_tuple, b_list, b_abs, b_int, b_intB, b_max2, b_min2, b_all, b_any, a_ref, p_app, p_ins, p_set, set_0, set_1, set_2, s_tup, s_lst, i_int, r_tup, r_lst, g_tup, g_lst, g_ref, g_rng1, g_rng2, v_tupR1, v_tupR2, v_lisR1, v_lisR2, u_add, u_sub, W_copT, W_copV, W_truT, W_notV, W_notT, W_tupD, W_lstF, W_lstT, newF, newT, List.map_cons, List.map_nil, List.cons_append, List.nil_append, List.append_nil, List.length_cons, List.length_nil, List.replicate, List.getElem?_cons_zero, List.getElem?_cons_succ, List.set_cons_zero, List.set_cons_succ, List.getElem?_nil, Nat.reduceAdd, Nat.reduceLT, Nat.reduceSub, Nat.reduceEqDiff, ↓reduceIte, decide_eq_true_eq, decide_eq_false_iff_not, Bool.not_eq_true', Bool.not_eq_false', and_true, true_and, List.set_set, forall_const, true_implies, and_self, eq_self, Int.reduceLE, Int.reduceLT, Int.reducePow, Int.reduceToNat, Nat.reducePow, Int.reduceNeg, ne_eq, not_false_eq_true, Int.reduceEq, not_true_eq_false, true_or, or_true, Nat.reduceLeDiff, if_true, if_false, false_imp_iff, true_imp_iff, false_and, and_false, or_false, false_or, Bool.not_true, Int.toNat_zero, List.flatten_nil, List.length_map]
      unfold SL
      omega
    | false =>
      simp only [eev_popI, eev_rem, eev_cnt, p_popI, p_rem, p_asL2, p_cnt, eev_dnew, eev_dget, eev_dgetE, eev_din, eevT_din, eev_dlen, eev_dcmp, eex_dput, Z_sPutD, d_nil, k_one, k_two, k_three, p_dgetI, p_dgetT, p_asDc, p_dgetEI, p_dgetET, p_dinTI, p_dinTT, p_dinVI, p_dinVT, p_dputI, p_dputT, p_dlen, p_dnewI, p_dnewT, o_pairD, o_todD, eev_ext, eev_pop, eex_setII, Z_sSetII, p_ext, p_pop, c_isBB, c_ntBB, eev_cmp2, eevT_cmp2, eevI_enum, eex_rais, W_bCh, g_enL, g_enT, eev_sset, eev_lset, o_sset, o_lset, i_ofS, eevI_rvsd, g_rvT, g_rvL, eev_catM, o_catLM, eev_repL, r_repD, Bool.true_eq_false, Bool.false_eq_true, W_bSrtk, eev_srtk, eevI_zip, inE, o_addL, o_addR, o_catL, c_in, c_notin, b_sorted, b_sum, b_maxL, b_minL, i_of, g_zipT, g_zipL, g_zipR, c_isNI, c_isNN, c_isNT, c_isNL, c_ntNI, c_ntNN, c_ntNT, c_ntNL, ints_map, W_b1, W_b2, W_b3, W_bIf, W_cst, W_vr, W_bAnd, W_bOr, truP_bl, W_consD, W_some, W_none, W_guard, Z_nil, Z_brk, Z_ctn, Z_sSeq, Z_sSet, Z_sPar, Z_sSetI, Z_sAug, Z_sExpr, Z_sRet, Z_sIf, Z_sFor, W_bLc, W_idx, Z_forStep, W_lcStep, wipeE, finF_keep, finF_clean, evs_nil, evO_no, evT_yes, eev_nm, eev_cI, eev_cB, eev_cN, eev_cS, eev_bin, eev_neg, eev_cmp, eev_and, eev_or, eev_not, eev_ife, eev_tup, eev_lst, eev_idx, eev_slc, eev_revT, eev_revL, eev_blt, eev_app, eev_ins, eev_call, eev_tupR1, eev_tupR2, eev_lisR1, eev_lisR2, eev_lc, eevO_no, eevO_so, eevs_nil, eevs_cons, eevT_yes, eevT_cmp, eevT_and, eevT_or, eevT_not, eevT_tr, eevAnd_nil, eevOr_nil, eevAll_nil, eevAll_cons, eevAny_nil, eevAny_cons, eevI_rng1, eevI_rng2, eevI_seq, eex_set, eex_setT, eex_par, eex_setI, eex_aug, eex_expr, eex_ret, eex_ife, eex_whl, eex_for_, eex_brk, eex_ctn, eexs_nil, eexs_cons, eevAnd_1, eevAnd_2, eevOr_1, eevOr_2, W_callN, selD, startE, putN, parPut, Tg.put, Tg.putL, W_fnB, o_add, o_sub, o_mul, o_fdiv, o_mod, o_pow, o_shl, o_shr, o_band, o_bor, o_bxor, o_addT, o_mulT, c_eqI, c_eqS, c_eqB, c_neI, c_neS, c_neB, c_lt, c_le, c_gt, c_ge, t_bl, t_int, t_tup, t_lst, n_neg, at_0, at_1, at_2, at_3, l_tup, l_lst, l_ref, ll_lst, ll_ref, b_len, b_tuple, b_list, b_abs, b_int, b_intB, b_max2, b_min2, b_all, b_any, a_ref, p_app, p_ins, p_set, set_0, set_1, set_2, s_tup, s_lst, i_int, r_tup, r_lst, g_tup, g_lst, g_ref, g_rng1, g_rng2, v_tupR1, v_tupR2, v_lisR1, v_lisR2, u_add, u_sub, W_copT, W_copV, W_truT, W_notV, W_notT, W_tupD, W_lstF, W_lstT, newF, newT, List.map_cons, List.map_nil, List.cons_append, List.nil_append, List.append_nil, List.length_cons, List.length_nil, List.replicate, List.getElem?_cons_zero, List.getElem?_cons_succ, List.set_cons_zero, List.set_cons_succ, List.getElem?_nil, Nat.reduceAdd, Nat.reduceLT, Nat.reduceSub, Nat.reduceEqDiff, ↓reduceIte, decide_eq_true_eq, decide_eq_false_iff_not, Bool.not_eq_true', Bool.not_eq_false', and_true, true_and, List.set_set, forall_const, true_implies, and_self, eq_self, Int.reduceLE, Int.reduceLT, Int.reducePow, Int.reduceToNat, Nat.reducePow, Int.reduceNeg, ne_eq, not_false_eq_true, Int.reduceEq, not_true_eq_false, true_or, or_true, Nat.reduceLeDiff, if_true, if_false, false_imp_iff, true_imp_iff, false_and, and_false, or_false, false_or, Bool.not_false, List.length_map, List.flatten_cons, List.flatten_nil, Int.toNat_one, List.length_append]
      repeat ((with_reducible refine And.intro ?_ ?_); · first | omega | decide | (unfold SL; omega))
      rw [List.map_append]
      rfl
end B
namespace B
open PySem PyProof.Rows L2
/-- a list of the store grows by one crossed bit -/
theorem way_ok {fu n q h j s : Nat} {st : Store} (hs : StOk st) (hq : q ≤ 60) (hj : j < q) (hh : h < 2 ^ q) (hs2 : s < 2 ^ q) (hfu : 100 ≤ fu) :
    W (runF GT GP.dfl fu (n + 4) i_way [.int q, .int h, .int j, .int s] st) fun d st' => d = .tup ((wayL s (crs q (h ^^^ s) j)).map nD) ∧ st' = st := by
  have hcl := crs_len (q := q) (w := h ^^^ s) (j := j)
  have hclt := crs_lt (q := q) (w := h ^^^ s) hj
  refine W_runF (fd := fd_way) (GT_at rfl) rfl ?_
  simp only [fd_way, eev_popI, eev_rem, eev_cnt, p_popI, p_rem, p_asL2, p_cnt, eev_dnew, eev_dget, eev_dgetE, eev_din, eevT_din, eev_dlen, eev_dcmp, eex_dput, Z_sPutD, d_nil, k_one, k_two, k_three, p_dgetI, p_dgetT, p_asDc, p_dgetEI, p_dgetET, p_dinTI, p_dinTT, p_dinVI, p_dinVT, p_dputI, p_dputT, p_dlen, p_dnewI, p_dnewT, o_pairD, o_todD, eev_ext, eev_pop, eex_setII, Z_sSetII, p_ext, p_pop, c_isBB, c_ntBB, eev_cmp2, eevT_cmp2, eevI_enum, eex_rais, W_bCh, g_enL, g_enT, eev_sset, eev_lset, o_sset, o_lset, i_ofS, eevI_rvsd, g_rvT, g_rvL, eev_catM, o_catLM, eev_repL, r_repD, Bool.true_eq_false, Bool.false_eq_true, W_bSrtk, eev_srtk, eevI_zip, inE, o_addL, o_addR, o_catL, c_in, c_notin, b_sorted, b_sum, b_maxL, b_minL, i_of, g_zipT, g_zipL, g_zipR, c_isNI, c_isNN, c_isNT, c_isNL, c_ntNI, c_ntNN, c_ntNT, c_ntNL, ints_map, W_b1, W_b2, W_b3, W_bIf, W_cst, W_vr, W_bAnd, W_bOr, truP_bl, W_consD, W_some, W_none, W_guard, Z_nil, Z_brk, Z_ctn, Z_sSeq, Z_sSet, Z_sPar, Z_sSetI, Z_sAug, Z_sExpr, Z_sRet, Z_sIf, Z_sFor, W_bLc, W_idx, Z_forStep, W_lcStep, wipeE, finF_keep, finF_clean, evs_nil, evO_no, evT_yes, eev_nm, eev_cI, eev_cB, eev_cN, eev_cS, eev_bin, eev_neg, eev_cmp, eev_and, eev_or, eev_not, eev_ife, eev_tup, eev_lst, eev_idx, eev_slc, eev_revT, eev_revL, eev_blt, eev_app, eev_ins, eev_call, eev_tupR1, eev_tupR2, eev_lisR1, eev_lisR2, eev_lc, eevO_no, eevO_so, eevs_nil, eevs_cons, eevT_yes, eevT_cmp, eevT_and, eevT_or, eevT_not, eevT_tr, eevAnd_nil, eevOr_nil, eevAll_nil, eevAll_cons, eevAny_nil, eevAny_cons, eevI_rng1, eevI_rng2, eevI_seq, eex_set, eex_setT, eex_par, eex_setI, eex_aug, eex_expr, eex_ret, eex_ife, eex_whl, eex_for_, eex_brk, eex_ctn, eexs_nil, eexs_cons, eevAnd_1, eevAnd_2, eevOr_1, eevOr_2, W_callN, selD, startE, putN, parPut, Tg.put, Tg.putL, W_fnB, o_add, o_sub, o_mul, o_fdiv, o_mod, o_pow, o_shl, o_shr, o_band, o_bor, o_bxor, o_addT, o_mulT, c_eqI, c_eqS, c_eqB, c_neI, c_neS, c_neB, c_lt, c_le, c_gt, c_ge, t_bl, t_int, t_tup, t_lst, n_neg, at_0, at_1, at_2, at_3, l_tup, l_lst, l_ref, ll_lst, ll_ref, b_len, b_tuple, b_list, b_abs, b_int, b_intB, b_max2, b_min2, b_all, b_any, a_ref, p_app, p_ins, p_set, set_0, set_1, set_2, s_tup, s_lst, i_int, r_tup, r_lst, g_tup, g_lst, g_ref, g_rng1, g_rng2, v_tupR1, v_tupR2, v_lisR1, v_lisR2, u_add, u_sub, W_copT, W_copV, W_truT, W_notV, W_notT, W_tupD, W_lstF, W_lstT, newF, newT, List.map_cons, List.map_nil, List.cons_append, List.nil_append, List.append_nil, List.length_cons, List.length_nil, List.replicate, List.getElem?_cons_zero, List.getElem?_cons_succ, List.set_cons_zero, List.set_cons_succ, List.getElem?_nil, Nat.reduceAdd, Nat.reduceLT, Nat.reduceSub, Nat.reduceEqDiff, ↓reduceIte, decide_eq_true_eq, decide_eq_false_iff_not, Bool.not_eq_true', Bool.not_eq_false', and_true, true_and, List.set_set, forall_const, true_implies, and_self, eq_self, Int.reduceLE, Int.reduceLT, Int.reducePow, Int.reduceToNat, Nat.reducePow, Int.reduceNeg, ne_eq, not_false_eq_true, Int.reduceEq, not_true_eq_false, true_or, or_true, Nat.reduceLeDiff, if_true, if_false, false_imp_iff, true_imp_iff, false_and, and_false, or_false, false_or]
  repeat ((with_reducible refine And.intro ?_ ?_); · first | omega | decide | (unfold SL; omega))
  refine (crossed_ok (hs.app rfl) hq hj hh hs2 hfu).mono fun d s1 ⟨e, e2⟩ => ?_
  subst e e2
  simp only [eev_popI, eev_rem, eev_cnt, p_popI, p_rem, p_asL2, p_cnt, eev_dnew, eev_dget, eev_dgetE, eev_din, eevT_din, eev_dlen, eev_dcmp, eex_dput, Z_sPutD, d_nil, k_one, k_two, k_three, p_dgetI, p_dgetT, p_asDc, p_dgetEI, p_dgetET, p_dinTI, p_dinTT, p_dinVI, p_dinVT, p_dputI, p_dputT, p_dlen, p_dnewI, p_dnewT, o_pairD, o_todD, eev_ext, eev_pop, eex_setII, Z_sSetII, p_ext, p_pop, c_isBB, c_ntBB, eev_cmp2, eevT_cmp2, eevI_enum, eex_rais, W_bCh, g_enL, g_enT, eev_sset, eev_lset, o_sset, o_lset, i_ofS, eevI_rvsd, g_rvT, g_rvL, eev_catM, o_catLM, eev_repL, r_repD, Bool.true_eq_false, Bool.false_eq_true, W_bSrtk, eev_srtk, eevI_zip, inE, o_addL, o_addR, o_catL, c_in, c_notin, b_sorted, b_sum, b_maxL, b_minL, i_of, g_zipT, g_zipL, g_zipR, c_isNI, c_isNN, c_isNT, c_isNL, c_ntNI, c_ntNN, c_ntNT, c_ntNL, ints_map, W_b1, W_b2, W_b3, W_bIf, W_cst, W_vr, W_bAnd, W_bOr, truP_bl, W_consD, W_some, W_none, W_guard, Z_nil, Z_brk, Z_ctn, Z_sSeq, Z_sSet, Z_sPar, Z_sSetI, Z_sAug, Z_sExpr, Z_sRet, Z_sIf, Z_sFor, W_bLc, W_idx, Z_forStep, W_lcStep, wipeE, finF_keep, finF_clean, evs_nil, evO_no, evT_yes, eev_nm, eev_cI, eev_cB, eev_cN, eev_cS, eev_bin, eev_neg, eev_cmp, eev_and, eev_or, eev_not, eev_ife, eev_tup, eev_lst, eev_idx, eev_slc, eev_revT, eev_revL, eev_blt, eev_app, eev_ins, eev_call, eev_tupR1, eev_tupR2, eev_lisR1, eev_lisR2, eev_lc, eevO_no, eevO_so, eevs_nil, eevs_cons, eevT_yes, eevT_cmp, eevT_and, eevT_or, eevT_not, eevT_tr, eevAnd_nil, eevOr_nil, eevAll_nil, eevAll_cons, eevAny_nil, eevAny_cons, eevI_rng1, eevI_rng2, eevI_seq, eex_set, eex_setT, eex_par, eex_setI, eex_aug, eex_expr, eex_ret, eex_ife, eex_whl, eex_for_, eex_brk, eex_ctn, eexs_nil, eexs_cons, eevAnd_1, eevAnd_2, eevOr_1, eevOr_2, W_callN, selD, startE, putN, parPut, Tg.put, Tg.putL, W_fnB, o_add, o_sub, o_mul, o_fdiv, o_mod, o_pow, o_shl, o_shr, o_band, o_bor, o_bxor, o_addT, o_mulT, c_eqI, c_eqS, c_eqB, c_neI, c_neS, c_neB, c_lt, c_le, c_gt, c_ge, t_bl, t_int, t_tup, t_lst, n_neg, at_0, at_1, at_2, at_3, l_tup, l_lst, l_ref, ll_lst, ll_ref, b_len, b_tuple, b_list, b_abs, b_int, b_intB, b_max2, b_min2, b_all, b_any, a_ref, p_app, p_ins, p_set, set_0, set_1, set_2, s_tup, s_lst, i_int, r_tup, r_lst, g_tup, g_lst, g_ref, g_rng1, g_rng2, v_tupR1, v_tupR2, v_lisR1, v_lisR2, u_add, u_sub, W_copT, W_copV, W_truT, W_notV, W_notT, W_tupD, W_lstF, W_lstT, newF, newT, List.map_cons, List.map_nil, List.cons_append, List.nil_append, List.append_nil, List.length_cons, List.length_nil, List.replicate, List.getElem?_cons_zero, List.getElem?_cons_succ, List.set_cons_zero, List.set_cons_succ, List.getElem?_nil, Nat.reduceAdd, Nat.reduceLT, Nat.reduceSub, Nat.reduceEqDiff, ↓reduceIte, decide_eq_true_eq, decide_eq_false_iff_not, Bool.not_eq_true', Bool.not_eq_false', and_true, true_and, List.set_set, forall_const, true_implies, and_self, eq_self, Int.reduceLE, Int.reduceLT, Int.reducePow, Int.reduceToNat, Nat.reducePow, Int.reduceNeg, ne_eq, not_false_eq_true, Int.reduceEq, not_true_eq_false, true_or, or_true, Nat.reduceLeDiff, if_true, if_false, false_imp_iff, true_imp_iff, false_and, and_false, or_false, false_or]
  generalize hks : crs q (h ^^^ s) j = ks at *
  refine Z_for_fix (fun i env s1 => i ≤ ks.length ∧ ∃ y, env = [some (.int q), some (.int h), some (.int j), some (.int s), some (.ref st.length), y] ∧ s1 = st ++ [.lst ((wayL s (ks.take i)).map nD)]) ⟨Nat.zero_le _, _, rfl, rfl⟩ (fun i x env s1 hx => ?_) fun env s1 => ?_
  · rintro ⟨hi, y, rfl, rfl⟩
    rw [List.getElem?_map] at hx
    cases e : ks[i]? with
    | none => rw [e] at hx; cases hx
    | some k =>
      rw [e] at hx
      cases hx
      have hil := (List.getElem?_eq_some_iff.mp e).1
      simp only [eev_popI, eev_rem, eev_cnt, p_popI, p_rem, p_asL2, p_cnt, eev_dnew, eev_dget, eev_dgetE, eev_din, eevT_din, eev_dlen, eev_dcmp, eex_dput, Z_sPutD, d_nil, k_one, k_two, k_three, p_dgetI, p_dgetT, p_asDc, p_dgetEI, p_dgetET, p_dinTI, p_dinTT, p_dinVI, p_dinVT, p_dputI, p_dputT, p_dlen, p_dnewI, p_dnewT, o_pairD, o_todD, eev_ext, eev_pop, eex_setII, Z_sSetII, p_ext, p_pop, c_isBB, c_ntBB, eev_cmp2, eevT_cmp2, eevI_enum, eex_rais, W_bCh, g_enL, g_enT, eev_sset, eev_lset, o_sset, o_lset, i_ofS, eevI_rvsd, g_rvT, g_rvL, eev_catM, o_catLM, eev_repL, r_repD, Bool.true_eq_false, Bool.false_eq_true, W_bSrtk, eev_srtk, eevI_zip, inE, o_addL, o_addR, o_catL, c_in, c_notin, b_sorted, b_sum, b_maxL, b_minL, i_of, g_zipT, g_zipL, g_zipR, c_isNI, c_isNN, c_isNT, c_isNL, c_ntNI, c_ntNN, c_ntNT, c_ntNL, ints_map, W_b1, W_b2, W_b3, W_bIf, W_cst, W_vr, W_bAnd, W_bOr, truP_bl, W_consD, W_some, W_none, W_guard, Z_nil, Z_brk, Z_ctn, Z_sSeq, Z_sSet, Z_sPar, Z_sSetI, Z_sAug, Z_sExpr, Z_sRet, Z_sIf, Z_sFor, W_bLc, W_idx, Z_forStep, W_lcStep, wipeE, finF_keep, finF_clean, evs_nil, evO_no, evT_yes, eev_nm, eev_cI, eev_cB, eev_cN, eev_cS, eev_bin, eev_neg, eev_cmp, eev_and, eev_or, eev_not, eev_ife, eev_tup, eev_lst, eev_idx, eev_slc, eev_revT, eev_revL, eev_blt, eev_app, eev_ins, eev_call, eev_tupR1, eev_tupR2, eev_lisR1, eev_lisR2, eev_lc, eevO_no, eevO_so, eevs_nil, eevs_cons, eevT_yes, eevT_cmp, eevT_and, eevT_or, eevT_not, eevT_tr, eevAnd_nil, eevOr_nil, eevAll_nil, eevAll_cons, eevAny_nil, eevAny_cons, eevI_rng1, eevI_rng2, eevI_seq, eex_set, eex_setT, eex_par, eex_setI, eex_aug, eex_expr, eex_ret, eex_ife, eex_whl, eex_for_, eex_brk, eex_ctn, eexs_nil, eexs_cons, eevAnd_1, eevAnd_2, eevOr_1, eevOr_2, W_callN, selD, startE, putN, parPut, Tg.put, Tg.putL, W_fnB, o_add, o_sub, o_mul, o_fdiv, o_mod, o_pow, o_shl, o_shr, o_band, o_bor, o_bxor, o_addT, o_mulT, c_eqI, c_eqS, c_eqB, c_neI, c_neS, c_neB, c_lt, c_le, c_gt, c_ge, t_bl, t_int, t_tup, t_lst, n_neg, at_0, at_1, at_2, at_3, l_tup, l_lst, l_ref, ll_lst, ll_ref, b_len, b_tuple, b_list, b_abs, b_int, b_intB, b_max2, b_min2, b_all, b_any, a_ref, p_app, p_ins, p_set, set_0, set_1, set_2, s_tup, s_lst, i_int, r_tup, r_lst, g_tup, g_lst, g_ref, g_rng1, g_rng2, v_tupR1, v_tupR2, v_lisR1, v_lisR2, u_add, u_sub, W_copT, W_copV, W_truT, W_notV, W_notT, W_tupD, W_lstF, W_lstT, newF, newT, List.map_cons, List.map_nil, List.cons_append, List.nil_append, List.append_nil, List.length_cons, List.length_nil, List.replicate, List.getElem?_cons_zero, List.getElem?_cons_succ, List.set_cons_zero, List.set_cons_succ, List.getElem?_nil, Nat.reduceAdd, Nat.reduceLT, Nat.reduceSub, Nat.reduceEqDiff, ↓reduceIte, decide_eq_true_eq, decide_eq_false_iff_not, Bool.not_eq_true', Bool.not_eq_false', and_true, true_and, List.set_set, forall_const, true_implies, and_self, eq_self, Int.reduceLE, Int.reduceLT, Int.reducePow, Int.reduceToNat, Nat.reducePow, Int.reduceNeg, ne_eq, not_false_eq_true, Int.reduceEq, not_true_eq_false, true_or, or_true, Nat.reduceLeDiff, if_true, if_false, false_imp_iff, true_imp_iff, false_and, and_false, or_false, false_or, app_last]
      have e1 : atD ((wayL s (ks.take i)).map nD) (-1) = some (nD (lastx s (ks.take i))) := by
        rw [at_last (by simpa using wayL_ne _ _), List.getLast?_map, wayL_last]; rfl
      have hk := hclt k (List.mem_of_getElem? e)
      simp only [e1, eev_popI, eev_rem, eev_cnt, p_popI, p_rem, p_asL2, p_cnt, eev_dnew, eev_dget, eev_dgetE, eev_din, eevT_din, eev_dlen, eev_dcmp, eex_dput, Z_sPutD, d_nil, k_one, k_two, k_three, p_dgetI, p_dgetT, p_asDc, p_dgetEI, p_dgetET, p_dinTI, p_dinTT, p_dinVI, p_dinVT, p_dputI, p_dputT, p_dlen, p_dnewI, p_dnewT, o_pairD, o_todD, eev_ext, eev_pop, eex_setII, Z_sSetII, p_ext, p_pop, c_isBB, c_ntBB, eev_cmp2, eevT_cmp2, eevI_enum, eex_rais, W_bCh, g_enL, g_enT, eev_sset, eev_lset, o_sset, o_lset, i_ofS, eevI_rvsd, g_rvT, g_rvL, eev_catM, o_catLM, eev_repL, r_repD, Bool.true_eq_false, Bool.false_eq_true, W_bSrtk, eev_srtk, eevI_zip, inE, o_addL, o_addR, o_catL, c_in, c_notin, b_sorted, b_sum, b_maxL, b_minL, i_of, g_zipT, g_zipL, g_zipR, c_isNI, c_isNN, c_isNT, c_isNL, c_ntNI, c_ntNN, c_ntNT, c_ntNL, ints_map, W_b1, W_b2, W_b3, W_bIf, W_cst, W_vr, W_bAnd, W_bOr, truP_bl, W_consD, W_some, W_none, W_guard, Z_nil, Z_brk, Z_ctn, Z_sSeq, Z_sSet, Z_sPar, Z_sSetI, Z_sAug, Z_sExpr, Z_sRet, Z_sIf, Z_sFor, W_bLc, W_idx, Z_forStep, W_lcStep, wipeE, finF_keep, finF_clean, evs_nil, evO_no, evT_yes, eev_nm, eev_cI, eev_cB, eev_cN, eev_cS, eev_bin, eev_neg, eev_cmp, eev_and, eev_or, eev_not, eev_ife, eev_tup, eev_lst, eev_idx, eev_slc, eev_revT, eev_revL, eev_blt, eev_app, eev_ins, eev_call, eev_tupR1, eev_tupR2, eev_lisR1, eev_lisR2, eev_lc, eevO_no, eevO_so, eevs_nil, eevs_cons, eevT_yes, eevT_cmp, eevT_and, eevT_or, eevT_not, eevT_tr, eevAnd_nil, eevOr_nil, eevAll_nil, eevAll_cons, eevAny_nil, eevAny_cons, eevI_rng1, eevI_rng2, eevI_seq, eex_set, eex_setT, eex_par, eex_setI, eex_aug, eex_expr, eex_ret, eex_ife, eex_whl, eex_for_, eex_brk, eex_ctn, eexs_nil, eexs_cons, eevAnd_1, eevAnd_2, eevOr_1, eevOr_2, W_callN, selD, startE, putN, parPut, Tg.put, Tg.putL, W_fnB, o_add, o_sub, o_mul, o_fdiv, o_mod, o_pow, o_shl, o_shr, o_band, o_bor, o_bxor, o_addT, o_mulT, c_eqI, c_eqS, c_eqB, c_neI, c_neS, c_neB, c_lt, c_le, c_gt, c_ge, t_bl, t_int, t_tup, t_lst, n_neg, at_0, at_1, at_2, at_3, l_tup, l_lst, l_ref, ll_lst, ll_ref, b_len, b_tuple, b_list, b_abs, b_int, b_intB, b_max2, b_min2, b_all, b_any, a_ref, p_app, p_ins, p_set, set_0, set_1, set_2, s_tup, s_lst, i_int, r_tup, r_lst, g_tup, g_lst, g_ref, g_rng1, g_rng2, v_tupR1, v_tupR2, v_lisR1, v_lisR2, u_add, u_sub, W_copT, W_copV, W_truT, W_notV, W_notT, W_tupD, W_lstF, W_lstT, newF, newT, List.map_cons, List.map_nil, List.cons_append, List.nil_append, List.append_nil, List.length_cons, List.length_nil, List.replicate, List.getElem?_cons_zero, List.getElem?_cons_succ, List.set_cons_zero, List.set_cons_succ, List.getElem?_nil, Nat.reduceAdd, Nat.reduceLT, Nat.reduceSub, Nat.reduceEqDiff, ↓reduceIte, decide_eq_true_eq, decide_eq_false_iff_not, Bool.not_eq_true', Bool.not_eq_false', and_true, true_and, List.set_set, forall_const, true_implies, and_self, eq_self, Int.reduceLE, Int.reduceLT, Int.reducePow, Int.reduceToNat, Nat.reducePow, Int.reduceNeg, ne_eq, not_false_eq_true, Int.reduceEq, not_true_eq_false, true_or, or_true, Nat.reduceLeDiff, if_true, if_false, false_imp_iff, true_imp_iff, false_and, and_false, or_false, false_or, app_last, shl_nat, bitXor_nat, List.length_map, wayL_len, List.length_take]
      repeat ((with_reducible refine And.intro ?_ ?_); · first | omega | decide | (unfold SL; omega))
      refine ⟨_, rfl, ?_⟩
      have e3 : ks.take (i + 1) = ks.take i ++ [k] := by rw [List.take_succ, e]; rfl
      rw [app_set rfl, e3, wayL_snoc, List.map_append]
      rfl
  · rintro ⟨hi, y, rfl, rfl⟩
    rw [List.length_map, List.take_length]
    simp only [eev_popI, eev_rem, eev_cnt, p_popI, p_rem, p_asL2, p_cnt, eev_dnew, eev_dget, eev_dgetE, eev_din, eevT_din, eev_dlen, eev_dcmp, eex_dput, Z_sPutD, d_nil, k_one, k_two, k_three, p_dgetI, p_dgetT, p_asDc, p_dgetEI, p_dgetET, p_dinTI, p_dinTT, p_dinVI, p_dinVT, p_dputI, p_dputT, p_dlen, p_dnewI, p_dnewT, o_pairD, o_todD, eev_ext, eev_pop, eex_setII, Z_sSetII, p_ext, p_pop, c_isBB, c_ntBB, eev_cmp2, eevT_cmp2, eevI_enum, eex_rais, W_bCh, g_enL, g_enT, eev_sset, eev_lset, o_sset, o_lset, i_ofS, eevI_rvsd, g_rvT, g_rvL, eev_catM, o_catLM, eev_repL, r_repD, Bool.true_eq_false, Bool.false_eq_true, W_bSrtk, eev_srtk, eevI_zip, inE, o_addL, o_addR, o_catL, c_in, c_notin, b_sorted, b_sum, b_maxL, b_minL, i_of, g_zipT, g_zipL, g_zipR, c_isNI, c_isNN, c_isNT, c_isNL, c_ntNI, c_ntNN, c_ntNT, c_ntNL, ints_map, W_b1, W_b2, W_b3, W_bIf, W_cst, W_vr, W_bAnd, W_bOr, truP_bl, W_consD, W_some, W_none, W_guard, Z_nil, Z_brk, Z_ctn, Z_sSeq, Z_sSet, Z_sPar, Z_sSetI, Z_sAug, Z_sExpr, Z_sRet, Z_sIf, Z_sFor, W_bLc, W_idx, Z_forStep, W_lcStep, wipeE, finF_keep, finF_clean, evs_nil, evO_no, evT_yes, eev_nm, eev_cI, eev_cB, eev_cN, eev_cS, eev_bin, eev_neg, eev_cmp, eev_and, eev_or, eev_not, eev_ife, eev_tup, eev_lst, eev_idx, eev_slc, eev_revT, eev_revL, eev_blt, eev_app, eev_ins, eev_call, eev_tupR1, eev_tupR2, eev_lisR1, eev_lisR2, eev_lc, eevO_no, eevO_so, eevs_nil, eevs_cons, eevT_yes, eevT_cmp, eevT_and, eevT_or, eevT_not, eevT_tr, eevAnd_nil, eevOr_nil, eevAll_nil, eevAll_cons, eevAny_nil, eevAny_cons, eevI_rng1, eevI_rng2, eevI_seq, eex_set, eex_setT, eex_par, eex_setI, eex_aug, eex_expr, eex_ret, eex_ife, eex_whl, eex_for_, eex_brk, eex_ctn, eexs_nil, eexs_cons, eevAnd_1, eevAnd_2, eevOr_1, eevOr_2, W_callN, selD, startE, putN, parPut, Tg.put, Tg.putL, W_fnB, o_add, o_sub, o_mul, o_fdiv, o_mod, o_pow, o_shl, o_shr, o_band, o_bor, o_bxor, o_addT, o_mulT, c_eqI, c_eqS, c_eqB, c_neI, c_neS, c_neB, c_lt, c_le, c_gt, c_ge, t_bl, t_int, t_tup, t_lst, n_neg, at_0, at_1, at_2, at_3, l_tup, l_lst, l_ref, ll_lst, ll_ref, b_len, b_tuple, b_list, b_abs, b_int, b_intB, b_max2, b_min2, b_all, b_any, a_ref, p_app, p_ins, p_set, set_0, set_1, set_2, s_tup, s_lst, i_int, r_tup, r_lst, g_tup, g_lst, g_ref, g_rng1, g_rng2, v_tupR1, v_tupR2, v_lisR1, v_lisR2, u_add, u_sub, W_copT, W_copV, W_truT, W_notV, W_notT, W_tupD, W_lstF, W_lstT, newF, newT, List.map_cons, List.map_nil, List.cons_append, List.nil_append, List.append_nil, List.length_cons, List.length_nil, List.replicate, List.getElem?_cons_zero, List.getElem?_cons_succ, List.set_cons_zero, List.set_cons_succ, List.getElem?_nil, Nat.reduceAdd, Nat.reduceLT, Nat.reduceSub, Nat.reduceEqDiff, ↓reduceIte, decide_eq_true_eq, decide_eq_false_iff_not, Bool.not_eq_true', Bool.not_eq_false', and_true, true_and, List.set_set, forall_const, true_implies, and_self, eq_self, Int.reduceLE, Int.reduceLT, Int.reducePow, Int.reduceToNat, Nat.reducePow, Int.reduceNeg, ne_eq, not_false_eq_true, Int.reduceEq, not_true_eq_false, true_or, or_true, Nat.reduceLeDiff, if_true, if_false, false_imp_iff, true_imp_iff, false_and, and_false, or_false, false_or, app_last]
    refine W_cleanP (by simpa only [D.lo] using loL_nD 0 _) (hs.app (loL_nD 0 _)) ⟨rfl, app_take rfl⟩
end B
namespace B
open PySem PyProof.Rows L2
theorem teller_ok {fu n q h j s : Nat} {st : Store} (hs : StOk st) (hq : q ≤ 60) (hj : j < q) (hh : h < 2 ^ q) (hs2 : s < 2 ^ q) (hfu : 100 ≤ fu) :
    W (runF GT GP.dfl fu (n + 5) i_teller [.int q, .int h, .int j, .int s] st) fun d st' => d = nD (tel s (crs q (h ^^^ s) j)) ∧ st' = st := by
  refine W_runF (fd := fd_teller) (GT_at rfl) rfl ?_
  simp only [fd_teller, eev_popI, eev_rem, eev_cnt, p_popI, p_rem, p_asL2, p_cnt, eev_dnew, eev_dget, eev_dgetE, eev_din, eevT_din, eev_dlen, eev_dcmp, eex_dput, Z_sPutD, d_nil, k_one, k_two, k_three, p_dgetI, p_dgetT, p_asDc, p_dgetEI, p_dgetET, p_dinTI, p_dinTT, p_dinVI, p_dinVT, p_dputI, p_dputT, p_dlen, p_dnewI, p_dnewT, o_pairD, o_todD, eev_ext, eev_pop, eex_setII, Z_sSetII, p_ext, p_pop, c_isBB, c_ntBB, eev_cmp2, eevT_cmp2, eevI_enum, eex_rais, W_bCh, g_enL, g_enT, eev_sset, eev_lset, o_sset, o_lset, i_ofS, eevI_rvsd, g_rvT, g_rvL, eev_catM, o_catLM, eev_repL, r_repD, Bool.true_eq_false, Bool.false_eq_true, W_bSrtk, eev_srtk, eevI_zip, inE, o_addL, o_addR, o_catL, c_in, c_notin, b_sorted, b_sum, b_maxL, b_minL, i_of, g_zipT, g_zipL, g_zipR, c_isNI, c_isNN, c_isNT, c_isNL, c_ntNI, c_ntNN, c_ntNT, c_ntNL, ints_map, W_b1, W_b2, W_b3, W_bIf, W_cst, W_vr, W_bAnd, W_bOr, truP_bl, W_consD, W_some, W_none, W_guard, Z_nil, Z_brk, Z_ctn, Z_sSeq, Z_sSet, Z_sPar, Z_sSetI, Z_sAug, Z_sExpr, Z_sRet, Z_sIf, Z_sFor, W_bLc, W_idx, Z_forStep, W_lcStep, wipeE, finF_keep, finF_clean, evs_nil, evO_no, evT_yes, eev_nm, eev_cI, eev_cB, eev_cN, eev_cS, eev_bin, eev_neg, eev_cmp, eev_and, eev_or, eev_not, eev_ife, eev_tup, eev_lst, eev_idx, eev_slc, eev_revT, eev_revL, eev_blt, eev_app, eev_ins, eev_call, eev_tupR1, eev_tupR2, eev_lisR1, eev_lisR2, eev_lc, eevO_no, eevO_so, eevs_nil, eevs_cons, eevT_yes, eevT_cmp, eevT_and, eevT_or, eevT_not, eevT_tr, eevAnd_nil, eevOr_nil, eevAll_nil, eevAll_cons, eevAny_nil, eevAny_cons, eevI_rng1, eevI_rng2, eevI_seq, eex_set, eex_setT, eex_par, eex_setI, eex_aug, eex_expr, eex_ret, eex_ife, eex_whl, eex_for_, eex_brk, eex_ctn, eexs_nil, eexs_cons, eevAnd_1, eevAnd_2, eevOr_1, eevOr_2, W_callN, selD, startE, putN, parPut, Tg.put, Tg.putL, W_fnB, o_add, o_sub, o_mul, o_fdiv, o_mod, o_pow, o_shl, o_shr, o_band, o_bor, o_bxor, o_addT, o_mulT, c_eqI, c_eqS, c_eqB, c_neI, c_neS, c_neB, c_lt, c_le, c_gt, c_ge, t_bl, t_int, t_tup, t_lst, n_neg, at_0, at_1, at_2, at_3, l_tup, l_lst, l_ref, ll_lst, ll_ref, b_len, b_tuple, b_list, b_abs, b_int, b_intB, b_max2, b_min2, b_all, b_any, a_ref, p_app, p_ins, p_set, set_0, set_1, set_2, s_tup, s_lst, i_int, r_tup, r_lst, g_tup, g_lst, g_ref, g_rng1, g_rng2, v_tupR1, v_tupR2, v_lisR1, v_lisR2, u_add, u_sub, W_copT, W_copV, W_truT, W_notV, W_notT, W_tupD, W_lstF, W_lstT, newF, newT, List.map_cons, List.map_nil, List.cons_append, List.nil_append, List.append_nil, List.length_cons, List.length_nil, List.replicate, List.getElem?_cons_zero, List.getElem?_cons_succ, List.set_cons_zero, List.set_cons_succ, List.getElem?_nil, Nat.reduceAdd, Nat.reduceLT, Nat.reduceSub, Nat.reduceEqDiff, ↓reduceIte, decide_eq_true_eq, decide_eq_false_iff_not, Bool.not_eq_true', Bool.not_eq_false', and_true, true_and, List.set_set, forall_const, true_implies, and_self, eq_self, Int.reduceLE, Int.reduceLT, Int.reducePow, Int.reduceToNat, Nat.reducePow, Int.reduceNeg, ne_eq, not_false_eq_true, Int.reduceEq, not_true_eq_false, true_or, or_true, Nat.reduceLeDiff, if_true, if_false, false_imp_iff, true_imp_iff, false_and, and_false, or_false, false_or]
  refine (way_ok hs hq hj hh hs2 hfu).mono fun d s1 ⟨e, e2⟩ => ?_
  subst e e2
  simp only [eev_popI, eev_rem, eev_cnt, p_popI, p_rem, p_asL2, p_cnt, eev_dnew, eev_dget, eev_dgetE, eev_din, eevT_din, eev_dlen, eev_dcmp, eex_dput, Z_sPutD, d_nil, k_one, k_two, k_three, p_dgetI, p_dgetT, p_asDc, p_dgetEI, p_dgetET, p_dinTI, p_dinTT, p_dinVI, p_dinVT, p_dputI, p_dputT, p_dlen, p_dnewI, p_dnewT, o_pairD, o_todD, eev_ext, eev_pop, eex_setII, Z_sSetII, p_ext, p_pop, c_isBB, c_ntBB, eev_cmp2, eevT_cmp2, eevI_enum, eex_rais, W_bCh, g_enL, g_enT, eev_sset, eev_lset, o_sset, o_lset, i_ofS, eevI_rvsd, g_rvT, g_rvL, eev_catM, o_catLM, eev_repL, r_repD, Bool.true_eq_false, Bool.false_eq_true, W_bSrtk, eev_srtk, eevI_zip, inE, o_addL, o_addR, o_catL, c_in, c_notin, b_sorted, b_sum, b_maxL, b_minL, i_of, g_zipT, g_zipL, g_zipR, c_isNI, c_isNN, c_isNT, c_isNL, c_ntNI, c_ntNN, c_ntNT, c_ntNL, ints_map, W_b1, W_b2, W_b3, W_bIf, W_cst, W_vr, W_bAnd, W_bOr, truP_bl, W_consD, W_some, W_none, W_guard, Z_nil, Z_brk, Z_ctn, Z_sSeq, Z_sSet, Z_sPar, Z_sSetI, Z_sAug, Z_sExpr, Z_sRet, Z_sIf, Z_sFor, W_bLc, W_idx, Z_forStep, W_lcStep, wipeE, finF_keep, finF_clean, evs_nil, evO_no, evT_yes, eev_nm, eev_cI, eev_cB, eev_cN, eev_cS, eev_bin, eev_neg, eev_cmp, eev_and, eev_or, eev_not, eev_ife, eev_tup, eev_lst, eev_idx, eev_slc, eev_revT, eev_revL, eev_blt, eev_app, eev_ins, eev_call, eev_tupR1, eev_tupR2, eev_lisR1, eev_lisR2, eev_lc, eevO_no, eevO_so, eevs_nil, eevs_cons, eevT_yes, eevT_cmp, eevT_and, eevT_or, eevT_not, eevT_tr, eevAnd_nil, eevOr_nil, eevAll_nil, eevAll_cons, eevAny_nil, eevAny_cons, eevI_rng1, eevI_rng2, eevI_seq, eex_set, eex_setT, eex_par, eex_setI, eex_aug, eex_expr, eex_ret, eex_ife, eex_whl, eex_for_, eex_brk, eex_ctn, eexs_nil, eexs_cons, eevAnd_1, eevAnd_2, eevOr_1, eevOr_2, W_callN, selD, startE, putN, parPut, Tg.put, Tg.putL, W_fnB, o_add, o_sub, o_mul, o_fdiv, o_mod, o_pow, o_shl, o_shr, o_band, o_bor, o_bxor, o_addT, o_mulT, c_eqI, c_eqS, c_eqB, c_neI, c_neS, c_neB, c_lt, c_le, c_gt, c_ge, t_bl, t_int, t_tup, t_lst, n_neg, at_0, at_1, at_2, at_3, l_tup, l_lst, l_ref, ll_lst, ll_ref, b_len, b_tuple, b_list, b_abs, b_int, b_intB, b_max2, b_min2, b_all, b_any, a_ref, p_app, p_ins, p_set, set_0, set_1, set_2, s_tup, s_lst, i_int, r_tup, r_lst, g_tup, g_lst, g_ref, g_rng1, g_rng2, v_tupR1, v_tupR2, v_lisR1, v_lisR2, u_add, u_sub, W_copT, W_copV, W_truT, W_notV, W_notT, W_tupD, W_lstF, W_lstT, newF, newT, List.map_cons, List.map_nil, List.cons_append, List.nil_append, List.append_nil, List.length_cons, List.length_nil, List.replicate, List.getElem?_cons_zero, List.getElem?_cons_succ, List.set_cons_zero, List.set_cons_succ, List.getElem?_nil, Nat.reduceAdd, Nat.reduceLT, Nat.reduceSub, Nat.reduceEqDiff, ↓reduceIte, decide_eq_true_eq, decide_eq_false_iff_not, Bool.not_eq_true', Bool.not_eq_false', and_true, true_and, List.set_set, forall_const, true_implies, and_self, eq_self, Int.reduceLE, Int.reduceLT, Int.reducePow, Int.reduceToNat, Nat.reducePow, Int.reduceNeg, ne_eq, not_false_eq_true, Int.reduceEq, not_true_eq_false, true_or, or_true, Nat.reduceLeDiff, if_true, if_false, false_imp_iff, true_imp_iff, false_and, and_false, or_false, false_or, at_pen (crs_ne _ _ _)]
end B
namespace B
open PySem PyProof.Rows L2
theorem across_ok {fu n q h : Nat} {st : Store} (hq : q ≤ 60) (hh : h < 2 ^ q) : W (runF GT GP.dfl fu (n + 1) i_across [.int q, .int h] st) fun d st' => d = .tup ((srtN (accL q h)).map nD) ∧ st' = st := by
  refine W_runF (fd := fd_across) (GT_at rfl) rfl ?_
  simp only [fd_across, eev_popI, eev_rem, eev_cnt, p_popI, p_rem, p_asL2, p_cnt, eev_dnew, eev_dget, eev_dgetE, eev_din, eevT_din, eev_dlen, eev_dcmp, eex_dput, Z_sPutD, d_nil, k_one, k_two, k_three, p_dgetI, p_dgetT, p_asDc, p_dgetEI, p_dgetET, p_dinTI, p_dinTT, p_dinVI, p_dinVT, p_dputI, p_dputT, p_dlen, p_dnewI, p_dnewT, o_pairD, o_todD, eev_ext, eev_pop, eex_setII, Z_sSetII, p_ext, p_pop, c_isBB, c_ntBB, eev_cmp2, eevT_cmp2, eevI_enum, eex_rais, W_bCh, g_enL, g_enT, eev_sset, eev_lset, o_sset, o_lset, i_ofS, eevI_rvsd, g_rvT, g_rvL, eev_catM, o_catLM, eev_repL, r_repD, Bool.true_eq_false, Bool.false_eq_true, W_bSrtk, eev_srtk, eevI_zip, inE, o_addL, o_addR, o_catL, c_in, c_notin, b_sorted, b_sum, b_maxL, b_minL, i_of, g_zipT, g_zipL, g_zipR, c_isNI, c_isNN, c_isNT, c_isNL, c_ntNI, c_ntNN, c_ntNT, c_ntNL, ints_map, W_b1, W_b2, W_b3, W_bIf, W_cst, W_vr, W_bAnd, W_bOr, truP_bl, W_consD, W_some, W_none, W_guard, Z_nil, Z_brk, Z_ctn, Z_sSeq, Z_sSet, Z_sPar, Z_sSetI, Z_sAug, Z_sExpr, Z_sRet, Z_sIf, Z_sFor, W_bLc, W_idx, Z_forStep, W_lcStep, wipeE, finF_keep, finF_clean, evs_nil, evO_no, evT_yes, eev_nm, eev_cI, eev_cB, eev_cN, eev_cS, eev_bin, eev_neg, eev_cmp, eev_and, eev_or, eev_not, eev_ife, eev_tup, eev_lst, eev_idx, eev_slc, eev_revT, eev_revL, eev_blt, eev_app, eev_ins, eev_call, eev_tupR1, eev_tupR2, eev_lisR1, eev_lisR2, eev_lc, eevO_no, eevO_so, eevs_nil, eevs_cons, eevT_yes, eevT_cmp, eevT_and, eevT_or, eevT_not, eevT_tr, eevAnd_nil, eevOr_nil, eevAll_nil, eevAll_cons, eevAny_nil, eevAny_cons, eevI_rng1, eevI_rng2, eevI_seq, eex_set, eex_setT, eex_par, eex_setI, eex_aug, eex_expr, eex_ret, eex_ife, eex_whl, eex_for_, eex_brk, eex_ctn, eexs_nil, eexs_cons, eevAnd_1, eevAnd_2, eevOr_1, eevOr_2, W_callN, selD, startE, putN, parPut, Tg.put, Tg.putL, W_fnB, o_add, o_sub, o_mul, o_fdiv, o_mod, o_pow, o_shl, o_shr, o_band, o_bor, o_bxor, o_addT, o_mulT, c_eqI, c_eqS, c_eqB, c_neI, c_neS, c_neB, c_lt, c_le, c_gt, c_ge, t_bl, t_int, t_tup, t_lst, n_neg, at_0, at_1, at_2, at_3, l_tup, l_lst, l_ref, ll_lst, ll_ref, b_len, b_tuple, b_list, b_abs, b_int, b_intB, b_max2, b_min2, b_all, b_any, a_ref, p_app, p_ins, p_set, set_0, set_1, set_2, s_tup, s_lst, i_int, r_tup, r_lst, g_tup, g_lst, g_ref, g_rng1, g_rng2, v_tupR1, v_tupR2, v_lisR1, v_lisR2, u_add, u_sub, W_copT, W_copV, W_truT, W_notV, W_notT, W_tupD, W_lstF, W_lstT, newF, newT, List.map_cons, List.map_nil, List.cons_append, List.nil_append, List.append_nil, List.length_cons, List.length_nil, List.replicate, List.getElem?_cons_zero, List.getElem?_cons_succ, List.set_cons_zero, List.set_cons_succ, List.getElem?_nil, Nat.reduceAdd, Nat.reduceLT, Nat.reduceSub, Nat.reduceEqDiff, ↓reduceIte, decide_eq_true_eq, decide_eq_false_iff_not, Bool.not_eq_true', Bool.not_eq_false', and_true, true_and, List.set_set, forall_const, true_implies, and_self, eq_self, Int.reduceLE, Int.reduceLT, Int.reducePow, Int.reduceToNat, Nat.reducePow, Int.reduceNeg, ne_eq, not_false_eq_true, Int.reduceEq, not_true_eq_false, true_or, or_true, Nat.reduceLeDiff, if_true, if_false, false_imp_iff, true_imp_iff, false_and, and_false, or_false, false_or]
  repeat ((with_reducible refine And.intro ?_ ?_); · first | omega | decide | (unfold SL; omega))
  refine W_lc_fix (fun d => match d with | .int i => some (nD (h ^^^ 2 ^ i.toNat)) | _ => none) (fun i x hx => ?_) ?_
  · rw [rngD_get] at hx
    split at hx
    case isFalse => cases hx
    cases hx
    have e0 : (0 : Int) + (i : Int) = (i : Int) := Int.zero_add _
    rw [e0]
    simp only [eev_popI, eev_rem, eev_cnt, p_popI, p_rem, p_asL2, p_cnt, eev_dnew, eev_dget, eev_dgetE, eev_din, eevT_din, eev_dlen, eev_dcmp, eex_dput, Z_sPutD, d_nil, k_one, k_two, k_three, p_dgetI, p_dgetT, p_asDc, p_dgetEI, p_dgetET, p_dinTI, p_dinTT, p_dinVI, p_dinVT, p_dputI, p_dputT, p_dlen, p_dnewI, p_dnewT, o_pairD, o_todD, eev_ext, eev_pop, eex_setII, Z_sSetII, p_ext, p_pop, c_isBB, c_ntBB, eev_cmp2, eevT_cmp2, eevI_enum, eex_rais, W_bCh, g_enL, g_enT, eev_sset, eev_lset, o_sset, o_lset, i_ofS, eevI_rvsd, g_rvT, g_rvL, eev_catM, o_catLM, eev_repL, r_repD, Bool.true_eq_false, Bool.false_eq_true, W_bSrtk, eev_srtk, eevI_zip, inE, o_addL, o_addR, o_catL, c_in, c_notin, b_sorted, b_sum, b_maxL, b_minL, i_of, g_zipT, g_zipL, g_zipR, c_isNI, c_isNN, c_isNT, c_isNL, c_ntNI, c_ntNN, c_ntNT, c_ntNL, ints_map, W_b1, W_b2, W_b3, W_bIf, W_cst, W_vr, W_bAnd, W_bOr, truP_bl, W_consD, W_some, W_none, W_guard, Z_nil, Z_brk, Z_ctn, Z_sSeq, Z_sSet, Z_sPar, Z_sSetI, Z_sAug, Z_sExpr, Z_sRet, Z_sIf, Z_sFor, W_bLc, W_idx, Z_forStep, W_lcStep, wipeE, finF_keep, finF_clean, evs_nil, evO_no, evT_yes, eev_nm, eev_cI, eev_cB, eev_cN, eev_cS, eev_bin, eev_neg, eev_cmp, eev_and, eev_or, eev_not, eev_ife, eev_tup, eev_lst, eev_idx, eev_slc, eev_revT, eev_revL, eev_blt, eev_app, eev_ins, eev_call, eev_tupR1, eev_tupR2, eev_lisR1, eev_lisR2, eev_lc, eevO_no, eevO_so, eevs_nil, eevs_cons, eevT_yes, eevT_cmp, eevT_and, eevT_or, eevT_not, eevT_tr, eevAnd_nil, eevOr_nil, eevAll_nil, eevAll_cons, eevAny_nil, eevAny_cons, eevI_rng1, eevI_rng2, eevI_seq, eex_set, eex_setT, eex_par, eex_setI, eex_aug, eex_expr, eex_ret, eex_ife, eex_whl, eex_for_, eex_brk, eex_ctn, eexs_nil, eexs_cons, eevAnd_1, eevAnd_2, eevOr_1, eevOr_2, W_callN, selD, startE, putN, parPut, Tg.put, Tg.putL, W_fnB, o_add, o_sub, o_mul, o_fdiv, o_mod, o_pow, o_shl, o_shr, o_band, o_bor, o_bxor, o_addT, o_mulT, c_eqI, c_eqS, c_eqB, c_neI, c_neS, c_neB, c_lt, c_le, c_gt, c_ge, t_bl, t_int, t_tup, t_lst, n_neg, at_0, at_1, at_2, at_3, l_tup, l_lst, l_ref, ll_lst, ll_ref, b_len, b_tuple, b_list, b_abs, b_int, b_intB, b_max2, b_min2, b_all, b_any, a_ref, p_app, p_ins, p_set, set_0, set_1, set_2, s_tup, s_lst, i_int, r_tup, r_lst, g_tup, g_lst, g_ref, g_rng1, g_rng2, v_tupR1, v_tupR2, v_lisR1, v_lisR2, u_add, u_sub, W_copT, W_copV, W_truT, W_notV, W_notT, W_tupD, W_lstF, W_lstT, newF, newT, List.map_cons, List.map_nil, List.cons_append, List.nil_append, List.append_nil, List.length_cons, List.length_nil, List.replicate, List.getElem?_cons_zero, List.getElem?_cons_succ, List.set_cons_zero, List.set_cons_succ, List.getElem?_nil, Nat.reduceAdd, Nat.reduceLT, Nat.reduceSub, Nat.reduceEqDiff, ↓reduceIte, decide_eq_true_eq, decide_eq_false_iff_not, Bool.not_eq_true', Bool.not_eq_false', and_true, true_and, List.set_set, forall_const, true_implies, and_self, eq_self, Int.reduceLE, Int.reduceLT, Int.reducePow, Int.reduceToNat, Nat.reducePow, Int.reduceNeg, ne_eq, not_false_eq_true, Int.reduceEq, not_true_eq_false, true_or, or_true, Nat.reduceLeDiff, if_true, if_false, false_imp_iff, true_imp_iff, false_and, and_false, or_false, false_or, shl_nat, bitXor_nat]
    repeat ((with_reducible refine And.intro ?_ ?_); · first | omega | decide | (unfold SL; omega))
    rw [Int.toNat_natCast]
  · have e : (rngD 0 ((q : Nat) : Int).toNat).filterMap (fun d => match d with | .int i => some (nD (h ^^^ 2 ^ i.toNat)) | _ => none) = (accL q h).map nD := by
      rw [Int.toNat_natCast]
      unfold rngD accL
      simp only [Int.zero_add]
      induction List.range q with
      | nil => rfl
      | cons i l ih => simp only [List.map_cons, List.filterMap_cons, Int.toNat_natCast, ih]
    rw [e]
    simp only [eev_popI, eev_rem, eev_cnt, p_popI, p_rem, p_asL2, p_cnt, eev_dnew, eev_dget, eev_dgetE, eev_din, eevT_din, eev_dlen, eev_dcmp, eex_dput, Z_sPutD, d_nil, k_one, k_two, k_three, p_dgetI, p_dgetT, p_asDc, p_dgetEI, p_dgetET, p_dinTI, p_dinTT, p_dinVI, p_dinVT, p_dputI, p_dputT, p_dlen, p_dnewI, p_dnewT, o_pairD, o_todD, eev_ext, eev_pop, eex_setII, Z_sSetII, p_ext, p_pop, c_isBB, c_ntBB, eev_cmp2, eevT_cmp2, eevI_enum, eex_rais, W_bCh, g_enL, g_enT, eev_sset, eev_lset, o_sset, o_lset, i_ofS, eevI_rvsd, g_rvT, g_rvL, eev_catM, o_catLM, eev_repL, r_repD, Bool.true_eq_false, Bool.false_eq_true, W_bSrtk, eev_srtk, eevI_zip, inE, o_addL, o_addR, o_catL, c_in, c_notin, b_sorted, b_sum, b_maxL, b_minL, i_of, g_zipT, g_zipL, g_zipR, c_isNI, c_isNN, c_isNT, c_isNL, c_ntNI, c_ntNN, c_ntNT, c_ntNL, ints_map, W_b1, W_b2, W_b3, W_bIf, W_cst, W_vr, W_bAnd, W_bOr, truP_bl, W_consD, W_some, W_none, W_guard, Z_nil, Z_brk, Z_ctn, Z_sSeq, Z_sSet, Z_sPar, Z_sSetI, Z_sAug, Z_sExpr, Z_sRet, Z_sIf, Z_sFor, W_bLc, W_idx, Z_forStep, W_lcStep, wipeE, finF_keep, finF_clean, evs_nil, evO_no, evT_yes, eev_nm, eev_cI, eev_cB, eev_cN, eev_cS, eev_bin, eev_neg, eev_cmp, eev_and, eev_or, eev_not, eev_ife, eev_tup, eev_lst, eev_idx, eev_slc, eev_revT, eev_revL, eev_blt, eev_app, eev_ins, eev_call, eev_tupR1, eev_tupR2, eev_lisR1, eev_lisR2, eev_lc, eevO_no, eevO_so, eevs_nil, eevs_cons, eevT_yes, eevT_cmp, eevT_and, eevT_or, eevT_not, eevT_tr, eevAnd_nil, eevOr_nil, eevAll_nil, eevAll_cons, eevAny_nil, eevAny_cons, eevI_rng1, eevI_rng2, eevI_seq, eex_set, eex_setT, eex_par, eex_setI, eex_aug, eex_expr, eex_ret, eex_ife, eex_whl, eex_for_, eex_brk, eex_ctn, eexs_nil, eexs_cons, eevAnd_1, eevAnd_2, eevOr_1, eevOr_2, W_callN, selD, startE, putN, parPut, Tg.put, Tg.putL, W_fnB, o_add, o_sub, o_mul, o_fdiv, o_mod, o_pow, o_shl, o_shr, o_band, o_bor, o_bxor, o_addT, o_mulT, c_eqI, c_eqS, c_eqB, c_neI, c_neS, c_neB, c_lt, c_le, c_gt, c_ge, t_bl, t_int, t_tup, t_lst, n_neg, at_0, at_1, at_2, at_3, l_tup, l_lst, l_ref, ll_lst, ll_ref, b_len, b_tuple, b_list, b_abs, b_int, b_intB, b_max2, b_min2, b_all, b_any, a_ref, p_app, p_ins, p_set, set_0, set_1, set_2, s_tup, s_lst, i_int, r_tup, r_lst, g_tup, g_lst, g_ref, g_rng1, g_rng2, v_tupR1, v_tupR2, v_lisR1, v_lisR2, u_add, u_sub, W_copT, W_copV, W_truT, W_notV, W_notT, W_tupD, W_lstF, W_lstT, newF, newT, List.map_cons, List.map_nil, List.cons_append, List.nil_append, List.append_nil, List.length_cons, List.length_nil, List.replicate, List.getElem?_cons_zero, List.getElem?_cons_succ, List.set_cons_zero, List.set_cons_succ, List.getElem?_nil, Nat.reduceAdd, Nat.reduceLT, Nat.reduceSub, Nat.reduceEqDiff, ↓reduceIte, decide_eq_true_eq, decide_eq_false_iff_not, Bool.not_eq_true', Bool.not_eq_false', and_true, true_and, List.set_set, forall_const, true_implies, and_self, eq_self, Int.reduceLE, Int.reduceLT, Int.reducePow, Int.reduceToNat, Nat.reducePow, Int.reduceNeg, ne_eq, not_false_eq_true, Int.reduceEq, not_true_eq_false, true_or, or_true, Nat.reduceLeDiff, if_true, if_false, false_imp_iff, true_imp_iff, false_and, and_false, or_false, false_or, ints_nD, srtI_nD, List.length_map, accL_len]
    unfold SL
    omega
theorem hearers_ok {fu n q h j s : Nat} {st : Store} (hs : StOk st) (hq : q ≤ 60) (hj : j < q) (hh : h < 2 ^ q) (hs2 : s < 2 ^ q) (hfu : 100 ≤ fu) :
    W (runF GT GP.dfl fu (n + 6) i_hearers [.int q, .int h, .int j, .int s] st) fun d st' => d = .tup ((hear q h j s).map nD) ∧ st' = st := by
  refine W_runF (fd := fd_hearers) (GT_at rfl) rfl ?_
  simp only [fd_hearers, eev_popI, eev_rem, eev_cnt, p_popI, p_rem, p_asL2, p_cnt, eev_dnew, eev_dget, eev_dgetE, eev_din, eevT_din, eev_dlen, eev_dcmp, eex_dput, Z_sPutD, d_nil, k_one, k_two, k_three, p_dgetI, p_dgetT, p_asDc, p_dgetEI, p_dgetET, p_dinTI, p_dinTT, p_dinVI, p_dinVT, p_dputI, p_dputT, p_dlen, p_dnewI, p_dnewT, o_pairD, o_todD, eev_ext, eev_pop, eex_setII, Z_sSetII, p_ext, p_pop, c_isBB, c_ntBB, eev_cmp2, eevT_cmp2, eevI_enum, eex_rais, W_bCh, g_enL, g_enT, eev_sset, eev_lset, o_sset, o_lset, i_ofS, eevI_rvsd, g_rvT, g_rvL, eev_catM, o_catLM, eev_repL, r_repD, Bool.true_eq_false, Bool.false_eq_true, W_bSrtk, eev_srtk, eevI_zip, inE, o_addL, o_addR, o_catL, c_in, c_notin, b_sorted, b_sum, b_maxL, b_minL, i_of, g_zipT, g_zipL, g_zipR, c_isNI, c_isNN, c_isNT, c_isNL, c_ntNI, c_ntNN, c_ntNT, c_ntNL, ints_map, W_b1, W_b2, W_b3, W_bIf, W_cst, W_vr, W_bAnd, W_bOr, truP_bl, W_consD, W_some, W_none, W_guard, Z_nil, Z_brk, Z_ctn, Z_sSeq, Z_sSet, Z_sPar, Z_sSetI, Z_sAug, Z_sExpr, Z_sRet, Z_sIf, Z_sFor, W_bLc, W_idx, Z_forStep, W_lcStep, wipeE, finF_keep, finF_clean, evs_nil, evO_no, evT_yes, eev_nm, eev_cI, eev_cB, eev_cN, eev_cS, eev_bin, eev_neg, eev_cmp, eev_and, eev_or, eev_not, eev_ife, eev_tup, eev_lst, eev_idx, eev_slc, eev_revT, eev_revL, eev_blt, eev_app, eev_ins, eev_call, eev_tupR1, eev_tupR2, eev_lisR1, eev_lisR2, eev_lc, eevO_no, eevO_so, eevs_nil, eevs_cons, eevT_yes, eevT_cmp, eevT_and, eevT_or, eevT_not, eevT_tr, eevAnd_nil, eevOr_nil, eevAll_nil, eevAll_cons, eevAny_nil, eevAny_cons, eevI_rng1, eevI_rng2, eevI_seq, eex_set, eex_setT, eex_par, eex_setI, eex_aug, eex_expr, eex_ret, eex_ife, eex_whl, eex_for_, eex_brk, eex_ctn, eexs_nil, eexs_cons, eevAnd_1, eevAnd_2, eevOr_1, eevOr_2, W_callN, selD, startE, putN, parPut, Tg.put, Tg.putL, W_fnB, o_add, o_sub, o_mul, o_fdiv, o_mod, o_pow, o_shl, o_shr, o_band, o_bor, o_bxor, o_addT, o_mulT, c_eqI, c_eqS, c_eqB, c_neI, c_neS, c_neB, c_lt, c_le, c_gt, c_ge, t_bl, t_int, t_tup, t_lst, n_neg, at_0, at_1, at_2, at_3, l_tup, l_lst, l_ref, ll_lst, ll_ref, b_len, b_tuple, b_list, b_abs, b_int, b_intB, b_max2, b_min2, b_all, b_any, a_ref, p_app, p_ins, p_set, set_0, set_1, set_2, s_tup, s_lst, i_int, r_tup, r_lst, g_tup, g_lst, g_ref, g_rng1, g_rng2, v_tupR1, v_tupR2, v_lisR1, v_lisR2, u_add, u_sub, W_copT, W_copV, W_truT, W_notV, W_notT, W_tupD, W_lstF, W_lstT, newF, newT, List.map_cons, List.map_nil, List.cons_append, List.nil_append, List.append_nil, List.length_cons, List.length_nil, List.replicate, List.getElem?_cons_zero, List.getElem?_cons_succ, List.set_cons_zero, List.set_cons_succ, List.getElem?_nil, Nat.reduceAdd, Nat.reduceLT, Nat.reduceSub, Nat.reduceEqDiff, ↓reduceIte, decide_eq_true_eq, decide_eq_false_iff_not, Bool.not_eq_true', Bool.not_eq_false', and_true, true_and, List.set_set, forall_const, true_implies, and_self, eq_self, Int.reduceLE, Int.reduceLT, Int.reducePow, Int.reduceToNat, Nat.reducePow, Int.reduceNeg, ne_eq, not_false_eq_true, Int.reduceEq, not_true_eq_false, true_or, or_true, Nat.reduceLeDiff, if_true, if_false, false_imp_iff, true_imp_iff, false_and, and_false, or_false, false_or]
  refine (across_ok hq hh).mono fun d s1 ⟨e, e2⟩ => ?_
  subst e e2
  try simp only [eev_popI, eev_rem, eev_cnt, p_popI, p_rem, p_asL2, p_cnt, eev_dnew, eev_dget, eev_dgetE, eev_din, eevT_din, eev_dlen, eev_dcmp, eex_dput, Z_sPutD, d_nil, k_one, k_two, k_three, p_dgetI, p_dgetT, p_asDc, p_dgetEI, p_dgetET, p_dinTI, p_dinTT, p_dinVI, p_dinVT, p_dputI, p_dputT, p_dlen, p_dnewI, p_dnewT, o_pairD, o_todD, eev_ext, eev_pop, eex_setII, Z_sSetII, p_ext, p_pop, c_isBB, c_ntBB, eev_cmp2, eevT_cmp2, eevI_enum, eex_rais, W_bCh, g_enL, g_enT, eev_sset, eev_lset, o_sset, o_lset, i_ofS, eevI_rvsd, g_rvT, g_rvL, eev_catM, o_catLM, eev_repL, r_repD, Bool.true_eq_false, Bool.false_eq_true, W_bSrtk, eev_srtk, eevI_zip, inE, o_addL, o_addR, o_catL, c_in, c_notin, b_sorted, b_sum, b_maxL, b_minL, i_of, g_zipT, g_zipL, g_zipR, c_isNI, c_isNN, c_isNT, c_isNL, c_ntNI, c_ntNN, c_ntNT, c_ntNL, ints_map, W_b1, W_b2, W_b3, W_bIf, W_cst, W_vr, W_bAnd, W_bOr, truP_bl, W_consD, W_some, W_none, W_guard, Z_nil, Z_brk, Z_ctn, Z_sSeq, Z_sSet, Z_sPar, Z_sSetI, Z_sAug, Z_sExpr, Z_sRet, Z_sIf, Z_sFor, W_bLc, W_idx, Z_forStep, W_lcStep, wipeE, finF_keep, finF_clean, evs_nil, evO_no, evT_yes, eev_nm, eev_cI, eev_cB, eev_cN, eev_cS, eev_bin, eev_neg, eev_cmp, eev_and, eev_or, eev_not, eev_ife, eev_tup, eev_lst, eev_idx, eev_slc, eev_revT, eev_revL, eev_blt, eev_app, eev_ins, eev_call, eev_tupR1, eev_tupR2, eev_lisR1, eev_lisR2, eev_lc, eevO_no, eevO_so, eevs_nil, eevs_cons, eevT_yes, eevT_cmp, eevT_and, eevT_or, eevT_not, eevT_tr, eevAnd_nil, eevOr_nil, eevAll_nil, eevAll_cons, eevAny_nil, eevAny_cons, eevI_rng1, eevI_rng2, eevI_seq, eex_set, eex_setT, eex_par, eex_setI, eex_aug, eex_expr, eex_ret, eex_ife, eex_whl, eex_for_, eex_brk, eex_ctn, eexs_nil, eexs_cons, eevAnd_1, eevAnd_2, eevOr_1, eevOr_2, W_callN, selD, startE, putN, parPut, Tg.put, Tg.putL, W_fnB, o_add, o_sub, o_mul, o_fdiv, o_mod, o_pow, o_shl, o_shr, o_band, o_bor, o_bxor, o_addT, o_mulT, c_eqI, c_eqS, c_eqB, c_neI, c_neS, c_neB, c_lt, c_le, c_gt, c_ge, t_bl, t_int, t_tup, t_lst, n_neg, at_0, at_1, at_2, at_3, l_tup, l_lst, l_ref, ll_lst, ll_ref, b_len, b_tuple, b_list, b_abs, b_int, b_intB, b_max2, b_min2, b_all, b_any, a_ref, p_app, p_ins, p_set, set_0, set_1, set_2, s_tup, s_lst, i_int, r_tup, r_lst, g_tup, g_lst, g_ref, g_rng1, g_rng2, v_tupR1, v_tupR2, v_lisR1, v_lisR2, u_add, u_sub, W_copT, W_copV, W_truT, W_notV, W_notT, W_tupD, W_lstF, W_lstT, newF, newT, List.map_cons, List.map_nil, List.cons_append, List.nil_append, List.append_nil, List.length_cons, List.length_nil, List.replicate, List.getElem?_cons_zero, List.getElem?_cons_succ, List.set_cons_zero, List.set_cons_succ, List.getElem?_nil, Nat.reduceAdd, Nat.reduceLT, Nat.reduceSub, Nat.reduceEqDiff, ↓reduceIte, decide_eq_true_eq, decide_eq_false_iff_not, Bool.not_eq_true', Bool.not_eq_false', and_true, true_and, List.set_set, forall_const, true_implies, and_self, eq_self, Int.reduceLE, Int.reduceLT, Int.reducePow, Int.reduceToNat, Nat.reducePow, Int.reduceNeg, ne_eq, not_false_eq_true, Int.reduceEq, not_true_eq_false, true_or, or_true, Nat.reduceLeDiff, if_true, if_false, false_imp_iff, true_imp_iff, false_and, and_false, or_false, false_or]
  refine W_lc_fix (fun d => match d with | .int i => if tel s (crs q (i.toNat ^^^ s) j) = h then some (.int i) else none | _ => none) (fun i x hx => ?_) ?_
  · rw [List.getElem?_map] at hx
    cases e : (srtN (accL q h))[i]? with
    | none => rw [e] at hx; cases hx
    | some o =>
      rw [e] at hx
      cases hx
      have ho := accL_lt hh o (srtN_mem.mp (List.mem_of_getElem? e))
      simp only [eev_popI, eev_rem, eev_cnt, p_popI, p_rem, p_asL2, p_cnt, eev_dnew, eev_dget, eev_dgetE, eev_din, eevT_din, eev_dlen, eev_dcmp, eex_dput, Z_sPutD, d_nil, k_one, k_two, k_three, p_dgetI, p_dgetT, p_asDc, p_dgetEI, p_dgetET, p_dinTI, p_dinTT, p_dinVI, p_dinVT, p_dputI, p_dputT, p_dlen, p_dnewI, p_dnewT, o_pairD, o_todD, eev_ext, eev_pop, eex_setII, Z_sSetII, p_ext, p_pop, c_isBB, c_ntBB, eev_cmp2, eevT_cmp2, eevI_enum, eex_rais, W_bCh, g_enL, g_enT, eev_sset, eev_lset, o_sset, o_lset, i_ofS, eevI_rvsd, g_rvT, g_rvL, eev_catM, o_catLM, eev_repL, r_repD, Bool.true_eq_false, Bool.false_eq_true, W_bSrtk, eev_srtk, eevI_zip, inE, o_addL, o_addR, o_catL, c_in, c_notin, b_sorted, b_sum, b_maxL, b_minL, i_of, g_zipT, g_zipL, g_zipR, c_isNI, c_isNN, c_isNT, c_isNL, c_ntNI, c_ntNN, c_ntNT, c_ntNL, ints_map, W_b1, W_b2, W_b3, W_bIf, W_cst, W_vr, W_bAnd, W_bOr, truP_bl, W_consD, W_some, W_none, W_guard, Z_nil, Z_brk, Z_ctn, Z_sSeq, Z_sSet, Z_sPar, Z_sSetI, Z_sAug, Z_sExpr, Z_sRet, Z_sIf, Z_sFor, W_bLc, W_idx, Z_forStep, W_lcStep, wipeE, finF_keep, finF_clean, evs_nil, evO_no, evT_yes, eev_nm, eev_cI, eev_cB, eev_cN, eev_cS, eev_bin, eev_neg, eev_cmp, eev_and, eev_or, eev_not, eev_ife, eev_tup, eev_lst, eev_idx, eev_slc, eev_revT, eev_revL, eev_blt, eev_app, eev_ins, eev_call, eev_tupR1, eev_tupR2, eev_lisR1, eev_lisR2, eev_lc, eevO_no, eevO_so, eevs_nil, eevs_cons, eevT_yes, eevT_cmp, eevT_and, eevT_or, eevT_not, eevT_tr, eevAnd_nil, eevOr_nil, eevAll_nil, eevAll_cons, eevAny_nil, eevAny_cons, eevI_rng1, eevI_rng2, eevI_seq, eex_set, eex_setT, eex_par, eex_setI, eex_aug, eex_expr, eex_ret, eex_ife, eex_whl, eex_for_, eex_brk, eex_ctn, eexs_nil, eexs_cons, eevAnd_1, eevAnd_2, eevOr_1, eevOr_2, W_callN, selD, startE, putN, parPut, Tg.put, Tg.putL, W_fnB, o_add, o_sub, o_mul, o_fdiv, o_mod, o_pow, o_shl, o_shr, o_band, o_bor, o_bxor, o_addT, o_mulT, c_eqI, c_eqS, c_eqB, c_neI, c_neS, c_neB, c_lt, c_le, c_gt, c_ge, t_bl, t_int, t_tup, t_lst, n_neg, at_0, at_1, at_2, at_3, l_tup, l_lst, l_ref, ll_lst, ll_ref, b_len, b_tuple, b_list, b_abs, b_int, b_intB, b_max2, b_min2, b_all, b_any, a_ref, p_app, p_ins, p_set, set_0, set_1, set_2, s_tup, s_lst, i_int, r_tup, r_lst, g_tup, g_lst, g_ref, g_rng1, g_rng2, v_tupR1, v_tupR2, v_lisR1, v_lisR2, u_add, u_sub, W_copT, W_copV, W_truT, W_notV, W_notT, W_tupD, W_lstF, W_lstT, newF, newT, List.map_cons, List.map_nil, List.cons_append, List.nil_append, List.append_nil, List.length_cons, List.length_nil, List.replicate, List.getElem?_cons_zero, List.getElem?_cons_succ, List.set_cons_zero, List.set_cons_succ, List.getElem?_nil, Nat.reduceAdd, Nat.reduceLT, Nat.reduceSub, Nat.reduceEqDiff, ↓reduceIte, decide_eq_true_eq, decide_eq_false_iff_not, Bool.not_eq_true', Bool.not_eq_false', and_true, true_and, List.set_set, forall_const, true_implies, and_self, eq_self, Int.reduceLE, Int.reduceLT, Int.reducePow, Int.reduceToNat, Nat.reducePow, Int.reduceNeg, ne_eq, not_false_eq_true, Int.reduceEq, not_true_eq_false, true_or, or_true, Nat.reduceLeDiff, if_true, if_false, false_imp_iff, true_imp_iff, false_and, and_false, or_false, false_or]
      refine (teller_ok hs hq hj ho hs2 hfu).mono fun d s2 ⟨e, e2⟩ => ?_
      subst e e2
      simp only [eev_popI, eev_rem, eev_cnt, p_popI, p_rem, p_asL2, p_cnt, eev_dnew, eev_dget, eev_dgetE, eev_din, eevT_din, eev_dlen, eev_dcmp, eex_dput, Z_sPutD, d_nil, k_one, k_two, k_three, p_dgetI, p_dgetT, p_asDc, p_dgetEI, p_dgetET, p_dinTI, p_dinTT, p_dinVI, p_dinVT, p_dputI, p_dputT, p_dlen, p_dnewI, p_dnewT, o_pairD, o_todD, eev_ext, eev_pop, eex_setII, Z_sSetII, p_ext, p_pop, c_isBB, c_ntBB, eev_cmp2, eevT_cmp2, eevI_enum, eex_rais, W_bCh, g_enL, g_enT, eev_sset, eev_lset, o_sset, o_lset, i_ofS, eevI_rvsd, g_rvT, g_rvL, eev_catM, o_catLM, eev_repL, r_repD, Bool.true_eq_false, Bool.false_eq_true, W_bSrtk, eev_srtk, eevI_zip, inE, o_addL, o_addR, o_catL, c_in, c_notin, b_sorted, b_sum, b_maxL, b_minL, i_of, g_zipT, g_zipL, g_zipR, c_isNI, c_isNN, c_isNT, c_isNL, c_ntNI, c_ntNN, c_ntNT, c_ntNL, ints_map, W_b1, W_b2, W_b3, W_bIf, W_cst, W_vr, W_bAnd, W_bOr, truP_bl, W_consD, W_some, W_none, W_guard, Z_nil, Z_brk, Z_ctn, Z_sSeq, Z_sSet, Z_sPar, Z_sSetI, Z_sAug, Z_sExpr, Z_sRet, Z_sIf, Z_sFor, W_bLc, W_idx, Z_forStep, W_lcStep, wipeE, finF_keep, finF_clean, evs_nil, evO_no, evT_yes, eev_nm, eev_cI, eev_cB, eev_cN, eev_cS, eev_bin, eev_neg, eev_cmp, eev_and, eev_or, eev_not, eev_ife, eev_tup, eev_lst, eev_idx, eev_slc, eev_revT, eev_revL, eev_blt, eev_app, eev_ins, eev_call, eev_tupR1, eev_tupR2, eev_lisR1, eev_lisR2, eev_lc, eevO_no, eevO_so, eevs_nil, eevs_cons, eevT_yes, eevT_cmp, eevT_and, eevT_or, eevT_not, eevT_tr, eevAnd_nil, eevOr_nil, eevAll_nil, eevAll_cons, eevAny_nil, eevAny_cons, eevI_rng1, eevI_rng2, eevI_seq, eex_set, eex_setT, eex_par, eex_setI, eex_aug, eex_expr, eex_ret, eex_ife, eex_whl, eex_for_, eex_brk, eex_ctn, eexs_nil, eexs_cons, eevAnd_1, eevAnd_2, eevOr_1, eevOr_2, W_callN, selD, startE, putN, parPut, Tg.put, Tg.putL, W_fnB, o_add, o_sub, o_mul, o_fdiv, o_mod, o_pow, o_shl, o_shr, o_band, o_bor, o_bxor, o_addT, o_mulT, c_eqI, c_eqS, c_eqB, c_neI, c_neS, c_neB, c_lt, c_le, c_gt, c_ge, t_bl, t_int, t_tup, t_lst, n_neg, at_0, at_1, at_2, at_3, l_tup, l_lst, l_ref, ll_lst, ll_ref, b_len, b_tuple, b_list, b_abs, b_int, b_intB, b_max2, b_min2, b_all, b_any, a_ref, p_app, p_ins, p_set, set_0, set_1, set_2, s_tup, s_lst, i_int, r_tup, r_lst, g_tup, g_lst, g_ref, g_rng1, g_rng2, v_tupR1, v_tupR2, v_lisR1, v_lisR2, u_add, u_sub, W_copT, W_copV, W_truT, W_notV, W_notT, W_tupD, W_lstF, W_lstT, newF, newT, List.map_cons, List.map_nil, List.cons_append, List.nil_append, List.append_nil, List.length_cons, List.length_nil, List.replicate, List.getElem?_cons_zero, List.getElem?_cons_succ, List.set_cons_zero, List.set_cons_succ, List.getElem?_nil, Nat.reduceAdd, Nat.reduceLT, Nat.reduceSub, Nat.reduceEqDiff, ↓reduceIte, decide_eq_true_eq, decide_eq_false_iff_not, Bool.not_eq_true', Bool.not_eq_false', and_true, true_and, List.set_set, forall_const, true_implies, and_self, eq_self, Int.reduceLE, Int.reduceLT, Int.reducePow, Int.reduceToNat, Nat.reducePow, Int.reduceNeg, ne_eq, not_false_eq_true, Int.reduceEq, not_true_eq_false, true_or, or_true, Nat.reduceLeDiff, if_true, if_false, false_imp_iff, true_imp_iff, false_and, and_false, or_false, false_or, Int.toNat_natCast]
      refine ⟨fun h1 => ?_, fun h1 => ?_⟩
      · rw [if_pos (by omega)]
      · rw [if_neg (by omega)]
  · have e : ∀ l : List Nat, (l.map nD).filterMap (fun d => match d with | .int i => if tel s (crs q (i.toNat ^^^ s) j) = h then some (D.int i) else none | _ => none) = (l.filter fun o => decide (tel s (crs q (o ^^^ s) j) = h)).map nD := fun l => by
      induction l with
      | nil => rfl
      | cons o l ih =>
        by_cases hc : tel s (crs q (o ^^^ s) j) = h
        · simp only [List.map_cons, List.filterMap_cons, Int.toNat_natCast, hc, if_true, List.filter_cons, decide_true, ih]
        · simp only [List.map_cons, List.filterMap_cons, Int.toNat_natCast, hc, if_false, List.filter_cons, decide_false, ih, Bool.false_eq_true]
    rw [e]
    have hl := hear_len q h j s
    have eh : (srtN (accL q h)).filter (fun o => decide (tel s (crs q (o ^^^ s) j) = h)) = hear q h j s := rfl
    rw [eh]
    simp only [eev_popI, eev_rem, eev_cnt, p_popI, p_rem, p_asL2, p_cnt, eev_dnew, eev_dget, eev_dgetE, eev_din, eevT_din, eev_dlen, eev_dcmp, eex_dput, Z_sPutD, d_nil, k_one, k_two, k_three, p_dgetI, p_dgetT, p_asDc, p_dgetEI, p_dgetET, p_dinTI, p_dinTT, p_dinVI, p_dinVT, p_dputI, p_dputT, p_dlen, p_dnewI, p_dnewT, o_pairD, o_todD, eev_ext, eev_pop, eex_setII, Z_sSetII, p_ext, p_pop, c_isBB, c_ntBB, eev_cmp2, eevT_cmp2, eevI_enum, eex_rais, W_bCh, g_enL, g_enT, eev_sset, eev_lset, o_sset, o_lset, i_ofS, eevI_rvsd, g_rvT, g_rvL, eev_catM, o_catLM, eev_repL, r_repD, Bool.true_eq_false, Bool.false_eq_true, W_bSrtk, eev_srtk, eevI_zip, inE, o_addL, o_addR, o_catL, c_in, c_notin, b_sorted, b_sum, b_maxL, b_minL, i_of, g_zipT, g_zipL, g_zipR, c_isNI, c_isNN, c_isNT, c_isNL, c_ntNI, c_ntNN, c_ntNT, c_ntNL, ints_map, W_b1, W_b2, W_b3, W_bIf, W_cst, W_vr, W_bAnd, W_bOr, truP_bl, W_consD, W_some, W_none, W_guard, Z_nil, Z_brk, Z_ctn, Z_sSeq, Z_sSet, Z_sPar, Z_sSetI, Z_sAug, Z_sExpr, Z_sRet, Z_sIf, Z_sFor, W_bLc, W_idx, Z_forStep, W_lcStep, wipeE, finF_keep, finF_clean, evs_nil, evO_no, evT_yes, eev_nm, eev_cI, eev_cB, eev_cN, eev_cS, eev_bin, eev_neg, eev_cmp, eev_and, eev_or, eev_not, eev_ife, eev_tup, eev_lst, eev_idx, eev_slc, eev_revT, eev_revL, eev_blt, eev_app, eev_ins, eev_call, eev_tupR1, eev_tupR2, eev_lisR1, eev_lisR2, eev_lc, eevO_no, eevO_so, eevs_nil, eevs_cons, eevT_yes, eevT_cmp, eevT_and, eevT_or, eevT_not, eevT_tr, eevAnd_nil, eevOr_nil, eevAll_nil, eevAll_cons, eevAny_nil, eevAny_cons, eevI_rng1, eevI_rng2, eevI_seq, eex_set, eex_setT, eex_par, eex_setI, eex_aug, eex_expr, eex_ret, eex_ife, eex_whl, eex_for_, eex_brk, eex_ctn, eexs_nil, eexs_cons, eevAnd_1, eevAnd_2, eevOr_1, eevOr_2, W_callN, selD, startE, putN, parPut, Tg.put, Tg.putL, W_fnB, o_add, o_sub, o_mul, o_fdiv, o_mod, o_pow, o_shl, o_shr, o_band, o_bor, o_bxor, o_addT, o_mulT, c_eqI, c_eqS, c_eqB, c_neI, c_neS, c_neB, c_lt, c_le, c_gt, c_ge, t_bl, t_int, t_tup, t_lst, n_neg, at_0, at_1, at_2, at_3, l_tup, l_lst, l_ref, ll_lst, ll_ref, b_len, b_tuple, b_list, b_abs, b_int, b_intB, b_max2, b_min2, b_all, b_any, a_ref, p_app, p_ins, p_set, set_0, set_1, set_2, s_tup, s_lst, i_int, r_tup, r_lst, g_tup, g_lst, g_ref, g_rng1, g_rng2, v_tupR1, v_tupR2, v_lisR1, v_lisR2, u_add, u_sub, W_copT, W_copV, W_truT, W_notV, W_notT, W_tupD, W_lstF, W_lstT, newF, newT, List.map_cons, List.map_nil, List.cons_append, List.nil_append, List.append_nil, List.length_cons, List.length_nil, List.replicate, List.getElem?_cons_zero, List.getElem?_cons_succ, List.set_cons_zero, List.set_cons_succ, List.getElem?_nil, Nat.reduceAdd, Nat.reduceLT, Nat.reduceSub, Nat.reduceEqDiff, ↓reduceIte, decide_eq_true_eq, decide_eq_false_iff_not, Bool.not_eq_true', Bool.not_eq_false', and_true, true_and, List.set_set, forall_const, true_implies, and_self, eq_self, Int.reduceLE, Int.reduceLT, Int.reducePow, Int.reduceToNat, Nat.reducePow, Int.reduceNeg, ne_eq, not_false_eq_true, Int.reduceEq, not_true_eq_false, true_or, or_true, Nat.reduceLeDiff, if_true, if_false, false_imp_iff, true_imp_iff, false_and, and_false, or_false, false_or, List.length_map]
    unfold SL
    omega
end B
namespace B
open PySem PyProof.Rows L2

end B
namespace B
open PySem PyProof.Rows L2
theorem delay_ok {fu n q h j s : Nat} {st : Store} (hs : StOk st) (hq : q ≤ 60) (hj : j < q) (hh : h < 2 ^ q) (hs2 : s < 2 ^ q) (hfu : 100 ≤ fu) :
    W (runF GT GP.dfl fu (n + 4) i_delay [.int q, .int h, .int j, .int s] st) fun d st' => d = nD (dly q (h ^^^ s) j) ∧ st' = st := by
  refine W_runF (fd := fd_delay) (GT_at rfl) rfl ?_
  simp only [fd_delay, eev_popI, eev_rem, eev_cnt, p_popI, p_rem, p_asL2, p_cnt, eev_dnew, eev_dget, eev_dgetE, eev_din, eevT_din, eev_dlen, eev_dcmp, eex_dput, Z_sPutD, d_nil, k_one, k_two, k_three, p_dgetI, p_dgetT, p_asDc, p_dgetEI, p_dgetET, p_dinTI, p_dinTT, p_dinVI, p_dinVT, p_dputI, p_dputT, p_dlen, p_dnewI, p_dnewT, o_pairD, o_todD, eev_ext, eev_pop, eex_setII, Z_sSetII, p_ext, p_pop, c_isBB, c_ntBB, eev_cmp2, eevT_cmp2, eevI_enum, eex_rais, W_bCh, g_enL, g_enT, eev_sset, eev_lset, o_sset, o_lset, i_ofS, eevI_rvsd, g_rvT, g_rvL, eev_catM, o_catLM, eev_repL, r_repD, Bool.true_eq_false, Bool.false_eq_true, W_bSrtk, eev_srtk, eevI_zip, inE, o_addL, o_addR, o_catL, c_in, c_notin, b_sorted, b_sum, b_maxL, b_minL, i_of, g_zipT, g_zipL, g_zipR, c_isNI, c_isNN, c_isNT, c_isNL, c_ntNI, c_ntNN, c_ntNT, c_ntNL, ints_map, W_b1, W_b2, W_b3, W_bIf, W_cst, W_vr, W_bAnd, W_bOr, truP_bl, W_consD, W_some, W_none, W_guard, Z_nil, Z_brk, Z_ctn, Z_sSeq, Z_sSet, Z_sPar, Z_sSetI, Z_sAug, Z_sExpr, Z_sRet, Z_sIf, Z_sFor, W_bLc, W_idx, Z_forStep, W_lcStep, wipeE, finF_keep, finF_clean, evs_nil, evO_no, evT_yes, eev_nm, eev_cI, eev_cB, eev_cN, eev_cS, eev_bin, eev_neg, eev_cmp, eev_and, eev_or, eev_not, eev_ife, eev_tup, eev_lst, eev_idx, eev_slc, eev_revT, eev_revL, eev_blt, eev_app, eev_ins, eev_call, eev_tupR1, eev_tupR2, eev_lisR1, eev_lisR2, eev_lc, eevO_no, eevO_so, eevs_nil, eevs_cons, eevT_yes, eevT_cmp, eevT_and, eevT_or, eevT_not, eevT_tr, eevAnd_nil, eevOr_nil, eevAll_nil, eevAll_cons, eevAny_nil, eevAny_cons, eevI_rng1, eevI_rng2, eevI_seq, eex_set, eex_setT, eex_par, eex_setI, eex_aug, eex_expr, eex_ret, eex_ife, eex_whl, eex_for_, eex_brk, eex_ctn, eexs_nil, eexs_cons, eevAnd_1, eevAnd_2, eevOr_1, eevOr_2, W_callN, selD, startE, putN, parPut, Tg.put, Tg.putL, W_fnB, o_add, o_sub, o_mul, o_fdiv, o_mod, o_pow, o_shl, o_shr, o_band, o_bor, o_bxor, o_addT, o_mulT, c_eqI, c_eqS, c_eqB, c_neI, c_neS, c_neB, c_lt, c_le, c_gt, c_ge, t_bl, t_int, t_tup, t_lst, n_neg, at_0, at_1, at_2, at_3, l_tup, l_lst, l_ref, ll_lst, ll_ref, b_len, b_tuple, b_list, b_abs, b_int, b_intB, b_max2, b_min2, b_all, b_any, a_ref, p_app, p_ins, p_set, set_0, set_1, set_2, s_tup, s_lst, i_int, r_tup, r_lst, g_tup, g_lst, g_ref, g_rng1, g_rng2, v_tupR1, v_tupR2, v_lisR1, v_lisR2, u_add, u_sub, W_copT, W_copV, W_truT, W_notV, W_notT, W_tupD, W_lstF, W_lstT, newF, newT, List.map_cons, List.map_nil, List.cons_append, List.nil_append, List.append_nil, List.length_cons, List.length_nil, List.replicate, List.getElem?_cons_zero, List.getElem?_cons_succ, List.set_cons_zero, List.set_cons_succ, List.getElem?_nil, Nat.reduceAdd, Nat.reduceLT, Nat.reduceSub, Nat.reduceEqDiff, ↓reduceIte, decide_eq_true_eq, decide_eq_false_iff_not, Bool.not_eq_true', Bool.not_eq_false', and_true, true_and, List.set_set, forall_const, true_implies, and_self, eq_self, Int.reduceLE, Int.reduceLT, Int.reducePow, Int.reduceToNat, Nat.reducePow, Int.reduceNeg, ne_eq, not_false_eq_true, Int.reduceEq, not_true_eq_false, true_or, or_true, Nat.reduceLeDiff, if_true, if_false, false_imp_iff, true_imp_iff, false_and, and_false, or_false, false_or, bitXor_nat]
  refine (hasbit_ok (h := h ^^^ s) (k := j)).mono fun d s2 ⟨e, e2⟩ => ?_
  subst e e2
  simp only [eev_popI, eev_rem, eev_cnt, p_popI, p_rem, p_asL2, p_cnt, eev_dnew, eev_dget, eev_dgetE, eev_din, eevT_din, eev_dlen, eev_dcmp, eex_dput, Z_sPutD, d_nil, k_one, k_two, k_three, p_dgetI, p_dgetT, p_asDc, p_dgetEI, p_dgetET, p_dinTI, p_dinTT, p_dinVI, p_dinVT, p_dputI, p_dputT, p_dlen, p_dnewI, p_dnewT, o_pairD, o_todD, eev_ext, eev_pop, eex_setII, Z_sSetII, p_ext, p_pop, c_isBB, c_ntBB, eev_cmp2, eevT_cmp2, eevI_enum, eex_rais, W_bCh, g_enL, g_enT, eev_sset, eev_lset, o_sset, o_lset, i_ofS, eevI_rvsd, g_rvT, g_rvL, eev_catM, o_catLM, eev_repL, r_repD, Bool.true_eq_false, Bool.false_eq_true, W_bSrtk, eev_srtk, eevI_zip, inE, o_addL, o_addR, o_catL, c_in, c_notin, b_sorted, b_sum, b_maxL, b_minL, i_of, g_zipT, g_zipL, g_zipR, c_isNI, c_isNN, c_isNT, c_isNL, c_ntNI, c_ntNN, c_ntNT, c_ntNL, ints_map, W_b1, W_b2, W_b3, W_bIf, W_cst, W_vr, W_bAnd, W_bOr, truP_bl, W_consD, W_some, W_none, W_guard, Z_nil, Z_brk, Z_ctn, Z_sSeq, Z_sSet, Z_sPar, Z_sSetI, Z_sAug, Z_sExpr, Z_sRet, Z_sIf, Z_sFor, W_bLc, W_idx, Z_forStep, W_lcStep, wipeE, finF_keep, finF_clean, evs_nil, evO_no, evT_yes, eev_nm, eev_cI, eev_cB, eev_cN, eev_cS, eev_bin, eev_neg, eev_cmp, eev_and, eev_or, eev_not, eev_ife, eev_tup, eev_lst, eev_idx, eev_slc, eev_revT, eev_revL, eev_blt, eev_app, eev_ins, eev_call, eev_tupR1, eev_tupR2, eev_lisR1, eev_lisR2, eev_lc, eevO_no, eevO_so, eevs_nil, eevs_cons, eevT_yes, eevT_cmp, eevT_and, eevT_or, eevT_not, eevT_tr, eevAnd_nil, eevOr_nil, eevAll_nil, eevAll_cons, eevAny_nil, eevAny_cons, eevI_rng1, eevI_rng2, eevI_seq, eex_set, eex_setT, eex_par, eex_setI, eex_aug, eex_expr, eex_ret, eex_ife, eex_whl, eex_for_, eex_brk, eex_ctn, eexs_nil, eexs_cons, eevAnd_1, eevAnd_2, eevOr_1, eevOr_2, W_callN, selD, startE, putN, parPut, Tg.put, Tg.putL, W_fnB, o_add, o_sub, o_mul, o_fdiv, o_mod, o_pow, o_shl, o_shr, o_band, o_bor, o_bxor, o_addT, o_mulT, c_eqI, c_eqS, c_eqB, c_neI, c_neS, c_neB, c_lt, c_le, c_gt, c_ge, t_bl, t_int, t_tup, t_lst, n_neg, at_0, at_1, at_2, at_3, l_tup, l_lst, l_ref, ll_lst, ll_ref, b_len, b_tuple, b_list, b_abs, b_int, b_intB, b_max2, b_min2, b_all, b_any, a_ref, p_app, p_ins, p_set, set_0, set_1, set_2, s_tup, s_lst, i_int, r_tup, r_lst, g_tup, g_lst, g_ref, g_rng1, g_rng2, v_tupR1, v_tupR2, v_lisR1, v_lisR2, u_add, u_sub, W_copT, W_copV, W_truT, W_notV, W_notT, W_tupD, W_lstF, W_lstT, newF, newT, List.map_cons, List.map_nil, List.cons_append, List.nil_append, List.append_nil, List.length_cons, List.length_nil, List.replicate, List.getElem?_cons_zero, List.getElem?_cons_succ, List.set_cons_zero, List.set_cons_succ, List.getElem?_nil, Nat.reduceAdd, Nat.reduceLT, Nat.reduceSub, Nat.reduceEqDiff, ↓reduceIte, decide_eq_true_eq, decide_eq_false_iff_not, Bool.not_eq_true', Bool.not_eq_false', and_true, true_and, List.set_set, forall_const, true_implies, and_self, eq_self, Int.reduceLE, Int.reduceLT, Int.reducePow, Int.reduceToNat, Nat.reducePow, Int.reduceNeg, ne_eq, not_false_eq_true, Int.reduceEq, not_true_eq_false, true_or, or_true, Nat.reduceLeDiff, if_true, if_false, false_imp_iff, true_imp_iff, false_and, and_false, or_false, false_or]
  refine ⟨fun hb => ?_, fun hb => ?_⟩
  · unfold dly
    rw [if_neg (by rw [hb]; exact Bool.false_ne_true)]
  · refine (crossed_ok hs hq hj hh hs2 hfu).mono fun d s3 ⟨e, e2⟩ => ?_
    subst e e2
    simp only [eev_popI, eev_rem, eev_cnt, p_popI, p_rem, p_asL2, p_cnt, eev_dnew, eev_dget, eev_dgetE, eev_din, eevT_din, eev_dlen, eev_dcmp, eex_dput, Z_sPutD, d_nil, k_one, k_two, k_three, p_dgetI, p_dgetT, p_asDc, p_dgetEI, p_dgetET, p_dinTI, p_dinTT, p_dinVI, p_dinVT, p_dputI, p_dputT, p_dlen, p_dnewI, p_dnewT, o_pairD, o_todD, eev_ext, eev_pop, eex_setII, Z_sSetII, p_ext, p_pop, c_isBB, c_ntBB, eev_cmp2, eevT_cmp2, eevI_enum, eex_rais, W_bCh, g_enL, g_enT, eev_sset, eev_lset, o_sset, o_lset, i_ofS, eevI_rvsd, g_rvT, g_rvL, eev_catM, o_catLM, eev_repL, r_repD, Bool.true_eq_false, Bool.false_eq_true, W_bSrtk, eev_srtk, eevI_zip, inE, o_addL, o_addR, o_catL, c_in, c_notin, b_sorted, b_sum, b_maxL, b_minL, i_of, g_zipT, g_zipL, g_zipR, c_isNI, c_isNN, c_isNT, c_isNL, c_ntNI, c_ntNN, c_ntNT, c_ntNL, ints_map, W_b1, W_b2, W_b3, W_bIf, W_cst, W_vr, W_bAnd, W_bOr, truP_bl, W_consD, W_some, W_none, W_guard, Z_nil, Z_brk, Z_ctn, Z_sSeq, Z_sSet, Z_sPar, Z_sSetI, Z_sAug, Z_sExpr, Z_sRet, Z_sIf, Z_sFor, W_bLc, W_idx, Z_forStep, W_lcStep, wipeE, finF_keep, finF_clean, evs_nil, evO_no, evT_yes, eev_nm, eev_cI, eev_cB, eev_cN, eev_cS, eev_bin, eev_neg, eev_cmp, eev_and, eev_or, eev_not, eev_ife, eev_tup, eev_lst, eev_idx, eev_slc, eev_revT, eev_revL, eev_blt, eev_app, eev_ins, eev_call, eev_tupR1, eev_tupR2, eev_lisR1, eev_lisR2, eev_lc, eevO_no, eevO_so, eevs_nil, eevs_cons, eevT_yes, eevT_cmp, eevT_and, eevT_or, eevT_not, eevT_tr, eevAnd_nil, eevOr_nil, eevAll_nil, eevAll_cons, eevAny_nil, eevAny_cons, eevI_rng1, eevI_rng2, eevI_seq, eex_set, eex_setT, eex_par, eex_setI, eex_aug, eex_expr, eex_ret, eex_ife, eex_whl, eex_for_, eex_brk, eex_ctn, eexs_nil, eexs_cons, eevAnd_1, eevAnd_2, eevOr_1, eevOr_2, W_callN, selD, startE, putN, parPut, Tg.put, Tg.putL, W_fnB, o_add, o_sub, o_mul, o_fdiv, o_mod, o_pow, o_shl, o_shr, o_band, o_bor, o_bxor, o_addT, o_mulT, c_eqI, c_eqS, c_eqB, c_neI, c_neS, c_neB, c_lt, c_le, c_gt, c_ge, t_bl, t_int, t_tup, t_lst, n_neg, at_0, at_1, at_2, at_3, l_tup, l_lst, l_ref, ll_lst, ll_ref, b_len, b_tuple, b_list, b_abs, b_int, b_intB, b_max2, b_min2, b_all, b_any, a_ref, p_app, p_ins, p_set, set_0, set_1, set_2, s_tup, s_lst, i_int, r_tup, r_lst, g_tup, g_lst, g_ref, g_rng1, g_rng2, v_tupR1, v_tupR2, v_lisR1, v_lisR2, u_add, u_sub, W_copT, W_copV, W_truT, W_notV, W_notT, W_tupD, W_lstF, W_lstT, newF, newT, List.map_cons, List.map_nil, List.cons_append, List.nil_append, List.append_nil, List.length_cons, List.length_nil, List.replicate, List.getElem?_cons_zero, List.getElem?_cons_succ, List.set_cons_zero, List.set_cons_succ, List.getElem?_nil, Nat.reduceAdd, Nat.reduceLT, Nat.reduceSub, Nat.reduceEqDiff, ↓reduceIte, decide_eq_true_eq, decide_eq_false_iff_not, Bool.not_eq_true', Bool.not_eq_false', and_true, true_and, List.set_set, forall_const, true_implies, and_self, eq_self, Int.reduceLE, Int.reduceLT, Int.reducePow, Int.reduceToNat, Nat.reducePow, Int.reduceNeg, ne_eq, not_false_eq_true, Int.reduceEq, not_true_eq_false, true_or, or_true, Nat.reduceLeDiff, if_true, if_false, false_imp_iff, true_imp_iff, false_and, and_false, or_false, false_or, at_lz]
    refine (arc_ok (k := lz q (h ^^^ s) j) (by omega)).mono fun d s4 ⟨e, e2⟩ => ?_
    subst e e2
    unfold dly
    rw [if_pos hb, akey_aN hj (lz_lt hj)]
    exact ⟨rfl, rfl⟩
end B
namespace B
open PySem PyProof.Rows L2
def insN (a : Nat) : List Nat → List Nat
  | [] => [a]
  | b :: r => if a ≤ b then a :: b :: r else b :: insN a r
def isrt : List Nat → List Nat
  | [] => []
  | a :: r => insN a (isrt r)
theorem insN_perm (a : Nat) : ∀ l : List Nat, (insN a l).Perm (a :: l)
  | [] => List.Perm.refl _
  | b :: r => by
    unfold insN
    split
    · exact List.Perm.refl _
    · exact (List.Perm.cons b (insN_perm a r)).trans (List.Perm.swap a b r)
theorem isrt_perm : ∀ l : List Nat, (isrt l).Perm l
  | [] => List.Perm.refl _
  | a :: r => (insN_perm a _).trans (List.Perm.cons a (isrt_perm r))
theorem insN_pw (a : Nat) : ∀ l : List Nat, l.Pairwise (· ≤ ·) → (insN a l).Pairwise (· ≤ ·)
  | [], _ => List.pairwise_singleton _ _
  | b :: r, h => by
    obtain ⟨h1, h2⟩ := List.pairwise_cons.mp h
    unfold insN
    split
    · rename_i hle
      refine List.pairwise_cons.mpr ⟨fun x hx => ?_, h⟩
      rcases List.mem_cons.mp hx with e | hx
      · rw [e]; exact hle
      · exact Nat.le_trans hle (h1 x hx)
    · rename_i hle
      refine List.pairwise_cons.mpr ⟨fun x hx => ?_, insN_pw a r h2⟩
      rcases List.mem_cons.mp ((insN_perm a r).mem_iff.mp hx) with e | hx
      · rw [e]; omega
      · exact h1 x hx
theorem isrt_pw : ∀ l : List Nat, (isrt l).Pairwise (· ≤ ·)
  | [] => List.Pairwise.nil
  | a :: r => insN_pw a _ (isrt_pw r)
theorem isrt_eq (l : List Nat) : srtN l = isrt l := (srtN_eq (isrt_perm l) (isrt_pw l)).symm
def hearK (q h j s : Nat) : List Nat := (isrt (accL q h)).filter fun o => decide (tel s (crs q (o ^^^ s) j) = h)
theorem hearK_eq (q h j s : Nat) : hear q h j s = hearK q h j s := by unfold hear hearK; rw [isrt_eq]
abbrev GSt := List (Nat × Nat) × List Nat
def gstep (q j s : Nat) (S : GSt) : GSt := match S.2.getLast? with
  | some h => (S.1 ++ (hearK q h j s).map (fun o => (h, o)), S.2.dropLast ++ (hearK q h j s).filter fun o => decide (o ≠ s))
  | none => S
def gfin (q j s : Nat) (F : List (Nat × Nat)) : Bool := (List.range (2 ^ q)).all (fun h => decide (h ∈ F.map (·.2))) && decide (F.length = 2 ^ q) && F.all fun e => decide (e.2 < 2 ^ q) && decide (e.1 < 2 ^ q) && decide (tel s (crs q (e.2 ^^^ s) j) = e.1)
def goodK (q j s : Nat) : Nat → GSt → Bool
  | 0, S => S.2.isEmpty && gfin q j s S.1
  | k + 1, S => !S.2.isEmpty && decide (S.1.length ≤ 2 ^ q) && S.2.all (fun h => decide (h < 2 ^ q)) && goodK q j s k (gstep q j s S)
theorem good_low : ((List.range 5).all fun q => (List.range q).all fun j => (List.range (2 ^ q)).all fun s => goodK q j s (2 ^ q) ([], [s])) = true := by decide +kernel
theorem good5_0_0 : ((List.range 8).all fun t => goodK 5 0 (0 + t) 32 ([], [0 + t])) = true := by decide +kernel
theorem good5_0_1 : ((List.range 8).all fun t => goodK 5 0 (8 + t) 32 ([], [8 + t])) = true := by decide +kernel
theorem good5_0_2 : ((List.range 8).all fun t => goodK 5 0 (16 + t) 32 ([], [16 + t])) = true := by decide +kernel
theorem good5_0_3 : ((List.range 8).all fun t => goodK 5 0 (24 + t) 32 ([], [24 + t])) = true := by decide +kernel
theorem good5_1_0 : ((List.range 8).all fun t => goodK 5 1 (0 + t) 32 ([], [0 + t])) = true := by decide +kernel
theorem good5_1_1 : ((List.range 8).all fun t => goodK 5 1 (8 + t) 32 ([], [8 + t])) = true := by decide +kernel
theorem good5_1_2 : ((List.range 8).all fun t => goodK 5 1 (16 + t) 32 ([], [16 + t])) = true := by decide +kernel
theorem good5_1_3 : ((List.range 8).all fun t => goodK 5 1 (24 + t) 32 ([], [24 + t])) = true := by decide +kernel
theorem good5_2_0 : ((List.range 8).all fun t => goodK 5 2 (0 + t) 32 ([], [0 + t])) = true := by decide +kernel
theorem good5_2_1 : ((List.range 8).all fun t => goodK 5 2 (8 + t) 32 ([], [8 + t])) = true := by decide +kernel
theorem good5_2_2 : ((List.range 8).all fun t => goodK 5 2 (16 + t) 32 ([], [16 + t])) = true := by decide +kernel
theorem good5_2_3 : ((List.range 8).all fun t => goodK 5 2 (24 + t) 32 ([], [24 + t])) = true := by decide +kernel
theorem good5_3_0 : ((List.range 8).all fun t => goodK 5 3 (0 + t) 32 ([], [0 + t])) = true := by decide +kernel
theorem good5_3_1 : ((List.range 8).all fun t => goodK 5 3 (8 + t) 32 ([], [8 + t])) = true := by decide +kernel
theorem good5_3_2 : ((List.range 8).all fun t => goodK 5 3 (16 + t) 32 ([], [16 + t])) = true := by decide +kernel
theorem good5_3_3 : ((List.range 8).all fun t => goodK 5 3 (24 + t) 32 ([], [24 + t])) = true := by decide +kernel
theorem good5_4_0 : ((List.range 8).all fun t => goodK 5 4 (0 + t) 32 ([], [0 + t])) = true := by decide +kernel
theorem good5_4_1 : ((List.range 8).all fun t => goodK 5 4 (8 + t) 32 ([], [8 + t])) = true := by decide +kernel
theorem good5_4_2 : ((List.range 8).all fun t => goodK 5 4 (16 + t) 32 ([], [16 + t])) = true := by decide +kernel
theorem good5_4_3 : ((List.range 8).all fun t => goodK 5 4 (24 + t) 32 ([], [24 + t])) = true := by decide +kernel
theorem good5 (j s : Nat) (hj : j < 5) (hs : s < 32) : goodK 5 j s 32 ([], [s]) = true := by
  obtain ⟨a, t, rfl, ha, ht⟩ : ∃ a t : Nat, s = 8 * a + t ∧ a < 4 ∧ t < 8 := ⟨s / 8, s % 8, by omega, by omega, by omega⟩
  have hm : t ∈ List.range 8 := List.mem_range.mpr ht
  rcases (by omega : j = 0 ∨ j = 1 ∨ j = 2 ∨ j = 3 ∨ j = 4) with rfl | rfl | rfl | rfl | rfl <;> rcases (by omega : a = 0 ∨ a = 1 ∨ a = 2 ∨ a = 3) with rfl | rfl | rfl | rfl
  · exact List.all_eq_true.mp good5_0_0 t hm
  · exact List.all_eq_true.mp good5_0_1 t hm
  · exact List.all_eq_true.mp good5_0_2 t hm
  · exact List.all_eq_true.mp good5_0_3 t hm
  · exact List.all_eq_true.mp good5_1_0 t hm
  · exact List.all_eq_true.mp good5_1_1 t hm
  · exact List.all_eq_true.mp good5_1_2 t hm
  · exact List.all_eq_true.mp good5_1_3 t hm
  · exact List.all_eq_true.mp good5_2_0 t hm
  · exact List.all_eq_true.mp good5_2_1 t hm
  · exact List.all_eq_true.mp good5_2_2 t hm
  · exact List.all_eq_true.mp good5_2_3 t hm
  · exact List.all_eq_true.mp good5_3_0 t hm
  · exact List.all_eq_true.mp good5_3_1 t hm
  · exact List.all_eq_true.mp good5_3_2 t hm
  · exact List.all_eq_true.mp good5_3_3 t hm
  · exact List.all_eq_true.mp good5_4_0 t hm
  · exact List.all_eq_true.mp good5_4_1 t hm
  · exact List.all_eq_true.mp good5_4_2 t hm
  · exact List.all_eq_true.mp good5_4_3 t hm
theorem good_all : ((List.range 6).all fun q => (List.range q).all fun j => (List.range (2 ^ q)).all fun s => goodK q j s (2 ^ q) ([], [s])) = true := by
  refine List.all_eq_true.mpr fun q hq => ?_
  have hq := List.mem_range.mp hq
  by_cases h : q < 5
  · exact List.all_eq_true.mp good_low q (List.mem_range.mpr h)
  · obtain rfl : q = 5 := by omega
    exact List.all_eq_true.mpr fun j hj => List.all_eq_true.mpr fun s hs => good5 j s (List.mem_range.mp hj) (List.mem_range.mp hs)
def dueC (q : Nat) : List Nat := [1] ++ (List.range (q - 1)).map (fun b => 2 ^ b) ++ [2 ^ (q - 1)]
def lateL (q j s : Nat) : List Nat := (List.range (2 ^ q)).map fun h => dly q (h ^^^ s) j
theorem late_low : ((List.range 5).all fun q => (List.range q).all fun j => (List.range (2 ^ q)).all fun s => decide ((List.range (q + 1)).map (fun b => (lateL q j s).count b) = dueC q)) = true := by decide +kernel
theorem late5_0 : ((List.range 32).all fun s => decide ((List.range 6).map (fun b => (lateL 5 0 s).count b) = dueC 5)) = true := by decide +kernel
theorem late5_1 : ((List.range 32).all fun s => decide ((List.range 6).map (fun b => (lateL 5 1 s).count b) = dueC 5)) = true := by decide +kernel
theorem late5_2 : ((List.range 32).all fun s => decide ((List.range 6).map (fun b => (lateL 5 2 s).count b) = dueC 5)) = true := by decide +kernel
theorem late5_3 : ((List.range 32).all fun s => decide ((List.range 6).map (fun b => (lateL 5 3 s).count b) = dueC 5)) = true := by decide +kernel
theorem late5_4 : ((List.range 32).all fun s => decide ((List.range 6).map (fun b => (lateL 5 4 s).count b) = dueC 5)) = true := by decide +kernel
theorem late_all : ((List.range 6).all fun q => (List.range q).all fun j => (List.range (2 ^ q)).all fun s => decide ((List.range (q + 1)).map (fun b => (lateL q j s).count b) = dueC q)) = true := by
  refine List.all_eq_true.mpr fun q hq => ?_
  have hq := List.mem_range.mp hq
  by_cases h : q < 5
  · exact List.all_eq_true.mp late_low q (List.mem_range.mpr h)
  · obtain rfl : q = 5 := by omega
    refine List.all_eq_true.mpr fun j hj => ?_
    have hj := List.mem_range.mp hj
    rcases (by omega : j = 0 ∨ j = 1 ∨ j = 2 ∨ j = 3 ∨ j = 4) with rfl | rfl | rfl | rfl | rfl
    · exact late5_0
    · exact late5_1
    · exact late5_2
    · exact late5_3
    · exact late5_4
end B
namespace B
open PySem PyProof.Rows L2
theorem neR_nil {ds : List D} {st : Store} {n : Nat} (hn : st[n]? = some (.lst ds)) (h : D.smL ds = true) (hd : D.depL ds ≤ 60) : cop .ne (.ref n) (.lst []) st = some (!ds.isEmpty) := by
  have h' : (D.lst ds).sm = true := by simpa only [D.sm] using h
  have hd' : (D.lst ds).dep ≤ 64 := by simp only [D.dep]; omega
  obtain ⟨x, e, -⟩ := D.sm_py (.lst ds) h'
  show (match ((D.ref n).see st).py, ((D.lst []).see st).py with
      | some x, some y => if SeqAt.shaped x = true ∧ SeqAt.shaped y = true then some (!PyData.eqv x y) else none
      | _, _ => none) = some (!ds.isEmpty)
  have e0 : (D.ref n).see st = .lst ds := by
    unfold D.see
    simp only [hn]
  have e2' : ((D.lst []).see st).py = some (.list []) := rfl
  rw [e0, e, e2']
  simp only
  rw [if_pos ⟨shp_sm h' hd' e, by decide⟩]
  congr 2
  unfold D.py at e
  cases ds with
  | nil => cases e; rfl
  | cons d ds =>
    split at e
    · rename_i xs hx
      cases e
      unfold D.pyL at hx
      split at hx
      · split at hx
        · cases hx; rfl
        · cases hx
      · cases hx
    · cases e
end B
namespace B
open PySem PyProof.Rows L2
theorem nats_map (l : List Nat) : intsD (l.map nD) = some (l.map fun (i : Nat) => (i : Int)) := by
  have := ints_map (l.map fun (i : Nat) => (i : Int))
  rw [List.map_map] at this
  exact this
theorem nats_lo (l : List Nat) : D.loL 0 (l.map nD) = true := loL_iff.mpr fun d hd => by
  obtain ⟨i, _, rfl⟩ := List.mem_map.mp hd
  rfl
end B
namespace B
open PySem PyProof.Rows L2
def edgD (e : Nat × Nat) : D := .tup [nD e.1, nD e.2]
theorem pairsLo (F : List (Nat × Nat)) : D.loL 0 (F.map edgD) = true := loL_iff.mpr fun d hd => by
  obtain ⟨x, _, rfl⟩ := List.mem_map.mp hd
  rfl
theorem lmapN (l : List Nat) : (l.map nD).getLast? = l.getLast?.map nD := List.getLast?_map ..
theorem gone_ok {n q j s : Nat} {st : Store} (hst : StOk st) (hq1 : 1 ≤ q) (hq : q ≤ 5) (hj : j < q) (hs : s < 2 ^ q) :
    W (runF GT GP.dfl 1000 (n + 7) i__law_gone [.int q, .int j, .int s] st) fun d st' => (∃ F, d = .lst (F.map edgD) ∧ gfin q j s F = true) ∧ st' = st := by
  have h5 : 2 ^ q ≤ 2 ^ 5 := Nat.pow_le_pow_right (by decide) hq
  have hgood : goodK q j s (2 ^ q) ([], [s]) = true := by
    have h1 := List.all_eq_true.mp good_all q (List.mem_range.mpr (by omega))
    have h2 := List.all_eq_true.mp h1 j (List.mem_range.mpr hj)
    exact List.all_eq_true.mp h2 s (List.mem_range.mpr hs)
  have hl1 : ∀ a, (st ++ [O.lst a]).length = st.length + 1 := fun a => by simp
  have hat2 : ∀ (a : List D) (o : O), (st ++ [O.lst a] ++ [o])[st.length]? = some (.lst a) := fun a o => by
    rw [List.getElem?_append_left (by simp)]
    exact app_last rfl
  have hat3 : ∀ (a : List D) (o : O), (st ++ [o] ++ [O.lst a])[st.length + 1]? = some (.lst a) := fun a o => app_last (by simp)
  have hset2 : ∀ (o o2 o3 : O), (st ++ [o] ++ [o2]).set st.length o3 = st ++ [o3] ++ [o2] := fun o o2 o3 => by
    rw [List.set_append_left _ _ (by simp), app_set rfl]
  have hset3 : ∀ (o o2 o3 : O), (st ++ [o] ++ [o2]).set (st.length + 1) o3 = st ++ [o] ++ [o3] := fun o o2 o3 => app_set (by simp)
  refine W_runF (fd := fd__law_gone) (GT_at rfl) rfl ?_
  simp (maxSteps := 4000000) only [fd__law_gone, eev_popI, eev_rem, eev_cnt, p_popI, p_rem, p_asL2, p_cnt, eev_dnew, eev_dget, eev_dgetE, eev_din, eevT_din, eev_dlen, eev_dcmp, eex_dput, Z_sPutD, d_nil, k_one, k_two, k_three, p_dgetI, p_dgetT, p_asDc, p_dgetEI, p_dgetET, p_dinTI, p_dinTT, p_dinVI, p_dinVT, p_dputI, p_dputT, p_dlen, p_dnewI, p_dnewT, o_pairD, o_todD, eev_ext, eev_pop, eex_setII, Z_sSetII, p_ext, p_pop, c_isBB, c_ntBB, eev_cmp2, eevT_cmp2, eevI_enum, eex_rais, W_bCh, g_enL, g_enT, eev_sset, eev_lset, o_sset, o_lset, i_ofS, eevI_rvsd, g_rvT, g_rvL, eev_catM, o_catLM, eev_repL, r_repD, Bool.true_eq_false, Bool.false_eq_true, W_bSrtk, eev_srtk, eevI_zip, inE, o_addL, o_addR, o_catL, c_in, c_notin, b_sorted, b_sum, b_maxL, b_minL, i_of, g_zipT, g_zipL, g_zipR, c_isNI, c_isNN, c_isNT, c_isNL, c_ntNI, c_ntNN, c_ntNT, c_ntNL, ints_map, W_b1, W_b2, W_b3, W_bIf, W_cst, W_vr, W_bAnd, W_bOr, truP_bl, W_consD, W_some, W_none, W_guard, Z_nil, Z_brk, Z_ctn, Z_sSeq, Z_sSet, Z_sPar, Z_sSetI, Z_sAug, Z_sExpr, Z_sRet, Z_sIf, Z_sFor, W_bLc, W_idx, Z_forStep, W_lcStep, wipeE, finF_keep, finF_clean, evs_nil, evO_no, evT_yes, eev_nm, eev_cI, eev_cB, eev_cN, eev_cS, eev_bin, eev_neg, eev_cmp, eev_and, eev_or, eev_not, eev_ife, eev_tup, eev_lst, eev_idx, eev_slc, eev_revT, eev_revL, eev_blt, eev_app, eev_ins, eev_call, eev_tupR1, eev_tupR2, eev_lisR1, eev_lisR2, eev_lc, eevO_no, eevO_so, eevs_nil, eevs_cons, eevT_yes, eevT_cmp, eevT_and, eevT_or, eevT_not, eevT_tr, eevAnd_nil, eevOr_nil, eevAll_nil, eevAll_cons, eevAny_nil, eevAny_cons, eevI_rng1, eevI_rng2, eevI_seq, eex_set, eex_setT, eex_par, eex_setI, eex_aug, eex_expr, eex_ret, eex_ife, eex_whl, eex_for_, eex_brk, eex_ctn, eexs_nil, eexs_cons, eevAnd_1, eevAnd_2, eevOr_1, eevOr_2, W_callN, selD, startE, putN, parPut, Tg.put, Tg.putL, W_fnB, o_add, o_sub, o_mul, o_fdiv, o_mod, o_pow, o_shl, o_shr, o_band, o_bor, o_bxor, o_addT, o_mulT, c_eqI, c_eqS, c_eqB, c_neI, c_neS, c_neB, c_lt, c_le, c_gt, c_ge, t_bl, t_int, t_tup, t_lst, n_neg, at_0, at_1, at_2, at_3, l_tup, l_lst, l_ref, ll_lst, ll_ref, b_len, b_tuple, b_list, b_abs, b_int, b_intB, b_max2, b_min2, b_all, b_any, a_ref, p_app, p_ins, p_set, set_0, set_1, set_2, s_tup, s_lst, i_int, r_tup, r_lst, g_tup, g_lst, g_ref, g_rng1, g_rng2, v_tupR1, v_tupR2, v_lisR1, v_lisR2, u_add, u_sub, W_copT, W_copV, W_truT, W_notV, W_notT, W_tupD, W_lstF, W_lstT, newF, newT, List.map_cons, List.map_nil, List.cons_append, List.nil_append, List.append_nil, List.length_cons, List.length_nil, List.replicate, List.getElem?_cons_zero, List.getElem?_cons_succ, List.set_cons_zero, List.set_cons_succ, List.getElem?_nil, Nat.reduceAdd, Nat.reduceLT, Nat.reduceSub, Nat.reduceEqDiff, ↓reduceIte, decide_eq_true_eq, decide_eq_false_iff_not, Bool.not_eq_true', Bool.not_eq_false', and_true, true_and, List.set_set, forall_const, true_implies, and_self, eq_self, Int.reduceLE, Int.reduceLT, Int.reducePow, Int.reduceToNat, Nat.reducePow, Int.reduceNeg, ne_eq, not_false_eq_true, Int.reduceEq, not_true_eq_false, true_or, or_true, Nat.reduceLeDiff, if_true, if_false, false_imp_iff, true_imp_iff, false_and, and_false, or_false, false_or, hl1]
  refine ⟨Nat.zero_le _, by unfold SL; omega, ?_⟩
  refine Z.mono (q := ⟨fun env s1 => ∃ (F : List (Nat × Nat)) (y5 y6 : Option D), gfin q j s F = true ∧ s1 = st ++ [.lst (F.map edgD)] ++ [.lst []] ∧ env = [some (.int q), some (.int j), some (.int s), some (.ref st.length), some (.ref (st.length + 1)), y5, y6], _, _, _⟩) ?_ (fun e s1 hP => ?_) (fun _ _ h => h) (fun _ _ h => h) (fun _ _ h => h)
  · refine Z_whl (fun k env s1 => ∃ (F : List (Nat × Nat)) (w : List Nat) (y5 y6 : Option D), goodK q j s k (F, w) = true ∧ w.length + 6 * k ≤ 300 ∧ s1 = st ++ [.lst (F.map edgD)] ++ [.lst (w.map nD)] ∧ env = [some (.int q), some (.int j), some (.int s), some (.ref st.length), some (.ref (st.length + 1)), y5, y6]) ?step 1000 (2 ^ q) _ _ (by omega) ⟨[], [s], _, _, hgood, by simp only [List.length_cons, List.length_nil]; omega, rfl, rfl⟩
    case step =>
      rintro k env s1 ⟨F, w, y5, y6, hg, hwk, e1, e2⟩
      subst e1 e2
      cases k with
      | zero =>
        unfold goodK at hg
        rw [Bool.and_eq_true] at hg
        obtain ⟨hw0, hgf⟩ := hg
        have hw0 : w = [] := List.isEmpty_iff.mp hw0
        subst hw0
        have hne : cop .ne (.ref (st.length + 1)) (.lst []) (st ++ [O.lst (F.map edgD)] ++ [O.lst []]) = some (!([] : List D).isEmpty) := neR_nil (hat3 _ _) rfl (by simp [D.depL])
        simp (maxSteps := 4000000) only [eev_popI, eev_rem, eev_cnt, p_popI, p_rem, p_asL2, p_cnt, eev_dnew, eev_dget, eev_dgetE, eev_din, eevT_din, eev_dlen, eev_dcmp, eex_dput, Z_sPutD, d_nil, k_one, k_two, k_three, p_dgetI, p_dgetT, p_asDc, p_dgetEI, p_dgetET, p_dinTI, p_dinTT, p_dinVI, p_dinVT, p_dputI, p_dputT, p_dlen, p_dnewI, p_dnewT, o_pairD, o_todD, eev_ext, eev_pop, eex_setII, Z_sSetII, p_ext, p_pop, c_isBB, c_ntBB, eev_cmp2, eevT_cmp2, eevI_enum, eex_rais, W_bCh, g_enL, g_enT, eev_sset, eev_lset, o_sset, o_lset, i_ofS, eevI_rvsd, g_rvT, g_rvL, eev_catM, o_catLM, eev_repL, r_repD, Bool.true_eq_false, Bool.false_eq_true, W_bSrtk, eev_srtk, eevI_zip, inE, o_addL, o_addR, o_catL, c_in, c_notin, b_sorted, b_sum, b_maxL, b_minL, i_of, g_zipT, g_zipL, g_zipR, c_isNI, c_isNN, c_isNT, c_isNL, c_ntNI, c_ntNN, c_ntNT, c_ntNL, ints_map, W_b1, W_b2, W_b3, W_bIf, W_cst, W_vr, W_bAnd, W_bOr, truP_bl, W_consD, W_some, W_none, W_guard, Z_nil, Z_brk, Z_ctn, Z_sSeq, Z_sSet, Z_sPar, Z_sSetI, Z_sAug, Z_sExpr, Z_sRet, Z_sIf, Z_sFor, W_bLc, W_idx, Z_forStep, W_lcStep, wipeE, finF_keep, finF_clean, evs_nil, evO_no, evT_yes, eev_nm, eev_cI, eev_cB, eev_cN, eev_cS, eev_bin, eev_neg, eev_cmp, eev_and, eev_or, eev_not, eev_ife, eev_tup, eev_lst, eev_idx, eev_slc, eev_revT, eev_revL, eev_blt, eev_app, eev_ins, eev_call, eev_tupR1, eev_tupR2, eev_lisR1, eev_lisR2, eev_lc, eevO_no, eevO_so, eevs_nil, eevs_cons, eevT_yes, eevT_cmp, eevT_and, eevT_or, eevT_not, eevT_tr, eevAnd_nil, eevOr_nil, eevAll_nil, eevAll_cons, eevAny_nil, eevAny_cons, eevI_rng1, eevI_rng2, eevI_seq, eex_set, eex_setT, eex_par, eex_setI, eex_aug, eex_expr, eex_ret, eex_ife, eex_whl, eex_for_, eex_brk, eex_ctn, eexs_nil, eexs_cons, eevAnd_1, eevAnd_2, eevOr_1, eevOr_2, W_callN, selD, startE, putN, parPut, Tg.put, Tg.putL, W_fnB, o_add, o_sub, o_mul, o_fdiv, o_mod, o_pow, o_shl, o_shr, o_band, o_bor, o_bxor, o_addT, o_mulT, c_eqI, c_eqS, c_eqB, c_neI, c_neS, c_neB, c_lt, c_le, c_gt, c_ge, t_bl, t_int, t_tup, t_lst, n_neg, at_0, at_1, at_2, at_3, l_tup, l_lst, l_ref, ll_lst, ll_ref, b_len, b_tuple, b_list, b_abs, b_int, b_intB, b_max2, b_min2, b_all, b_any, a_ref, p_app, p_ins, p_set, set_0, set_1, set_2, s_tup, s_lst, i_int, r_tup, r_lst, g_tup, g_lst, g_ref, g_rng1, g_rng2, v_tupR1, v_tupR2, v_lisR1, v_lisR2, u_add, u_sub, W_copT, W_copV, W_truT, W_notV, W_notT, W_tupD, W_lstF, W_lstT, newF, newT, List.map_cons, List.map_nil, List.cons_append, List.nil_append, List.append_nil, List.length_cons, List.length_nil, List.replicate, List.getElem?_cons_zero, List.getElem?_cons_succ, List.set_cons_zero, List.set_cons_succ, List.getElem?_nil, Nat.reduceAdd, Nat.reduceLT, Nat.reduceSub, Nat.reduceEqDiff, ↓reduceIte, decide_eq_true_eq, decide_eq_false_iff_not, Bool.not_eq_true', Bool.not_eq_false', and_true, true_and, List.set_set, forall_const, true_implies, and_self, eq_self, Int.reduceLE, Int.reduceLT, Int.reducePow, Int.reduceToNat, Nat.reducePow, Int.reduceNeg, ne_eq, not_false_eq_true, Int.reduceEq, not_true_eq_false, true_or, or_true, Nat.reduceLeDiff, if_true, if_false, false_imp_iff, true_imp_iff, false_and, and_false, or_false, false_or, hne]
        exact ⟨Nat.zero_le _, fun z => absurd z (by decide), fun _ => ⟨F, _, _, hgf, rfl, rfl⟩⟩
      | succ k =>
        unfold goodK at hg
        simp only [Bool.and_eq_true, Bool.not_eq_true', decide_eq_true_eq] at hg
        obtain ⟨⟨⟨hw1, hF1⟩, hw2⟩, hg⟩ := hg
        have hw2 : ∀ x ∈ w, x < 2 ^ q := fun x hx => of_decide_eq_true (List.all_eq_true.mp hw2 x hx)
        have hwe : (w.map nD).isEmpty = false := by rw [List.isEmpty_map]; exact hw1
        have hne : cop .ne (.ref (st.length + 1)) (.lst []) (st ++ [O.lst (F.map edgD)] ++ [O.lst (w.map nD)]) = some (!(w.map nD).isEmpty) := neR_nil (hat3 _ _) (sm_nD fun x hx => by have := hw2 x hx; omega) (by rw [dep_nD]; omega)
        have hwne : w ≠ [] := fun e => by rw [e] at hw1; cases hw1
        have hgl : w.getLast? = some (w.getLast hwne) := List.getLast?_eq_some_getLast hwne
        have hlm : (w.map nD).getLast? = some (nD (w.getLast hwne)) := by rw [lmapN, hgl]; rfl
        have hhN : w.getLast hwne < 2 ^ q := hw2 _ (List.getLast_mem hwne)
        unfold gstep at hg
        simp only [hgl] at hg
        have ha2 := hat2 (F.map edgD) (.lst (w.map nD))
        have ha3 := hat3 (w.map nD) (.lst (F.map edgD))
        have hdl : (w.map nD).dropLast = w.dropLast.map nD := (List.map_dropLast ..).symm
        have hs3 := fun o3 => hset3 (.lst (F.map edgD)) (.lst (w.map nD)) o3
        have hlenF : ((F.map edgD).length : Int) ≤ ((2 ^ q : Nat) : Int) := by rw [List.length_map]; omega
        generalize w.getLast hwne = h at *
        have hhl := hear_len q h j s
        have hhlt := hear_lt (q := q) (j := j) (s := s) hhN
        rw [← hearK_eq] at hg
        simp (maxSteps := 4000000) only [eev_popI, eev_rem, eev_cnt, p_popI, p_rem, p_asL2, p_cnt, eev_dnew, eev_dget, eev_dgetE, eev_din, eevT_din, eev_dlen, eev_dcmp, eex_dput, Z_sPutD, d_nil, k_one, k_two, k_three, p_dgetI, p_dgetT, p_asDc, p_dgetEI, p_dgetET, p_dinTI, p_dinTT, p_dinVI, p_dinVT, p_dputI, p_dputT, p_dlen, p_dnewI, p_dnewT, o_pairD, o_todD, eev_ext, eev_pop, eex_setII, Z_sSetII, p_ext, p_pop, c_isBB, c_ntBB, eev_cmp2, eevT_cmp2, eevI_enum, eex_rais, W_bCh, g_enL, g_enT, eev_sset, eev_lset, o_sset, o_lset, i_ofS, eevI_rvsd, g_rvT, g_rvL, eev_catM, o_catLM, eev_repL, r_repD, Bool.true_eq_false, Bool.false_eq_true, W_bSrtk, eev_srtk, eevI_zip, inE, o_addL, o_addR, o_catL, c_in, c_notin, b_sorted, b_sum, b_maxL, b_minL, i_of, g_zipT, g_zipL, g_zipR, c_isNI, c_isNN, c_isNT, c_isNL, c_ntNI, c_ntNN, c_ntNT, c_ntNL, ints_map, W_b1, W_b2, W_b3, W_bIf, W_cst, W_vr, W_bAnd, W_bOr, truP_bl, W_consD, W_some, W_none, W_guard, Z_nil, Z_brk, Z_ctn, Z_sSeq, Z_sSet, Z_sPar, Z_sSetI, Z_sAug, Z_sExpr, Z_sRet, Z_sIf, Z_sFor, W_bLc, W_idx, Z_forStep, W_lcStep, wipeE, finF_keep, finF_clean, evs_nil, evO_no, evT_yes, eev_nm, eev_cI, eev_cB, eev_cN, eev_cS, eev_bin, eev_neg, eev_cmp, eev_and, eev_or, eev_not, eev_ife, eev_tup, eev_lst, eev_idx, eev_slc, eev_revT, eev_revL, eev_blt, eev_app, eev_ins, eev_call, eev_tupR1, eev_tupR2, eev_lisR1, eev_lisR2, eev_lc, eevO_no, eevO_so, eevs_nil, eevs_cons, eevT_yes, eevT_cmp, eevT_and, eevT_or, eevT_not, eevT_tr, eevAnd_nil, eevOr_nil, eevAll_nil, eevAll_cons, eevAny_nil, eevAny_cons, eevI_rng1, eevI_rng2, eevI_seq, eex_set, eex_setT, eex_par, eex_setI, eex_aug, eex_expr, eex_ret, eex_ife, eex_whl, eex_for_, eex_brk, eex_ctn, eexs_nil, eexs_cons, eevAnd_1, eevAnd_2, eevOr_1, eevOr_2, W_callN, selD, startE, putN, parPut, Tg.put, Tg.putL, W_fnB, o_add, o_sub, o_mul, o_fdiv, o_mod, o_pow, o_shl, o_shr, o_band, o_bor, o_bxor, o_addT, o_mulT, c_eqI, c_eqS, c_eqB, c_neI, c_neS, c_neB, c_lt, c_le, c_gt, c_ge, t_bl, t_int, t_tup, t_lst, n_neg, at_0, at_1, at_2, at_3, l_tup, l_lst, l_ref, ll_lst, ll_ref, b_len, b_tuple, b_list, b_abs, b_int, b_intB, b_max2, b_min2, b_all, b_any, a_ref, p_app, p_ins, p_set, set_0, set_1, set_2, s_tup, s_lst, i_int, r_tup, r_lst, g_tup, g_lst, g_ref, g_rng1, g_rng2, v_tupR1, v_tupR2, v_lisR1, v_lisR2, u_add, u_sub, W_copT, W_copV, W_truT, W_notV, W_notT, W_tupD, W_lstF, W_lstT, newF, newT, List.map_cons, List.map_nil, List.cons_append, List.nil_append, List.append_nil, List.length_cons, List.length_nil, List.replicate, List.getElem?_cons_zero, List.getElem?_cons_succ, List.set_cons_zero, List.set_cons_succ, List.getElem?_nil, Nat.reduceAdd, Nat.reduceLT, Nat.reduceSub, Nat.reduceEqDiff, ↓reduceIte, decide_eq_true_eq, decide_eq_false_iff_not, Bool.not_eq_true', Bool.not_eq_false', and_true, true_and, List.set_set, forall_const, true_implies, and_self, eq_self, Int.reduceLE, Int.reduceLT, Int.reducePow, Int.reduceToNat, Nat.reducePow, Int.reduceNeg, ne_eq, not_false_eq_true, Int.reduceEq, not_true_eq_false, true_or, or_true, Nat.reduceLeDiff, if_true, if_false, false_imp_iff, true_imp_iff, false_and, and_false, or_false, false_or, hne, hwe, ha2, shl_nat, hlenF, ha3, hlm, hdl, hs3, Bool.not_false]
        refine ⟨Nat.zero_le _, ⟨by omega, by omega, by decide⟩, k, rfl, ?_⟩
        refine W.call (hearers_ok (n := n) ((hst.app (pairsLo F)).app (nats_lo _)) (by omega) hj hhN hs (by decide)) ?_
        simp (maxSteps := 4000000) only [eev_popI, eev_rem, eev_cnt, p_popI, p_rem, p_asL2, p_cnt, eev_dnew, eev_dget, eev_dgetE, eev_din, eevT_din, eev_dlen, eev_dcmp, eex_dput, Z_sPutD, d_nil, k_one, k_two, k_three, p_dgetI, p_dgetT, p_asDc, p_dgetEI, p_dgetET, p_dinTI, p_dinTT, p_dinVI, p_dinVT, p_dputI, p_dputT, p_dlen, p_dnewI, p_dnewT, o_pairD, o_todD, eev_ext, eev_pop, eex_setII, Z_sSetII, p_ext, p_pop, c_isBB, c_ntBB, eev_cmp2, eevT_cmp2, eevI_enum, eex_rais, W_bCh, g_enL, g_enT, eev_sset, eev_lset, o_sset, o_lset, i_ofS, eevI_rvsd, g_rvT, g_rvL, eev_catM, o_catLM, eev_repL, r_repD, Bool.true_eq_false, Bool.false_eq_true, W_bSrtk, eev_srtk, eevI_zip, inE, o_addL, o_addR, o_catL, c_in, c_notin, b_sorted, b_sum, b_maxL, b_minL, i_of, g_zipT, g_zipL, g_zipR, c_isNI, c_isNN, c_isNT, c_isNL, c_ntNI, c_ntNN, c_ntNT, c_ntNL, ints_map, W_b1, W_b2, W_b3, W_bIf, W_cst, W_vr, W_bAnd, W_bOr, truP_bl, W_consD, W_some, W_none, W_guard, Z_nil, Z_brk, Z_ctn, Z_sSeq, Z_sSet, Z_sPar, Z_sSetI, Z_sAug, Z_sExpr, Z_sRet, Z_sIf, Z_sFor, W_bLc, W_idx, Z_forStep, W_lcStep, wipeE, finF_keep, finF_clean, evs_nil, evO_no, evT_yes, eev_nm, eev_cI, eev_cB, eev_cN, eev_cS, eev_bin, eev_neg, eev_cmp, eev_and, eev_or, eev_not, eev_ife, eev_tup, eev_lst, eev_idx, eev_slc, eev_revT, eev_revL, eev_blt, eev_app, eev_ins, eev_call, eev_tupR1, eev_tupR2, eev_lisR1, eev_lisR2, eev_lc, eevO_no, eevO_so, eevs_nil, eevs_cons, eevT_yes, eevT_cmp, eevT_and, eevT_or, eevT_not, eevT_tr, eevAnd_nil, eevOr_nil, eevAll_nil, eevAll_cons, eevAny_nil, eevAny_cons, eevI_rng1, eevI_rng2, eevI_seq, eex_set, eex_setT, eex_par, eex_setI, eex_aug, eex_expr, eex_ret, eex_ife, eex_whl, eex_for_, eex_brk, eex_ctn, eexs_nil, eexs_cons, eevAnd_1, eevAnd_2, eevOr_1, eevOr_2, W_callN, selD, startE, putN, parPut, Tg.put, Tg.putL, W_fnB, o_add, o_sub, o_mul, o_fdiv, o_mod, o_pow, o_shl, o_shr, o_band, o_bor, o_bxor, o_addT, o_mulT, c_eqI, c_eqS, c_eqB, c_neI, c_neS, c_neB, c_lt, c_le, c_gt, c_ge, t_bl, t_int, t_tup, t_lst, n_neg, at_0, at_1, at_2, at_3, l_tup, l_lst, l_ref, ll_lst, ll_ref, b_len, b_tuple, b_list, b_abs, b_int, b_intB, b_max2, b_min2, b_all, b_any, a_ref, p_app, p_ins, p_set, set_0, set_1, set_2, s_tup, s_lst, i_int, r_tup, r_lst, g_tup, g_lst, g_ref, g_rng1, g_rng2, v_tupR1, v_tupR2, v_lisR1, v_lisR2, u_add, u_sub, W_copT, W_copV, W_truT, W_notV, W_notT, W_tupD, W_lstF, W_lstT, newF, newT, List.map_cons, List.map_nil, List.cons_append, List.nil_append, List.append_nil, List.length_cons, List.length_nil, List.replicate, List.getElem?_cons_zero, List.getElem?_cons_succ, List.set_cons_zero, List.set_cons_succ, List.getElem?_nil, Nat.reduceAdd, Nat.reduceLT, Nat.reduceSub, Nat.reduceEqDiff, ↓reduceIte, decide_eq_true_eq, decide_eq_false_iff_not, Bool.not_eq_true', Bool.not_eq_false', and_true, true_and, List.set_set, forall_const, true_implies, and_self, eq_self, Int.reduceLE, Int.reduceLT, Int.reducePow, Int.reduceToNat, Nat.reducePow, Int.reduceNeg, ne_eq, not_false_eq_true, Int.reduceEq, not_true_eq_false, true_or, or_true, Nat.reduceLeDiff, if_true, if_false, false_imp_iff, true_imp_iff, false_and, and_false, or_false, false_or]
        refine Z_for_fix (fun i env s1 => ∃ (y6 : Option D), s1 = st ++ [.lst ((F ++ ((hear q h j s).take i).map fun o => (h, o)).map edgD)] ++ [.lst ((w.dropLast ++ ((hear q h j s).take i).filter fun o => decide (¬ o = s)).map nD)] ∧ env = [some (.int q), some (.int j), some (.int s), some (.ref st.length), some (.ref (st.length + 1)), some (nD h), y6]) ⟨_, by simp, rfl⟩ (fun i x env s1 hx => ?_) fun env s1 => ?_
        · rintro ⟨y6, e1, e2⟩
          subst e1 e2
          rw [List.getElem?_map] at hx
          cases hoi : (hear q h j s)[i]? with
          | none => rw [hoi] at hx; cases hx
          | some o =>
            rw [hoi] at hx
            have hx := Option.some.inj hx
            subst hx
            have htk : (hear q h j s).take (i + 1) = (hear q h j s).take i ++ [o] := by rw [List.take_succ, hoi]; rfl
            have happ1 : (F ++ ((hear q h j s).take i).map fun o => (h, o)).map edgD ++ [D.tup [nD h, nD o]] = (F ++ ((hear q h j s).take (i + 1)).map fun o => (h, o)).map edgD := by
              rw [htk, List.map_append, List.map_append, List.map_append, List.map_append, List.append_assoc]; rfl
            have hl5 : ((F ++ ((hear q h j s).take i).map fun o => (h, o)).map edgD).length < SL := by
              rw [List.length_map, List.length_append, List.length_map, List.length_take]; unfold SL; omega
            have hwl : (w.dropLast ++ ((hear q h j s).take i).filter fun o => decide (¬ o = s)).length ≤ 1000 + w.length := by
              rw [List.length_append, List.length_dropLast]
              have := List.length_filter_le (fun o => decide (¬ o = s)) ((hear q h j s).take i)
              rw [List.length_take] at this
              omega
            obtain ⟨c, hc, hc2⟩ : ∃ c : Nat, (if ¬ (o : Int) = (s : Int) then (1 : Int) else 0) = (c : Int) ∧ c ≤ 1 ∧ (w.dropLast ++ ((hear q h j s).take i).filter fun o => decide (¬ o = s)).map nD ++ (List.replicate c [nD o]).flatten = (w.dropLast ++ ((hear q h j s).take (i + 1)).filter fun o => decide (¬ o = s)).map nD := by
              rw [htk]
              by_cases e : o = s
              · refine ⟨0, by rw [if_neg (by omega)]; rfl, Nat.zero_le _, ?_⟩
                simp [List.filter_append, e]
              · refine ⟨1, by rw [if_pos (by omega)]; rfl, Nat.le_refl _, ?_⟩
                simp [List.filter_append, e]
            have ha2' := hat2 ((F ++ ((hear q h j s).take i).map fun o => (h, o)).map edgD) (.lst ((w.dropLast ++ ((hear q h j s).take i).filter fun o => decide (¬ o = s)).map nD))
            have hs2' := fun o3 => hset2 (.lst ((F ++ ((hear q h j s).take i).map fun o => (h, o)).map edgD)) (.lst ((w.dropLast ++ ((hear q h j s).take i).filter fun o => decide (¬ o = s)).map nD)) o3
            have ha3' := hat3 ((w.dropLast ++ ((hear q h j s).take i).filter fun o => decide (¬ o = s)).map nD) (.lst ((F ++ ((hear q h j s).take (i + 1)).map fun o => (h, o)).map edgD))
            have hs3' := fun o3 => hset3 (.lst ((F ++ ((hear q h j s).take (i + 1)).map fun o => (h, o)).map edgD)) (.lst ((w.dropLast ++ ((hear q h j s).take i).filter fun o => decide (¬ o = s)).map nD)) o3
            simp (maxSteps := 4000000) only [eev_popI, eev_rem, eev_cnt, p_popI, p_rem, p_asL2, p_cnt, eev_dnew, eev_dget, eev_dgetE, eev_din, eevT_din, eev_dlen, eev_dcmp, eex_dput, Z_sPutD, d_nil, k_one, k_two, k_three, p_dgetI, p_dgetT, p_asDc, p_dgetEI, p_dgetET, p_dinTI, p_dinTT, p_dinVI, p_dinVT, p_dputI, p_dputT, p_dlen, p_dnewI, p_dnewT, o_pairD, o_todD, eev_ext, eev_pop, eex_setII, Z_sSetII, p_ext, p_pop, c_isBB, c_ntBB, eev_cmp2, eevT_cmp2, eevI_enum, eex_rais, W_bCh, g_enL, g_enT, eev_sset, eev_lset, o_sset, o_lset, i_ofS, eevI_rvsd, g_rvT, g_rvL, eev_catM, o_catLM, eev_repL, r_repD, Bool.true_eq_false, Bool.false_eq_true, W_bSrtk, eev_srtk, eevI_zip, inE, o_addL, o_addR, o_catL, c_in, c_notin, b_sorted, b_sum, b_maxL, b_minL, i_of, g_zipT, g_zipL, g_zipR, c_isNI, c_isNN, c_isNT, c_isNL, c_ntNI, c_ntNN, c_ntNT, c_ntNL, ints_map, W_b1, W_b2, W_b3, W_bIf, W_cst, W_vr, W_bAnd, W_bOr, truP_bl, W_consD, W_some, W_none, W_guard, Z_nil, Z_brk, Z_ctn, Z_sSeq, Z_sSet, Z_sPar, Z_sSetI, Z_sAug, Z_sExpr, Z_sRet, Z_sIf, Z_sFor, W_bLc, W_idx, Z_forStep, W_lcStep, wipeE, finF_keep, finF_clean, evs_nil, evO_no, evT_yes, eev_nm, eev_cI, eev_cB, eev_cN, eev_cS, eev_bin, eev_neg, eev_cmp, eev_and, eev_or, eev_not, eev_ife, eev_tup, eev_lst, eev_idx, eev_slc, eev_revT, eev_revL, eev_blt, eev_app, eev_ins, eev_call, eev_tupR1, eev_tupR2, eev_lisR1, eev_lisR2, eev_lc, eevO_no, eevO_so, eevs_nil, eevs_cons, eevT_yes, eevT_cmp, eevT_and, eevT_or, eevT_not, eevT_tr, eevAnd_nil, eevOr_nil, eevAll_nil, eevAll_cons, eevAny_nil, eevAny_cons, eevI_rng1, eevI_rng2, eevI_seq, eex_set, eex_setT, eex_par, eex_setI, eex_aug, eex_expr, eex_ret, eex_ife, eex_whl, eex_for_, eex_brk, eex_ctn, eexs_nil, eexs_cons, eevAnd_1, eevAnd_2, eevOr_1, eevOr_2, W_callN, selD, startE, putN, parPut, Tg.put, Tg.putL, W_fnB, o_add, o_sub, o_mul, o_fdiv, o_mod, o_pow, o_shl, o_shr, o_band, o_bor, o_bxor, o_addT, o_mulT, c_eqI, c_eqS, c_eqB, c_neI, c_neS, c_neB, c_lt, c_le, c_gt, c_ge, t_bl, t_int, t_tup, t_lst, n_neg, at_0, at_1, at_2, at_3, l_tup, l_lst, l_ref, ll_lst, ll_ref, b_len, b_tuple, b_list, b_abs, b_int, b_intB, b_max2, b_min2, b_all, b_any, a_ref, p_app, p_ins, p_set, set_0, set_1, set_2, s_tup, s_lst, i_int, r_tup, r_lst, g_tup, g_lst, g_ref, g_rng1, g_rng2, v_tupR1, v_tupR2, v_lisR1, v_lisR2, u_add, u_sub, W_copT, W_copV, W_truT, W_notV, W_notT, W_tupD, W_lstF, W_lstT, newF, newT, List.map_cons, List.map_nil, List.cons_append, List.nil_append, List.append_nil, List.length_cons, List.length_nil, List.replicate, List.getElem?_cons_zero, List.getElem?_cons_succ, List.set_cons_zero, List.set_cons_succ, List.getElem?_nil, Nat.reduceAdd, Nat.reduceLT, Nat.reduceSub, Nat.reduceEqDiff, ↓reduceIte, decide_eq_true_eq, decide_eq_false_iff_not, Bool.not_eq_true', Bool.not_eq_false', and_true, true_and, List.set_set, forall_const, true_implies, and_self, eq_self, Int.reduceLE, Int.reduceLT, Int.reducePow, Int.reduceToNat, Nat.reducePow, Int.reduceNeg, ne_eq, not_false_eq_true, Int.reduceEq, not_true_eq_false, true_or, or_true, Nat.reduceLeDiff, if_true, if_false, false_imp_iff, true_imp_iff, false_and, and_false, or_false, false_or, ha2', happ1, hs2', ha3', hc, Int.toNat_natCast, hc2.2, hs3']
            refine ⟨by unfold SL; omega, hl5, by unfold SL; omega, ⟨by omega, by omega⟩, ?_, _, rfl⟩
            rw [List.flatten_replicate_singleton, List.length_replicate, List.length_map]
            unfold SL
            omega
        · rintro ⟨y6, e1, e2⟩
          subst e1 e2
          rw [List.length_map, List.take_length]
          have hfl := List.length_filter_le (fun o => decide (¬ o = s)) (hear q h j s)
          have hw1' : 1 ≤ w.length := List.length_pos_iff.mpr hwne
          refine ⟨_, _, _, _, hg, ?_, rfl, rfl⟩
          rw [List.length_append, List.length_dropLast]
          have hfl2 : ((hear q h j s).filter fun o => decide (o ≠ s)).length ≤ q := Nat.le_trans (List.length_filter_le _ _) hhl
          omega
  · obtain ⟨F, y5, y6, hgf, e1, e2⟩ := hP
    subst e1 e2
    simp (maxSteps := 4000000) only [eev_popI, eev_rem, eev_cnt, p_popI, p_rem, p_asL2, p_cnt, eev_dnew, eev_dget, eev_dgetE, eev_din, eevT_din, eev_dlen, eev_dcmp, eex_dput, Z_sPutD, d_nil, k_one, k_two, k_three, p_dgetI, p_dgetT, p_asDc, p_dgetEI, p_dgetET, p_dinTI, p_dinTT, p_dinVI, p_dinVT, p_dputI, p_dputT, p_dlen, p_dnewI, p_dnewT, o_pairD, o_todD, eev_ext, eev_pop, eex_setII, Z_sSetII, p_ext, p_pop, c_isBB, c_ntBB, eev_cmp2, eevT_cmp2, eevI_enum, eex_rais, W_bCh, g_enL, g_enT, eev_sset, eev_lset, o_sset, o_lset, i_ofS, eevI_rvsd, g_rvT, g_rvL, eev_catM, o_catLM, eev_repL, r_repD, Bool.true_eq_false, Bool.false_eq_true, W_bSrtk, eev_srtk, eevI_zip, inE, o_addL, o_addR, o_catL, c_in, c_notin, b_sorted, b_sum, b_maxL, b_minL, i_of, g_zipT, g_zipL, g_zipR, c_isNI, c_isNN, c_isNT, c_isNL, c_ntNI, c_ntNN, c_ntNT, c_ntNL, ints_map, W_b1, W_b2, W_b3, W_bIf, W_cst, W_vr, W_bAnd, W_bOr, truP_bl, W_consD, W_some, W_none, W_guard, Z_nil, Z_brk, Z_ctn, Z_sSeq, Z_sSet, Z_sPar, Z_sSetI, Z_sAug, Z_sExpr, Z_sRet, Z_sIf, Z_sFor, W_bLc, W_idx, Z_forStep, W_lcStep, wipeE, finF_keep, finF_clean, evs_nil, evO_no, evT_yes, eev_nm, eev_cI, eev_cB, eev_cN, eev_cS, eev_bin, eev_neg, eev_cmp, eev_and, eev_or, eev_not, eev_ife, eev_tup, eev_lst, eev_idx, eev_slc, eev_revT, eev_revL, eev_blt, eev_app, eev_ins, eev_call, eev_tupR1, eev_tupR2, eev_lisR1, eev_lisR2, eev_lc, eevO_no, eevO_so, eevs_nil, eevs_cons, eevT_yes, eevT_cmp, eevT_and, eevT_or, eevT_not, eevT_tr, eevAnd_nil, eevOr_nil, eevAll_nil, eevAll_cons, eevAny_nil, eevAny_cons, eevI_rng1, eevI_rng2, eevI_seq, eex_set, eex_setT, eex_par, eex_setI, eex_aug, eex_expr, eex_ret, eex_ife, eex_whl, eex_for_, eex_brk, eex_ctn, eexs_nil, eexs_cons, eevAnd_1, eevAnd_2, eevOr_1, eevOr_2, W_callN, selD, startE, putN, parPut, Tg.put, Tg.putL, W_fnB, o_add, o_sub, o_mul, o_fdiv, o_mod, o_pow, o_shl, o_shr, o_band, o_bor, o_bxor, o_addT, o_mulT, c_eqI, c_eqS, c_eqB, c_neI, c_neS, c_neB, c_lt, c_le, c_gt, c_ge, t_bl, t_int, t_tup, t_lst, n_neg, at_0, at_1, at_2, at_3, l_tup, l_lst, l_ref, ll_lst, ll_ref, b_len, b_tuple, b_list, b_abs, b_int, b_intB, b_max2, b_min2, b_all, b_any, a_ref, p_app, p_ins, p_set, set_0, set_1, set_2, s_tup, s_lst, i_int, r_tup, r_lst, g_tup, g_lst, g_ref, g_rng1, g_rng2, v_tupR1, v_tupR2, v_lisR1, v_lisR2, u_add, u_sub, W_copT, W_copV, W_truT, W_notV, W_notT, W_tupD, W_lstF, W_lstT, newF, newT, List.map_cons, List.map_nil, List.cons_append, List.nil_append, List.append_nil, List.length_cons, List.length_nil, List.replicate, List.getElem?_cons_zero, List.getElem?_cons_succ, List.set_cons_zero, List.set_cons_succ, List.getElem?_nil, Nat.reduceAdd, Nat.reduceLT, Nat.reduceSub, Nat.reduceEqDiff, ↓reduceIte, decide_eq_true_eq, decide_eq_false_iff_not, Bool.not_eq_true', Bool.not_eq_false', and_true, true_and, List.set_set, forall_const, true_implies, and_self, eq_self, Int.reduceLE, Int.reduceLT, Int.reducePow, Int.reduceToNat, Nat.reducePow, Int.reduceNeg, ne_eq, not_false_eq_true, Int.reduceEq, not_true_eq_false, true_or, or_true, Nat.reduceLeDiff, if_true, if_false, false_imp_iff, true_imp_iff, false_and, and_false, or_false, false_or]
    exact W_cleanR (ds := F.map edgD) (k := st.length) (hat2 _ _) (Nat.le_refl _) ((hst.app (pairsLo F)).app (ds := []) rfl) ⟨⟨F, rfl, hgf⟩, by simp⟩
theorem count_cast (l : List Nat) (b : Nat) : (l.map fun (i : Nat) => (i : Int)).count (b : Int) = l.count b := by
  induction l with
  | nil => rfl
  | cons a l ih =>
    rw [List.map_cons, List.count_cons, List.count_cons, ih]
    by_cases e : a = b
    · subst e; simp
    · have e2 : ¬ (a : Int) = b := by omega
      have h1 : ((a : Int) == b) = false := beq_eq_false_iff_ne.mpr e2
      have h2 : (a == b) = false := beq_eq_false_iff_ne.mpr e
      rw [h1, h2]
theorem takeN_ok {fu n p w : Nat} {T : Int} {st : Store} (h : PotAt st p T) (hT : T ≤ 16777216) (h1 : 1 ≤ w) (h2 : w < 1073741824) :
    W (runF GT GP.dfl fu (n + 1) i__law_take [.ref p, .int w] st) fun d st' => ∃ x : Nat, d = .int x ∧ x < w ∧ Pt p (T + 1) st st' :=
  (take_ok h (by omega) (by omega) (by omega)).mono fun d s ⟨x, e, hx, hp⟩ => ⟨x.toNat, by rw [e, Int.toNat_of_nonneg hx.1], by omega, hp⟩
theorem perm_of_sub : ∀ (l1 l2 : List Nat), l1.Nodup → (∀ x ∈ l1, x ∈ l2) → l2.length ≤ l1.length → l1.Perm l2
  | [], l2, _, _, hl => by
    have : l2 = [] := List.length_eq_zero_iff.mp (by simpa using hl)
    rw [this]
  | a :: l1, l2, hn, hs, hl => by
    rw [List.nodup_cons] at hn
    have ha := hs a (List.mem_cons_self ..)
    have hle : (l2.erase a).length = l2.length - 1 := List.length_erase_of_mem ha
    have hp := List.length_pos_of_mem ha
    have ih := perm_of_sub l1 (l2.erase a) hn.2 (fun x hx => (List.mem_erase_of_ne (fun e => hn.1 (by rw [← e]; exact hx))).mpr (hs x (List.mem_cons_of_mem _ hx))) (by rw [hle]; simp only [List.length_cons] at hl; omega)
    exact (List.Perm.cons a ih).trans (List.perm_cons_erase ha).symm
theorem right_ok {n q j s : Nat} {st : Store} (hst : StOk st) (hq1 : 1 ≤ q) (hq : q ≤ 5) (hj : j < q) (hs : s < 2 ^ q) :
    W (runF GT GP.dfl 1000 (n + 8) i__law_right [.int q, .int j, .int s] st) fun d st' => d = .bl true ∧ st' = st := by
  have h5 : 2 ^ q ≤ 2 ^ 5 := Nat.pow_le_pow_right (by decide) hq
  have hp0 := Nat.two_pow_pos q
  have hlate : (List.range (q + 1)).map (fun b => (lateL q j s).count b) = dueC q := by
    have h1 := List.all_eq_true.mp late_all q (List.mem_range.mpr (by omega))
    have h2 := List.all_eq_true.mp h1 j (List.mem_range.mpr hj)
    exact of_decide_eq_true (List.all_eq_true.mp h2 s (List.mem_range.mpr hs))
  have eR : rngD 0 ((2 ^ q : Nat) : Int).toNat = (List.range (2 ^ q)).map nD := by
    rw [Int.toNat_natCast, rngD_map]
    exact List.map_congr_left fun i _ => by rw [Int.zero_add]
  have hrg : RgD 0 ((2 ^ q : Nat) : Int) := ⟨by decide, by decide, by omega, by omega, by omega⟩
  refine W_runF (fd := fd__law_right) (GT_at rfl) rfl ?_
  simp (maxSteps := 4000000) only [fd__law_right, eev_popI, eev_rem, eev_cnt, p_popI, p_rem, p_asL2, p_cnt, eev_dnew, eev_dget, eev_dgetE, eev_din, eevT_din, eev_dlen, eev_dcmp, eex_dput, Z_sPutD, d_nil, k_one, k_two, k_three, p_dgetI, p_dgetT, p_asDc, p_dgetEI, p_dgetET, p_dinTI, p_dinTT, p_dinVI, p_dinVT, p_dputI, p_dputT, p_dlen, p_dnewI, p_dnewT, o_pairD, o_todD, eev_ext, eev_pop, eex_setII, Z_sSetII, p_ext, p_pop, c_isBB, c_ntBB, eev_cmp2, eevT_cmp2, eevI_enum, eex_rais, W_bCh, g_enL, g_enT, eev_sset, eev_lset, o_sset, o_lset, i_ofS, eevI_rvsd, g_rvT, g_rvL, eev_catM, o_catLM, eev_repL, r_repD, Bool.true_eq_false, Bool.false_eq_true, W_bSrtk, eev_srtk, eevI_zip, inE, o_addL, o_addR, o_catL, c_in, c_notin, b_sorted, b_sum, b_maxL, b_minL, i_of, g_zipT, g_zipL, g_zipR, c_isNI, c_isNN, c_isNT, c_isNL, c_ntNI, c_ntNN, c_ntNT, c_ntNL, ints_map, W_b1, W_b2, W_b3, W_bIf, W_cst, W_vr, W_bAnd, W_bOr, truP_bl, W_consD, W_some, W_none, W_guard, Z_nil, Z_brk, Z_ctn, Z_sSeq, Z_sSet, Z_sPar, Z_sSetI, Z_sAug, Z_sExpr, Z_sRet, Z_sIf, Z_sFor, W_bLc, W_idx, Z_forStep, W_lcStep, wipeE, finF_keep, finF_clean, evs_nil, evO_no, evT_yes, eev_nm, eev_cI, eev_cB, eev_cN, eev_cS, eev_bin, eev_neg, eev_cmp, eev_and, eev_or, eev_not, eev_ife, eev_tup, eev_lst, eev_idx, eev_slc, eev_revT, eev_revL, eev_blt, eev_app, eev_ins, eev_call, eev_tupR1, eev_tupR2, eev_lisR1, eev_lisR2, eev_lc, eevO_no, eevO_so, eevs_nil, eevs_cons, eevT_yes, eevT_cmp, eevT_and, eevT_or, eevT_not, eevT_tr, eevAnd_nil, eevOr_nil, eevAll_nil, eevAll_cons, eevAny_nil, eevAny_cons, eevI_rng1, eevI_rng2, eevI_seq, eex_set, eex_setT, eex_par, eex_setI, eex_aug, eex_expr, eex_ret, eex_ife, eex_whl, eex_for_, eex_brk, eex_ctn, eexs_nil, eexs_cons, eevAnd_1, eevAnd_2, eevOr_1, eevOr_2, W_callN, selD, startE, putN, parPut, Tg.put, Tg.putL, W_fnB, o_add, o_sub, o_mul, o_fdiv, o_mod, o_pow, o_shl, o_shr, o_band, o_bor, o_bxor, o_addT, o_mulT, c_eqI, c_eqS, c_eqB, c_neI, c_neS, c_neB, c_lt, c_le, c_gt, c_ge, t_bl, t_int, t_tup, t_lst, n_neg, at_0, at_1, at_2, at_3, l_tup, l_lst, l_ref, ll_lst, ll_ref, b_len, b_tuple, b_list, b_abs, b_int, b_intB, b_max2, b_min2, b_all, b_any, a_ref, p_app, p_ins, p_set, set_0, set_1, set_2, s_tup, s_lst, i_int, r_tup, r_lst, g_tup, g_lst, g_ref, g_rng1, g_rng2, v_tupR1, v_tupR2, v_lisR1, v_lisR2, u_add, u_sub, W_copT, W_copV, W_truT, W_notV, W_notT, W_tupD, W_lstF, W_lstT, newF, newT, List.map_cons, List.map_nil, List.cons_append, List.nil_append, List.append_nil, List.length_cons, List.length_nil, List.replicate, List.getElem?_cons_zero, List.getElem?_cons_succ, List.set_cons_zero, List.set_cons_succ, List.getElem?_nil, Nat.reduceAdd, Nat.reduceLT, Nat.reduceSub, Nat.reduceEqDiff, ↓reduceIte, decide_eq_true_eq, decide_eq_false_iff_not, Bool.not_eq_true', Bool.not_eq_false', and_true, true_and, List.set_set, forall_const, true_implies, and_self, eq_self, Int.reduceLE, Int.reduceLT, Int.reducePow, Int.reduceToNat, Nat.reducePow, Int.reduceNeg, ne_eq, not_false_eq_true, Int.reduceEq, not_true_eq_false, true_or, or_true, Nat.reduceLeDiff, if_true, if_false, false_imp_iff, true_imp_iff, false_and, and_false, or_false, false_or, shl_nat, eR, hrg]
  refine ⟨⟨by omega, by omega, by decide⟩, ?_⟩
  refine (gone_ok (n := n) hst hq1 hq hj hs).mono fun d s1 ⟨⟨F, e1, hg⟩, es⟩ => ?_
  subst e1 es
  unfold gfin at hg
  simp only [Bool.and_eq_true, decide_eq_true_eq] at hg
  obtain ⟨⟨hg1, hg2⟩, hg3⟩ := hg
  have hF : ∀ e ∈ F, e.2 < 2 ^ q ∧ e.1 < 2 ^ q ∧ tel s (crs q (e.2 ^^^ s) j) = e.1 := fun e he => by
    have := List.all_eq_true.mp hg3 e he
    simp only [Bool.and_eq_true, decide_eq_true_eq] at this
    exact ⟨this.1.1, this.1.2, this.2⟩
  have hall : ∀ h, h < 2 ^ q → h ∈ F.map (·.2) := fun h hh => of_decide_eq_true (List.all_eq_true.mp hg1 h (List.mem_range.mpr hh))
  have hperm : (F.map (·.2)).Perm (List.range (2 ^ q)) := by
    exact (perm_of_sub _ _ List.nodup_range (fun x hx => hall x (List.mem_range.mp hx)) (by rw [List.length_map, hg2, List.length_range]; exact Nat.le_refl _)).symm
  have hsrt : srtN (F.map (·.2)) = List.range (2 ^ q) := (srtN_eq hperm.symm List.pairwise_le_range).symm
  try simp (maxSteps := 4000000) only [eev_popI, eev_rem, eev_cnt, p_popI, p_rem, p_asL2, p_cnt, eev_dnew, eev_dget, eev_dgetE, eev_din, eevT_din, eev_dlen, eev_dcmp, eex_dput, Z_sPutD, d_nil, k_one, k_two, k_three, p_dgetI, p_dgetT, p_asDc, p_dgetEI, p_dgetET, p_dinTI, p_dinTT, p_dinVI, p_dinVT, p_dputI, p_dputT, p_dlen, p_dnewI, p_dnewT, o_pairD, o_todD, eev_ext, eev_pop, eex_setII, Z_sSetII, p_ext, p_pop, c_isBB, c_ntBB, eev_cmp2, eevT_cmp2, eevI_enum, eex_rais, W_bCh, g_enL, g_enT, eev_sset, eev_lset, o_sset, o_lset, i_ofS, eevI_rvsd, g_rvT, g_rvL, eev_catM, o_catLM, eev_repL, r_repD, Bool.true_eq_false, Bool.false_eq_true, W_bSrtk, eev_srtk, eevI_zip, inE, o_addL, o_addR, o_catL, c_in, c_notin, b_sorted, b_sum, b_maxL, b_minL, i_of, g_zipT, g_zipL, g_zipR, c_isNI, c_isNN, c_isNT, c_isNL, c_ntNI, c_ntNN, c_ntNT, c_ntNL, ints_map, W_b1, W_b2, W_b3, W_bIf, W_cst, W_vr, W_bAnd, W_bOr, truP_bl, W_consD, W_some, W_none, W_guard, Z_nil, Z_brk, Z_ctn, Z_sSeq, Z_sSet, Z_sPar, Z_sSetI, Z_sAug, Z_sExpr, Z_sRet, Z_sIf, Z_sFor, W_bLc, W_idx, Z_forStep, W_lcStep, wipeE, finF_keep, finF_clean, evs_nil, evO_no, evT_yes, eev_nm, eev_cI, eev_cB, eev_cN, eev_cS, eev_bin, eev_neg, eev_cmp, eev_and, eev_or, eev_not, eev_ife, eev_tup, eev_lst, eev_idx, eev_slc, eev_revT, eev_revL, eev_blt, eev_app, eev_ins, eev_call, eev_tupR1, eev_tupR2, eev_lisR1, eev_lisR2, eev_lc, eevO_no, eevO_so, eevs_nil, eevs_cons, eevT_yes, eevT_cmp, eevT_and, eevT_or, eevT_not, eevT_tr, eevAnd_nil, eevOr_nil, eevAll_nil, eevAll_cons, eevAny_nil, eevAny_cons, eevI_rng1, eevI_rng2, eevI_seq, eex_set, eex_setT, eex_par, eex_setI, eex_aug, eex_expr, eex_ret, eex_ife, eex_whl, eex_for_, eex_brk, eex_ctn, eexs_nil, eexs_cons, eevAnd_1, eevAnd_2, eevOr_1, eevOr_2, W_callN, selD, startE, putN, parPut, Tg.put, Tg.putL, W_fnB, o_add, o_sub, o_mul, o_fdiv, o_mod, o_pow, o_shl, o_shr, o_band, o_bor, o_bxor, o_addT, o_mulT, c_eqI, c_eqS, c_eqB, c_neI, c_neS, c_neB, c_lt, c_le, c_gt, c_ge, t_bl, t_int, t_tup, t_lst, n_neg, at_0, at_1, at_2, at_3, l_tup, l_lst, l_ref, ll_lst, ll_ref, b_len, b_tuple, b_list, b_abs, b_int, b_intB, b_max2, b_min2, b_all, b_any, a_ref, p_app, p_ins, p_set, set_0, set_1, set_2, s_tup, s_lst, i_int, r_tup, r_lst, g_tup, g_lst, g_ref, g_rng1, g_rng2, v_tupR1, v_tupR2, v_lisR1, v_lisR2, u_add, u_sub, W_copT, W_copV, W_truT, W_notV, W_notT, W_tupD, W_lstF, W_lstT, newF, newT, List.map_cons, List.map_nil, List.cons_append, List.nil_append, List.append_nil, List.length_cons, List.length_nil, List.replicate, List.getElem?_cons_zero, List.getElem?_cons_succ, List.set_cons_zero, List.set_cons_succ, List.getElem?_nil, Nat.reduceAdd, Nat.reduceLT, Nat.reduceSub, Nat.reduceEqDiff, ↓reduceIte, decide_eq_true_eq, decide_eq_false_iff_not, Bool.not_eq_true', Bool.not_eq_false', and_true, true_and, List.set_set, forall_const, true_implies, and_self, eq_self, Int.reduceLE, Int.reduceLT, Int.reducePow, Int.reduceToNat, Nat.reducePow, Int.reduceNeg, ne_eq, not_false_eq_true, Int.reduceEq, not_true_eq_false, true_or, or_true, Nat.reduceLeDiff, if_true, if_false, false_imp_iff, true_imp_iff, false_and, and_false, or_false, false_or]
  refine W_lc_map (l := F) (c := edgD) (fun e => nD e.2) (fun e he => ?_) ?_
  · simp (maxSteps := 4000000) only [edgD, eev_popI, eev_rem, eev_cnt, p_popI, p_rem, p_asL2, p_cnt, eev_dnew, eev_dget, eev_dgetE, eev_din, eevT_din, eev_dlen, eev_dcmp, eex_dput, Z_sPutD, d_nil, k_one, k_two, k_three, p_dgetI, p_dgetT, p_asDc, p_dgetEI, p_dgetET, p_dinTI, p_dinTT, p_dinVI, p_dinVT, p_dputI, p_dputT, p_dlen, p_dnewI, p_dnewT, o_pairD, o_todD, eev_ext, eev_pop, eex_setII, Z_sSetII, p_ext, p_pop, c_isBB, c_ntBB, eev_cmp2, eevT_cmp2, eevI_enum, eex_rais, W_bCh, g_enL, g_enT, eev_sset, eev_lset, o_sset, o_lset, i_ofS, eevI_rvsd, g_rvT, g_rvL, eev_catM, o_catLM, eev_repL, r_repD, Bool.true_eq_false, Bool.false_eq_true, W_bSrtk, eev_srtk, eevI_zip, inE, o_addL, o_addR, o_catL, c_in, c_notin, b_sorted, b_sum, b_maxL, b_minL, i_of, g_zipT, g_zipL, g_zipR, c_isNI, c_isNN, c_isNT, c_isNL, c_ntNI, c_ntNN, c_ntNT, c_ntNL, ints_map, W_b1, W_b2, W_b3, W_bIf, W_cst, W_vr, W_bAnd, W_bOr, truP_bl, W_consD, W_some, W_none, W_guard, Z_nil, Z_brk, Z_ctn, Z_sSeq, Z_sSet, Z_sPar, Z_sSetI, Z_sAug, Z_sExpr, Z_sRet, Z_sIf, Z_sFor, W_bLc, W_idx, Z_forStep, W_lcStep, wipeE, finF_keep, finF_clean, evs_nil, evO_no, evT_yes, eev_nm, eev_cI, eev_cB, eev_cN, eev_cS, eev_bin, eev_neg, eev_cmp, eev_and, eev_or, eev_not, eev_ife, eev_tup, eev_lst, eev_idx, eev_slc, eev_revT, eev_revL, eev_blt, eev_app, eev_ins, eev_call, eev_tupR1, eev_tupR2, eev_lisR1, eev_lisR2, eev_lc, eevO_no, eevO_so, eevs_nil, eevs_cons, eevT_yes, eevT_cmp, eevT_and, eevT_or, eevT_not, eevT_tr, eevAnd_nil, eevOr_nil, eevAll_nil, eevAll_cons, eevAny_nil, eevAny_cons, eevI_rng1, eevI_rng2, eevI_seq, eex_set, eex_setT, eex_par, eex_setI, eex_aug, eex_expr, eex_ret, eex_ife, eex_whl, eex_for_, eex_brk, eex_ctn, eexs_nil, eexs_cons, eevAnd_1, eevAnd_2, eevOr_1, eevOr_2, W_callN, selD, startE, putN, parPut, Tg.put, Tg.putL, W_fnB, o_add, o_sub, o_mul, o_fdiv, o_mod, o_pow, o_shl, o_shr, o_band, o_bor, o_bxor, o_addT, o_mulT, c_eqI, c_eqS, c_eqB, c_neI, c_neS, c_neB, c_lt, c_le, c_gt, c_ge, t_bl, t_int, t_tup, t_lst, n_neg, at_0, at_1, at_2, at_3, l_tup, l_lst, l_ref, ll_lst, ll_ref, b_len, b_tuple, b_list, b_abs, b_int, b_intB, b_max2, b_min2, b_all, b_any, a_ref, p_app, p_ins, p_set, set_0, set_1, set_2, s_tup, s_lst, i_int, r_tup, r_lst, g_tup, g_lst, g_ref, g_rng1, g_rng2, v_tupR1, v_tupR2, v_lisR1, v_lisR2, u_add, u_sub, W_copT, W_copV, W_truT, W_notV, W_notT, W_tupD, W_lstF, W_lstT, newF, newT, List.map_cons, List.map_nil, List.cons_append, List.nil_append, List.append_nil, List.length_cons, List.length_nil, List.replicate, List.getElem?_cons_zero, List.getElem?_cons_succ, List.set_cons_zero, List.set_cons_succ, List.getElem?_nil, Nat.reduceAdd, Nat.reduceLT, Nat.reduceSub, Nat.reduceEqDiff, ↓reduceIte, decide_eq_true_eq, decide_eq_false_iff_not, Bool.not_eq_true', Bool.not_eq_false', and_true, true_and, List.set_set, forall_const, true_implies, and_self, eq_self, Int.reduceLE, Int.reduceLT, Int.reducePow, Int.reduceToNat, Nat.reducePow, Int.reduceNeg, ne_eq, not_false_eq_true, Int.reduceEq, not_true_eq_false, true_or, or_true, Nat.reduceLeDiff, if_true, if_false, false_imp_iff, true_imp_iff, false_and, and_false, or_false, false_or]
  · have em : F.map (fun e => nD e.2) = (F.map (·.2)).map nD := by rw [List.map_map]; rfl
    have hsI := srtI_nD (F.map (·.2))
    rw [hsrt] at hsI
    have hsm : (D.lst ((List.range (2 ^ q)).map nD)).sm = true := by simp only [D.sm]; exact sm_nD fun x hx => by have := List.mem_range.mp hx; omega
    have hsame := fun st => (cop_same (st := st) (d := .lst ((List.range (2 ^ q)).map nD)) rfl hsm (by simp only [D.dep, dep_nD]; omega)).2
    rw [em]
    simp (maxSteps := 4000000) only [eev_popI, eev_rem, eev_cnt, p_popI, p_rem, p_asL2, p_cnt, eev_dnew, eev_dget, eev_dgetE, eev_din, eevT_din, eev_dlen, eev_dcmp, eex_dput, Z_sPutD, d_nil, k_one, k_two, k_three, p_dgetI, p_dgetT, p_asDc, p_dgetEI, p_dgetET, p_dinTI, p_dinTT, p_dinVI, p_dinVT, p_dputI, p_dputT, p_dlen, p_dnewI, p_dnewT, o_pairD, o_todD, eev_ext, eev_pop, eex_setII, Z_sSetII, p_ext, p_pop, c_isBB, c_ntBB, eev_cmp2, eevT_cmp2, eevI_enum, eex_rais, W_bCh, g_enL, g_enT, eev_sset, eev_lset, o_sset, o_lset, i_ofS, eevI_rvsd, g_rvT, g_rvL, eev_catM, o_catLM, eev_repL, r_repD, Bool.true_eq_false, Bool.false_eq_true, W_bSrtk, eev_srtk, eevI_zip, inE, o_addL, o_addR, o_catL, c_in, c_notin, b_sorted, b_sum, b_maxL, b_minL, i_of, g_zipT, g_zipL, g_zipR, c_isNI, c_isNN, c_isNT, c_isNL, c_ntNI, c_ntNN, c_ntNT, c_ntNL, ints_map, W_b1, W_b2, W_b3, W_bIf, W_cst, W_vr, W_bAnd, W_bOr, truP_bl, W_consD, W_some, W_none, W_guard, Z_nil, Z_brk, Z_ctn, Z_sSeq, Z_sSet, Z_sPar, Z_sSetI, Z_sAug, Z_sExpr, Z_sRet, Z_sIf, Z_sFor, W_bLc, W_idx, Z_forStep, W_lcStep, wipeE, finF_keep, finF_clean, evs_nil, evO_no, evT_yes, eev_nm, eev_cI, eev_cB, eev_cN, eev_cS, eev_bin, eev_neg, eev_cmp, eev_and, eev_or, eev_not, eev_ife, eev_tup, eev_lst, eev_idx, eev_slc, eev_revT, eev_revL, eev_blt, eev_app, eev_ins, eev_call, eev_tupR1, eev_tupR2, eev_lisR1, eev_lisR2, eev_lc, eevO_no, eevO_so, eevs_nil, eevs_cons, eevT_yes, eevT_cmp, eevT_and, eevT_or, eevT_not, eevT_tr, eevAnd_nil, eevOr_nil, eevAll_nil, eevAll_cons, eevAny_nil, eevAny_cons, eevI_rng1, eevI_rng2, eevI_seq, eex_set, eex_setT, eex_par, eex_setI, eex_aug, eex_expr, eex_ret, eex_ife, eex_whl, eex_for_, eex_brk, eex_ctn, eexs_nil, eexs_cons, eevAnd_1, eevAnd_2, eevOr_1, eevOr_2, W_callN, selD, startE, putN, parPut, Tg.put, Tg.putL, W_fnB, o_add, o_sub, o_mul, o_fdiv, o_mod, o_pow, o_shl, o_shr, o_band, o_bor, o_bxor, o_addT, o_mulT, c_eqI, c_eqS, c_eqB, c_neI, c_neS, c_neB, c_lt, c_le, c_gt, c_ge, t_bl, t_int, t_tup, t_lst, n_neg, at_0, at_1, at_2, at_3, l_tup, l_lst, l_ref, ll_lst, ll_ref, b_len, b_tuple, b_list, b_abs, b_int, b_intB, b_max2, b_min2, b_all, b_any, a_ref, p_app, p_ins, p_set, set_0, set_1, set_2, s_tup, s_lst, i_int, r_tup, r_lst, g_tup, g_lst, g_ref, g_rng1, g_rng2, v_tupR1, v_tupR2, v_lisR1, v_lisR2, u_add, u_sub, W_copT, W_copV, W_truT, W_notV, W_notT, W_tupD, W_lstF, W_lstT, newF, newT, List.map_cons, List.map_nil, List.cons_append, List.nil_append, List.append_nil, List.length_cons, List.length_nil, List.replicate, List.getElem?_cons_zero, List.getElem?_cons_succ, List.set_cons_zero, List.set_cons_succ, List.getElem?_nil, Nat.reduceAdd, Nat.reduceLT, Nat.reduceSub, Nat.reduceEqDiff, ↓reduceIte, decide_eq_true_eq, decide_eq_false_iff_not, Bool.not_eq_true', Bool.not_eq_false', and_true, true_and, List.set_set, forall_const, true_implies, and_self, eq_self, Int.reduceLE, Int.reduceLT, Int.reducePow, Int.reduceToNat, Nat.reducePow, Int.reduceNeg, ne_eq, not_false_eq_true, Int.reduceEq, not_true_eq_false, true_or, or_true, Nat.reduceLeDiff, if_true, if_false, false_imp_iff, true_imp_iff, false_and, and_false, or_false, false_or, nats_map, hsI, hsame, List.length_map]
    refine ⟨by unfold SL; omega, ?_⟩
    refine W_lc_map (l := F) (c := edgD) (fun e => .bl true) (fun e he => ?_) ?_
    · obtain ⟨f1, f2, f3⟩ := hF e he
      simp (maxSteps := 4000000) only [edgD, eev_popI, eev_rem, eev_cnt, p_popI, p_rem, p_asL2, p_cnt, eev_dnew, eev_dget, eev_dgetE, eev_din, eevT_din, eev_dlen, eev_dcmp, eex_dput, Z_sPutD, d_nil, k_one, k_two, k_three, p_dgetI, p_dgetT, p_asDc, p_dgetEI, p_dgetET, p_dinTI, p_dinTT, p_dinVI, p_dinVT, p_dputI, p_dputT, p_dlen, p_dnewI, p_dnewT, o_pairD, o_todD, eev_ext, eev_pop, eex_setII, Z_sSetII, p_ext, p_pop, c_isBB, c_ntBB, eev_cmp2, eevT_cmp2, eevI_enum, eex_rais, W_bCh, g_enL, g_enT, eev_sset, eev_lset, o_sset, o_lset, i_ofS, eevI_rvsd, g_rvT, g_rvL, eev_catM, o_catLM, eev_repL, r_repD, Bool.true_eq_false, Bool.false_eq_true, W_bSrtk, eev_srtk, eevI_zip, inE, o_addL, o_addR, o_catL, c_in, c_notin, b_sorted, b_sum, b_maxL, b_minL, i_of, g_zipT, g_zipL, g_zipR, c_isNI, c_isNN, c_isNT, c_isNL, c_ntNI, c_ntNN, c_ntNT, c_ntNL, ints_map, W_b1, W_b2, W_b3, W_bIf, W_cst, W_vr, W_bAnd, W_bOr, truP_bl, W_consD, W_some, W_none, W_guard, Z_nil, Z_brk, Z_ctn, Z_sSeq, Z_sSet, Z_sPar, Z_sSetI, Z_sAug, Z_sExpr, Z_sRet, Z_sIf, Z_sFor, W_bLc, W_idx, Z_forStep, W_lcStep, wipeE, finF_keep, finF_clean, evs_nil, evO_no, evT_yes, eev_nm, eev_cI, eev_cB, eev_cN, eev_cS, eev_bin, eev_neg, eev_cmp, eev_and, eev_or, eev_not, eev_ife, eev_tup, eev_lst, eev_idx, eev_slc, eev_revT, eev_revL, eev_blt, eev_app, eev_ins, eev_call, eev_tupR1, eev_tupR2, eev_lisR1, eev_lisR2, eev_lc, eevO_no, eevO_so, eevs_nil, eevs_cons, eevT_yes, eevT_cmp, eevT_and, eevT_or, eevT_not, eevT_tr, eevAnd_nil, eevOr_nil, eevAll_nil, eevAll_cons, eevAny_nil, eevAny_cons, eevI_rng1, eevI_rng2, eevI_seq, eex_set, eex_setT, eex_par, eex_setI, eex_aug, eex_expr, eex_ret, eex_ife, eex_whl, eex_for_, eex_brk, eex_ctn, eexs_nil, eexs_cons, eevAnd_1, eevAnd_2, eevOr_1, eevOr_2, W_callN, selD, startE, putN, parPut, Tg.put, Tg.putL, W_fnB, o_add, o_sub, o_mul, o_fdiv, o_mod, o_pow, o_shl, o_shr, o_band, o_bor, o_bxor, o_addT, o_mulT, c_eqI, c_eqS, c_eqB, c_neI, c_neS, c_neB, c_lt, c_le, c_gt, c_ge, t_bl, t_int, t_tup, t_lst, n_neg, at_0, at_1, at_2, at_3, l_tup, l_lst, l_ref, ll_lst, ll_ref, b_len, b_tuple, b_list, b_abs, b_int, b_intB, b_max2, b_min2, b_all, b_any, a_ref, p_app, p_ins, p_set, set_0, set_1, set_2, s_tup, s_lst, i_int, r_tup, r_lst, g_tup, g_lst, g_ref, g_rng1, g_rng2, v_tupR1, v_tupR2, v_lisR1, v_lisR2, u_add, u_sub, W_copT, W_copV, W_truT, W_notV, W_notT, W_tupD, W_lstF, W_lstT, newF, newT, List.map_cons, List.map_nil, List.cons_append, List.nil_append, List.append_nil, List.length_cons, List.length_nil, List.replicate, List.getElem?_cons_zero, List.getElem?_cons_succ, List.set_cons_zero, List.set_cons_succ, List.getElem?_nil, Nat.reduceAdd, Nat.reduceLT, Nat.reduceSub, Nat.reduceEqDiff, ↓reduceIte, decide_eq_true_eq, decide_eq_false_iff_not, Bool.not_eq_true', Bool.not_eq_false', and_true, true_and, List.set_set, forall_const, true_implies, and_self, eq_self, Int.reduceLE, Int.reduceLT, Int.reducePow, Int.reduceToNat, Nat.reducePow, Int.reduceNeg, ne_eq, not_false_eq_true, Int.reduceEq, not_true_eq_false, true_or, or_true, Nat.reduceLeDiff, if_true, if_false, false_imp_iff, true_imp_iff, false_and, and_false, or_false, false_or]
      refine W.call (teller_ok (n := n + 2) hst (by omega) hj f1 hs (by decide)) ?_
      rw [f3]
      simp (maxSteps := 4000000) only [eev_popI, eev_rem, eev_cnt, p_popI, p_rem, p_asL2, p_cnt, eev_dnew, eev_dget, eev_dgetE, eev_din, eevT_din, eev_dlen, eev_dcmp, eex_dput, Z_sPutD, d_nil, k_one, k_two, k_three, p_dgetI, p_dgetT, p_asDc, p_dgetEI, p_dgetET, p_dinTI, p_dinTT, p_dinVI, p_dinVT, p_dputI, p_dputT, p_dlen, p_dnewI, p_dnewT, o_pairD, o_todD, eev_ext, eev_pop, eex_setII, Z_sSetII, p_ext, p_pop, c_isBB, c_ntBB, eev_cmp2, eevT_cmp2, eevI_enum, eex_rais, W_bCh, g_enL, g_enT, eev_sset, eev_lset, o_sset, o_lset, i_ofS, eevI_rvsd, g_rvT, g_rvL, eev_catM, o_catLM, eev_repL, r_repD, Bool.true_eq_false, Bool.false_eq_true, W_bSrtk, eev_srtk, eevI_zip, inE, o_addL, o_addR, o_catL, c_in, c_notin, b_sorted, b_sum, b_maxL, b_minL, i_of, g_zipT, g_zipL, g_zipR, c_isNI, c_isNN, c_isNT, c_isNL, c_ntNI, c_ntNN, c_ntNT, c_ntNL, ints_map, W_b1, W_b2, W_b3, W_bIf, W_cst, W_vr, W_bAnd, W_bOr, truP_bl, W_consD, W_some, W_none, W_guard, Z_nil, Z_brk, Z_ctn, Z_sSeq, Z_sSet, Z_sPar, Z_sSetI, Z_sAug, Z_sExpr, Z_sRet, Z_sIf, Z_sFor, W_bLc, W_idx, Z_forStep, W_lcStep, wipeE, finF_keep, finF_clean, evs_nil, evO_no, evT_yes, eev_nm, eev_cI, eev_cB, eev_cN, eev_cS, eev_bin, eev_neg, eev_cmp, eev_and, eev_or, eev_not, eev_ife, eev_tup, eev_lst, eev_idx, eev_slc, eev_revT, eev_revL, eev_blt, eev_app, eev_ins, eev_call, eev_tupR1, eev_tupR2, eev_lisR1, eev_lisR2, eev_lc, eevO_no, eevO_so, eevs_nil, eevs_cons, eevT_yes, eevT_cmp, eevT_and, eevT_or, eevT_not, eevT_tr, eevAnd_nil, eevOr_nil, eevAll_nil, eevAll_cons, eevAny_nil, eevAny_cons, eevI_rng1, eevI_rng2, eevI_seq, eex_set, eex_setT, eex_par, eex_setI, eex_aug, eex_expr, eex_ret, eex_ife, eex_whl, eex_for_, eex_brk, eex_ctn, eexs_nil, eexs_cons, eevAnd_1, eevAnd_2, eevOr_1, eevOr_2, W_callN, selD, startE, putN, parPut, Tg.put, Tg.putL, W_fnB, o_add, o_sub, o_mul, o_fdiv, o_mod, o_pow, o_shl, o_shr, o_band, o_bor, o_bxor, o_addT, o_mulT, c_eqI, c_eqS, c_eqB, c_neI, c_neS, c_neB, c_lt, c_le, c_gt, c_ge, t_bl, t_int, t_tup, t_lst, n_neg, at_0, at_1, at_2, at_3, l_tup, l_lst, l_ref, ll_lst, ll_ref, b_len, b_tuple, b_list, b_abs, b_int, b_intB, b_max2, b_min2, b_all, b_any, a_ref, p_app, p_ins, p_set, set_0, set_1, set_2, s_tup, s_lst, i_int, r_tup, r_lst, g_tup, g_lst, g_ref, g_rng1, g_rng2, v_tupR1, v_tupR2, v_lisR1, v_lisR2, u_add, u_sub, W_copT, W_copV, W_truT, W_notV, W_notT, W_tupD, W_lstF, W_lstT, newF, newT, List.map_cons, List.map_nil, List.cons_append, List.nil_append, List.append_nil, List.length_cons, List.length_nil, List.replicate, List.getElem?_cons_zero, List.getElem?_cons_succ, List.set_cons_zero, List.set_cons_succ, List.getElem?_nil, Nat.reduceAdd, Nat.reduceLT, Nat.reduceSub, Nat.reduceEqDiff, ↓reduceIte, decide_eq_true_eq, decide_eq_false_iff_not, Bool.not_eq_true', Bool.not_eq_false', and_true, true_and, List.set_set, forall_const, true_implies, and_self, eq_self, Int.reduceLE, Int.reduceLT, Int.reducePow, Int.reduceToNat, Nat.reducePow, Int.reduceNeg, ne_eq, not_false_eq_true, Int.reduceEq, not_true_eq_false, true_or, or_true, Nat.reduceLeDiff, if_true, if_false, false_imp_iff, true_imp_iff, false_and, and_false, or_false, false_or, decide_true]
    · have e2 : F.map (fun _ => D.bl true) = (F.map fun _ => true).map D.bl := by rw [List.map_map]; rfl
      have eall : (F.map fun _ => true).all id = true := by simp
      rw [e2]
      simp (maxSteps := 4000000) only [eev_popI, eev_rem, eev_cnt, p_popI, p_rem, p_asL2, p_cnt, eev_dnew, eev_dget, eev_dgetE, eev_din, eevT_din, eev_dlen, eev_dcmp, eex_dput, Z_sPutD, d_nil, k_one, k_two, k_three, p_dgetI, p_dgetT, p_asDc, p_dgetEI, p_dgetET, p_dinTI, p_dinTT, p_dinVI, p_dinVT, p_dputI, p_dputT, p_dlen, p_dnewI, p_dnewT, o_pairD, o_todD, eev_ext, eev_pop, eex_setII, Z_sSetII, p_ext, p_pop, c_isBB, c_ntBB, eev_cmp2, eevT_cmp2, eevI_enum, eex_rais, W_bCh, g_enL, g_enT, eev_sset, eev_lset, o_sset, o_lset, i_ofS, eevI_rvsd, g_rvT, g_rvL, eev_catM, o_catLM, eev_repL, r_repD, Bool.true_eq_false, Bool.false_eq_true, W_bSrtk, eev_srtk, eevI_zip, inE, o_addL, o_addR, o_catL, c_in, c_notin, b_sorted, b_sum, b_maxL, b_minL, i_of, g_zipT, g_zipL, g_zipR, c_isNI, c_isNN, c_isNT, c_isNL, c_ntNI, c_ntNN, c_ntNT, c_ntNL, ints_map, W_b1, W_b2, W_b3, W_bIf, W_cst, W_vr, W_bAnd, W_bOr, truP_bl, W_consD, W_some, W_none, W_guard, Z_nil, Z_brk, Z_ctn, Z_sSeq, Z_sSet, Z_sPar, Z_sSetI, Z_sAug, Z_sExpr, Z_sRet, Z_sIf, Z_sFor, W_bLc, W_idx, Z_forStep, W_lcStep, wipeE, finF_keep, finF_clean, evs_nil, evO_no, evT_yes, eev_nm, eev_cI, eev_cB, eev_cN, eev_cS, eev_bin, eev_neg, eev_cmp, eev_and, eev_or, eev_not, eev_ife, eev_tup, eev_lst, eev_idx, eev_slc, eev_revT, eev_revL, eev_blt, eev_app, eev_ins, eev_call, eev_tupR1, eev_tupR2, eev_lisR1, eev_lisR2, eev_lc, eevO_no, eevO_so, eevs_nil, eevs_cons, eevT_yes, eevT_cmp, eevT_and, eevT_or, eevT_not, eevT_tr, eevAnd_nil, eevOr_nil, eevAll_nil, eevAll_cons, eevAny_nil, eevAny_cons, eevI_rng1, eevI_rng2, eevI_seq, eex_set, eex_setT, eex_par, eex_setI, eex_aug, eex_expr, eex_ret, eex_ife, eex_whl, eex_for_, eex_brk, eex_ctn, eexs_nil, eexs_cons, eevAnd_1, eevAnd_2, eevOr_1, eevOr_2, W_callN, selD, startE, putN, parPut, Tg.put, Tg.putL, W_fnB, o_add, o_sub, o_mul, o_fdiv, o_mod, o_pow, o_shl, o_shr, o_band, o_bor, o_bxor, o_addT, o_mulT, c_eqI, c_eqS, c_eqB, c_neI, c_neS, c_neB, c_lt, c_le, c_gt, c_ge, t_bl, t_int, t_tup, t_lst, n_neg, at_0, at_1, at_2, at_3, l_tup, l_lst, l_ref, ll_lst, ll_ref, b_len, b_tuple, b_list, b_abs, b_int, b_intB, b_max2, b_min2, b_all, b_any, a_ref, p_app, p_ins, p_set, set_0, set_1, set_2, s_tup, s_lst, i_int, r_tup, r_lst, g_tup, g_lst, g_ref, g_rng1, g_rng2, v_tupR1, v_tupR2, v_lisR1, v_lisR2, u_add, u_sub, W_copT, W_copV, W_truT, W_notV, W_notT, W_tupD, W_lstF, W_lstT, newF, newT, List.map_cons, List.map_nil, List.cons_append, List.nil_append, List.append_nil, List.length_cons, List.length_nil, List.replicate, List.getElem?_cons_zero, List.getElem?_cons_succ, List.set_cons_zero, List.set_cons_succ, List.getElem?_nil, Nat.reduceAdd, Nat.reduceLT, Nat.reduceSub, Nat.reduceEqDiff, ↓reduceIte, decide_eq_true_eq, decide_eq_false_iff_not, Bool.not_eq_true', Bool.not_eq_false', and_true, true_and, List.set_set, forall_const, true_implies, and_self, eq_self, Int.reduceLE, Int.reduceLT, Int.reducePow, Int.reduceToNat, Nat.reducePow, Int.reduceNeg, ne_eq, not_false_eq_true, Int.reduceEq, not_true_eq_false, true_or, or_true, Nat.reduceLeDiff, if_true, if_false, false_imp_iff, true_imp_iff, false_and, and_false, or_false, false_or, List.length_map, bls_map, eall, Bool.not_true]
      refine ⟨by unfold SL; omega, ?_⟩
      refine W_lc_map (l := List.range (2 ^ q)) (c := nD) (fun h => nD (dly q (h ^^^ s) j)) (fun h hh => ?_) ?_
      · simp (maxSteps := 4000000) only [eev_popI, eev_rem, eev_cnt, p_popI, p_rem, p_asL2, p_cnt, eev_dnew, eev_dget, eev_dgetE, eev_din, eevT_din, eev_dlen, eev_dcmp, eex_dput, Z_sPutD, d_nil, k_one, k_two, k_three, p_dgetI, p_dgetT, p_asDc, p_dgetEI, p_dgetET, p_dinTI, p_dinTT, p_dinVI, p_dinVT, p_dputI, p_dputT, p_dlen, p_dnewI, p_dnewT, o_pairD, o_todD, eev_ext, eev_pop, eex_setII, Z_sSetII, p_ext, p_pop, c_isBB, c_ntBB, eev_cmp2, eevT_cmp2, eevI_enum, eex_rais, W_bCh, g_enL, g_enT, eev_sset, eev_lset, o_sset, o_lset, i_ofS, eevI_rvsd, g_rvT, g_rvL, eev_catM, o_catLM, eev_repL, r_repD, Bool.true_eq_false, Bool.false_eq_true, W_bSrtk, eev_srtk, eevI_zip, inE, o_addL, o_addR, o_catL, c_in, c_notin, b_sorted, b_sum, b_maxL, b_minL, i_of, g_zipT, g_zipL, g_zipR, c_isNI, c_isNN, c_isNT, c_isNL, c_ntNI, c_ntNN, c_ntNT, c_ntNL, ints_map, W_b1, W_b2, W_b3, W_bIf, W_cst, W_vr, W_bAnd, W_bOr, truP_bl, W_consD, W_some, W_none, W_guard, Z_nil, Z_brk, Z_ctn, Z_sSeq, Z_sSet, Z_sPar, Z_sSetI, Z_sAug, Z_sExpr, Z_sRet, Z_sIf, Z_sFor, W_bLc, W_idx, Z_forStep, W_lcStep, wipeE, finF_keep, finF_clean, evs_nil, evO_no, evT_yes, eev_nm, eev_cI, eev_cB, eev_cN, eev_cS, eev_bin, eev_neg, eev_cmp, eev_and, eev_or, eev_not, eev_ife, eev_tup, eev_lst, eev_idx, eev_slc, eev_revT, eev_revL, eev_blt, eev_app, eev_ins, eev_call, eev_tupR1, eev_tupR2, eev_lisR1, eev_lisR2, eev_lc, eevO_no, eevO_so, eevs_nil, eevs_cons, eevT_yes, eevT_cmp, eevT_and, eevT_or, eevT_not, eevT_tr, eevAnd_nil, eevOr_nil, eevAll_nil, eevAll_cons, eevAny_nil, eevAny_cons, eevI_rng1, eevI_rng2, eevI_seq, eex_set, eex_setT, eex_par, eex_setI, eex_aug, eex_expr, eex_ret, eex_ife, eex_whl, eex_for_, eex_brk, eex_ctn, eexs_nil, eexs_cons, eevAnd_1, eevAnd_2, eevOr_1, eevOr_2, W_callN, selD, startE, putN, parPut, Tg.put, Tg.putL, W_fnB, o_add, o_sub, o_mul, o_fdiv, o_mod, o_pow, o_shl, o_shr, o_band, o_bor, o_bxor, o_addT, o_mulT, c_eqI, c_eqS, c_eqB, c_neI, c_neS, c_neB, c_lt, c_le, c_gt, c_ge, t_bl, t_int, t_tup, t_lst, n_neg, at_0, at_1, at_2, at_3, l_tup, l_lst, l_ref, ll_lst, ll_ref, b_len, b_tuple, b_list, b_abs, b_int, b_intB, b_max2, b_min2, b_all, b_any, a_ref, p_app, p_ins, p_set, set_0, set_1, set_2, s_tup, s_lst, i_int, r_tup, r_lst, g_tup, g_lst, g_ref, g_rng1, g_rng2, v_tupR1, v_tupR2, v_lisR1, v_lisR2, u_add, u_sub, W_copT, W_copV, W_truT, W_notV, W_notT, W_tupD, W_lstF, W_lstT, newF, newT, List.map_cons, List.map_nil, List.cons_append, List.nil_append, List.append_nil, List.length_cons, List.length_nil, List.replicate, List.getElem?_cons_zero, List.getElem?_cons_succ, List.set_cons_zero, List.set_cons_succ, List.getElem?_nil, Nat.reduceAdd, Nat.reduceLT, Nat.reduceSub, Nat.reduceEqDiff, ↓reduceIte, decide_eq_true_eq, decide_eq_false_iff_not, Bool.not_eq_true', Bool.not_eq_false', and_true, true_and, List.set_set, forall_const, true_implies, and_self, eq_self, Int.reduceLE, Int.reduceLT, Int.reducePow, Int.reduceToNat, Nat.reducePow, Int.reduceNeg, ne_eq, not_false_eq_true, Int.reduceEq, not_true_eq_false, true_or, or_true, Nat.reduceLeDiff, if_true, if_false, false_imp_iff, true_imp_iff, false_and, and_false, or_false, false_or]
        refine (delay_ok (n := n + 3) hst (by omega) hj (List.mem_range.mp hh) hs (by decide)).mono fun d st' ⟨e, e2⟩ => ?_
        subst e e2
        exact ⟨rfl, rfl⟩
      · have eL : (List.range (2 ^ q)).map (fun h => nD (dly q (h ^^^ s) j)) = (lateL q j s).map nD := by unfold lateL; rw [List.map_map]; rfl
        have hLl : (lateL q j s).length = 2 ^ q := by unfold lateL; simp
        have eq1 : (q : Int) - 1 = ((q - 1 : Nat) : Int) := by omega
        have eq2 : (q : Int) + 1 = ((q + 1 : Nat) : Int) := by omega
        rw [eL]
        simp (maxSteps := 4000000) only [eev_popI, eev_rem, eev_cnt, p_popI, p_rem, p_asL2, p_cnt, eev_dnew, eev_dget, eev_dgetE, eev_din, eevT_din, eev_dlen, eev_dcmp, eex_dput, Z_sPutD, d_nil, k_one, k_two, k_three, p_dgetI, p_dgetT, p_asDc, p_dgetEI, p_dgetET, p_dinTI, p_dinTT, p_dinVI, p_dinVT, p_dputI, p_dputT, p_dlen, p_dnewI, p_dnewT, o_pairD, o_todD, eev_ext, eev_pop, eex_setII, Z_sSetII, p_ext, p_pop, c_isBB, c_ntBB, eev_cmp2, eevT_cmp2, eevI_enum, eex_rais, W_bCh, g_enL, g_enT, eev_sset, eev_lset, o_sset, o_lset, i_ofS, eevI_rvsd, g_rvT, g_rvL, eev_catM, o_catLM, eev_repL, r_repD, Bool.true_eq_false, Bool.false_eq_true, W_bSrtk, eev_srtk, eevI_zip, inE, o_addL, o_addR, o_catL, c_in, c_notin, b_sorted, b_sum, b_maxL, b_minL, i_of, g_zipT, g_zipL, g_zipR, c_isNI, c_isNN, c_isNT, c_isNL, c_ntNI, c_ntNN, c_ntNT, c_ntNL, ints_map, W_b1, W_b2, W_b3, W_bIf, W_cst, W_vr, W_bAnd, W_bOr, truP_bl, W_consD, W_some, W_none, W_guard, Z_nil, Z_brk, Z_ctn, Z_sSeq, Z_sSet, Z_sPar, Z_sSetI, Z_sAug, Z_sExpr, Z_sRet, Z_sIf, Z_sFor, W_bLc, W_idx, Z_forStep, W_lcStep, wipeE, finF_keep, finF_clean, evs_nil, evO_no, evT_yes, eev_nm, eev_cI, eev_cB, eev_cN, eev_cS, eev_bin, eev_neg, eev_cmp, eev_and, eev_or, eev_not, eev_ife, eev_tup, eev_lst, eev_idx, eev_slc, eev_revT, eev_revL, eev_blt, eev_app, eev_ins, eev_call, eev_tupR1, eev_tupR2, eev_lisR1, eev_lisR2, eev_lc, eevO_no, eevO_so, eevs_nil, eevs_cons, eevT_yes, eevT_cmp, eevT_and, eevT_or, eevT_not, eevT_tr, eevAnd_nil, eevOr_nil, eevAll_nil, eevAll_cons, eevAny_nil, eevAny_cons, eevI_rng1, eevI_rng2, eevI_seq, eex_set, eex_setT, eex_par, eex_setI, eex_aug, eex_expr, eex_ret, eex_ife, eex_whl, eex_for_, eex_brk, eex_ctn, eexs_nil, eexs_cons, eevAnd_1, eevAnd_2, eevOr_1, eevOr_2, W_callN, selD, startE, putN, parPut, Tg.put, Tg.putL, W_fnB, o_add, o_sub, o_mul, o_fdiv, o_mod, o_pow, o_shl, o_shr, o_band, o_bor, o_bxor, o_addT, o_mulT, c_eqI, c_eqS, c_eqB, c_neI, c_neS, c_neB, c_lt, c_le, c_gt, c_ge, t_bl, t_int, t_tup, t_lst, n_neg, at_0, at_1, at_2, at_3, l_tup, l_lst, l_ref, ll_lst, ll_ref, b_len, b_tuple, b_list, b_abs, b_int, b_intB, b_max2, b_min2, b_all, b_any, a_ref, p_app, p_ins, p_set, set_0, set_1, set_2, s_tup, s_lst, i_int, r_tup, r_lst, g_tup, g_lst, g_ref, g_rng1, g_rng2, v_tupR1, v_tupR2, v_lisR1, v_lisR2, u_add, u_sub, W_copT, W_copV, W_truT, W_notV, W_notT, W_tupD, W_lstF, W_lstT, newF, newT, List.map_cons, List.map_nil, List.cons_append, List.nil_append, List.append_nil, List.length_cons, List.length_nil, List.replicate, List.getElem?_cons_zero, List.getElem?_cons_succ, List.set_cons_zero, List.set_cons_succ, List.getElem?_nil, Nat.reduceAdd, Nat.reduceLT, Nat.reduceSub, Nat.reduceEqDiff, ↓reduceIte, decide_eq_true_eq, decide_eq_false_iff_not, Bool.not_eq_true', Bool.not_eq_false', and_true, true_and, List.set_set, forall_const, true_implies, and_self, eq_self, Int.reduceLE, Int.reduceLT, Int.reducePow, Int.reduceToNat, Nat.reducePow, Int.reduceNeg, ne_eq, not_false_eq_true, Int.reduceEq, not_true_eq_false, true_or, or_true, Nat.reduceLeDiff, if_true, if_false, false_imp_iff, true_imp_iff, false_and, and_false, or_false, false_or, List.length_map, eq1, eq2]
        refine ⟨by unfold SL; omega, by unfold SL; omega, ⟨by omega, by omega⟩, ?_⟩
        refine W_lc_rng (fun b => nD (2 ^ b)) (fun b hb => ?_) ?_
        · have hb2 : b < q - 1 := by omega
          simp (maxSteps := 4000000) only [eev_popI, eev_rem, eev_cnt, p_popI, p_rem, p_asL2, p_cnt, eev_dnew, eev_dget, eev_dgetE, eev_din, eevT_din, eev_dlen, eev_dcmp, eex_dput, Z_sPutD, d_nil, k_one, k_two, k_three, p_dgetI, p_dgetT, p_asDc, p_dgetEI, p_dgetET, p_dinTI, p_dinTT, p_dinVI, p_dinVT, p_dputI, p_dputT, p_dlen, p_dnewI, p_dnewT, o_pairD, o_todD, eev_ext, eev_pop, eex_setII, Z_sSetII, p_ext, p_pop, c_isBB, c_ntBB, eev_cmp2, eevT_cmp2, eevI_enum, eex_rais, W_bCh, g_enL, g_enT, eev_sset, eev_lset, o_sset, o_lset, i_ofS, eevI_rvsd, g_rvT, g_rvL, eev_catM, o_catLM, eev_repL, r_repD, Bool.true_eq_false, Bool.false_eq_true, W_bSrtk, eev_srtk, eevI_zip, inE, o_addL, o_addR, o_catL, c_in, c_notin, b_sorted, b_sum, b_maxL, b_minL, i_of, g_zipT, g_zipL, g_zipR, c_isNI, c_isNN, c_isNT, c_isNL, c_ntNI, c_ntNN, c_ntNT, c_ntNL, ints_map, W_b1, W_b2, W_b3, W_bIf, W_cst, W_vr, W_bAnd, W_bOr, truP_bl, W_consD, W_some, W_none, W_guard, Z_nil, Z_brk, Z_ctn, Z_sSeq, Z_sSet, Z_sPar, Z_sSetI, Z_sAug, Z_sExpr, Z_sRet, Z_sIf, Z_sFor, W_bLc, W_idx, Z_forStep, W_lcStep, wipeE, finF_keep, finF_clean, evs_nil, evO_no, evT_yes, eev_nm, eev_cI, eev_cB, eev_cN, eev_cS, eev_bin, eev_neg, eev_cmp, eev_and, eev_or, eev_not, eev_ife, eev_tup, eev_lst, eev_idx, eev_slc, eev_revT, eev_revL, eev_blt, eev_app, eev_ins, eev_call, eev_tupR1, eev_tupR2, eev_lisR1, eev_lisR2, eev_lc, eevO_no, eevO_so, eevs_nil, eevs_cons, eevT_yes, eevT_cmp, eevT_and, eevT_or, eevT_not, eevT_tr, eevAnd_nil, eevOr_nil, eevAll_nil, eevAll_cons, eevAny_nil, eevAny_cons, eevI_rng1, eevI_rng2, eevI_seq, eex_set, eex_setT, eex_par, eex_setI, eex_aug, eex_expr, eex_ret, eex_ife, eex_whl, eex_for_, eex_brk, eex_ctn, eexs_nil, eexs_cons, eevAnd_1, eevAnd_2, eevOr_1, eevOr_2, W_callN, selD, startE, putN, parPut, Tg.put, Tg.putL, W_fnB, o_add, o_sub, o_mul, o_fdiv, o_mod, o_pow, o_shl, o_shr, o_band, o_bor, o_bxor, o_addT, o_mulT, c_eqI, c_eqS, c_eqB, c_neI, c_neS, c_neB, c_lt, c_le, c_gt, c_ge, t_bl, t_int, t_tup, t_lst, n_neg, at_0, at_1, at_2, at_3, l_tup, l_lst, l_ref, ll_lst, ll_ref, b_len, b_tuple, b_list, b_abs, b_int, b_intB, b_max2, b_min2, b_all, b_any, a_ref, p_app, p_ins, p_set, set_0, set_1, set_2, s_tup, s_lst, i_int, r_tup, r_lst, g_tup, g_lst, g_ref, g_rng1, g_rng2, v_tupR1, v_tupR2, v_lisR1, v_lisR2, u_add, u_sub, W_copT, W_copV, W_truT, W_notV, W_notT, W_tupD, W_lstF, W_lstT, newF, newT, List.map_cons, List.map_nil, List.cons_append, List.nil_append, List.append_nil, List.length_cons, List.length_nil, List.replicate, List.getElem?_cons_zero, List.getElem?_cons_succ, List.set_cons_zero, List.set_cons_succ, List.getElem?_nil, Nat.reduceAdd, Nat.reduceLT, Nat.reduceSub, Nat.reduceEqDiff, ↓reduceIte, decide_eq_true_eq, decide_eq_false_iff_not, Bool.not_eq_true', Bool.not_eq_false', and_true, true_and, List.set_set, forall_const, true_implies, and_self, eq_self, Int.reduceLE, Int.reduceLT, Int.reducePow, Int.reduceToNat, Nat.reducePow, Int.reduceNeg, ne_eq, not_false_eq_true, Int.reduceEq, not_true_eq_false, true_or, or_true, Nat.reduceLeDiff, if_true, if_false, false_imp_iff, true_imp_iff, false_and, and_false, or_false, false_or, Int.zero_add, shl_nat]
          exact ⟨by omega, by omega, by decide⟩
        · simp (maxSteps := 4000000) only [eev_popI, eev_rem, eev_cnt, p_popI, p_rem, p_asL2, p_cnt, eev_dnew, eev_dget, eev_dgetE, eev_din, eevT_din, eev_dlen, eev_dcmp, eex_dput, Z_sPutD, d_nil, k_one, k_two, k_three, p_dgetI, p_dgetT, p_asDc, p_dgetEI, p_dgetET, p_dinTI, p_dinTT, p_dinVI, p_dinVT, p_dputI, p_dputT, p_dlen, p_dnewI, p_dnewT, o_pairD, o_todD, eev_ext, eev_pop, eex_setII, Z_sSetII, p_ext, p_pop, c_isBB, c_ntBB, eev_cmp2, eevT_cmp2, eevI_enum, eex_rais, W_bCh, g_enL, g_enT, eev_sset, eev_lset, o_sset, o_lset, i_ofS, eevI_rvsd, g_rvT, g_rvL, eev_catM, o_catLM, eev_repL, r_repD, Bool.true_eq_false, Bool.false_eq_true, W_bSrtk, eev_srtk, eevI_zip, inE, o_addL, o_addR, o_catL, c_in, c_notin, b_sorted, b_sum, b_maxL, b_minL, i_of, g_zipT, g_zipL, g_zipR, c_isNI, c_isNN, c_isNT, c_isNL, c_ntNI, c_ntNN, c_ntNT, c_ntNL, ints_map, W_b1, W_b2, W_b3, W_bIf, W_cst, W_vr, W_bAnd, W_bOr, truP_bl, W_consD, W_some, W_none, W_guard, Z_nil, Z_brk, Z_ctn, Z_sSeq, Z_sSet, Z_sPar, Z_sSetI, Z_sAug, Z_sExpr, Z_sRet, Z_sIf, Z_sFor, W_bLc, W_idx, Z_forStep, W_lcStep, wipeE, finF_keep, finF_clean, evs_nil, evO_no, evT_yes, eev_nm, eev_cI, eev_cB, eev_cN, eev_cS, eev_bin, eev_neg, eev_cmp, eev_and, eev_or, eev_not, eev_ife, eev_tup, eev_lst, eev_idx, eev_slc, eev_revT, eev_revL, eev_blt, eev_app, eev_ins, eev_call, eev_tupR1, eev_tupR2, eev_lisR1, eev_lisR2, eev_lc, eevO_no, eevO_so, eevs_nil, eevs_cons, eevT_yes, eevT_cmp, eevT_and, eevT_or, eevT_not, eevT_tr, eevAnd_nil, eevOr_nil, eevAll_nil, eevAll_cons, eevAny_nil, eevAny_cons, eevI_rng1, eevI_rng2, eevI_seq, eex_set, eex_setT, eex_par, eex_setI, eex_aug, eex_expr, eex_ret, eex_ife, eex_whl, eex_for_, eex_brk, eex_ctn, eexs_nil, eexs_cons, eevAnd_1, eevAnd_2, eevOr_1, eevOr_2, W_callN, selD, startE, putN, parPut, Tg.put, Tg.putL, W_fnB, o_add, o_sub, o_mul, o_fdiv, o_mod, o_pow, o_shl, o_shr, o_band, o_bor, o_bxor, o_addT, o_mulT, c_eqI, c_eqS, c_eqB, c_neI, c_neS, c_neB, c_lt, c_le, c_gt, c_ge, t_bl, t_int, t_tup, t_lst, n_neg, at_0, at_1, at_2, at_3, l_tup, l_lst, l_ref, ll_lst, ll_ref, b_len, b_tuple, b_list, b_abs, b_int, b_intB, b_max2, b_min2, b_all, b_any, a_ref, p_app, p_ins, p_set, set_0, set_1, set_2, s_tup, s_lst, i_int, r_tup, r_lst, g_tup, g_lst, g_ref, g_rng1, g_rng2, v_tupR1, v_tupR2, v_lisR1, v_lisR2, u_add, u_sub, W_copT, W_copV, W_truT, W_notV, W_notT, W_tupD, W_lstF, W_lstT, newF, newT, List.map_cons, List.map_nil, List.cons_append, List.nil_append, List.append_nil, List.length_cons, List.length_nil, List.replicate, List.getElem?_cons_zero, List.getElem?_cons_succ, List.set_cons_zero, List.set_cons_succ, List.getElem?_nil, Nat.reduceAdd, Nat.reduceLT, Nat.reduceSub, Nat.reduceEqDiff, ↓reduceIte, decide_eq_true_eq, decide_eq_false_iff_not, Bool.not_eq_true', Bool.not_eq_false', and_true, true_and, List.set_set, forall_const, true_implies, and_self, eq_self, Int.reduceLE, Int.reduceLT, Int.reducePow, Int.reduceToNat, Nat.reducePow, Int.reduceNeg, ne_eq, not_false_eq_true, Int.reduceEq, not_true_eq_false, true_or, or_true, Nat.reduceLeDiff, if_true, if_false, false_imp_iff, true_imp_iff, false_and, and_false, or_false, false_or, List.length_map, List.length_range, Int.toNat_natCast]
          refine ⟨by unfold SL; omega, by unfold SL; omega, ⟨by omega, by omega, by decide⟩, by unfold SL; omega, by unfold SL; omega, ⟨by omega, by omega⟩, ?_⟩
          refine W_lc_rng (fun b => nD ((lateL q j s).count b)) (fun b hb => ?_) ?_
          · simp (maxSteps := 4000000) only [eev_popI, eev_rem, eev_cnt, p_popI, p_rem, p_asL2, p_cnt, eev_dnew, eev_dget, eev_dgetE, eev_din, eevT_din, eev_dlen, eev_dcmp, eex_dput, Z_sPutD, d_nil, k_one, k_two, k_three, p_dgetI, p_dgetT, p_asDc, p_dgetEI, p_dgetET, p_dinTI, p_dinTT, p_dinVI, p_dinVT, p_dputI, p_dputT, p_dlen, p_dnewI, p_dnewT, o_pairD, o_todD, eev_ext, eev_pop, eex_setII, Z_sSetII, p_ext, p_pop, c_isBB, c_ntBB, eev_cmp2, eevT_cmp2, eevI_enum, eex_rais, W_bCh, g_enL, g_enT, eev_sset, eev_lset, o_sset, o_lset, i_ofS, eevI_rvsd, g_rvT, g_rvL, eev_catM, o_catLM, eev_repL, r_repD, Bool.true_eq_false, Bool.false_eq_true, W_bSrtk, eev_srtk, eevI_zip, inE, o_addL, o_addR, o_catL, c_in, c_notin, b_sorted, b_sum, b_maxL, b_minL, i_of, g_zipT, g_zipL, g_zipR, c_isNI, c_isNN, c_isNT, c_isNL, c_ntNI, c_ntNN, c_ntNT, c_ntNL, ints_map, W_b1, W_b2, W_b3, W_bIf, W_cst, W_vr, W_bAnd, W_bOr, truP_bl, W_consD, W_some, W_none, W_guard, Z_nil, Z_brk, Z_ctn, Z_sSeq, Z_sSet, Z_sPar, Z_sSetI, Z_sAug, Z_sExpr, Z_sRet, Z_sIf, Z_sFor, W_bLc, W_idx, Z_forStep, W_lcStep, wipeE, finF_keep, finF_clean, evs_nil, evO_no, evT_yes, eev_nm, eev_cI, eev_cB, eev_cN, eev_cS, eev_bin, eev_neg, eev_cmp, eev_and, eev_or, eev_not, eev_ife, eev_tup, eev_lst, eev_idx, eev_slc, eev_revT, eev_revL, eev_blt, eev_app, eev_ins, eev_call, eev_tupR1, eev_tupR2, eev_lisR1, eev_lisR2, eev_lc, eevO_no, eevO_so, eevs_nil, eevs_cons, eevT_yes, eevT_cmp, eevT_and, eevT_or, eevT_not, eevT_tr, eevAnd_nil, eevOr_nil, eevAll_nil, eevAll_cons, eevAny_nil, eevAny_cons, eevI_rng1, eevI_rng2, eevI_seq, eex_set, eex_setT, eex_par, eex_setI, eex_aug, eex_expr, eex_ret, eex_ife, eex_whl, eex_for_, eex_brk, eex_ctn, eexs_nil, eexs_cons, eevAnd_1, eevAnd_2, eevOr_1, eevOr_2, W_callN, selD, startE, putN, parPut, Tg.put, Tg.putL, W_fnB, o_add, o_sub, o_mul, o_fdiv, o_mod, o_pow, o_shl, o_shr, o_band, o_bor, o_bxor, o_addT, o_mulT, c_eqI, c_eqS, c_eqB, c_neI, c_neS, c_neB, c_lt, c_le, c_gt, c_ge, t_bl, t_int, t_tup, t_lst, n_neg, at_0, at_1, at_2, at_3, l_tup, l_lst, l_ref, ll_lst, ll_ref, b_len, b_tuple, b_list, b_abs, b_int, b_intB, b_max2, b_min2, b_all, b_any, a_ref, p_app, p_ins, p_set, set_0, set_1, set_2, s_tup, s_lst, i_int, r_tup, r_lst, g_tup, g_lst, g_ref, g_rng1, g_rng2, v_tupR1, v_tupR2, v_lisR1, v_lisR2, u_add, u_sub, W_copT, W_copV, W_truT, W_notV, W_notT, W_tupD, W_lstF, W_lstT, newF, newT, List.map_cons, List.map_nil, List.cons_append, List.nil_append, List.append_nil, List.length_cons, List.length_nil, List.replicate, List.getElem?_cons_zero, List.getElem?_cons_succ, List.set_cons_zero, List.set_cons_succ, List.getElem?_nil, Nat.reduceAdd, Nat.reduceLT, Nat.reduceSub, Nat.reduceEqDiff, ↓reduceIte, decide_eq_true_eq, decide_eq_false_iff_not, Bool.not_eq_true', Bool.not_eq_false', and_true, true_and, List.set_set, forall_const, true_implies, and_self, eq_self, Int.reduceLE, Int.reduceLT, Int.reducePow, Int.reduceToNat, Nat.reducePow, Int.reduceNeg, ne_eq, not_false_eq_true, Int.reduceEq, not_true_eq_false, true_or, or_true, Nat.reduceLeDiff, if_true, if_false, false_imp_iff, true_imp_iff, false_and, and_false, or_false, false_or, Int.zero_add, nats_map, count_cast]
          · have e9 : (List.range (q + 1)).map (fun b => nD ((lateL q j s).count b)) = (dueC q).map nD := by rw [← hlate, List.map_map]; rfl
            have e10 : ([D.int 1] ++ (List.range (q - 1)).map (fun b => nD (2 ^ b)) ++ [nD (2 ^ (q - 1))]) = (dueC q).map nD := by unfold dueC; rw [List.map_append, List.map_append, List.map_map]; rfl
            have hdl : ∀ x ∈ dueC q, x < 2 ^ 100 := fun x hx => by
              have hq1 : 2 ^ (q - 1) ≤ 2 ^ 5 := Nat.pow_le_pow_right (by decide) (by omega)
              unfold dueC at hx
              rcases List.mem_append.mp hx with hx | hx
              · rcases List.mem_append.mp hx with hx | hx
                · rw [List.mem_singleton.mp hx]; decide
                · obtain ⟨b, hb, rfl⟩ := List.mem_map.mp hx
                  have := List.mem_range.mp hb
                  have hb5 : 2 ^ b ≤ 2 ^ 5 := Nat.pow_le_pow_right (by decide) (by omega)
                  show 2 ^ b < _
                  omega
              · rw [List.mem_singleton.mp hx]; omega
            have hsm2 : (D.lst ((dueC q).map nD)).sm = true := by simp only [D.sm]; exact sm_nD hdl
            have hsame2 := fun st => (cop_same (st := st) (d := .lst ((dueC q).map nD)) rfl hsm2 (by simp only [D.dep, dep_nD]; omega)).1
            have e11 : (D.int 1 :: ((List.range (q - 1)).map (fun b => nD (2 ^ b)) ++ [D.int (1 * 2 ^ (q - 1))])) = (dueC q).map nD := by
              rw [← e10]
              show D.int 1 :: _ = D.int 1 :: _
              congr 2
              show [D.int _] = [D.int _]
              rw [Int.one_mul, Int.natCast_pow]
              rfl
            have hat : atD ((lateL q j s).map nD) (s : Int) = some (nD q) := by
              rw [at_int (by omega) (by rw [List.length_map, hLl]; omega), Int.toNat_natCast, List.getElem?_map]
              unfold lateL
              rw [List.getElem?_map, List.getElem?_range hs]
              show some (nD (dly q (s ^^^ s) j)) = _
              rw [Nat.xor_self]
              unfold dly
              rw [if_neg (by rw [Nat.zero_testBit]; decide)]
            rw [e9, e11]
            refine ⟨by rw [List.length_map]; unfold dueC; simp only [List.length_append, List.length_map, List.length_range, List.length_cons, List.length_nil]; unfold SL; omega, ?_⟩
            simp (maxSteps := 4000000) only [eev_popI, eev_rem, eev_cnt, p_popI, p_rem, p_asL2, p_cnt, eev_dnew, eev_dget, eev_dgetE, eev_din, eevT_din, eev_dlen, eev_dcmp, eex_dput, Z_sPutD, d_nil, k_one, k_two, k_three, p_dgetI, p_dgetT, p_asDc, p_dgetEI, p_dgetET, p_dinTI, p_dinTT, p_dinVI, p_dinVT, p_dputI, p_dputT, p_dlen, p_dnewI, p_dnewT, o_pairD, o_todD, eev_ext, eev_pop, eex_setII, Z_sSetII, p_ext, p_pop, c_isBB, c_ntBB, eev_cmp2, eevT_cmp2, eevI_enum, eex_rais, W_bCh, g_enL, g_enT, eev_sset, eev_lset, o_sset, o_lset, i_ofS, eevI_rvsd, g_rvT, g_rvL, eev_catM, o_catLM, eev_repL, r_repD, Bool.true_eq_false, Bool.false_eq_true, W_bSrtk, eev_srtk, eevI_zip, inE, o_addL, o_addR, o_catL, c_in, c_notin, b_sorted, b_sum, b_maxL, b_minL, i_of, g_zipT, g_zipL, g_zipR, c_isNI, c_isNN, c_isNT, c_isNL, c_ntNI, c_ntNN, c_ntNT, c_ntNL, ints_map, W_b1, W_b2, W_b3, W_bIf, W_cst, W_vr, W_bAnd, W_bOr, truP_bl, W_consD, W_some, W_none, W_guard, Z_nil, Z_brk, Z_ctn, Z_sSeq, Z_sSet, Z_sPar, Z_sSetI, Z_sAug, Z_sExpr, Z_sRet, Z_sIf, Z_sFor, W_bLc, W_idx, Z_forStep, W_lcStep, wipeE, finF_keep, finF_clean, evs_nil, evO_no, evT_yes, eev_nm, eev_cI, eev_cB, eev_cN, eev_cS, eev_bin, eev_neg, eev_cmp, eev_and, eev_or, eev_not, eev_ife, eev_tup, eev_lst, eev_idx, eev_slc, eev_revT, eev_revL, eev_blt, eev_app, eev_ins, eev_call, eev_tupR1, eev_tupR2, eev_lisR1, eev_lisR2, eev_lc, eevO_no, eevO_so, eevs_nil, eevs_cons, eevT_yes, eevT_cmp, eevT_and, eevT_or, eevT_not, eevT_tr, eevAnd_nil, eevOr_nil, eevAll_nil, eevAll_cons, eevAny_nil, eevAny_cons, eevI_rng1, eevI_rng2, eevI_seq, eex_set, eex_setT, eex_par, eex_setI, eex_aug, eex_expr, eex_ret, eex_ife, eex_whl, eex_for_, eex_brk, eex_ctn, eexs_nil, eexs_cons, eevAnd_1, eevAnd_2, eevOr_1, eevOr_2, W_callN, selD, startE, putN, parPut, Tg.put, Tg.putL, W_fnB, o_add, o_sub, o_mul, o_fdiv, o_mod, o_pow, o_shl, o_shr, o_band, o_bor, o_bxor, o_addT, o_mulT, c_eqI, c_eqS, c_eqB, c_neI, c_neS, c_neB, c_lt, c_le, c_gt, c_ge, t_bl, t_int, t_tup, t_lst, n_neg, at_0, at_1, at_2, at_3, l_tup, l_lst, l_ref, ll_lst, ll_ref, b_len, b_tuple, b_list, b_abs, b_int, b_intB, b_max2, b_min2, b_all, b_any, a_ref, p_app, p_ins, p_set, set_0, set_1, set_2, s_tup, s_lst, i_int, r_tup, r_lst, g_tup, g_lst, g_ref, g_rng1, g_rng2, v_tupR1, v_tupR2, v_lisR1, v_lisR2, u_add, u_sub, W_copT, W_copV, W_truT, W_notV, W_notT, W_tupD, W_lstF, W_lstT, newF, newT, List.map_cons, List.map_nil, List.cons_append, List.nil_append, List.append_nil, List.length_cons, List.length_nil, List.replicate, List.getElem?_cons_zero, List.getElem?_cons_succ, List.set_cons_zero, List.set_cons_succ, List.getElem?_nil, Nat.reduceAdd, Nat.reduceLT, Nat.reduceSub, Nat.reduceEqDiff, ↓reduceIte, decide_eq_true_eq, decide_eq_false_iff_not, Bool.not_eq_true', Bool.not_eq_false', and_true, true_and, List.set_set, forall_const, true_implies, and_self, eq_self, Int.reduceLE, Int.reduceLT, Int.reducePow, Int.reduceToNat, Nat.reducePow, Int.reduceNeg, ne_eq, not_false_eq_true, Int.reduceEq, not_true_eq_false, true_or, or_true, Nat.reduceLeDiff, if_true, if_false, false_imp_iff, true_imp_iff, false_and, and_false, or_false, false_or, hsame2, hat, decide_true]
theorem law_ok {ns : List Int} (hns : ns.length ≤ 63) : W (runF GT GP.dfl 1000 14 i_law [.lst (ns.map D.int)] []) fun d st' => d = .bl true := by
  refine W_runF (fd := fd_law) (GT_at rfl) rfl ?_
  simp (maxSteps := 4000000) only [fd_law, eev_popI, eev_rem, eev_cnt, p_popI, p_rem, p_asL2, p_cnt, eev_dnew, eev_dget, eev_dgetE, eev_din, eevT_din, eev_dlen, eev_dcmp, eex_dput, Z_sPutD, d_nil, k_one, k_two, k_three, p_dgetI, p_dgetT, p_asDc, p_dgetEI, p_dgetET, p_dinTI, p_dinTT, p_dinVI, p_dinVT, p_dputI, p_dputT, p_dlen, p_dnewI, p_dnewT, o_pairD, o_todD, eev_ext, eev_pop, eex_setII, Z_sSetII, p_ext, p_pop, c_isBB, c_ntBB, eev_cmp2, eevT_cmp2, eevI_enum, eex_rais, W_bCh, g_enL, g_enT, eev_sset, eev_lset, o_sset, o_lset, i_ofS, eevI_rvsd, g_rvT, g_rvL, eev_catM, o_catLM, eev_repL, r_repD, Bool.true_eq_false, Bool.false_eq_true, W_bSrtk, eev_srtk, eevI_zip, inE, o_addL, o_addR, o_catL, c_in, c_notin, b_sorted, b_sum, b_maxL, b_minL, i_of, g_zipT, g_zipL, g_zipR, c_isNI, c_isNN, c_isNT, c_isNL, c_ntNI, c_ntNN, c_ntNT, c_ntNL, ints_map, W_b1, W_b2, W_b3, W_bIf, W_cst, W_vr, W_bAnd, W_bOr, truP_bl, W_consD, W_some, W_none, W_guard, Z_nil, Z_brk, Z_ctn, Z_sSeq, Z_sSet, Z_sPar, Z_sSetI, Z_sAug, Z_sExpr, Z_sRet, Z_sIf, Z_sFor, W_bLc, W_idx, Z_forStep, W_lcStep, wipeE, finF_keep, finF_clean, evs_nil, evO_no, evT_yes, eev_nm, eev_cI, eev_cB, eev_cN, eev_cS, eev_bin, eev_neg, eev_cmp, eev_and, eev_or, eev_not, eev_ife, eev_tup, eev_lst, eev_idx, eev_slc, eev_revT, eev_revL, eev_blt, eev_app, eev_ins, eev_call, eev_tupR1, eev_tupR2, eev_lisR1, eev_lisR2, eev_lc, eevO_no, eevO_so, eevs_nil, eevs_cons, eevT_yes, eevT_cmp, eevT_and, eevT_or, eevT_not, eevT_tr, eevAnd_nil, eevOr_nil, eevAll_nil, eevAll_cons, eevAny_nil, eevAny_cons, eevI_rng1, eevI_rng2, eevI_seq, eex_set, eex_setT, eex_par, eex_setI, eex_aug, eex_expr, eex_ret, eex_ife, eex_whl, eex_for_, eex_brk, eex_ctn, eexs_nil, eexs_cons, eevAnd_1, eevAnd_2, eevOr_1, eevOr_2, W_callN, selD, startE, putN, parPut, Tg.put, Tg.putL, W_fnB, o_add, o_sub, o_mul, o_fdiv, o_mod, o_pow, o_shl, o_shr, o_band, o_bor, o_bxor, o_addT, o_mulT, c_eqI, c_eqS, c_eqB, c_neI, c_neS, c_neB, c_lt, c_le, c_gt, c_ge, t_bl, t_int, t_tup, t_lst, n_neg, at_0, at_1, at_2, at_3, l_tup, l_lst, l_ref, ll_lst, ll_ref, b_len, b_tuple, b_list, b_abs, b_int, b_intB, b_max2, b_min2, b_all, b_any, a_ref, p_app, p_ins, p_set, set_0, set_1, set_2, s_tup, s_lst, i_int, r_tup, r_lst, g_tup, g_lst, g_ref, g_rng1, g_rng2, v_tupR1, v_tupR2, v_lisR1, v_lisR2, u_add, u_sub, W_copT, W_copV, W_truT, W_notV, W_notT, W_tupD, W_lstF, W_lstT, newF, newT, List.map_cons, List.map_nil, List.cons_append, List.nil_append, List.append_nil, List.length_cons, List.length_nil, List.replicate, List.getElem?_cons_zero, List.getElem?_cons_succ, List.set_cons_zero, List.set_cons_succ, List.getElem?_nil, Nat.reduceAdd, Nat.reduceLT, Nat.reduceSub, Nat.reduceEqDiff, ↓reduceIte, decide_eq_true_eq, decide_eq_false_iff_not, Bool.not_eq_true', Bool.not_eq_false', and_true, true_and, List.set_set, forall_const, true_implies, and_self, eq_self, Int.reduceLE, Int.reduceLT, Int.reducePow, Int.reduceToNat, Nat.reducePow, Int.reduceNeg, ne_eq, not_false_eq_true, Int.reduceEq, not_true_eq_false, true_or, or_true, Nat.reduceLeDiff, if_true, if_false, false_imp_iff, true_imp_iff, false_and, and_false, or_false, false_or]
  obtain ⟨m, hm, hb⟩ := turns2 (List.map D.int ns).length
  rw [hm]
  repeat ((with_reducible refine And.intro ?_ ?_); · first | omega | decide | (unfold SL; omega))
  refine Z_for_fix (fun i env s => StOk s ∧ ∃ y1 y2 y3 y4 y5, env = [some (.lst (ns.map D.int)), y1, y2, y3, y4, y5]) ⟨StOk.nil, _, _, _, _, _, rfl⟩ (fun i x env s hx => ?_) fun env s => ?_
  · rintro ⟨hs, y1, y2, y3, y4, y5, rfl⟩
    have hrs := rng_some hx
    have hi := hrs.1
    have ex := hrs.2
    subst ex
    try simp (maxSteps := 4000000) only [eev_popI, eev_rem, eev_cnt, p_popI, p_rem, p_asL2, p_cnt, eev_dnew, eev_dget, eev_dgetE, eev_din, eevT_din, eev_dlen, eev_dcmp, eex_dput, Z_sPutD, d_nil, k_one, k_two, k_three, p_dgetI, p_dgetT, p_asDc, p_dgetEI, p_dgetET, p_dinTI, p_dinTT, p_dinVI, p_dinVT, p_dputI, p_dputT, p_dlen, p_dnewI, p_dnewT, o_pairD, o_todD, eev_ext, eev_pop, eex_setII, Z_sSetII, p_ext, p_pop, c_isBB, c_ntBB, eev_cmp2, eevT_cmp2, eevI_enum, eex_rais, W_bCh, g_enL, g_enT, eev_sset, eev_lset, o_sset, o_lset, i_ofS, eevI_rvsd, g_rvT, g_rvL, eev_catM, o_catLM, eev_repL, r_repD, Bool.true_eq_false, Bool.false_eq_true, W_bSrtk, eev_srtk, eevI_zip, inE, o_addL, o_addR, o_catL, c_in, c_notin, b_sorted, b_sum, b_maxL, b_minL, i_of, g_zipT, g_zipL, g_zipR, c_isNI, c_isNN, c_isNT, c_isNL, c_ntNI, c_ntNN, c_ntNT, c_ntNL, ints_map, W_b1, W_b2, W_b3, W_bIf, W_cst, W_vr, W_bAnd, W_bOr, truP_bl, W_consD, W_some, W_none, W_guard, Z_nil, Z_brk, Z_ctn, Z_sSeq, Z_sSet, Z_sPar, Z_sSetI, Z_sAug, Z_sExpr, Z_sRet, Z_sIf, Z_sFor, W_bLc, W_idx, Z_forStep, W_lcStep, wipeE, finF_keep, finF_clean, evs_nil, evO_no, evT_yes, eev_nm, eev_cI, eev_cB, eev_cN, eev_cS, eev_bin, eev_neg, eev_cmp, eev_and, eev_or, eev_not, eev_ife, eev_tup, eev_lst, eev_idx, eev_slc, eev_revT, eev_revL, eev_blt, eev_app, eev_ins, eev_call, eev_tupR1, eev_tupR2, eev_lisR1, eev_lisR2, eev_lc, eevO_no, eevO_so, eevs_nil, eevs_cons, eevT_yes, eevT_cmp, eevT_and, eevT_or, eevT_not, eevT_tr, eevAnd_nil, eevOr_nil, eevAll_nil, eevAll_cons, eevAny_nil, eevAny_cons, eevI_rng1, eevI_rng2, eevI_seq, eex_set, eex_setT, eex_par, eex_setI, eex_aug, eex_expr, eex_ret, eex_ife, eex_whl, eex_for_, eex_brk, eex_ctn, eexs_nil, eexs_cons, eevAnd_1, eevAnd_2, eevOr_1, eevOr_2, W_callN, selD, startE, putN, parPut, Tg.put, Tg.putL, W_fnB, o_add, o_sub, o_mul, o_fdiv, o_mod, o_pow, o_shl, o_shr, o_band, o_bor, o_bxor, o_addT, o_mulT, c_eqI, c_eqS, c_eqB, c_neI, c_neS, c_neB, c_lt, c_le, c_gt, c_ge, t_bl, t_int, t_tup, t_lst, n_neg, at_0, at_1, at_2, at_3, l_tup, l_lst, l_ref, ll_lst, ll_ref, b_len, b_tuple, b_list, b_abs, b_int, b_intB, b_max2, b_min2, b_all, b_any, a_ref, p_app, p_ins, p_set, set_0, set_1, set_2, s_tup, s_lst, i_int, r_tup, r_lst, g_tup, g_lst, g_ref, g_rng1, g_rng2, v_tupR1, v_tupR2, v_lisR1, v_lisR2, u_add, u_sub, W_copT, W_copV, W_truT, W_notV, W_notT, W_tupD, W_lstF, W_lstT, newF, newT, List.map_cons, List.map_nil, List.cons_append, List.nil_append, List.append_nil, List.length_cons, List.length_nil, List.replicate, List.getElem?_cons_zero, List.getElem?_cons_succ, List.set_cons_zero, List.set_cons_succ, List.getElem?_nil, Nat.reduceAdd, Nat.reduceLT, Nat.reduceSub, Nat.reduceEqDiff, ↓reduceIte, decide_eq_true_eq, decide_eq_false_iff_not, Bool.not_eq_true', Bool.not_eq_false', and_true, true_and, List.set_set, forall_const, true_implies, and_self, eq_self, Int.reduceLE, Int.reduceLT, Int.reducePow, Int.reduceToNat, Nat.reducePow, Int.reduceNeg, ne_eq, not_false_eq_true, Int.reduceEq, not_true_eq_false, true_or, or_true, Nat.reduceLeDiff, if_true, if_false, false_imp_iff, true_imp_iff, false_and, and_false, or_false, false_or]
    refine (pot_ok hs (by omega)).mono fun d s1 ⟨e, o, e2, hp⟩ => ?_
    subst e
    generalize s.length = p at *
    try simp (maxSteps := 4000000) only [eev_popI, eev_rem, eev_cnt, p_popI, p_rem, p_asL2, p_cnt, eev_dnew, eev_dget, eev_dgetE, eev_din, eevT_din, eev_dlen, eev_dcmp, eex_dput, Z_sPutD, d_nil, k_one, k_two, k_three, p_dgetI, p_dgetT, p_asDc, p_dgetEI, p_dgetET, p_dinTI, p_dinTT, p_dinVI, p_dinVT, p_dputI, p_dputT, p_dlen, p_dnewI, p_dnewT, o_pairD, o_todD, eev_ext, eev_pop, eex_setII, Z_sSetII, p_ext, p_pop, c_isBB, c_ntBB, eev_cmp2, eevT_cmp2, eevI_enum, eex_rais, W_bCh, g_enL, g_enT, eev_sset, eev_lset, o_sset, o_lset, i_ofS, eevI_rvsd, g_rvT, g_rvL, eev_catM, o_catLM, eev_repL, r_repD, Bool.true_eq_false, Bool.false_eq_true, W_bSrtk, eev_srtk, eevI_zip, inE, o_addL, o_addR, o_catL, c_in, c_notin, b_sorted, b_sum, b_maxL, b_minL, i_of, g_zipT, g_zipL, g_zipR, c_isNI, c_isNN, c_isNT, c_isNL, c_ntNI, c_ntNN, c_ntNT, c_ntNL, ints_map, W_b1, W_b2, W_b3, W_bIf, W_cst, W_vr, W_bAnd, W_bOr, truP_bl, W_consD, W_some, W_none, W_guard, Z_nil, Z_brk, Z_ctn, Z_sSeq, Z_sSet, Z_sPar, Z_sSetI, Z_sAug, Z_sExpr, Z_sRet, Z_sIf, Z_sFor, W_bLc, W_idx, Z_forStep, W_lcStep, wipeE, finF_keep, finF_clean, evs_nil, evO_no, evT_yes, eev_nm, eev_cI, eev_cB, eev_cN, eev_cS, eev_bin, eev_neg, eev_cmp, eev_and, eev_or, eev_not, eev_ife, eev_tup, eev_lst, eev_idx, eev_slc, eev_revT, eev_revL, eev_blt, eev_app, eev_ins, eev_call, eev_tupR1, eev_tupR2, eev_lisR1, eev_lisR2, eev_lc, eevO_no, eevO_so, eevs_nil, eevs_cons, eevT_yes, eevT_cmp, eevT_and, eevT_or, eevT_not, eevT_tr, eevAnd_nil, eevOr_nil, eevAll_nil, eevAll_cons, eevAny_nil, eevAny_cons, eevI_rng1, eevI_rng2, eevI_seq, eex_set, eex_setT, eex_par, eex_setI, eex_aug, eex_expr, eex_ret, eex_ife, eex_whl, eex_for_, eex_brk, eex_ctn, eexs_nil, eexs_cons, eevAnd_1, eevAnd_2, eevOr_1, eevOr_2, W_callN, selD, startE, putN, parPut, Tg.put, Tg.putL, W_fnB, o_add, o_sub, o_mul, o_fdiv, o_mod, o_pow, o_shl, o_shr, o_band, o_bor, o_bxor, o_addT, o_mulT, c_eqI, c_eqS, c_eqB, c_neI, c_neS, c_neB, c_lt, c_le, c_gt, c_ge, t_bl, t_int, t_tup, t_lst, n_neg, at_0, at_1, at_2, at_3, l_tup, l_lst, l_ref, ll_lst, ll_ref, b_len, b_tuple, b_list, b_abs, b_int, b_intB, b_max2, b_min2, b_all, b_any, a_ref, p_app, p_ins, p_set, set_0, set_1, set_2, s_tup, s_lst, i_int, r_tup, r_lst, g_tup, g_lst, g_ref, g_rng1, g_rng2, v_tupR1, v_tupR2, v_lisR1, v_lisR2, u_add, u_sub, W_copT, W_copV, W_truT, W_notV, W_notT, W_tupD, W_lstF, W_lstT, newF, newT, List.map_cons, List.map_nil, List.cons_append, List.nil_append, List.append_nil, List.length_cons, List.length_nil, List.replicate, List.getElem?_cons_zero, List.getElem?_cons_succ, List.set_cons_zero, List.set_cons_succ, List.getElem?_nil, Nat.reduceAdd, Nat.reduceLT, Nat.reduceSub, Nat.reduceEqDiff, ↓reduceIte, decide_eq_true_eq, decide_eq_false_iff_not, Bool.not_eq_true', Bool.not_eq_false', and_true, true_and, List.set_set, forall_const, true_implies, and_self, eq_self, Int.reduceLE, Int.reduceLT, Int.reducePow, Int.reduceToNat, Nat.reducePow, Int.reduceNeg, ne_eq, not_false_eq_true, Int.reduceEq, not_true_eq_false, true_or, or_true, Nat.reduceLeDiff, if_true, if_false, false_imp_iff, true_imp_iff, false_and, and_false, or_false, false_or]
    refine Z_for_fix (fun k env s => PotAt s p k ∧ ∃ y3 y4 y5, env = [some (.lst (ns.map D.int)), some (.int (0 + (i : Int))), some (.ref p), y3, y4, y5]) ⟨hp.mono (by omega), _, _, _, rfl⟩ (fun k x env s2 hx => ?_) fun env s2 => ?_
    · rintro ⟨hp, y3, y4, y5, rfl⟩
      have hrs := rng_some hx
      have hk : k < 5 := hrs.1
      have ex := hrs.2
      obtain ⟨q, eq, hq1, hq5⟩ : ∃ q : Nat, (1 : Int) + (k : Int) = q ∧ 1 ≤ q ∧ q ≤ 5 := ⟨1 + k, by omega, by omega, by omega⟩
      rw [eq] at ex
      subst ex
      have hp0 := Nat.two_pow_pos q
      have h5 : 2 ^ q ≤ 2 ^ 5 := Nat.pow_le_pow_right (by decide) hq5
      simp (maxSteps := 4000000) only [eev_popI, eev_rem, eev_cnt, p_popI, p_rem, p_asL2, p_cnt, eev_dnew, eev_dget, eev_dgetE, eev_din, eevT_din, eev_dlen, eev_dcmp, eex_dput, Z_sPutD, d_nil, k_one, k_two, k_three, p_dgetI, p_dgetT, p_asDc, p_dgetEI, p_dgetET, p_dinTI, p_dinTT, p_dinVI, p_dinVT, p_dputI, p_dputT, p_dlen, p_dnewI, p_dnewT, o_pairD, o_todD, eev_ext, eev_pop, eex_setII, Z_sSetII, p_ext, p_pop, c_isBB, c_ntBB, eev_cmp2, eevT_cmp2, eevI_enum, eex_rais, W_bCh, g_enL, g_enT, eev_sset, eev_lset, o_sset, o_lset, i_ofS, eevI_rvsd, g_rvT, g_rvL, eev_catM, o_catLM, eev_repL, r_repD, Bool.true_eq_false, Bool.false_eq_true, W_bSrtk, eev_srtk, eevI_zip, inE, o_addL, o_addR, o_catL, c_in, c_notin, b_sorted, b_sum, b_maxL, b_minL, i_of, g_zipT, g_zipL, g_zipR, c_isNI, c_isNN, c_isNT, c_isNL, c_ntNI, c_ntNN, c_ntNT, c_ntNL, ints_map, W_b1, W_b2, W_b3, W_bIf, W_cst, W_vr, W_bAnd, W_bOr, truP_bl, W_consD, W_some, W_none, W_guard, Z_nil, Z_brk, Z_ctn, Z_sSeq, Z_sSet, Z_sPar, Z_sSetI, Z_sAug, Z_sExpr, Z_sRet, Z_sIf, Z_sFor, W_bLc, W_idx, Z_forStep, W_lcStep, wipeE, finF_keep, finF_clean, evs_nil, evO_no, evT_yes, eev_nm, eev_cI, eev_cB, eev_cN, eev_cS, eev_bin, eev_neg, eev_cmp, eev_and, eev_or, eev_not, eev_ife, eev_tup, eev_lst, eev_idx, eev_slc, eev_revT, eev_revL, eev_blt, eev_app, eev_ins, eev_call, eev_tupR1, eev_tupR2, eev_lisR1, eev_lisR2, eev_lc, eevO_no, eevO_so, eevs_nil, eevs_cons, eevT_yes, eevT_cmp, eevT_and, eevT_or, eevT_not, eevT_tr, eevAnd_nil, eevOr_nil, eevAll_nil, eevAll_cons, eevAny_nil, eevAny_cons, eevI_rng1, eevI_rng2, eevI_seq, eex_set, eex_setT, eex_par, eex_setI, eex_aug, eex_expr, eex_ret, eex_ife, eex_whl, eex_for_, eex_brk, eex_ctn, eexs_nil, eexs_cons, eevAnd_1, eevAnd_2, eevOr_1, eevOr_2, W_callN, selD, startE, putN, parPut, Tg.put, Tg.putL, W_fnB, o_add, o_sub, o_mul, o_fdiv, o_mod, o_pow, o_shl, o_shr, o_band, o_bor, o_bxor, o_addT, o_mulT, c_eqI, c_eqS, c_eqB, c_neI, c_neS, c_neB, c_lt, c_le, c_gt, c_ge, t_bl, t_int, t_tup, t_lst, n_neg, at_0, at_1, at_2, at_3, l_tup, l_lst, l_ref, ll_lst, ll_ref, b_len, b_tuple, b_list, b_abs, b_int, b_intB, b_max2, b_min2, b_all, b_any, a_ref, p_app, p_ins, p_set, set_0, set_1, set_2, s_tup, s_lst, i_int, r_tup, r_lst, g_tup, g_lst, g_ref, g_rng1, g_rng2, v_tupR1, v_tupR2, v_lisR1, v_lisR2, u_add, u_sub, W_copT, W_copV, W_truT, W_notV, W_notT, W_tupD, W_lstF, W_lstT, newF, newT, List.map_cons, List.map_nil, List.cons_append, List.nil_append, List.append_nil, List.length_cons, List.length_nil, List.replicate, List.getElem?_cons_zero, List.getElem?_cons_succ, List.set_cons_zero, List.set_cons_succ, List.getElem?_nil, Nat.reduceAdd, Nat.reduceLT, Nat.reduceSub, Nat.reduceEqDiff, ↓reduceIte, decide_eq_true_eq, decide_eq_false_iff_not, Bool.not_eq_true', Bool.not_eq_false', and_true, true_and, List.set_set, forall_const, true_implies, and_self, eq_self, Int.reduceLE, Int.reduceLT, Int.reducePow, Int.reduceToNat, Nat.reducePow, Int.reduceNeg, ne_eq, not_false_eq_true, Int.reduceEq, not_true_eq_false, true_or, or_true, Nat.reduceLeDiff, if_true, if_false, false_imp_iff, true_imp_iff, false_and, and_false, or_false, false_or, shl_nat]
      refine ⟨⟨by omega, by omega, by decide⟩, ?_⟩
      refine (takeN_ok (w := 2 ^ q) hp (by omega) hp0 (by omega)).mono fun d s_a ⟨a, e, ha, hpa⟩ => ?_
      subst e
      try simp only [eev_popI, eev_rem, eev_cnt, p_popI, p_rem, p_asL2, p_cnt, eev_dnew, eev_dget, eev_dgetE, eev_din, eevT_din, eev_dlen, eev_dcmp, eex_dput, Z_sPutD, d_nil, k_one, k_two, k_three, p_dgetI, p_dgetT, p_asDc, p_dgetEI, p_dgetET, p_dinTI, p_dinTT, p_dinVI, p_dinVT, p_dputI, p_dputT, p_dlen, p_dnewI, p_dnewT, o_pairD, o_todD, eev_ext, eev_pop, eex_setII, Z_sSetII, p_ext, p_pop, c_isBB, c_ntBB, eev_cmp2, eevT_cmp2, eevI_enum, eex_rais, W_bCh, g_enL, g_enT, eev_sset, eev_lset, o_sset, o_lset, i_ofS, eevI_rvsd, g_rvT, g_rvL, eev_catM, o_catLM, eev_repL, r_repD, Bool.true_eq_false, Bool.false_eq_true, W_bSrtk, eev_srtk, eevI_zip, inE, o_addL, o_addR, o_catL, c_in, c_notin, b_sorted, b_sum, b_maxL, b_minL, i_of, g_zipT, g_zipL, g_zipR, c_isNI, c_isNN, c_isNT, c_isNL, c_ntNI, c_ntNN, c_ntNT, c_ntNL, ints_map, W_b1, W_b2, W_b3, W_bIf, W_cst, W_vr, W_bAnd, W_bOr, truP_bl, W_consD, W_some, W_none, W_guard, Z_nil, Z_brk, Z_ctn, Z_sSeq, Z_sSet, Z_sPar, Z_sSetI, Z_sAug, Z_sExpr, Z_sRet, Z_sIf, Z_sFor, W_bLc, W_idx, Z_forStep, W_lcStep, wipeE, finF_keep, finF_clean, evs_nil, evO_no, evT_yes, eev_nm, eev_cI, eev_cB, eev_cN, eev_cS, eev_bin, eev_neg, eev_cmp, eev_and, eev_or, eev_not, eev_ife, eev_tup, eev_lst, eev_idx, eev_slc, eev_revT, eev_revL, eev_blt, eev_app, eev_ins, eev_call, eev_tupR1, eev_tupR2, eev_lisR1, eev_lisR2, eev_lc, eevO_no, eevO_so, eevs_nil, eevs_cons, eevT_yes, eevT_cmp, eevT_and, eevT_or, eevT_not, eevT_tr, eevAnd_nil, eevOr_nil, eevAll_nil, eevAll_cons, eevAny_nil, eevAny_cons, eevI_rng1, eevI_rng2, eevI_seq, eex_set, eex_setT, eex_par, eex_setI, eex_aug, eex_expr, eex_ret, eex_ife, eex_whl, eex_for_, eex_brk, eex_ctn, eexs_nil, eexs_cons, eevAnd_1, eevAnd_2, eevOr_1, eevOr_2, W_callN, selD, startE, putN, parPut, Tg.put, Tg.putL, W_fnB, o_add, o_sub, o_mul, o_fdiv, o_mod, o_pow, o_shl, o_shr, o_band, o_bor, o_bxor, o_addT, o_mulT, c_eqI, c_eqS, c_eqB, c_neI, c_neS, c_neB, c_lt, c_le, c_gt, c_ge, t_bl, t_int, t_tup, t_lst, n_neg, at_0, at_1, at_2, at_3, l_tup, l_lst, l_ref, ll_lst, ll_ref, b_len, b_tuple, b_list, b_abs, b_int, b_intB, b_max2, b_min2, b_all, b_any, a_ref, p_app, p_ins, p_set, set_0, set_1, set_2, s_tup, s_lst, i_int, r_tup, r_lst, g_tup, g_lst, g_ref, g_rng1, g_rng2, v_tupR1, v_tupR2, v_lisR1, v_lisR2, u_add, u_sub, W_copT, W_copV, W_truT, W_notV, W_notT, W_tupD, W_lstF, W_lstT, newF, newT, List.map_cons, List.map_nil, List.cons_append, List.nil_append, List.append_nil, List.length_cons, List.length_nil, List.replicate, List.getElem?_cons_zero, List.getElem?_cons_succ, List.set_cons_zero, List.set_cons_succ, List.getElem?_nil, Nat.reduceAdd, Nat.reduceLT, Nat.reduceSub, Nat.reduceEqDiff, ↓reduceIte, decide_eq_true_eq, decide_eq_false_iff_not, Bool.not_eq_true', Bool.not_eq_false', and_true, true_and, List.set_set, forall_const, true_implies, and_self, eq_self, Int.reduceLE, Int.reduceLT, Int.reducePow, Int.reduceToNat, Nat.reducePow, Int.reduceNeg, ne_eq, not_false_eq_true, Int.reduceEq, not_true_eq_false, true_or, or_true, Nat.reduceLeDiff, if_true, if_false, false_imp_iff, true_imp_iff, false_and, and_false, or_false, false_or]
      repeat ((with_reducible refine And.intro ?_ ?_); · first | omega | decide | (unfold SL; omega))
      try (with_reducible show _ ≤ SL; unfold SL; omega)
      refine W_lc_rng (fun _ => .bl true) (fun j hj => ?_) ?_
      · simp (maxSteps := 4000000) only [eev_popI, eev_rem, eev_cnt, p_popI, p_rem, p_asL2, p_cnt, eev_dnew, eev_dget, eev_dgetE, eev_din, eevT_din, eev_dlen, eev_dcmp, eex_dput, Z_sPutD, d_nil, k_one, k_two, k_three, p_dgetI, p_dgetT, p_asDc, p_dgetEI, p_dgetET, p_dinTI, p_dinTT, p_dinVI, p_dinVT, p_dputI, p_dputT, p_dlen, p_dnewI, p_dnewT, o_pairD, o_todD, eev_ext, eev_pop, eex_setII, Z_sSetII, p_ext, p_pop, c_isBB, c_ntBB, eev_cmp2, eevT_cmp2, eevI_enum, eex_rais, W_bCh, g_enL, g_enT, eev_sset, eev_lset, o_sset, o_lset, i_ofS, eevI_rvsd, g_rvT, g_rvL, eev_catM, o_catLM, eev_repL, r_repD, Bool.true_eq_false, Bool.false_eq_true, W_bSrtk, eev_srtk, eevI_zip, inE, o_addL, o_addR, o_catL, c_in, c_notin, b_sorted, b_sum, b_maxL, b_minL, i_of, g_zipT, g_zipL, g_zipR, c_isNI, c_isNN, c_isNT, c_isNL, c_ntNI, c_ntNN, c_ntNT, c_ntNL, ints_map, W_b1, W_b2, W_b3, W_bIf, W_cst, W_vr, W_bAnd, W_bOr, truP_bl, W_consD, W_some, W_none, W_guard, Z_nil, Z_brk, Z_ctn, Z_sSeq, Z_sSet, Z_sPar, Z_sSetI, Z_sAug, Z_sExpr, Z_sRet, Z_sIf, Z_sFor, W_bLc, W_idx, Z_forStep, W_lcStep, wipeE, finF_keep, finF_clean, evs_nil, evO_no, evT_yes, eev_nm, eev_cI, eev_cB, eev_cN, eev_cS, eev_bin, eev_neg, eev_cmp, eev_and, eev_or, eev_not, eev_ife, eev_tup, eev_lst, eev_idx, eev_slc, eev_revT, eev_revL, eev_blt, eev_app, eev_ins, eev_call, eev_tupR1, eev_tupR2, eev_lisR1, eev_lisR2, eev_lc, eevO_no, eevO_so, eevs_nil, eevs_cons, eevT_yes, eevT_cmp, eevT_and, eevT_or, eevT_not, eevT_tr, eevAnd_nil, eevOr_nil, eevAll_nil, eevAll_cons, eevAny_nil, eevAny_cons, eevI_rng1, eevI_rng2, eevI_seq, eex_set, eex_setT, eex_par, eex_setI, eex_aug, eex_expr, eex_ret, eex_ife, eex_whl, eex_for_, eex_brk, eex_ctn, eexs_nil, eexs_cons, eevAnd_1, eevAnd_2, eevOr_1, eevOr_2, W_callN, selD, startE, putN, parPut, Tg.put, Tg.putL, W_fnB, o_add, o_sub, o_mul, o_fdiv, o_mod, o_pow, o_shl, o_shr, o_band, o_bor, o_bxor, o_addT, o_mulT, c_eqI, c_eqS, c_eqB, c_neI, c_neS, c_neB, c_lt, c_le, c_gt, c_ge, t_bl, t_int, t_tup, t_lst, n_neg, at_0, at_1, at_2, at_3, l_tup, l_lst, l_ref, ll_lst, ll_ref, b_len, b_tuple, b_list, b_abs, b_int, b_intB, b_max2, b_min2, b_all, b_any, a_ref, p_app, p_ins, p_set, set_0, set_1, set_2, s_tup, s_lst, i_int, r_tup, r_lst, g_tup, g_lst, g_ref, g_rng1, g_rng2, v_tupR1, v_tupR2, v_lisR1, v_lisR2, u_add, u_sub, W_copT, W_copV, W_truT, W_notV, W_notT, W_tupD, W_lstF, W_lstT, newF, newT, List.map_cons, List.map_nil, List.cons_append, List.nil_append, List.append_nil, List.length_cons, List.length_nil, List.replicate, List.getElem?_cons_zero, List.getElem?_cons_succ, List.set_cons_zero, List.set_cons_succ, List.getElem?_nil, Nat.reduceAdd, Nat.reduceLT, Nat.reduceSub, Nat.reduceEqDiff, ↓reduceIte, decide_eq_true_eq, decide_eq_false_iff_not, Bool.not_eq_true', Bool.not_eq_false', and_true, true_and, List.set_set, forall_const, true_implies, and_self, eq_self, Int.reduceLE, Int.reduceLT, Int.reducePow, Int.reduceToNat, Nat.reducePow, Int.reduceNeg, ne_eq, not_false_eq_true, Int.reduceEq, not_true_eq_false, true_or, or_true, Nat.reduceLeDiff, if_true, if_false, false_imp_iff, true_imp_iff, false_and, and_false, or_false, false_or, Int.zero_add]
        refine (right_ok (n := 5) (j := j) hpa.at.1 hq1 hq5 (by omega) ha).mono fun d st' ⟨e, e2⟩ => ?_
        subst e e2
        exact ⟨rfl, rfl⟩
      · have e2 : (List.range (q : Int).toNat).map (fun _ => D.bl true) = ((List.range (q : Int).toNat).map fun _ => true).map D.bl := by rw [List.map_map]; rfl
        have eall : ((List.range (q : Int).toNat).map fun _ => true).all id = true := by simp
        rw [e2]
        simp (maxSteps := 4000000) only [eev_popI, eev_rem, eev_cnt, p_popI, p_rem, p_asL2, p_cnt, eev_dnew, eev_dget, eev_dgetE, eev_din, eevT_din, eev_dlen, eev_dcmp, eex_dput, Z_sPutD, d_nil, k_one, k_two, k_three, p_dgetI, p_dgetT, p_asDc, p_dgetEI, p_dgetET, p_dinTI, p_dinTT, p_dinVI, p_dinVT, p_dputI, p_dputT, p_dlen, p_dnewI, p_dnewT, o_pairD, o_todD, eev_ext, eev_pop, eex_setII, Z_sSetII, p_ext, p_pop, c_isBB, c_ntBB, eev_cmp2, eevT_cmp2, eevI_enum, eex_rais, W_bCh, g_enL, g_enT, eev_sset, eev_lset, o_sset, o_lset, i_ofS, eevI_rvsd, g_rvT, g_rvL, eev_catM, o_catLM, eev_repL, r_repD, Bool.true_eq_false, Bool.false_eq_true, W_bSrtk, eev_srtk, eevI_zip, inE, o_addL, o_addR, o_catL, c_in, c_notin, b_sorted, b_sum, b_maxL, b_minL, i_of, g_zipT, g_zipL, g_zipR, c_isNI, c_isNN, c_isNT, c_isNL, c_ntNI, c_ntNN, c_ntNT, c_ntNL, ints_map, W_b1, W_b2, W_b3, W_bIf, W_cst, W_vr, W_bAnd, W_bOr, truP_bl, W_consD, W_some, W_none, W_guard, Z_nil, Z_brk, Z_ctn, Z_sSeq, Z_sSet, Z_sPar, Z_sSetI, Z_sAug, Z_sExpr, Z_sRet, Z_sIf, Z_sFor, W_bLc, W_idx, Z_forStep, W_lcStep, wipeE, finF_keep, finF_clean, evs_nil, evO_no, evT_yes, eev_nm, eev_cI, eev_cB, eev_cN, eev_cS, eev_bin, eev_neg, eev_cmp, eev_and, eev_or, eev_not, eev_ife, eev_tup, eev_lst, eev_idx, eev_slc, eev_revT, eev_revL, eev_blt, eev_app, eev_ins, eev_call, eev_tupR1, eev_tupR2, eev_lisR1, eev_lisR2, eev_lc, eevO_no, eevO_so, eevs_nil, eevs_cons, eevT_yes, eevT_cmp, eevT_and, eevT_or, eevT_not, eevT_tr, eevAnd_nil, eevOr_nil, eevAll_nil, eevAll_cons, eevAny_nil, eevAny_cons, eevI_rng1, eevI_rng2, eevI_seq, eex_set, eex_setT, eex_par, eex_setI, eex_aug, eex_expr, eex_ret, eex_ife, eex_whl, eex_for_, eex_brk, eex_ctn, eexs_nil, eexs_cons, eevAnd_1, eevAnd_2, eevOr_1, eevOr_2, W_callN, selD, startE, putN, parPut, Tg.put, Tg.putL, W_fnB, o_add, o_sub, o_mul, o_fdiv, o_mod, o_pow, o_shl, o_shr, o_band, o_bor, o_bxor, o_addT, o_mulT, c_eqI, c_eqS, c_eqB, c_neI, c_neS, c_neB, c_lt, c_le, c_gt, c_ge, t_bl, t_int, t_tup, t_lst, n_neg, at_0, at_1, at_2, at_3, l_tup, l_lst, l_ref, ll_lst, ll_ref, b_len, b_tuple, b_list, b_abs, b_int, b_intB, b_max2, b_min2, b_all, b_any, a_ref, p_app, p_ins, p_set, set_0, set_1, set_2, s_tup, s_lst, i_int, r_tup, r_lst, g_tup, g_lst, g_ref, g_rng1, g_rng2, v_tupR1, v_tupR2, v_lisR1, v_lisR2, u_add, u_sub, W_copT, W_copV, W_truT, W_notV, W_notT, W_tupD, W_lstF, W_lstT, newF, newT, List.map_cons, List.map_nil, List.cons_append, List.nil_append, List.append_nil, List.length_cons, List.length_nil, List.replicate, List.getElem?_cons_zero, List.getElem?_cons_succ, List.set_cons_zero, List.set_cons_succ, List.getElem?_nil, Nat.reduceAdd, Nat.reduceLT, Nat.reduceSub, Nat.reduceEqDiff, ↓reduceIte, decide_eq_true_eq, decide_eq_false_iff_not, Bool.not_eq_true', Bool.not_eq_false', and_true, true_and, List.set_set, forall_const, true_implies, and_self, eq_self, Int.reduceLE, Int.reduceLT, Int.reducePow, Int.reduceToNat, Nat.reducePow, Int.reduceNeg, ne_eq, not_false_eq_true, Int.reduceEq, not_true_eq_false, true_or, or_true, Nat.reduceLeDiff, if_true, if_false, false_imp_iff, true_imp_iff, false_and, and_false, or_false, false_or, List.length_map, List.length_range, bls_map, eall, Bool.not_true]
        exact ⟨by unfold SL; omega, hpa.at.mono (by push_cast; omega), _, _, _, rfl⟩
    · rintro ⟨hp, y3, y4, y5, rfl⟩
      exact ⟨hp.1, _, _, _, _, _, rfl⟩
  · rintro ⟨hs, y1, y2, y3, y4, y5, rfl⟩
    try simp only [eev_popI, eev_rem, eev_cnt, p_popI, p_rem, p_asL2, p_cnt, eev_dnew, eev_dget, eev_dgetE, eev_din, eevT_din, eev_dlen, eev_dcmp, eex_dput, Z_sPutD, d_nil, k_one, k_two, k_three, p_dgetI, p_dgetT, p_asDc, p_dgetEI, p_dgetET, p_dinTI, p_dinTT, p_dinVI, p_dinVT, p_dputI, p_dputT, p_dlen, p_dnewI, p_dnewT, o_pairD, o_todD, eev_ext, eev_pop, eex_setII, Z_sSetII, p_ext, p_pop, c_isBB, c_ntBB, eev_cmp2, eevT_cmp2, eevI_enum, eex_rais, W_bCh, g_enL, g_enT, eev_sset, eev_lset, o_sset, o_lset, i_ofS, eevI_rvsd, g_rvT, g_rvL, eev_catM, o_catLM, eev_repL, r_repD, Bool.true_eq_false, Bool.false_eq_true, W_bSrtk, eev_srtk, eevI_zip, inE, o_addL, o_addR, o_catL, c_in, c_notin, b_sorted, b_sum, b_maxL, b_minL, i_of, g_zipT, g_zipL, g_zipR, c_isNI, c_isNN, c_isNT, c_isNL, c_ntNI, c_ntNN, c_ntNT, c_ntNL, ints_map, W_b1, W_b2, W_b3, W_bIf, W_cst, W_vr, W_bAnd, W_bOr, truP_bl, W_consD, W_some, W_none, W_guard, Z_nil, Z_brk, Z_ctn, Z_sSeq, Z_sSet, Z_sPar, Z_sSetI, Z_sAug, Z_sExpr, Z_sRet, Z_sIf, Z_sFor, W_bLc, W_idx, Z_forStep, W_lcStep, wipeE, finF_keep, finF_clean, evs_nil, evO_no, evT_yes, eev_nm, eev_cI, eev_cB, eev_cN, eev_cS, eev_bin, eev_neg, eev_cmp, eev_and, eev_or, eev_not, eev_ife, eev_tup, eev_lst, eev_idx, eev_slc, eev_revT, eev_revL, eev_blt, eev_app, eev_ins, eev_call, eev_tupR1, eev_tupR2, eev_lisR1, eev_lisR2, eev_lc, eevO_no, eevO_so, eevs_nil, eevs_cons, eevT_yes, eevT_cmp, eevT_and, eevT_or, eevT_not, eevT_tr, eevAnd_nil, eevOr_nil, eevAll_nil, eevAll_cons, eevAny_nil, eevAny_cons, eevI_rng1, eevI_rng2, eevI_seq, eex_set, eex_setT, eex_par, eex_setI, eex_aug, eex_expr, eex_ret, eex_ife, eex_whl, eex_for_, eex_brk, eex_ctn, eexs_nil, eexs_cons, eevAnd_1, eevAnd_2, eevOr_1, eevOr_2, W_callN, selD, startE, putN, parPut, Tg.put, Tg.putL, W_fnB, o_add, o_sub, o_mul, o_fdiv, o_mod, o_pow, o_shl, o_shr, o_band, o_bor, o_bxor, o_addT, o_mulT, c_eqI, c_eqS, c_eqB, c_neI, c_neS, c_neB, c_lt, c_le, c_gt, c_ge, t_bl, t_int, t_tup, t_lst, n_neg, at_0, at_1, at_2, at_3, l_tup, l_lst, l_ref, ll_lst, ll_ref, b_len, b_tuple, b_list, b_abs, b_int, b_intB, b_max2, b_min2, b_all, b_any, a_ref, p_app, p_ins, p_set, set_0, set_1, set_2, s_tup, s_lst, i_int, r_tup, r_lst, g_tup, g_lst, g_ref, g_rng1, g_rng2, v_tupR1, v_tupR2, v_lisR1, v_lisR2, u_add, u_sub, W_copT, W_copV, W_truT, W_notV, W_notT, W_tupD, W_lstF, W_lstT, newF, newT, List.map_cons, List.map_nil, List.cons_append, List.nil_append, List.append_nil, List.length_cons, List.length_nil, List.replicate, List.getElem?_cons_zero, List.getElem?_cons_succ, List.set_cons_zero, List.set_cons_succ, List.getElem?_nil, Nat.reduceAdd, Nat.reduceLT, Nat.reduceSub, Nat.reduceEqDiff, ↓reduceIte, decide_eq_true_eq, decide_eq_false_iff_not, Bool.not_eq_true', Bool.not_eq_false', and_true, true_and, List.set_set, forall_const, true_implies, and_self, eq_self, Int.reduceLE, Int.reduceLT, Int.reducePow, Int.reduceToNat, Nat.reducePow, Int.reduceNeg, ne_eq, not_false_eq_true, Int.reduceEq, not_true_eq_false, true_or, or_true, Nat.reduceLeDiff, if_true, if_false, false_imp_iff, true_imp_iff, false_and, and_false, or_false, false_or]
    exact W_cleanP rfl hs rfl
end B
namespace B
open PySem PyProof.Rows L2
theorem law_true : ∀ ns : List Int, ns.length ≤ 63 → (∀ z ∈ ns, PySem.Builtin.Int.intBits z ≤ 1048576) → ∃ st', runF GP.tbl GP.dfl 1000 14 i_law [.lst (ns.map D.int)] [] = some (.bl true, st') := by
  intro ns h _
  rw [← GT_eq]
  obtain ⟨d, s, e, rfl⟩ := (law_ok h).out
  exact ⟨s, e⟩
end B
open PySem PySem.W PyProof.Rows
set_option maxHeartbeats 0 in
theorem PySem.Challenge.cw_beatferry_k11_trees_of_all_hands_holds : PySem.Challenge.rw_beatferry_k11_trees_of_all_hands.Holds := by
  w_on; o_law; k_head; (case hw => w_witness2)
  k_fill
  refine B.walk_GL (l := PySem.Challenge.rw_beatferry_k11_trees_of_all_hands) (G := B.GP) (n := 63) (lv := 14) (f := 14) (fu := 1000) (ld := B.d_law) (x := "_law_script") rfl (by decide) rfl ⟨rfl, by decide, by decide⟩ B.GP_ok rfl rfl rfl (List.mem_singleton.mpr rfl) ?hTb ?hOk ?F B.law_true
  case hTb => intro w; kernel_rfl
  case hOk => intro w; kernel_rfl
  case F =>
    intro w mg h KX G hT
    refine ⟨?B, ?D⟩
    case B =>
      refine' List.forall_mem_cons.mpr ⟨PySem.W.mg_none_of KX G (?z : PySem.W.nsIn _ mainGlobals "abs" = some none), ?_⟩; (case z => k_is)
      refine' List.forall_mem_cons.mpr ⟨PySem.W.mg_none_of KX G (?z : PySem.W.nsIn _ mainGlobals "all" = some none), ?_⟩; (case z => k_is)
      refine' List.forall_mem_cons.mpr ⟨PySem.W.mg_none_of KX G (?z : PySem.W.nsIn _ mainGlobals "int" = some none), ?_⟩; (case z => k_is)
      refine' List.forall_mem_cons.mpr ⟨PySem.W.mg_none_of KX G (?z : PySem.W.nsIn _ mainGlobals "len" = some none), ?_⟩; (case z => k_is)
      refine' List.forall_mem_cons.mpr ⟨PySem.W.mg_none_of KX G (?z : PySem.W.nsIn _ mainGlobals "list" = some none), ?_⟩; (case z => k_is)
      refine' List.forall_mem_cons.mpr ⟨PySem.W.mg_none_of KX G (?z : PySem.W.nsIn _ mainGlobals "max" = some none), ?_⟩; (case z => k_is)
      refine' List.forall_mem_cons.mpr ⟨PySem.W.mg_none_of KX G (?z : PySem.W.nsIn _ mainGlobals "min" = some none), ?_⟩; (case z => k_is)
      refine' List.forall_mem_cons.mpr ⟨PySem.W.mg_none_of KX G (?z : PySem.W.nsIn _ mainGlobals "range" = some none), ?_⟩; (case z => k_is)
      refine' List.forall_mem_cons.mpr ⟨PySem.W.mg_none_of KX G (?z : PySem.W.nsIn _ mainGlobals "sorted" = some none), ?_⟩; (case z => k_is)
      refine' List.forall_mem_cons.mpr ⟨PySem.W.mg_none_of KX G (?z : PySem.W.nsIn _ mainGlobals "tuple" = some none), ?_⟩; (case z => k_is)
      exact fun _ h => by cases h
    case D =>
      refine' List.forall_mem_cons.mpr ⟨B.def_in (d := B.d_bits) KX G "bits" (B.topS 1) rfl rfl (by decide) B.shp_bits ?a ?l ?c ?k, ?_⟩; (case a => k_is); (case l => k_is); (case c => k_is); (case k => k_is)
      refine' List.forall_mem_cons.mpr ⟨B.def_in (d := B.d_arc) KX G "arc" (B.topS 2) rfl rfl (by decide) B.shp_arc ?a ?l ?c ?k, ?_⟩; (case a => k_is); (case l => k_is); (case c => k_is); (case k => k_is)
      refine' List.forall_mem_cons.mpr ⟨B.def_inL (d := B.d_round_bits) KX G "round_bits" (B.topS 3) rfl rfl B.shp_round_bits (by rw [hT]; exact List.Mem.head _) ?a ?l ?c ?k ?h, ?_⟩; (case a => k_is); (case l => k_is); (case c => k_is); (case k => k_is); (case h => kernel_rfl)
      refine' List.forall_mem_cons.mpr ⟨B.def_in (d := B.d_has_bit) KX G "has_bit" (B.topS 5) rfl rfl (by decide) B.shp_has_bit ?a ?l ?c ?k, ?_⟩; (case a => k_is); (case l => k_is); (case c => k_is); (case k => k_is)
      refine' List.forall_mem_cons.mpr ⟨B.def_in (d := B.d_across) KX G "across" (B.topS 6) rfl rfl (by decide) B.shp_across ?a ?l ?c ?k, ?_⟩; (case a => k_is); (case l => k_is); (case c => k_is); (case k => k_is)
      refine' List.forall_mem_cons.mpr ⟨B.def_inK (d := B.d_crossed) KX G "crossed" (B.topS 7) rfl rfl (by decide) (fun kV hk => B.shp_crossed hk) ?a ?l ?c ?k ?z, ?_⟩; (case a => k_is); (case l => k_is); (case c => k_is); (case k => k_is); (case z => k_is)
      refine' List.forall_mem_cons.mpr ⟨B.def_inK (d := B.d_way) KX G "way" (B.topS 8) rfl rfl (by decide) (fun kV hk => B.shp_way hk) ?a ?l ?c ?k ?z, ?_⟩; (case a => k_is); (case l => k_is); (case c => k_is); (case k => k_is); (case z => k_is)
      refine' List.forall_mem_cons.mpr ⟨B.def_inK (d := B.d_delay) KX G "delay" (B.topS 9) rfl rfl (by decide) (fun kV hk => B.shp_delay hk) ?a ?l ?c ?k ?z, ?_⟩; (case a => k_is); (case l => k_is); (case c => k_is); (case k => k_is); (case z => k_is)
      refine' List.forall_mem_cons.mpr ⟨B.def_inK (d := B.d_teller) KX G "teller" (B.topS 10) rfl rfl (by decide) (fun kV hk => B.shp_teller hk) ?a ?l ?c ?k ?z, ?_⟩; (case a => k_is); (case l => k_is); (case c => k_is); (case k => k_is); (case z => k_is)
      refine' List.forall_mem_cons.mpr ⟨B.def_inK (d := B.d_hearers) KX G "hearers" (B.topS 11) rfl rfl (by decide) (fun kV hk => B.shp_hearers hk) ?a ?l ?c ?k ?z, ?_⟩; (case a => k_is); (case l => k_is); (case c => k_is); (case k => k_is); (case z => k_is)
      refine' List.forall_mem_cons.mpr ⟨B.def_in (d := B.d__law_pot) KX G "_law_pot" (B.topS 13) rfl rfl (by decide) B.shp__law_pot ?a ?l ?c ?k, ?_⟩; (case a => k_is); (case l => k_is); (case c => k_is); (case k => k_is)
      refine' List.forall_mem_cons.mpr ⟨B.def_in (d := B.d__law_take) KX G "_law_take" (B.topS 14) rfl rfl (by decide) B.shp__law_take ?a ?l ?c ?k, ?_⟩; (case a => k_is); (case l => k_is); (case c => k_is); (case k => k_is)
      refine' List.forall_mem_cons.mpr ⟨B.def_in (d := B.d__law_gone) KX G "_law_gone" (B.topS 15) rfl rfl (by decide) B.shp__law_gone ?a ?l ?c ?k, ?_⟩; (case a => k_is); (case l => k_is); (case c => k_is); (case k => k_is)
      refine' List.forall_mem_cons.mpr ⟨B.def_in (d := B.d__law_right) KX G "_law_right" (B.topS 16) rfl rfl (by decide) B.shp__law_right ?a ?l ?c ?k, ?_⟩; (case a => k_is); (case l => k_is); (case c => k_is); (case k => k_is)
      refine' List.forall_mem_cons.mpr ⟨B.def_in (d := B.d_law) KX G "law" (B.topS 17) rfl rfl (by decide) B.shp_law ?a ?l ?c ?k, ?_⟩; (case a => k_is); (case l => k_is); (case c => k_is); (case k => k_is)
      exact fun _ h => by cases h
