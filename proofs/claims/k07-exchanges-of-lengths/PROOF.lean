import PyProof.Rows.All
import Wide.All
import OpenK.AllK
import Wide.FinOn
import HandS.ForMost
import HandS.Deep
import HandS.TupAny
import HandS.TupLe
import HandS.Conv
import HandS.Zip
import HandS.More
import HandS.IsInst
import HandS.Style
import HandS.SetFor
import HandS.TryOnly
import KE.SortData
import KE.DataCmp
import PyProof.ReprRoads
import HandS.Text
import PyProof.StrOps2
import HandS.Set
import HandS.Strs
import HandS.TupMul
import HandS.Dict
import KE.KDictPairs
import HandS.Zip0
import PyProof.CollectWalk
import PyProof.TupleCall
import PyProof.TupleOps
import PyProof.SumWalkG
import HandS.Wide
import HandS.WordsDict
import HandS.SortKw
import KE.DataMinMax
import HandS.ExcInit
import HandS.ExcField
import HandS.ExcIs
import HandS.ExcOwn
import HandS.WordsExc
import KE.KExcIs
import PySem.Challenge.RW_kindmakes_k07_exchanges_of_lengths
set_option Elab.async false
set_option linter.all false
set_option maxRecDepth 100000
set_option maxHeartbeats 4000000
/-! Rf: a small language of data, its plain evaluator. -/
namespace Rf
open PySem

/-! ### data and store -/
inductive D where
  | non | bl (b : Bool) | int (i : Int) | str (x : Str) | tup (ds : List D) | lst (ds : List D) | ref (n : Nat)
deriving Inhabited

mutual
def D.beq : D → D → Bool
  | .non, .non => true
  | .bl a, .bl b => a == b
  | .int a, .int b => a == b
  | .str a, .str b => a == b
  | .tup a, .tup b => D.beqs a b
  | .lst a, .lst b => D.beqs a b
  | .ref a, .ref b => a == b
  | _, _ => false
def D.beqs : List D → List D → Bool
  | [], [] => true
  | a :: r, b :: t => D.beq a b && D.beqs r t
  | _, _ => false
end
mutual
theorem D.beq_iff : ∀ a b : D, D.beq a b = true ↔ a = b
  | .non, b => by cases b <;> simp [D.beq]
  | .bl a, b => by cases b <;> simp [D.beq]
  | .int a, b => by cases b <;> simp [D.beq]
  | .str a, b => by cases b <;> simp [D.beq]
  | .ref a, b => by cases b <;> simp [D.beq]
  | .tup a, b => by
    cases b with
    | tup b => simp only [D.beq, D.tup.injEq]; exact D.beqs_iff a b
    | _ => simp [D.beq]
  | .lst a, b => by
    cases b with
    | lst b => simp only [D.beq, D.lst.injEq]; exact D.beqs_iff a b
    | _ => simp [D.beq]
theorem D.beqs_iff : ∀ a b : List D, D.beqs a b = true ↔ a = b
  | [], b => by cases b <;> simp [D.beqs]
  | a :: r, b => by
    cases b with
    | nil => simp [D.beqs]
    | cons b t => simp only [D.beqs, Bool.and_eq_true, List.cons.injEq, D.beq_iff a b, D.beqs_iff r t]
end
instance : DecidableEq D := fun a b => decidable_of_iff _ (D.beq_iff a b)

inductive O where
  | lst (ds : List D) | ro (ds : List D) | dic (kvs : List (L2.Key × D))
deriving DecidableEq, Inhabited
abbrev Store := List O
abbrev Sl := List (Option D)
abbrev Rs (α : Type) := Option (α × Store)

def mapO {α β : Type} (f : α → Option β) : List α → Option (List β)
  | [] => some []
  | a :: r => match f a, mapO f r with
    | some b, some bs => some (b :: bs)
    | _, _ => none
theorem mapO_nil {α β : Type} (f : α → Option β) : mapO f [] = some [] := rfl
theorem mapO_cons {α β : Type} {f : α → Option β} {a : α} {r : List α} {b : β} {bs : List β} (h : f a = some b) (h2 : mapO f r = some bs) : mapO f (a :: r) = some (b :: bs) := by
  simp only [mapO, h, h2]

/-- what stands at a cell as a list -/
def cellL (S : Store) (n : Nat) : Option (List D) := match S[n]? with
  | some (.lst ds) => some ds
  | some (.ro ds) => some ds
  | _ => none
/-- the items of a list or tuple -/
def seqOf (S : Store) : D → Option (List D)
  | .tup ds => some ds
  | .lst ds => some ds
  | .ref n => cellL S n
  | _ => none
/-- the items of a list -/
def lstOf (S : Store) : D → Option (List D)
  | .lst ds => some ds
  | .ref n => cellL S n
  | _ => none
/-- the items of a list that may be changed -/
def mlOf (S : Store) : D → Option (List D)
  | .lst ds => some ds
  | .ref n => match S[n]? with
    | some (.lst ds) => some ds
    | _ => none
  | _ => none
/-- as the library's data -/
def dat (S : Store) : Nat → D → Option PyData
  | _, .non => some .none
  | _, .bl b => some (.bool b)
  | _, .int i => some (.int i)
  | _, .str x => some (.str x)
  | 0, _ => none
  | n + 1, .tup ds => (mapO (dat S n) ds).map .tuple
  | n + 1, .lst ds => (mapO (dat S n) ds).map .list
  | n + 1, .ref r => match cellL S r with
    | some ds => (mapO (dat S n) ds).map .list
    | none => none
def deep : Nat := 70

/-! ### plain operations -/
def mat (d : D) (S : Store) : D × Store := match d with
  | .lst ds => (.ref S.length, S ++ [.lst ds])
  | d => (d, S)
def small (i : Int) : Bool := decide (-(2 ^ 64) < i) && decide (i < 2 ^ 64)
def binS (S : Store) (op : Operator) (a b : D) : Option D := match op, a, b with
  | .Add, .int i, .int j => some (.int (i + j))
  | .Add, .str x, .str y => if x.length + y.length ≤ sizeLine then some (.str (x ++ y)) else none
  | .Add, .tup x, .tup y => if x.length + y.length ≤ sizeLine then some (.tup (x ++ y)) else none
  | .Add, a, b => match mlOf S a, mlOf S b with
    | some x, some y => if x.length + y.length ≤ sizeLine then some (.lst (x ++ y)) else none
    | _, _ => none
  | .Sub, .int i, .int j => some (.int (i - j))
  | .Mult, .int i, .int j => if small i || small j then some (.int (i * j)) else none
  | .Mult, .tup x, .int k => if x ≠ [] ∧ x.length ≤ 1000 ∧ 0 ≤ k ∧ k ≤ 1000 then some (.tup (List.replicate k.toNat x).flatten) else none
  | .Mult, .str x, .int k => if 2 ≤ k ∧ k ≤ 1000 ∧ 1 ≤ x.length ∧ x.length ≤ 1000 then some (.str ⟨(List.replicate k.toNat x.cps).foldl (· ++ ·) #[]⟩) else none
  | .Mult, a, .int k => match mlOf S a with
    | some x => if -(2 ^ 63) ≤ k ∧ k < 2 ^ 63 ∧ x.length * k.toNat ≤ sizeLine then some (.lst (List.replicate k.toNat x).flatten) else none
    | none => none
  | .FloorDiv, .int i, .int j => if 0 < j ∧ j < 2 ^ 1000 then some (.int (i / j)) else none
  | .Mod, .int i, .int j => if 0 < j then some (.int (i % j)) else none
  | .Pow, .int i, .int j => if 0 ≤ j ∧ j ≤ 1000000 ∧ i.natAbs < 2 ^ 64 then some (.int (i ^ j.toNat)) else none
  | .LShift, .int i, .int j => if 0 ≤ j ∧ j ≤ 1000000 ∧ i.natAbs < 2 ^ 64 then some (.int (i * 2 ^ j.toNat)) else none
  | .RShift, .int i, .int j => if 0 ≤ j then some (.int (i / 2 ^ j.toNat)) else none
  | .BitAnd, .int i, .int j => some (.int (Builtin.bitAnd i j))
  | _, _, _ => none
/-- == -/
def eqS (S : Store) (a b : D) : Option Bool := match a, b with
  | .int i, .int j => some (decide (i = j))
  | .str i, .str j => some (decide (i = j))
  | .bl i, .bl j => some (decide (i = j))
  | a, b => match dat S deep a, dat S deep b with
    | some p, some q => if SeqAt.shaped p && SeqAt.shaped q then some (PyData.eqv p q) else none
    | _, _ => none
/-- x in xs -/
def keyOf : D → Option L2.Key
  | .int i => some (Sum.inl i)
  | .str x => some (Sum.inr x)
  | _ => none
def dicOf (S : Store) : D → Option (List (L2.Key × D))
  | .ref n => match S[n]? with
    | some (.dic kvs) => some kvs
    | _ => none
  | _ => none
/-- x in a dict -/
def inK (S : Store) (a b : D) : Option Bool := match dicOf S b, keyOf a with
  | some kvs, some ky => some ((kvs.find? fun kv => decide (kv.1 = ky)).map (·.2)).isSome
  | _, _ => none
def inS (S : Store) (a b : D) : Option Bool := match seqOf S b with
  | some ds => match dat S deep a, mapO (dat S deep) ds with
    | some p, some qs => if SeqAt.shaped p && SeqAt.shaped (.list qs) then some (qs.any fun q => PyData.eqv q p) else none
    | _, _ => none
  | none => inK S a b
def noneP : PyData → Bool
  | .none => true
  | _ => false
/-- < <= > >= of data -/
def ordS (S : Store) (f : Int → Int → Bool) (g : PyData → PyData → Bool) (a b : D) : Option Bool := match a, b with
  | .int i, .int j => some (f i j)
  | a, b => match dat S deep a, dat S deep b with
    | some p, some q => if PySem.W.alike p q && !noneP p && SeqAt.shaped p && SeqAt.shaped q then some (g p q) else none
    | _, _ => none
def cmpS (S : Store) (op : CmpOp) (a b : D) : Option Bool := match op with
  | .Eq => eqS S a b
  | .NotEq => (eqS S a b).map (!·)
  | .Lt => ordS S (fun i j => decide (i < j)) PySem.W.dataLt a b
  | .LtE => ordS S (fun i j => decide (i ≤ j)) (fun p q => !PySem.W.dataLt q p) a b
  | .Gt => ordS S (fun i j => decide (j < i)) (fun p q => PySem.W.dataLt q p) a b
  | .GtE => ordS S (fun i j => decide (j ≤ i)) (fun p q => !PySem.W.dataLt p q) a b
  | .In => inS S a b
  | .NotIn => (inS S a b).map (!·)
  | .Is => match a, b with
    | .bl i, .bl j => some (decide (i = j))
    | a, .non => some (decide (a = .non))
    | _, _ => none
  | .IsNot => match a, b with
    | .bl i, .bl j => some (!decide (i = j))
    | a, .non => some (!decide (a = .non))
    | _, _ => none
/-- t[i] -/
def idxS (S : Store) (a i : D) : Option D := match i with
  | .int k => match seqOf S a with
    | some ds => L2.atI ds k
    | none => match a with
      | .ref n => match S[n]? with
        | some (.dic kvs) => (kvs.find? fun kv => decide (kv.1 = Sum.inl k)).map (·.2)
        | _ => none
      | .str z => if z.length ≤ sizeLine then (L2.atI z.cps.toList k).map fun c => .str ⟨#[c]⟩ else none
      | _ => none
  | .str x => match a with
    | .ref n => match S[n]? with
      | some (.dic kvs) => (kvs.find? fun kv => decide (kv.1 = Sum.inr x)).map (·.2)
      | _ => none
    | _ => none
  | _ => none
def cut {α : Type} (xs : List α) (lo hi : Option Int) : List α := (xs.drop (HT.sIx xs.length 0 lo)).take (HT.sIx xs.length xs.length hi - HT.sIx xs.length 0 lo)
/-- t[lo:hi] -/
def slcS (S : Store) (a : D) (lo hi : Option Int) : Option D := match a with
  | .tup ds => some (.tup (cut ds lo hi))
  | .str x => if x.length ≤ sizeLine then some (.str (L2.cutS x lo hi)) else none
  | a => match lstOf S a with
    | some ds => some (.lst (cut ds lo hi))
    | none => none
def asI : D → Option Int
  | .int i => some i
  | _ => none
def asB : D → Option Bool
  | .bl b => some b
  | _ => none

/-! ### built-in functions -/
inductive Bi where
  | len | tuple | list | sorted | all | any | sum | max | min | int | str | repr | dict
deriving DecidableEq, Inhabited
def reprS (p : PyData) : Option Str := if p.showable && decide (p.shown.length ≤ sizeLine) && decide (p.depth ≤ 64) then some p.shown else none
def dLe (p q : D × PyData) : Bool := PySem.W.dataLe false (fun z : D × PyData => z.2) p q
/-- sorted of items that read as data -/
def sortS (S : Store) (ds : List D) : Option (List D) := match mapO (dat S deep) ds with
  | some ps => if (ps.all fun p => ps.all fun q => PySem.W.alike p q) && ps.all SeqAt.shaped &&
        ((ps.all fun p => match p with | .tuple (_ :: _) => true | _ => false) || (ps.all fun p => match p with | .tuple _ => false | .none => false | _ => true) || (decide (ps.length ≤ 1) && ps.all fun p => !noneP p))
      then some (((ds.zip ps).mergeSort dLe).map (·.1)) else none
  | none => none
def maxI : Int → List Int → Int
  | m, [] => m
  | m, x :: r => maxI (if m < x then x else m) r
def minI : Int → List Int → Int
  | m, [] => m
  | m, x :: r => minI (if x < m then x else m) r
def dput (kvs : List (L2.Key × D)) (k : L2.Key) (v : D) : List (L2.Key × D) :=
  if (kvs.any fun kv => decide (kv.1 = k)) = true then kvs.map (fun kv => if kv.1 = k then (kv.1, v) else kv) else kvs ++ [(k, v)]
def asPair : D → Option (L2.Key × D)
  | .tup [a, b] => (keyOf a).map fun k => (k, b)
  | _ => none
/-- a built-in function: its answer (a dict is a new cell) -/
def biS (f : Bi) (as : List D) (S : Store) : Rs D := match f, as with
  | .len, [.str x] => if x.length ≤ sizeLine then some (.int x.length, S) else none
  | .len, [a] => match seqOf S a with
    | some ds => some (.int ds.length, S)
    | none => match dicOf S a with
      | some kvs => some (.int kvs.length, S)
      | none => none
  | .tuple, [a] => match seqOf S a with
    | some ds => some (.tup ds, S)
    | none => none
  | .list, [a] => match seqOf S a with
    | some ds => some (.lst ds, S)
    | none => none
  | .sorted, [a] => match seqOf S a with
    | some ds => (sortS S ds).map fun x => (.lst x, S)
    | none => none
  | .all, [a] => match lstOf S a with
    | some ds => (mapO asB ds).map fun bs => (.bl (bs.all id), S)
    | none => none
  | .any, [a] => match lstOf S a with
    | some ds => (mapO asB ds).map fun bs => (.bl (bs.any id), S)
    | none => none
  | .sum, [.tup ds] => (mapO asI ds).map fun ns => (.int ns.sum, S)
  | .sum, [a] => match lstOf S a with
    | some ds => (mapO asI ds).map fun ns => (.int ns.sum, S)
    | none => none
  | .max, [.int i, .int j] => some (.int (if j > i then j else i), S)
  | .min, [.int i, .int j] => some (.int (if j < i then j else i), S)
  | .max, [.tup ds] => match mapO asI ds with
    | some (n :: r) => some (.int (maxI n r), S)
    | _ => none
  | .max, [a] => match lstOf S a with
    | some ds => match mapO asI ds with
      | some (n :: r) => some (.int (maxI n r), S)
      | _ => none
    | none => none
  | .min, [.tup ds] => match mapO asI ds with
    | some (n :: r) => some (.int (minI n r), S)
    | _ => none
  | .min, [a] => match lstOf S a with
    | some ds => match mapO asI ds with
      | some (n :: r) => some (.int (minI n r), S)
      | _ => none
    | none => none
  | .int, [.int i] => some (.int i, S)
  | .int, [.bl b] => some (.int (if b then 1 else 0), S)
  | .str, [.int i] => if i.natAbs.log2 < 1920 then some (.str (toString i), S) else none
  | .repr, [a] => match dat S deep a with
    | some p => (reprS p).map fun x => (.str x, S)
    | none => none
  | .dict, [.tup ds] => (mapO asPair ds).map fun kvs => (.ref S.length, S ++ [.dic (kvs.foldl (fun acc kv => dput acc kv.1 kv.2) [])])
  | .dict, [a] => match lstOf S a with
    | some ds => (mapO asPair ds).map fun kvs => (.ref S.length, S ++ [.dic (kvs.foldl (fun acc kv => dput acc kv.1 kv.2) [])])
    | none => none
  | _, _ => none

/-- rising, each once -/
def insU (x : Int) : List Int → List Int
  | [] => [x]
  | y :: r => if x < y then x :: y :: r else if x = y then y :: r else y :: insU x r
def sdd (ns : List Int) : List Int := ns.foldr insU []
/-- max(xs, default=k) of ints -/
def maxdS (k : Int) (S : Store) (x : D) : Rs D := match lstOf S x with
  | some ds => match mapO asI ds with
    | some [] => some (.int k, S)
    | some (n :: r) => some (.int (maxI n r), S)
    | none => none
  | none => none
/-- sorted(set(xs)) -/
def ssetS (S : Store) (x : D) : Rs D := match lstOf S x with
  | some ds => match mapO asI ds with
    | some ns => if (sdd ns).length < 64 ∧ ns.length ≤ 4000 then some (.lst ((sdd ns).map .int), S) else none
    | none => none
  | none => none
/-! ### methods -/
inductive Mt where
  | append | extend | pop | insert | reverse | clear | index | count | get
deriving DecidableEq, Inhabited
def mtT (m : Mt) (xs as : List D) (S : Store) : Rs D := match m, as with
  | .count, [y] => match dat S deep y, mapO (dat S 69) xs with
    | some p, some qs => if SeqAt.shaped p && SeqAt.shaped (.list qs) then some (.int (qs.countP fun q => PyData.eqv q p : Nat), S) else none
    | _, _ => none
  | .index, [y] => match dat S deep y, mapO (dat S 69) xs with
    | some p, some qs => if SeqAt.shaped p && SeqAt.shaped (.list qs) then (qs.findIdx? fun q => PyData.eqv q p).map fun j => (.int (j : Nat), S) else none
    | _, _ => none
  | _, _ => none
def mtS (m : Mt) (o : D) (as : List D) (S : Store) : Rs D := match o with
  | .tup xs => mtT m xs as S
  | .ref n => match S[n]? with
    | some (.lst xs) => match m, as with
      | .append, [y] => if xs.length < sizeLine then some (.non, S.set n (.lst (xs ++ [y]))) else none
      | .extend, [a] => match mlOf S a with
        | some ys => if xs.length + ys.length ≤ sizeLine then some (.non, S.set n (.lst (xs ++ ys))) else none
        | none => none
      | .pop, [] => match xs[xs.length - 1]? with
        | some y => some (y, S.set n (.lst xs.dropLast))
        | none => none
      | .pop, [.int i] => if -(2 ^ 63) ≤ i ∧ i < 2 ^ 63 then match L2.ixN xs.length i with
          | some k => match xs[k]? with
            | some y => some (y, S.set n (.lst (xs.eraseIdx k)))
            | none => none
          | none => none
        else none
      | .insert, [.int i, y] => if xs.length < sizeLine ∧ 0 ≤ i ∧ i < 2 ^ 63 then some (.non, S.set n (.lst (xs.take i.toNat ++ [y] ++ xs.drop i.toNat))) else none
      | .reverse, [] => some (.non, S.set n (.lst xs.reverse))
      | .clear, [] => some (.non, S.set n (.lst []))
      | .count, [.int k] => (mapO asI xs).map fun ns => (.int (ns.count k : Nat), S)
      | .count, [y] => match dat S deep y, mapO (dat S 69) xs with
        | some p, some qs => if SeqAt.shaped p && SeqAt.shaped (.list qs) then some (.int (qs.countP fun q => PyData.eqv q p : Nat), S) else none
        | _, _ => none
      | .index, [y] => match dat S deep y, mapO (dat S 69) xs with
        | some p, some qs => if SeqAt.shaped p && SeqAt.shaped (.list qs) then (qs.findIdx? fun q => PyData.eqv q p).map fun j => (.int (j : Nat), S) else none
        | _, _ => none
      | _, _ => none
    | _ => none
  | _ => none

/-! ### isinstance -/
def tyS (S : Store) : D → Option String
  | .non => some "NoneType"
  | .bl _ => some "bool"
  | .int _ => some "int"
  | .str _ => some "str"
  | .tup _ => some "tuple"
  | .lst _ => some "list"
  | .ref n => match S[n]? with
    | some (.lst _) => some "list"
    | some (.ro _) => some "list"
    | some (.dic _) => some "dict"
    | none => none
def isiS (t : String) (c : String) : Bool := t == c || (t == "bool" && c == "int")

/-! ### the language -/
inductive IK where
  | seq | rng | zip | enu | rev
deriving DecidableEq, Inhabited, Repr
inductive Pt where
  | nm (i : Nat) | tp (is : List Nat)
deriving DecidableEq, Inhabited, Repr
mutual
inductive Ex where
  | var (i : Nat)
  | cst (d : D)
  | nop
  | bin (op : Operator) (a b : Ex)
  | neg (a : Ex)
  | cmp (op : CmpOp) (a b : Ex)
  | chn (op op' : CmpOp) (a b c : Ex)
  | and (a b : Ex)
  | or (a b : Ex)
  | not (a : Ex)
  | ite (c a b : Ex)
  | tup (as : Exs)
  | lis (as : Exs)
  | call (f : Nat) (as : Exs)
  | bif (f : Bi) (as : Exs)
  | rngl (t : Bool) (as : Exs)
  | sset (a : Ex)
  | tzip (as : Exs)
  | lset (a : Ex)
  | maxd (k : Int) (a : Ex)
  | dcin (kvs : List (Str × Int)) (a : Ex)
  | dcix (kvs : List (Str × Int)) (a : Ex)
  | dget (o k f : Ex)
  | mth (m : Mt) (o : Ex) (as : Exs)
  | isi (a : Ex) (c : String)
  | idx (a i : Ex)
  | slc (a lo hi : Ex)
  | rev (a : Ex)
  | lc (ik : IK) (as : Exs) (t : Pt) (own : List Nat) (c e : Ex)
  | dsp (ks : List L2.Key) (vs : Exs)
  | ch3 (a b c e : Ex)
  | sup (a : Ex)
  | sjn (o a : Ex)
inductive Exs where
  | nil
  | cons (e : Ex) (r : Exs)
end
instance : Inhabited Ex := ⟨.nop⟩
def isNop : Ex → Bool
  | .nop => true
  | _ => false
instance : Inhabited Exs := ⟨.nil⟩
/-! what an except clause may say: of the exception's class and fields -/
mutual
inductive HE where
  | cst (d : D)
  | var (i : Nat)
  | isi (cs : List Str)
  | fld (tb : List (Str × Nat))
  | and (a b : HE)
  | or (a b : HE)
  | not (a : HE)
  | tup (es : HEs)
inductive HEs where
  | nil
  | cons (e : HE) (r : HEs)
end
mutual
inductive Hs where
  | asg (i : Nat) (e : HE)
  | ife (c : HE) (a b : Hss)
inductive Hss where
  | nil
  | cons (s : Hs) (r : Hss)
end
mutual
inductive St where
  | asg (t : Pt) (e : Ex)
  | par (is : List Nat) (as : Exs)
  | unl (is : List Nat) (e : Ex)
  | six (o i e : Ex)
  | slw (o lo hi e : Ex)
  | exp (e : Ex)
  | ret (e : Ex)
  | retn
  | ife (c : Ex) (a b : Sts)
  | forr (ik : IK) (as : Exs) (t : Pt) (b : Sts)
  | whl (c : Ex) (b : Sts)
  | pas
  | brk
  | cnt
  | bad
  | rse (c : Str) (as : Exs)
  | tri (b : Sts) (cs : List Str) (nm : Option Nat) (h : Hss)
inductive Sts where
  | nil
  | cons (s : St) (r : Sts)
end
instance : Inhabited St := ⟨.pas⟩
instance : Inhabited Sts := ⟨.nil⟩

/-! ### the evaluator -/
def bnd {α β : Type} (r : Rs α) (f : α → Store → Rs β) : Rs β := match r with
  | some (a, S) => f a S
  | none => none
theorem bnd_some {α β : Type} (a : α) (S : Store) (f : α → Store → Rs β) : bnd (some (a, S)) f = f a S := rfl
def lift {α : Type} (o : Option α) (S : Store) : Rs α := o.map fun a => (a, S)
def partS : D → Store → Rs (Option Int)
  | .int i, S => some (some i, S)
  | _, _ => none
/-- the items that are walked, and the cells that must stay meanwhile -/
def seqW (S : Store) : D → Option (List D × List (Nat × List D))
  | .lst ds => some (ds, [])
  | .ref n => (cellL S n).map fun ds => (ds, [(n, ds)])
  | _ => none
def isPr : D → Bool
  | .tup [_, _] => true
  | _ => false
/-- such a tuple may be one of zip's pairs -/
def looseT : List D → Bool
  | _ => false
/-- a loop's pairs: taken apart at once, so written as lists -/
def zipD : List D → List D → List D
  | a :: r, b :: t => .lst [a, b] :: zipD r t
  | _, _ => []
def zipT : List D → List D → List D
  | a :: r, b :: t => .tup [a, b] :: zipT r t
  | _, _ => []
/-- xs[::-1] -/
def revO (S : Store) (x : D) : Rs D := match x with
  | .tup ds => some (.tup ds.reverse, S)
  | x => match lstOf S x with
    | some ds => some (.lst ds.reverse, S)
    | none => none
/-- len(set(xs)) of ints -/
def lsetS (S : Store) (x : D) : Rs D := match seqOf S x with
  | some ds => match mapO asI ds with
    | some ns => if ns.length ≤ 4000 then some (.int ((sdd ns).length : Nat), S) else none
    | none => none
  | none => none
/-- tuple(zip(a, b)) of tuples -/
def tzipS : List D → Store → Rs D
  | [.tup xs, .tup ys], S => some (.tup (zipT xs ys), S)
  | _, _ => none
def itemsS (ik : IK) (as : List D) (S : Store) : Option (List D × List (Nat × List D)) := match ik, as with
  | .seq, [.tup ds] => some (ds, [])
  | .seq, [.lst ds] => some (ds, [])
  | .seq, [.ref n] => (cellL S n).map fun ds => (ds, [(n, ds)])
  | .rng, [.int n] => if -(2 ^ 62) ≤ n ∧ n ≤ 16777216 then some ((List.range n.toNat).map fun (i : Nat) => .int (i : Int), []) else none
  | .rng, [.int a, .int b] => if -(2 ^ 62) ≤ a ∧ a < 2 ^ 62 ∧ -(2 ^ 62) ≤ b ∧ b < 2 ^ 62 ∧ b - a ≤ 16777216 then some ((List.range (b - a).toNat).map fun (i : Nat) => .int (a + (i : Int)), []) else none
  | .zip, [.tup xs, .tup ys] => if xs.length ≤ 1000 ∧ xs.any isPr = false then some (zipD xs ys, []) else none
  | .zip, [a, b] => match seqW S a, seqW S b with
    | some (xs, ws), some (ys, us) => if xs.length ≤ 1000 ∧ xs.any isPr = false then some (zipD xs ys, ws ++ us) else none
    | _, _ => none
  | _, _ => none
def watch (S : Store) (ws : List (Nat × List D)) : Bool := ws.all fun w => decide (cellL S w.1 = some w.2)
def setAll (r : Sl) : List Nat → List D → Sl
  | i :: is, d :: ds => setAll (r.set i (some d)) is ds
  | _, _ => r
def setPt (t : Pt) (d : D) (r : Sl) : Option Sl := match t, d with
  | .nm i, d => some (r.set i (some d))
  | .tp is, .tup ds => if ds.length = is.length then some (setAll r is ds) else none
  | .tp is, .lst ds => if ds.length = is.length then some (setAll r is ds) else none
  | _, _ => none
def wipeS (r : Sl) : List Nat → Sl
  | [] => r
  | v :: vs => (wipeS r vs).set v none
/-- d.get(k, f) -/
def isDic (S : Store) : D → Bool
  | .ref n => match S[n]? with
    | some (.dic _) => true
    | _ => false
  | _ => false
def dgetS (S : Store) (x y z : D) : Option D := match x, keyOf y with
  | .ref n, some ky => match S[n]? with
    | some (.dic kvs) => some (((kvs.find? fun kv => decide (kv.1 = ky)).map (·.2)).getD z)
    | _ => none
  | _, _ => none
def dcinS (kvs : List (Str × Int)) (x : D) (S : Store) : Rs D := match x with
  | .str z => some (.bl (kvs.lookup z).isSome, S)
  | _ => none
def dcixS (kvs : List (Str × Int)) (x : D) (S : Store) : Rs D := match x with
  | .str z => match kvs.lookup z with
    | some i => some (.int i, S)
    | none => none
  | _ => none
def asS : D → Option Str
  | .str x => some x
  | _ => none
/-- x.upper() -/
def supS (x : D) (S : Store) : Rs D := match x with
  | .str z => if z.length ≤ 5592405 then some (.str (Txt.upper z), S) else none
  | _ => none
/-- x.join(ys) -/
def sjnS (x y : D) (S : Store) : Rs D := match x, seqOf S y with
  | .str z, some ds => match mapO asS ds with
    | some ys => if (ys.map (·.length)).sum + ys.length * z.length ≤ 16777216 then some (.str (Txt.join z ys), S) else none
    | none => none
  | _, _ => none
/-- a comprehension's turns -/
def loopL (ws : List (Nat × List D)) (f : D → Store → Rs (Option D)) : List D → Store → Rs (List D)
  | [], S => if watch S ws then some ([], S) else none
  | d :: r, S => if watch S ws then bnd (f d S) fun o S1 => bnd (loopL ws f r S1) fun ds S2 => some (o.toList ++ ds, S2) else none
def slot (r : Sl) (i : Nat) : Option D := match r[i]? with
  | some (some d) => some d
  | _ => none
mutual
def evE (call : Nat → List D → Store → Rs D) : Ex → Sl → Store → Rs D
  | .var i, r, S => lift (slot r i) S
  | .cst d, _, S => some (d, S)
  | .nop, _, S => some (.non, S)
  | .bin op a b, r, S => bnd (evE call a r S) fun x S1 => bnd (evE call b r S1) fun y S2 => lift (binS S2 op x y) S2
  | .neg a, r, S => bnd (evE call a r S) fun x S1 => match x with
    | .int i => some (.int (-i), S1)
    | _ => none
  | .cmp op a b, r, S => bnd (evE call a r S) fun x S1 => bnd (evE call b r S1) fun y S2 => lift ((cmpS S2 op x y).map .bl) S2
  | .chn op op' a b c, r, S => bnd (evE call a r S) fun x S1 => bnd (evE call b r S1) fun y S2 => match y with
    | .int _ => match cmpS S2 op x y with
      | some true => bnd (evE call c r S2) fun z S3 => lift ((cmpS S3 op' y z).map .bl) S3
      | some false => some (.bl false, S2)
      | none => none
    | _ => none
  | .and a b, r, S => bnd (evE call a r S) fun x S1 => match x with
    | .bl true => evE call b r S1
    | .bl false => some (.bl false, S1)
    | _ => none
  | .or a b, r, S => bnd (evE call a r S) fun x S1 => match x with
    | .bl true => some (.bl true, S1)
    | .bl false => evE call b r S1
    | _ => none
  | .not a, r, S => bnd (evE call a r S) fun x S1 => match x with
    | .bl b => some (.bl (!b), S1)
    | _ => none
  | .ite c a b, r, S => bnd (evE call c r S) fun x S1 => match x with
    | .bl true => evE call a r S1
    | .bl false => evE call b r S1
    | _ => none
  | .tup as, r, S => bnd (evM call as r S) fun ds S1 => some (.tup ds, S1)
  | .lis as, r, S => bnd (evM call as r S) fun ds S1 => some (.lst ds, S1)
  | .call f as, r, S => bnd (evM call as r S) fun ds S1 => call f ds S1
  | .bif f as, r, S => bnd (evR call as r S) fun ds S1 => biS f ds S1
  | .rngl t as, r, S => bnd (evR call as r S) fun ds S1 => match itemsS .rng ds S1 with
    | some (xs, _) => some (if t then .tup xs else .lst xs, S1)
    | none => none
  | .sset a, r, S => bnd (evE call a r S) fun x S1 => ssetS S1 x
  | .tzip as, r, S => bnd (evR call as r S) fun ds S1 => tzipS ds S1
  | .lset a, r, S => bnd (evE call a r S) fun x S1 => lsetS S1 x
  | .maxd k a, r, S => bnd (evE call a r S) fun x S1 => maxdS k S1 x
  | .dcin kvs a, r, S => bnd (evE call a r S) fun x S1 => dcinS kvs x S1
  | .dcix kvs a, r, S => bnd (evE call a r S) fun x S1 => dcixS kvs x S1
  | .dget o k f, r, S => bnd (evE call o r S) fun x S1 => if isDic S1 x then bnd (evE call k r S1) fun y S2 => bnd (evE call f r S2) fun z S3 => lift (dgetS S3 x y z) S3 else none
  | .mth m o as, r, S => bnd (evE call o r S) fun x S1 => if (seqOf S1 x).isSome then bnd (if m = .extend then evR call as r S1 else evM call as r S1) fun ds S2 => mtS m x ds S2 else none
  | .isi a c, r, S => bnd (evE call a r S) fun x S1 => match tyS S1 x with
    | some t => some (.bl (isiS t c), S1)
    | none => none
  | .idx a i, r, S => bnd (evE call a r S) fun x S1 => bnd (evE call i r S1) fun y S2 => lift (idxS S2 x y) S2
  | .slc a lo hi, r, S => bnd (evE call a r S) fun x S1 => bnd (if isNop lo then some (none, S1) else bnd (evE call lo r S1) partS) fun y S2 =>
    bnd (if isNop hi then some (none, S2) else bnd (evE call hi r S2) partS) fun z S3 => lift (slcS S3 x y z) S3
  | .rev a, r, S => bnd (evE call a r S) fun x S1 => revO S1 x
  | .lc ik as t own c e, r, S => bnd (evR call as r S) fun ds S1 => match itemsS ik ds S1 with
    | some (xs, ws) => bnd (loopL ws (fun d S2 => match setPt t d (wipeS r own) with
        | some r1 => bnd (evE call c r1 S2) fun b S3 => match b with
          | .bl true => bnd (evE call e r1 S3) fun y S4 => let m := mat y S4; some (some m.1, m.2)
          | .bl false => some (none, S3)
          | _ => none
        | none => none) xs S1) fun ys S5 => some (.lst ys, S5)
    | none => none
  | .dsp ks vs, r, S => bnd (evM call vs r S) fun ds S1 => if ds.length = ks.length then some (.ref S1.length, S1 ++ [.dic ((ks.zip ds).foldl (fun acc kv => dput acc kv.1 kv.2) [])]) else none
  | .ch3 a b c e, r, S => bnd (evE call a r S) fun x S1 => bnd (evE call b r S1) fun y S2 => match x, y with
    | .int i, .int j => if i ≤ j then bnd (evE call c r S2) fun z S3 => match z with
        | .int l => if j ≤ l then bnd (evE call e r S3) fun w S4 => match w with
            | .int m => some (.bl (decide (l ≤ m)), S4)
            | _ => none
          else some (.bl false, S3)
        | _ => none
      else some (.bl false, S2)
    | _, _ => none
  | .sup a, r, S => bnd (evE call a r S) fun x S1 => supS x S1
  | .sjn o a, r, S => bnd (evE call o r S) fun x S1 => bnd (evE call a r S1) fun y S2 => sjnS x y S2
/-- several, as they come -/
def evR (call : Nat → List D → Store → Rs D) : Exs → Sl → Store → Rs (List D)
  | .nil, _, S => some ([], S)
  | .cons e es, r, S => bnd (evE call e r S) fun x S1 => bnd (evR call es r S1) fun xs S2 => some (x :: xs, S2)
/-- several, each new list laid into the store -/
def evM (call : Nat → List D → Store → Rs D) : Exs → Sl → Store → Rs (List D)
  | .nil, _, S => some ([], S)
  | .cons e es, r, S => bnd (evE call e r S) fun x S1 => bnd (evM call es r (mat x S1).2) fun xs S2 => some ((mat x S1).1 :: xs, S2)
end

inductive Fl where
  | nx | rt (d : D) | bk | ct
deriving Inhabited
abbrev Rt := Option (Fl × Sl × Store)
def bndS {α : Type} (r : Rs α) (f : α → Store → Rt) : Rt := match r with
  | some (a, S) => f a S
  | none => none
theorem bndS_some {α : Type} (a : α) (S : Store) (f : α → Store → Rt) : bndS (some (a, S)) f = f a S := rfl
/-- a for's turns -/
def forL (ws : List (Nat × List D)) (t : Pt) (b : Sl → Store → Rt) : List D → Sl → Store → Rt
  | [], r, S => if watch S ws then some (.nx, r, S) else none
  | d :: ds, r, S => if watch S ws then match setPt t d r with
      | some r1 => match b r1 S with
        | some (.nx, r2, S2) => forL ws t b ds r2 S2
        | some (.ct, r2, S2) => forL ws t b ds r2 S2
        | some (.bk, r2, S2) => some (.nx, r2, S2)
        | some (.rt v, r2, S2) => some (.rt v, r2, S2)
        | none => none
      | none => none
    else none
def whlL (c : Sl → Store → Rs D) (b : Sl → Store → Rt) : Nat → Sl → Store → Rt
  | 0, _, _ => none
  | n + 1, r, S => match c r S with
    | some (.bl true, S1) => match b r S1 with
      | some (.nx, r2, S2) => whlL c b n r2 S2
      | some (.ct, r2, S2) => whlL c b n r2 S2
      | some (.bk, r2, S2) => some (.nx, r2, S2)
      | some (.rt v, r2, S2) => some (.rt v, r2, S2)
      | none => none
    | some (.bl false, S1) => some (.nx, r, S1)
    | _ => none
def sixS (o i v : D) (S : Store) : Option Store := match o with
  | .ref n => match S[n]? with
    | some (.lst xs) => match i with
      | .int k => match L2.ixN xs.length k with
        | some j => some (S.set n (.lst (xs.set j v)))
        | none => none
      | _ => none
    | some (.dic kvs) => match keyOf i with
      | some k => if kvs.length < sizeLine then some (S.set n (.dic (dput kvs k v))) else none
      | none => none
    | _ => none
  | _ => none
/-- o[lo:hi] = a list -/
def slwS (o lo hi v : D) (S : Store) : Option Store := match o, lo, hi, v with
  | .ref n, .int i, .int j, .ref m => match S[n]?, S[m]? with
    | some (.lst xs), some (.lst ys) => if n ≠ m ∧ 0 ≤ i ∧ i ≤ j ∧ j ≤ xs.length ∧ xs.length + ys.length ≤ sizeLine then some (S.set n (.lst (xs.take i.toNat ++ ys ++ xs.drop j.toNat))) else none
    | _, _ => none
  | _, _, _, _ => none
mutual
def evS (call : Nat → List D → Store → Rs D) (F : Nat) : St → Sl → Store → Rt
  | .asg t e, r, S => bndS (evE call e r S) fun x S1 => match setPt t (mat x S1).1 r with
    | some r1 => some (.nx, r1, (mat x S1).2)
    | none => none
  | .par is as, r, S => bndS (evM call as r S) fun ds S1 => if ds.length = is.length then some (.nx, setAll r is ds, S1) else none
  | .unl is e, r, S => bndS (evE call e r S) fun x S1 => match lstOf S1 x with
    | some ds => if ds.length = is.length then some (.nx, setAll r is ds, S1) else none
    | none => none
  | .six o i e, r, S => bndS (evE call e r S) fun x S1 => bndS (evE call o r (mat x S1).2) fun y S2 => bndS (evE call i r S2) fun z S3 =>
    match sixS y z (mat x S1).1 S3 with
    | some S4 => some (.nx, r, S4)
    | none => none
  | .slw o lo hi e, r, S => bndS (evE call e r S) fun x S1 => bndS (evE call o r (mat x S1).2) fun y S2 => bndS (evE call lo r S2) fun l S3 => bndS (evE call hi r S3) fun h S4 =>
    match slwS y l h (mat x S1).1 S4 with
    | some S5 => some (.nx, r, S5)
    | none => none
  | .exp e, r, S => bndS (evE call e r S) fun _ S1 => some (.nx, r, S1)
  | .ret e, r, S => bndS (evE call e r S) fun x S1 => some (.rt x, r, S1)
  | .retn, r, S => some (.rt .non, r, S)
  | .ife c a b, r, S => bndS (evE call c r S) fun x S1 => match x with
    | .bl true => evSs call F a r S1
    | .bl false => evSs call F b r S1
    | _ => none
  | .forr ik as t b, r, S => bndS (evR call as r S) fun ds S1 => match itemsS ik ds S1 with
    | some (xs, ws) => forL ws t (evSs call F b) xs r S1
    | none => none
  | .whl c b, r, S => whlL (evE call c) (evSs call F b) F r S
  | .pas, r, S => some (.nx, r, S)
  | .brk, r, S => some (.bk, r, S)
  | .cnt, r, S => some (.ct, r, S)
  | .bad, _, _ => none
  | .rse _ _, _, _ => none
  | .tri _ _ _ _, _, _ => none
def evSs (call : Nat → List D → Store → Rs D) (F : Nat) : Sts → Sl → Store → Rt
  | .nil, r, S => some (.nx, r, S)
  | .cons s ss, r, S => match evS call F s r S with
    | some (.nx, r1, S1) => evSs call F ss r1 S1
    | x => x
end

/-! ### what raises: an exception is data, its class and its fields; a call that raises is asked for at BIG -/
def BIG : Nat := 1000000
def excD (c : Str) (ds : List D) : D := .tup [.str c, .tup ds]
mutual
def xE (call : Nat → List D → Store → Rs D) : Ex → Sl → Store → Rs D
  | .call f as, r, S => match evM call as r S with
    | some (ds, S1) => call (f + BIG) ds S1
    | none => xM call as r S
  | .tup as, r, S => xM call as r S
  | .cmp .Is a b, r, S => match evE call a r S with
    | some _ => none
    | none => xE call a r S
  | .ite c a b, r, S => match evE call c r S with
    | some (.bl true, S1) => xE call a r S1
    | some (.bl false, S1) => xE call b r S1
    | _ => none
  | .bif _ as, r, S => xM call as r S
  | .lc .seq as _ _ _ _, r, S => xM call as r S
  | _, _, _ => none
def xM (call : Nat → List D → Store → Rs D) : Exs → Sl → Store → Rs D
  | .nil, _, _ => none
  | .cons e es, r, S => match evE call e r S with
    | some (x, S1) => xM call es r (mat x S1).2
    | none => xE call e r S
end
abbrev Rx := Option (D × Sl × Store)
def forX (ws : List (Nat × List D)) (t : Pt) (b : Sl → Store → Rt) (bx : Sl → Store → Rx) : List D → Sl → Store → Rx
  | [], _, _ => none
  | d :: ds, r, S => if watch S ws then match setPt t d r with
      | some r1 => match b r1 S with
        | some (.nx, r2, S2) => forX ws t b bx ds r2 S2
        | some (.ct, r2, S2) => forX ws t b bx ds r2 S2
        | some _ => none
        | none => bx r1 S
      | none => none
    else none
def isLcE : Ex → Bool
  | .lc _ _ _ _ _ _ => true
  | _ => false
def slE (r : Sl) (x : Rs D) : Rx := x.map fun p => (p.1, r, p.2)
mutual
def xS (call : Nat → List D → Store → Rs D) (F : Nat) : St → Sl → Store → Rx
  | .asg _ e, r, S => if isLcE e then none else slE r (xE call e r S)
  | .exp e, r, S => if isLcE e then none else slE r (xE call e r S)
  | .ret e, r, S => slE r (xE call e r S)
  | .ife c a b, r, S => match evE call c r S with
    | some (.bl true, S1) => xSs call F a r S1
    | some (.bl false, S1) => xSs call F b r S1
    | _ => none
  | .forr ik as t b, r, S => match evR call as r S with
    | some (ds, S1) => match itemsS ik ds S1 with
      | some (xs, ws) => forX ws t (evSs call F b) (xSs call F b) xs r S1
      | none => none
    | none => none
  | .rse c as, r, S => match evM call as r S with
    | some (ds, S1) => some (excD c ds, r, S1)
    | none => none
  | _, _, _ => none
def xSs (call : Nat → List D → Store → Rs D) (F : Nat) : Sts → Sl → Store → Rx
  | .nil, _, _ => none
  | .cons s ss, r, S => match evS call F s r S with
    | some (.nx, r1, S1) => xSs call F ss r1 S1
    | some _ => none
    | none => xS call F s r S
end
/-! an except suite: what it makes of class and fields -/
mutual
def hE (c : Str) (fs : List D) (r : Sl) : HE → Option D
  | .cst d => some d
  | .var i => slot r i
  | .isi cs => some (.bl (cs.contains c))
  | .fld tb => match tb.lookup c with
    | some j => fs[j]?
    | none => none
  | .and a b => match hE c fs r a with
    | some (.bl true) => hE c fs r b
    | some (.bl false) => some (.bl false)
    | _ => none
  | .or a b => match hE c fs r a with
    | some (.bl true) => some (.bl true)
    | some (.bl false) => hE c fs r b
    | _ => none
  | .not a => match hE c fs r a with
    | some (.bl b) => some (.bl (!b))
    | _ => none
  | .tup es => (hEs c fs r es).map .tup
def hEs (c : Str) (fs : List D) (r : Sl) : HEs → Option (List D)
  | .nil => some []
  | .cons e es => match hE c fs r e, hEs c fs r es with
    | some d, some ds => some (d :: ds)
    | _, _ => none
end
mutual
def hS (c : Str) (fs : List D) : Hs → Sl → Option Sl
  | .asg i e, r => (hE c fs r e).map fun d => r.set i (some d)
  | .ife q a b, r => match hE c fs r q with
    | some (.bl true) => hSs c fs a r
    | some (.bl false) => hSs c fs b r
    | _ => none
def hSs (c : Str) (fs : List D) : Hss → Sl → Option Sl
  | .nil, r => some r
  | .cons s ss, r => match hS c fs s r with
    | some r1 => hSs c fs ss r1
    | none => none
end
def unN (nm : Option Nat) (r : Sl) : Sl := match nm with
  | some i => r.set i none
  | none => r
def okN (nm : Option Nat) (r : Sl) : Bool := match nm with
  | some i => decide (i < r.length)
  | none => true
def hnd (cs : List Str) (nm : Option Nat) (h : Hss) (x : D) (r : Sl) : Option Sl := match x with
  | .tup [.str c, .tup fs] => if cs.contains c = true ∧ okN nm r = true then (hSs c fs h (unN nm r)).map (unN nm) else none
  | _ => none
/-- a def's own suite: a try stands there alone -/
def evT (q : Bool) (call : Nat → List D → Store → Rs D) (F : Nat) : Sts → Sl → Store → Rt
  | .nil, r, S => some (.nx, r, S)
  | .cons (.tri b cs nm h) ss, r, S => if q = false then none else match evSs call F b r S with
    | some (.nx, r1, S1) => evT q call F ss r1 S1
    | some z => some z
    | none => match xSs call F b r S with
      | some (x, r1, S1) => match hnd cs nm h x r1 with
        | some r2 => evT q call F ss r2 S1
        | none => none
      | none => none
  | .cons s ss, r, S => match evS call F s r S with
    | some (.nx, r1, S1) => evT q call F ss r1 S1
    | z => z
def noTri : Sts → Bool
  | .nil => true
  | .cons (.tri _ _ _ _) _ => false
  | .cons _ ss => noTri ss
theorem evT_eq {q : Bool} {call : Nat → List D → Store → Rs D} {F : Nat} : ∀ {ss : Sts} {r : Sl} {S : Store}, noTri ss = true → evT q call F ss r S = evSs call F ss r S
  | .nil, r, S, _ => by simp only [evT, evSs]
  | .cons s ss, r, S, h => by
    have ht : noTri ss = true := by
      cases s <;> first | exact h | (simp [noTri] at h)
    have step : evT q call F (.cons s ss) r S = match evS call F s r S with
        | some (.nx, r1, S1) => evT q call F ss r1 S1
        | z => z := by
      cases s <;> first | rfl | (simp [noTri] at h)
    rw [step, evSs]
    split
    · exact evT_eq ht
    · rfl
/-! ### defs and calls -/
mutual
def D.under (n : Nat) : D → Bool
  | .tup ds => D.unders n ds
  | .lst ds => D.unders n ds
  | .ref k => decide (k < n)
  | _ => true
def D.unders (n : Nat) : List D → Bool
  | [] => true
  | d :: r => D.under n d && D.unders n r
end
def O.under (n : Nat) : O → Bool
  | .lst ds => D.unders n ds
  | .ro ds => D.unders n ds
  | .dic kvs => D.unders n (kvs.map (·.2))
/-- the cells that stood at the call: as they were, or of such cells alone -/
def keepB (S0 S1 : Store) : Bool := (List.range S0.length).all fun i => decide (S1[i]? = S0[i]?) || (match S1[i]? with
  | some o => O.under S0.length o
  | none => false)
/-- the end of a call: what was made in it and isn't handed back is forgotten; a list that is handed back is a new one -/
def fin (S0 : Store) (d : D) (S1 : Store) : D × Store :=
  if keepB S0 S1 then match d with
    | .ref n => if n < S0.length then (.ref n, S1.take S0.length) else match S1[n]? with
      | some (.lst ds) => if D.unders S0.length ds then (.lst ds, S1.take S0.length) else (.ref n, S1)
      | _ => (.ref n, S1)
    | d => if D.under S0.length d then (d, S1.take S0.length) else (d, S1)
  else (d, S1)
structure Fn where
  np : Nat
  nl : Nat
  body : Sts
deriving Inhabited
def run (fns : List Fn) (F : Nat) : Nat → Nat → List D → Store → Rs D
  | 0, _, _, _ => none
  | k + 1, f, ds, S => match fns[f]? with
    | some fn => if ds.length = fn.np then match evT (decide (2 ≤ k)) (run fns F k) F fn.body (ds.map some ++ List.replicate (fn.nl - fn.np) none) S with
        | some (.rt d, _, S1) => some (fin S d S1)
        | some (.nx, _, S1) => some (fin S .non S1)
        | _ => none
      else none
    | none => match fns[f - BIG]? with
      | some fn => if 2 ≤ k ∧ BIG ≤ f ∧ ds.length = fn.np then match xSs (run fns F k) F fn.body (ds.map some ++ List.replicate (fn.nl - fn.np) none) S with
          | some (x, _, S1) => some (fin S x S1)
          | none => none
        else none
      | none => none
end Rf

/-! Rf: from the model's syntax to the small language. -/
namespace Rf
open PySem

structure Cfg where
  N : List Str
  fns : List (Str × Nat)
  bl : List Str
  cs : List (Str × D)
  dc : List (Str × List (Str × Int)) := []
  xc : List (Str × List Str × List Str) := []
  xn : List Str := []
deriving Inhabited

def plainName (x : Str) : Bool := !(x == ("__debug__" : Str)) && !(x == ("__classdict__" : Str)) && !(x == ("__name__" : Str))
def isVis (sc : Scope) (x : Str) : Bool := match sc.names.lookup x with
  | some .local => true
  | some .cell => true
  | some .free => true
  | _ => false
def isGl (sc : Scope) (x : Str) : Bool := match sc.names.lookup x with
  | some .globalImplicit => true
  | _ => false
def isLoc (sc : Scope) (x : Str) : Bool := match sc.names.lookup x with
  | some .local => true
  | some .cell => true
  | _ => false
/-- a built-in's name, not hidden -/
def isBl (G : Cfg) (sc : Scope) (x : Str) : Bool := isGl sc x && G.bl.contains x && plainName x
def fnIx (G : Cfg) (x : Str) : Option Nat := G.fns.findIdx? fun p => p.1 == x
def biOf (x : Str) : Option Bi :=
  if x == ("len" : Str) then some .len else if x == ("tuple" : Str) then some .tuple else if x == ("list" : Str) then some .list
  else if x == ("sorted" : Str) then some .sorted else if x == ("all" : Str) then some .all else if x == ("any" : Str) then some .any
  else if x == ("sum" : Str) then some .sum else if x == ("max" : Str) then some .max else if x == ("min" : Str) then some .min
  else if x == ("int" : Str) then some .int else if x == ("str" : Str) then some .str else if x == ("repr" : Str) then some .repr
  else if x == ("dict" : Str) then some .dict else none
def mtOf (x : Str) : Option Mt :=
  if x == ("append" : Str) then some .append else if x == ("extend" : Str) then some .extend else if x == ("pop" : Str) then some .pop
  else if x == ("insert" : Str) then some .insert else if x == ("reverse" : Str) then some .reverse else if x == ("clear" : Str) then some .clear
  else if x == ("count" : Str) then some .count else if x == ("index" : Str) then some .index else none
def tyOf (x : Str) : Option String :=
  if x == ("int" : Str) then some "int" else if x == ("bool" : Str) then some "bool" else if x == ("tuple" : Str) then some "tuple"
  else if x == ("list" : Str) then some "list" else if x == ("str" : Str) then some "str" else if x == ("dict" : Str) then some "dict" else none
def ownOf (N : List Str) (scope : Scope) : List (Str × Nat) := scope.names.filterMap fun y => match y.2 with
  | .local => (N.idxOf? y.1).map fun i => (y.1, i)
  | .cell => (N.idxOf? y.1).map fun i => (y.1, i)
  | _ => none
def trPt (N : List Str) (sc : Scope) : Expr → Option Pt
  | .Name x _ => if isLoc sc x then (N.idxOf? x).map .nm else none
  | .Tuple es _ _ => (mapO (fun e => match e with
      | .Name x _ => if isLoc sc x then N.idxOf? x else none
      | _ => none) es).map .tp
  | _ => none
def keyC : Option Expr → Option L2.Key
  | some (.Constant (.str x) _ _) => some (Sum.inr x)
  | some (.Constant (.int i) _ _) => some (Sum.inl i)
  | _ => none
def exsOf : List Ex → Exs
  | [] => .nil
  | e :: r => .cons e (exsOf r)
def isRange (G : Cfg) (sc : Scope) : Expr → Option (List Expr)
  | .Call (.Name x _) args [] _ => if x == ("range" : Str) && isBl G sc x && (args.length == 1 || args.length == 2) then some args else none
  | _ => none
def isSet (G : Cfg) (sc : Scope) (x : Str) : Expr → Option Expr
  | .Call (.Name y _) [b] [] _ => if x == ("sorted" : Str) && (y == ("set" : Str) && isBl G sc y) then some b else none
  | _ => none
def isTz (G : Cfg) (sc : Scope) (x : Str) : Expr → Option (Expr × Expr)
  | .Call (.Name y _) [a, b] [] _ => if x == ("tuple" : Str) && (y == ("zip" : Str) && isBl G sc y) then some (a, b) else none
  | _ => none
def isLs (G : Cfg) (sc : Scope) (x : Str) : Expr → Option Expr
  | .Call (.Name y _) [b] [] _ => if x == ("len" : Str) && (y == ("set" : Str) && isBl G sc y) then some b else none
  | _ => none
def isMaxd (G : Cfg) (sc : Scope) (f : Expr) (args : List Expr) (kws : List Keyword) : Option (Expr × Int) := match f, args, kws with
  | .Name y _, [a], [⟨some d, .Constant (.int k) _ _, _⟩] => if y == ("max" : Str) && (d == ("default" : Str) && isBl G sc y) then some (a, k) else none
  | _, _, _ => none
def isZip (G : Cfg) (sc : Scope) (tg : Expr) : Expr → Option (Expr × Expr)
  | .Call (.Name y _) [a, b] [] _ => match tg with
    | .Tuple _ _ _ => if y == ("zip" : Str) && isBl G sc y then some (a, b) else none
    | _ => none
  | _ => none
/-- a dict of the module -/
def isDc (G : Cfg) (sc : Scope) : Expr → Option (List (Str × Int))
  | .Name x _ => if isGl sc x && plainName x then G.dc.lookup x else none
  | _ => none
/-- stored from the right, as two swapped stores -/
def parOk (es vs : List Expr) : Bool := (match es with
  | [.Name x p, .Name y q] => (q.line == p.line) && !(x == y)
  | _ => false) && !(vs.all (foldedForSure 8)) && !(vs.all (constantsAlone 8))
/-- two or three unlike local names -/
def locs (N : List Str) (sc : Scope) : List Expr → Option (List Nat)
  | [] => some []
  | .Name x _ :: r => match sc.names.lookup x, N.idxOf? x, locs N sc r with
    | some .local, some i, some is => if is.contains i then none else some (i :: is)
    | _, _, _ => none
  | _ :: _ => none
def isCall0 : Expr → Bool
  | .Call _ [] [] _ => true
  | _ => false
def isComp : Expr → Bool
  | .ListComp _ _ _ _ => true
  | .SetComp _ _ _ _ => true
  | .DictComp _ _ _ _ _ => true
  | _ => false

/-! exceptions: a class, its fields, the names of the classes that it is -/
def isaOf (xc : List (Str × List Str × List Str)) (y : Str) : List Str := (xc.filter fun e => e.2.2.contains y).map (·.1)
def fldOf (xc : List (Str × List Str × List Str)) (f : Str) : List (Str × Nat) := xc.filterMap fun e => (e.2.1.idxOf? f).map fun j => (e.1, j)
/-- a class by its name: the text's own, or ValueError -/
def isCls (G : Cfg) (sc : Scope) (y : Str) : Bool := isGl sc y && (plainName y && G.xn.contains y)
def clsIs (G : Cfg) (sc : Scope) : Expr → Option (List Str)
  | .Name y _ => if isCls G sc y then some (isaOf G.xc y) else none
  | .Tuple es _ _ => if es.length ≤ 1000 then (mapO (fun e => match e with
      | .Name y _ => if isCls G sc y then some (isaOf G.xc y) else none
      | _ => none) es).map List.flatten else none
  | _ => none
mutual
def trH (G : Cfg) (sc : Scope) (en : Option Str) : Nat → Expr → Option HE
  | 0, _ => none
  | n + 1, e => match e with
    | .Constant c _ _ => match c with
      | .none => some (.cst .non)
      | .bool b => some (.cst (.bl b))
      | .int i => some (.cst (.int i))
      | .str x => some (.cst (.str x))
      | _ => none
    | .Name x _ => if plainName x && (isVis sc x && !(en == some x)) then (G.N.idxOf? x).map .var else none
    | .Call (.Name g _) [.Name a _, y] [] _ => if g == ("isinstance" : Str) && (isBl G sc g && en == some a) then (clsIs G sc y).map .isi else none
    | .Attribute (.Name a _) f _ => if en == some a then some (.fld (fldOf G.xc f)) else none
    | .UnaryOp .Not a _ => (trH G sc en n a).map .not
    | .BoolOp op vs _ => trHB G sc en n op vs
    | .Tuple es _ _ => if es.length ≤ 1000 then (trHs G sc en n es).map .tup else none
    | _ => none
def trHB (G : Cfg) (sc : Scope) (en : Option Str) : Nat → BoolOp → List Expr → Option HE
  | 0, _, _ => none
  | n + 1, op, vs => match vs with
    | [a, b] => match trH G sc en n a, trH G sc en n b with
      | some x, some y => some (match op with | .And => .and x y | .Or => .or x y)
      | _, _ => none
    | a :: b :: c :: r => match trH G sc en n a, trHB G sc en n op (b :: c :: r) with
      | some x, some y => some (match op with | .And => .and x y | .Or => .or x y)
      | _, _ => none
    | _ => none
def trHs (G : Cfg) (sc : Scope) (en : Option Str) : Nat → List Expr → Option HEs
  | 0, _ => none
  | _ + 1, [] => some .nil
  | n + 1, e :: es => match trH G sc en n e, trHs G sc en n es with
    | some x, some xs => some (.cons x xs)
    | _, _ => none
end
mutual
def trK (G : Cfg) (sc : Scope) (en : Option Str) : Nat → Stmt → Option Hs
  | 0, _ => none
  | n + 1, s => match s with
    | .Assign [.Name x _] v _ => if sc.names.lookup x = some .local ∧ en ≠ some x then match G.N.idxOf? x, trH G sc en n v with
        | some i, some e => some (.asg i e)
        | _, _ => none
      else none
    | .If c a b _ => match trH G sc en n c, trKs G sc en n a, trKs G sc en n b with
      | some x, some y, some z => some (.ife x y z)
      | _, _, _ => none
    | _ => none
def trKs (G : Cfg) (sc : Scope) (en : Option Str) : Nat → List Stmt → Option Hss
  | 0, _ => none
  | _ + 1, [] => some .nil
  | n + 1, s :: ss => match trK G sc en n s, trKs G sc en n ss with
    | some x, some xs => some (.cons x xs)
    | _, _ => none
end
def chain3 : Expr → Option (Expr × Expr × Expr × Expr)
  | .Compare a [.LtE, .LtE, .LtE] [b, c, d] _ => some (a, b, c, d)
  | _ => none
def raiseOf : Option Expr → Option Expr → Option (Str × List Expr)
  | some (.Call (.Name c _) (a :: as) [] _), none => some (c, a :: as)
  | _, _ => none
def tryOf : List ExceptHandler → List Stmt → List Stmt → Option (Str × Option Str × List Stmt)
  | [.ExceptHandler (some (.Name y _)) en (b0 :: suite) _], [], [] => some (y, en, b0 :: suite)
  | _, _, _ => none
mutual
def trE (G : Cfg) : Nat → Scope → Expr → Option Ex
  | 0, _, _ => none
  | n + 1, sc, e => match e with
    | .Name x _ => if plainName x then (if isVis sc x then (G.N.idxOf? x).map .var else if isGl sc x then (G.cs.lookup x).map .cst else none) else none
    | .Constant c _ _ => match c with
      | .none => some (.cst .non)
      | .bool b => some (.cst (.bl b))
      | .int i => some (.cst (.int i))
      | .str x => some (.cst (.str x))
      | _ => none
    | .BinOp a op b _ => match trE G n sc a, trE G n sc b with
      | some x, some y => some (.bin op x y)
      | _, _ => none
    | .UnaryOp op a _ => match op with
      | .USub => (trE G n sc a).map .neg
      | .Not => (trE G n sc a).map .not
      | _ => none
    | .Compare a ops bs _ => match ops, bs with
      | [op], [b] => if behindInMarks op b then none else match isDc G sc b with
        | some kvs => match op with
          | .In => (trE G n sc a).map (.dcin kvs)
          | _ => none
        | none => match trE G n sc a, trE G n sc b with
          | some x, some y => some (.cmp op x y)
          | _, _ => none
      | [op, op'], [b, c] => match trE G n sc a, trE G n sc b, trE G n sc c with
        | some x, some y, some z => match op, op' with
          | .LtE, .LtE => some (.chn op op' x y z)
          | .LtE, .Lt => some (.chn op op' x y z)
          | .Lt, .Lt => some (.chn op op' x y z)
          | .Lt, .LtE => some (.chn op op' x y z)
          | _, _ => none
        | _, _, _ => none
      | _, _ => none
    | .BoolOp op vs _ => trB G n sc op vs
    | .IfExp c a b _ => match trE G n sc c, trE G n sc a, trE G n sc b with
      | some x, some y, some z => some (.ite x y z)
      | _, _, _ => none
    | .Tuple es _ _ => if es.length ≤ 1000 then (trEs G n sc es).map .tup else none
    | .List es _ => if es.length ≤ 1000 then (trEs G n sc es).map .lis else none
    | .Subscript o i _ => match i with
      | .Slice lo hi none _ => match trE G n sc o, trO G n sc lo, trO G n sc hi with
        | some x, some y, some z => some (.slc x y z)
        | _, _, _ => none
      | .Slice none none (some (.UnaryOp .USub (.Constant (.int 1) _ _) _)) _ => (trE G n sc o).map .rev
      | .Slice _ _ _ _ => none
      | i => match isDc G sc o with
        | some kvs => (trE G n sc i).map (.dcix kvs)
        | none => match trE G n sc o, trE G n sc i with
          | some x, some y => some (.idx x y)
          | _, _ => none
    | .Call f args kws cpos => match kws with
      | [] => match f with
        | .Name x _ => if isGl sc x && plainName x then match fnIx G x with
            | some i => match G.fns[i]? with
              | some p => if args.length = p.2 then (trEs G n sc args).map (.call i) else none
              | none => none
            | none => if G.bl.contains x then match args with
                | [a, .Name c _] => if x == ("isinstance" : Str) then (if isBl G sc c then match tyOf c, trE G n sc a with
                      | some t, some y => some (.isi y t)
                      | _, _ => none else none)
                    else match biOf x with
                      | some b => (trEs G n sc args).map (.bif b)
                      | none => none
                | [a] => match isRange G sc a with
                  | some rs => if x == ("tuple" : Str) then (trEs G n sc rs).map (.rngl true) else if x == ("list" : Str) then (trEs G n sc rs).map (.rngl false) else none
                  | none => match isSet G sc x a with
                    | some b => (trE G n sc b).map .sset
                    | none => match isTz G sc x a with
                      | some (u, v) => (trEs G n sc [u, v]).map .tzip
                      | none => match isLs G sc x a with
                        | some b => (trE G n sc b).map .lset
                        | none => match biOf x with
                          | some b => (trEs G n sc args).map (.bif b)
                          | none => none
                | [] => none
                | _ => match biOf x with
                  | some b => (trEs G n sc args).map (.bif b)
                  | none => none
              else none
          else none
        | .Attribute o m apos => if m == ("get" : Str) then (match args with
            | [a, b] => if isCall0 o || !(apos.endLine == cpos.line) then none else match trE G n sc o, trE G n sc a, trE G n sc b with
              | some x, some y, some z => some (.dget x y z)
              | _, _, _ => none
            | [a] => if isCall0 o || !(apos.endLine == cpos.line) then none else match trE G n sc o, trE G n sc a with
              | some x, some y => some (.dget x y (.cst .non))
              | _, _ => none
            | _ => none) else if isCall0 o || !(apos.endLine == cpos.line) || decide (30 ≤ args.length) then none
          else if m == ("upper" : Str) then (match args with
            | [] => (trE G n sc o).map .sup
            | _ => none)
          else if m == ("join" : Str) then (match args with
            | [a] => match trE G n sc o, trE G n sc a with
              | some x, some y => some (.sjn x y)
              | _, _ => none
            | _ => none)
          else match mtOf m, trE G n sc o, trEs G n sc args with
          | some k, some y, some as => some (.mth k y as)
          | _, _, _ => none
        | _ => none
      | _ => match isMaxd G sc f args kws with
        | some (a, k) => (trE G n sc a).map (.maxd k)
        | none => none
    | .ListComp elt gens scope _ => match gens with
      | [⟨tg, iter, ifs, 0⟩] => if L2.blkC G.N sc scope (ownOf G.N scope) then match trI G n sc tg iter, trPt G.N scope tg, trC G n (L2.relS scope sc) ifs, trE G n (L2.relS scope sc) elt with
          | some (ik, as), some t, some c, some x => some (.lc ik as t ((ownOf G.N scope).map (·.2)) c x)
          | _, _, _, _ => none
        else none
      | _ => none
    | .Dict ks vs _ => if decide (ks.length = vs.length) && decide (ks.length ≤ 15) then match mapO keyC ks, trEs G n sc vs with
        | some k, some v => some (.dsp k v)
        | _, _ => none
      else none
    | _ => none
def trEs (G : Cfg) : Nat → Scope → List Expr → Option Exs
  | 0, _, _ => none
  | _ + 1, _, [] => some .nil
  | n + 1, sc, e :: r => match trE G n sc e, trEs G n sc r with
    | some x, some xs => some (.cons x xs)
    | _, _ => none
def trB (G : Cfg) : Nat → Scope → BoolOp → List Expr → Option Ex
  | 0, _, _, _ => none
  | n + 1, sc, _, [a] => trE G n sc a
  | n + 1, sc, op, a :: b :: r => match trE G n sc a, trB G n sc op (b :: r) with
    | some x, some y => some (match op with | .And => .and x y | .Or => .or x y)
    | _, _ => none
  | _ + 1, _, _, [] => none
def trO (G : Cfg) : Nat → Scope → Option Expr → Option Ex
  | 0, _, _ => none
  | _ + 1, _, none => some .nop
  | n + 1, sc, some e => match trE G n sc e with
    | some x => if isNop x then none else some x
    | none => none
def trC (G : Cfg) : Nat → Scope → List Expr → Option Ex
  | 0, _, _ => none
  | _ + 1, _, [] => some (.cst (.bl true))
  | n + 1, sc, [c] => trE G n sc c
  | _ + 1, _, _ => none
def trI (G : Cfg) : Nat → Scope → Expr → Expr → Option (IK × Exs)
  | 0, _, _, _ => none
  | n + 1, sc, tg, e => match isRange G sc e with
    | some rs => (trEs G n sc rs).map fun as => (.rng, as)
    | none => match isZip G sc tg e with
      | some (a, b) => (trEs G n sc [a, b]).map fun as => (.zip, as)
      | none => (trE G n sc e).map fun x => (.seq, .cons x .nil)
end
mutual
def trS (G : Cfg) : Nat → Scope → Stmt → Option St
  | 0, _, _ => none
  | n + 1, sc, s => match s with
    | .Assign ts v _ => match ts with
      | [.Name x p] => match trPt G.N sc (.Name x p), trE G n sc v with
        | some t, some e => some (.asg t e)
        | _, _ => none
      | [.Tuple es k p] => match v with
        | .Tuple vs _ _ => if decide (es.length = 2) && decide (vs.length = 2) && parOk es vs then match locs G.N sc es, trEs G n sc vs with
            | some is, some as => some (.par is as)
            | _, _ => none
          else none
        | v => if isComp v then (match trPt G.N sc (.Tuple es k p), trE G n sc v with
            | some (.tp is), some e => some (.unl is e)
            | _, _ => none) else match trPt G.N sc (.Tuple es k p), trE G n sc v with
          | some t, some e => some (.asg t e)
          | _, _ => none
      | [.Subscript o i _] => match i with
        | .Slice (some a) (some b) none _ => match trE G n sc v, trE G n sc o, trE G n sc a, trE G n sc b with
          | some e, some y, some l, some h => some (.slw y l h e)
          | _, _, _, _ => none
        | .Slice _ _ _ _ => none
        | i => match trE G n sc v, trE G n sc o, trE G n sc i with
          | some e, some y, some z => some (.six y z e)
          | _, _, _ => none
      | _ => none
    | .Expr e _ => if isComp e then none else (trE G n sc e).map .exp
    | .Return e _ => match e with
      | some v => match chain3 v with
        | some (a, b, c, d) => match trE G n sc a, trE G n sc b, trE G n sc c, trE G n sc d with
          | some x, some y, some z, some w => some (.ret (.ch3 x y z w))
          | _, _, _, _ => none
        | none => (trE G n sc v).map .ret
      | none => some .retn
    | .If c a b _ => match trE G n sc c, trSs G n sc a, trSs G n sc b with
      | some x, some y, some z => some (.ife x y z)
      | _, _, _ => none
    | .For tg iter b els _ => match els with
      | [] => match trPt G.N sc tg, trI G n sc tg iter, trSs G n sc b with
        | some t, some (ik, as), some y => some (.forr ik as t y)
        | _, _, _ => none
      | _ => none
    | .While c b els _ => match els with
      | [] => match trE G n sc c, trSs G n sc b with
        | some x, some y => some (.whl x y)
        | _, _ => none
      | _ => none
    | .Pass _ => some .pas
    | .Break _ => some .brk
    | .Continue _ => some .cnt
    | .Raise q u _ => match raiseOf q u with
      | some (c, as) => if isGl sc c && plainName c then match G.xc.lookup c, trEs G n sc as with
        | some e, some xs => if e.1.length = as.length then some (.rse c xs) else none
        | _, _ => none
        else none
      | none => none
    | .Try body hs o f _ => match tryOf hs o f with
      | some (y, some m, suite) => if isCls G sc y then (if sc.names.lookup m = some .local ∧ plainName m = true then match G.N.idxOf? m, trSs G n sc body, trKs G sc (some m) n suite with
            | some i, some xs, some h => some (.tri xs (isaOf G.xc y) (some i) h)
            | _, _, _ => none
          else none) else none
      | some (y, none, suite) => if isCls G sc y then match trSs G n sc body, trKs G sc none n suite with
            | some xs, some h => some (.tri xs (isaOf G.xc y) none h)
            | _, _ => none
          else none
      | none => none
    | _ => none
def trSs (G : Cfg) : Nat → Scope → List Stmt → Option Sts
  | 0, _, _ => none
  | _ + 1, _, [] => some .nil
  | n + 1, sc, s :: r => match trS G n sc s, trSs G n sc r with
    | some x, some xs => some (.cons x xs)
    | none, some xs => some (.cons .bad xs)
    | _, _ => none
end
/-- the names of a def by slot: its parameters, its other names, those of its comprehensions -/
def trF (G : Cfg) (st : Stmt) (np : Nat) : Option Fn := (trSs G 200 (L2.defScope st) (L2.defBody st)).map fun b => ⟨np, G.N.length, b⟩
end Rf

/-! Rf: set(xs) of a list of ints. -/
namespace Rf
open PySem PySem.Spec PyProof.Rows L2
abbrev set0 (w : World) : Obj := { cls := .type "set", dict := none, data := .set #[] 0 (.fresh 0 0 (!w.params.followText "set-order")) }
section
variable {P : Program} {w : World} {A : Around} {E : Value → Shared → Prop} {s : Shared}
/-- a class is called: its __new__, then its __init__, each by what its call does -/
theorem class_call {T mk ini : String} {args : List Value} {Q Mid : Value → Shared → Prop} (ft : TypeCalled T mk ini) (ck : checkTypeCall T ⟨args, []⟩ = pure ())
    (new : codeAny (model P w) A.in1 (.call (.builtin mk) ⟨.type T :: args, []⟩) (wants Mid E) s)
    (init : ∀ v t, Mid v t → t.TypeIs v T ∧ codeAny (model P w) A.in1 (.call (.builtin ini) ⟨v :: args, []⟩) (wants (fun r u => r = .none ∧ Q v u) E) t) :
    wpAny (model P w) A (call (.type T) args) Q E s := by
  have f1 := ft.made; have f2 := ft.sub; have f3 := ft.notType; have f4 := ft.canCreate
  obtain ⟨_, _, f5⟩ := ft.mro
  apply wpAny_call
  apply codeAny_of_tree
  change wpAny _ _ (callAny (.type T) ⟨args, []⟩) _ _ _
  apply wpAny_pure
  refine ⟨Code.quiet_builtin _ (by decide +kernel), ?_⟩
  apply codeAny_builtin F.entry_type_call
  rw [Around.under_plain (weight_type_call_type T args []) rfl]
  repeat (any_goals first | assumption | wp_step)
  apply codeAny_mono new
  intro r t hr
  match r, hr with
  | .error e, hr => exact hr
  | .ok .next, hr => exact hr.elim
  | .ok .brk, hr => exact hr.elim
  | .ok .cont, hr => exact hr.elim
  | .ok (.ret v), hr =>
    obtain ⟨g0, g1⟩ := init v t hr
    have g2 := ft.init.lookup; have g3 := ft.init.bind v
    repeat (any_goals first | assumption | wp_step)
    apply codeAny_mono g1
    intro r2 u hu
    match r2, hu with
    | .error e, hu => exact hu
    | .ok .next, hu => exact hu.elim
    | .ok .brk, hu => exact hu.elim
    | .ok .cont, hu => exact hu.elim
    | .ok (.ret x), hu =>
      obtain ⟨rfl, hq⟩ := hu
      repeat (any_goals first | assumption | wp_step)
theorem set_of_list {l : Addr} {its : Array Value} (ns : List Int) {Q : Value → Shared → Prop} (calm : A.handled = none) (at_ : s.heap.IsList l its) (vals : IntsAre its.toList ns) (few : ns.length + 1 < scanBound)
    (go : ∀ (k : Heap) (tk c : Nat), SetR w k s.heap.objs.size (fun j => decide (j ∈ ns)) c → c ≤ ns.length → (∀ b o, s.heap.get? b = some o → k.get? b = some o) → Q (.ref s.heap.objs.size) { s with heap := k, toks := tk }) :
    wpAny (model P w) A (call (.type "set") [.ref l]) Q E s := by
  refine class_call F.called_set (F.typeCall_set_1 (.ref l)) (Mid := fun v t => v = .ref s.heap.objs.size ∧ t = { s with heap := s.heap.push (set0 w) }) (code_set_led1 (.ref l) ⟨rfl, rfl⟩) ?_
  rintro v t ⟨rfl, rfl⟩
  have new : (s.heap.push (set0 w)).get? s.heap.objs.size = some (set0 w) := Heap.get?_push_size _ rfl
  have ty : Shared.TypeIs { s with heap := s.heap.push (set0 w) } (.ref s.heap.objs.size) "set" := ⟨_, new, rfl⟩
  refine ⟨ty, codeAny_call_builtin F.called_set.init.plain F.entry_set_init (check_set_init_1 ty ?_)⟩
  obtain ⟨⟨k1, k2, k3, k4⟩, ho, e1, n, e2⟩ := at_
  cases e1
  cases e2
  have ho1 : (s.heap.push (set0 w)).get? l = some ⟨.type "list", k2, .seq its n, k4⟩ := Heap.get?_push_of_some _ ho
  have f1 := F.sub_list_set; have f2 := F.sub_list_frozenset
  have f3 : (Value.type "list" == Value.type "dict") = false := by decide
  have isl : (s.heap.push (set0 w)).IsList l its := ⟨_, ho1, rfl, n, rfl⟩
  unfold Builtin.«set.__init__» noKeywords Builtin.Frozenset.updateFrom
  generalize ei : pyIter = it
  wp_walk
  subst ei
  have lt : l < s.heap.objs.size := Heap.lt_size ho
  have sz : its.size = ns.length := by simpa using IntsAre.length vals
  have z1 : (s.heap.push (set0 w)).objs.size = s.heap.objs.size + 1 := Heap.size_push ..
  apply wpAny_pyIter_list isl
  apply wpAny_bind
  apply wpAny_runValue
  have out : s.heap.objs.size ∉ [(s.heap.push (set0 w)).objs.size, l] := fun m => by
    rcases List.mem_cons.mp m with e | m
    · rw [z1] at e; exact absurd e (Nat.ne_of_lt (Nat.lt_succ_self _))
    · rw [List.mem_singleton.mp m] at lt; exact absurd lt (Nat.lt_irrefl _)
  have W := (Walks.list (prog := P) (w := w) (A := A.in1.in1.in1) (by simp [calm]) (s.heap.push (set0 w)).objs.size l (fun e => by rw [e, z1] at lt; exact absurd lt (Nat.not_lt.mpr (Nat.le_succ _))) its).toS
  refine set_update_ints W s.heap.objs.size out ns sz few (fun i v hv => ?_) (its.size - 0) 0 _ rfl (Nat.zero_le _) ⟨⟨_, Heap.get?_push_size _ rfl, rfl, rfl⟩, isl.push _⟩ ⟨0, Nat.le_refl 0, setR_new_at (Heap.get?_push_of_some _ new)⟩ ?_
  · obtain ⟨tk, e⟩ := vals.int_at i v (by simpa using hv)
    have hi : i < ns.length := by
      rw [← sz]
      exact (Array.getElem?_eq_some_iff.mp hv).1
    exact ⟨ns[i], tk, List.getElem?_eq_getElem hi, by rw [e]; simp [List.getD_eq_getElem?_getD, hi]⟩
  · rintro ⟨h2, g2, d2, tk2, os2⟩ c hm hc hS
    obtain rfl : g2 = s.gens := hm.gens
    obtain rfl : d2 = s.drawn := hm.drawn
    obtain rfl : os2 = s.os := hm.os
    change wpAny _ _ (pure ()) _ _ _
    apply wpAny_pure
    change wpAny _ _ (ret Value.none) _ _ _
    apply wpAny_pure
    refine ⟨rfl, go h2 tk2 c hS (by omega) fun b o e => ?_⟩
    have := Heap.lt_size e
    refine hm.heap b o ?_ (Heap.get?_push_of_some _ (Heap.get?_push_of_some _ e))
    intro m
    rcases List.mem_cons.mp m with e | m
    · rw [e] at this; exact absurd this (Nat.lt_irrefl _)
    · rw [List.mem_singleton.mp m, z1] at this; exact absurd this (Nat.not_lt.mpr (Nat.le_succ _))
end
end Rf

/-! Rf: a tuple times one, times nought. -/
namespace Rf
open PySem PySem.Spec PyProof.Rows L2
theorem tup_one (l : Addr) (items : Array Value) (n : Nat) (dd : Option Addr) (sl : Array (Option Value)) (u : Tok) :
    Meets (Builtin.«tuple.__mul__» ⟨[.ref l, .int 1 u], []⟩) (fun _ R s => s.heap.get? l = some { cls := .type "tuple", dict := dd, data := .seq items n, slots := sl } ∧ R (.ok (.ret (Value.ref l))) s) :=
  .of_wp fun prog w A R s h => by
    obtain ⟨hp, g, d, tk, os⟩ := s
    obtain ⟨hl, h⟩ := h
    have f1 := AutoSeq1.idx_int
    wp_walk using wpAny_loadPart' hl
    exact ⟨_, rfl, h⟩
theorem tup_nought (l : Addr) (items : Array Value) (n : Nat) (dd : Option Addr) (sl : Array (Option Value)) (u : Tok) (c1 : items.isEmpty = false) :
    Meets (Builtin.«tuple.__mul__» ⟨[.ref l, .int 0 u], []⟩) (fun _ R s => s.heap.get? l = some { cls := .type "tuple", dict := dd, data := .seq items n, slots := sl } ∧
      R (.ok (.ret (Value.ref s.heap.objs.size))) { s with heap := s.heap.push { cls := Value.type "tuple", data := Data.seq #[] } }) :=
  .of_wp fun prog w A R s h => by
    obtain ⟨hp, g, d, tk, os⟩ := s
    obtain ⟨hl, h⟩ := h
    have f1 := AutoSeq1.idx_int
    wp_walk using wpAny_loadPart' hl
    try (refine wpAny_ite_false (decide_eq_false (by rw [c1]; decide)) ?_; wp_walk using wpAny_loadPart' hl)
    exact ⟨_, rfl, h⟩
section
variable {X : Cx}
def rRep1 (K : PySem.W.Frag) : R2 := fun x y H Q => ∃ l xs, x = .ref l ∧ y = .int 1 ∧ SqT K H l xs ∧ Q (.ref l) H
def rRep0 (K : PySem.W.Frag) : R2 := fun x y H Q => ∃ l xs, x = .ref l ∧ y = .int 0 ∧ SqT K H l xs ∧ xs ≠ [] ∧ ∀ p, H p = none → Q (.ref p) (upd H p (.tup []))
theorem op_rep1 : OpR X (binaryOp .Mult) (rRep1 X.K) := by
  intro pins s σ H x y v u Q I rx ry h
  obtain ⟨l, xs, rfl, rfl, hT, q⟩ := h
  cases rx
  obtain ⟨t, rfl⟩ := ry
  obtain ⟨its, r, ⟨⟨cls, dd, data, sl⟩, ho, hc, n, hd⟩, hs⟩ := I.tuple hT
  simp only at hc hd
  subst hc hd
  exact wpAny_binaryOp_repeat_ref (T := "tuple") (U := "int") (by decide) ⟨_, ho, rfl⟩ (fun s' => typeIs_int s' 1 t) noFill_tuple_mul F.fills_int_mul F.slot_int_rmul repeat_tuple F.slot_int_index.lookup
    (call_meets F.slot_int_rmul (typeIs_int s 1 t) F.entry_int_rmul (F.args_int_rmul_2 _ _) (int_rmul_tuple 1 t l its.toArray n dd sl)
      ⟨ho, rfl, ⟨_, ho, rfl⟩, call_meets F.slot_tuple_mul ⟨_, ho, rfl⟩ F.entry_tuple_mul (F.args_tuple_mul_2 _ _) (tup_one l its.toArray n dd sl t) ⟨ho, ⟨.ref l, H, I, rfl, q⟩⟩⟩)
theorem op_rep0 : OpR X (binaryOp .Mult) (rRep0 X.K) := by
  intro pins s σ H x y v u Q I rx ry h
  obtain ⟨l, xs, rfl, rfl, hT, hne, q⟩ := h
  cases rx
  obtain ⟨t, rfl⟩ := ry
  obtain ⟨its, r, ⟨⟨cls, dd, data, sl⟩, ho, hc, n, hd⟩, hs⟩ := I.tuple hT
  simp only at hc hd
  subst hc hd
  have hi : its.toArray.isEmpty = false := by
    cases its with
    | nil => exact absurd (List.eq_nil_of_length_eq_zero r.length) hne
    | cons a b => rfl
  refine wpAny_binaryOp_repeat_ref (T := "tuple") (U := "int") (by decide) ⟨_, ho, rfl⟩ (fun s' => typeIs_int s' 0 t) noFill_tuple_mul F.fills_int_mul F.slot_int_rmul repeat_tuple F.slot_int_index.lookup
    (call_meets F.slot_int_rmul (typeIs_int s 0 t) F.entry_int_rmul (F.args_int_rmul_2 _ _) (int_rmul_tuple 0 t l its.toArray n dd sl)
      ⟨ho, rfl, ⟨_, ho, rfl⟩, call_meets F.slot_tuple_mul ⟨_, ho, rfl⟩ F.entry_tuple_mul (F.args_tuple_mul_2 _ _) (tup_nought l its.toArray n dd sl t hi) ⟨ho, ?_⟩⟩)
  exact ⟨.ref s.heap.objs.size, _, I.laid (t' := s.toks) (o := .tup []) (fun b ob q => Heap.get?_push_of_some _ q) (Nat.le_refl _) ⟨Nat.zero_le _, [], .nil, IsTup.new _ _⟩, rfl, q _ (I.hok.fresh (Nat.le_refl _))⟩
end
end Rf

/-! Rf: a new tuple is followed with its object, which has no dict of its own. -/
namespace Rf
open PySem PySem.Spec PyProof.Rows L2
/-- what a new tuple must answer -/
def NewT (xs : List V) (H : Hp) (Q : VK) : Prop := ∀ p ob, H p = none → ob.dict = none → Q (.ref p) (upd H p (.frz ob (.tup xs)))
section
variable {X : Cx} {pins : List (Addr × Obj)} {σ : L2.St} {H : Hp} {s : Shared}
theorem lay_tup {xs : List V} {its : List Value} {t : Nat} {Q : VK} (I : Inv X pins σ H s) (r : Vals xs its) (z : xs.length ≤ sizeLine) (q : NewT xs H Q) :
    ∃ v H', Inv X pins σ H' { s with heap := s.heap.push { cls := .type "tuple", data := .seq its.toArray }, toks := t } ∧ RelV v (.ref s.heap.objs.size) ∧ Q v H' := by
  have e := Heap.get?_push_size s.heap (o := { cls := .type "tuple", data := .seq its.toArray }) rfl
  refine ⟨.ref _, _, I.laid (t' := t) (o := .frz _ (.tup xs)) (fun _ _ k => Heap.get?_push_of_some _ k) (Nat.le_refl _) ⟨e, z, its, r, IsTup.new _ _⟩, rfl, q _ _ ?_ rfl⟩
  exact I.hok.fresh (Nat.le_refl _)
end
section
variable {X : Cx} {e : Expr} {es : List Expr} {pos : Pos} {t : TA}
def tTupN (t : TA) : TE := fun σ H Q => t σ H fun xs H1 => xs.length ≤ sizeLine ∧ NewT xs H1 Q
theorem pe_tupN {x1} (h : PA X es t) : PE X (.Tuple es x1 pos) (tTupN t) := .mk fun pins s σ H Q I hq =>
  wpAny_Tuple_spliced (thn (h.run pos pins s σ H _ I hq) fun us s1 c => by
    obtain ⟨xs, H1, J, r, z, q⟩ := c
    exact ⟨by have := r.length; omega, lay_tup J r z q⟩)
def rTupN (K : PySem.W.Frag) : List V → Hp → VK → Prop := fun xs H Q => ∃ p ys, xs = [.ref p] ∧ ((SqL K H p ys ∧ NewT ys H Q) ∨ (SqT K H p ys ∧ Q (.ref p) H))
theorem call_tupN : CallR X (.type "tuple") (rTupN X.K) := by
  rintro pins s σ H xs us Q I r ⟨p, ys, rfl, h⟩
  obtain ⟨u, rfl, ru⟩ := vals1 r
  cases ru
  rcases h with ⟨hl, q⟩ | ⟨ht, q⟩
  · obtain ⟨its, r2, pl, z⟩ := I.list hl
    have := r2.length
    refine call_tuple_list pl.isList (fun h' kp => lay_tup (s := { s with heap := h' }) (I.kept (t' := s.toks) kp) r2 z q) ?_
    simp only [List.size_toArray]; omega
  · obtain ⟨its, _, pl, _⟩ := I.tuple ht
    exact call_tuple_same pl ⟨.ref p, _, I, rfl, q⟩
def rCatN (K : PySem.W.Frag) : R2 := fun x y H Q => ∃ a b xs ys, x = .ref a ∧ y = .ref b ∧ SqT K H a xs ∧ SqT K H b ys ∧ xs.length + ys.length ≤ sizeLine ∧
  (xs = [] → Q (.ref b) H) ∧ (xs ≠ [] → ys = [] → Q (.ref a) H) ∧ (xs ≠ [] → ys ≠ [] → NewT (xs ++ ys) H Q)
theorem op_catN : OpR X (binaryOp .Add) (rCatN X.K) := by
  rintro pins s σ H x y v u Q I rx ry ⟨a, b, xs, ys, rfl, rfl, ha, hb, hz, q0, q1, q2⟩
  cases rx; cases ry
  obtain ⟨its, r1, p1, -⟩ := I.tuple ha
  obtain ⟨its2, r2, p2, -⟩ := I.tuple hb
  by_cases hx : xs = []
  · subst hx
    cases r1
    exact cat_tup0 p1 p2 ⟨.ref b, _, I, rfl, q0 rfl⟩
  · have l1 := r1.length
    have l2 := r2.length
    exact HT.cat_tup p1 p2 (fun z => hx (r1.nil_iff.mp z)) (fun z => ⟨.ref a, _, I, rfl, q1 hx (r2.nil_iff.mp z)⟩)
      (fun z => lay_tup I (r1.append r2) (by rw [List.length_append]; exact hz) (q2 hx fun w => z (r2.nil_iff.mpr w))) (by omega)
def rSlN (K : PySem.W.Frag) : V → Option Int → Option Int → Hp → VK → Prop := fun x lo hi H Q => ∃ a xs, x = .ref a ∧ SqT K H a xs ∧
  (HT.sIx xs.length 0 lo = 0 ∧ HT.sIx xs.length xs.length hi = xs.length → Q (.ref a) H) ∧
  (¬ (HT.sIx xs.length 0 lo = 0 ∧ HT.sIx xs.length xs.length hi = xs.length) → NewT (cutV xs lo hi) H Q)
theorem sl_tupN : SlR X (rSlN X.K) := by
  rintro pins s σ H x v vl vu lo hi sl Q I rx hs pl pu ⟨a, xs, rfl, hx, q1, q2⟩
  cases rx
  obtain ⟨its, r, ht, hz⟩ := I.tuple hx
  have hn : its.toArray.size = xs.length := by have := r.length; simp; omega
  refine ⟨"tuple", _, slot_tuple_getitem.lookup, ht.typeIs, ?_⟩
  by_cases hw : HT.sIx xs.length 0 lo = 0 ∧ HT.sIx xs.length xs.length hi = xs.length
  · exact getItem_tuple_whole ht hs pl pu (hn ▸ hw) ⟨.ref a, _, I, rfl, q1 hw⟩
  · refine HT.getItem_tuple_cut ht hs pl pu (hn ▸ hw) ?_ (hn ▸ hz)
    rw [hn]
    exact lay_tup I ((r.drop _).take _) (Nat.le_trans (cutV_length ..) hz) (q2 hw)
def rRepN (K : PySem.W.Frag) : R2 := fun x y H Q => ∃ l k xs, x = .ref l ∧ y = .int k ∧ SqT K H l xs ∧ xs ≠ [] ∧ 0 ≤ k ∧ k ≤ 1000 ∧ xs.length ≤ 1000 ∧
  (k = 1 → Q (.ref l) H) ∧ (k ≠ 1 → NewT (List.replicate k.toNat xs).flatten H Q)
theorem op_repN : OpR X (binaryOp .Mult) (rRepN X.K) := by
  rintro pins s σ H x y v u Q I rx ry ⟨l, k, xs, rfl, rfl, hT, hne, h1, h2, hz, qa, qb⟩
  by_cases k1 : k = 1
  · subst k1
    exact op_rep1 pins s σ H _ _ v u Q I rx ry ⟨l, xs, rfl, rfl, hT, qa rfl⟩
  cases rx
  obtain ⟨t, rfl⟩ := ry
  obtain ⟨its, r, ⟨⟨cls, dd, data, sl⟩, ho, hc, n, hd⟩, hs⟩ := I.tuple hT
  simp only at hc hd
  subst hc hd
  have hl : xs.length = its.length := r.length
  have hp : 0 < its.length := by rw [← hl]; exact List.length_pos_iff.mpr hne
  have hi : its.toArray.isEmpty = false := by simp; intro e; simp [e] at hp
  refine wpAny_binaryOp_repeat_ref (T := "tuple") (U := "int") (by decide) ⟨_, ho, rfl⟩ (fun _ => typeIs_int _ k t) noFill_tuple_mul F.fills_int_mul F.slot_int_rmul repeat_tuple F.slot_int_index.lookup ?_
  refine call_meets F.slot_int_rmul (typeIs_int s k t) F.entry_int_rmul (F.args_int_rmul_2 _ _) (int_rmul_tuple k t l _ n dd sl) ⟨ho, rfl, ⟨_, ho, rfl⟩, ?_⟩
  by_cases k0 : k = 0
  · subst k0
    exact call_meets F.slot_tuple_mul ⟨_, ho, rfl⟩ F.entry_tuple_mul (F.args_tuple_mul_2 _ _) (tup_nought l _ n dd sl t hi) ⟨ho, lay_tup I .nil (Nat.zero_le _) (qb (by decide))⟩
  · have hm : its.length * k.toNat ≤ 1000 * 1000 := Nat.mul_le_mul (by omega) (by omega)
    have hm' : ((its.toArray.size : Nat) : Int) * k ≤ 1000000 := by
      have e : k = ((k.toNat : Nat) : Int) := by omega
      rw [List.size_toArray, e, ← Int.natCast_mul]
      omega
    have hf : (List.replicate k.toNat xs).flatten.length ≤ sizeLine := by
      rw [lm_len_rep_flat, sizeLine_eq, hl, Nat.mul_comm]
      omega
    have hg : (List.replicate k.toNat its).flatten.length ≤ sizeLine := by
      rw [lm_len_rep_flat, ← hl, ← lm_len_rep_flat]
      exact hf
    refine call_meets F.slot_tuple_mul ⟨_, ho, rfl⟩ F.entry_tuple_mul (F.args_tuple_mul_2 _ _) (tuple_mulW l _ n dd sl k t ?_ ?_ ?_ ?_ ?_ ?_) ⟨ho, ?_⟩
    · simp; omega
    · rw [hi]; simp; omega
    · rw [hi]; simp; omega
    · omega
    · unfold Builtin.Tuple.tupleTooMany
      rw [sizeLine_eq]
      simp only [decide_eq_false_iff_not]
      omega
    · rw [size_rep, List.size_toArray]; exact hg
    · rw [size_rep]
      exact lay_tup I (r.rep k.toNat) hf (qb k1)
abbrev RTr := L2.St → Hp → (Int → Int → Hp → Prop) → Prop
def tTupRgN (te : RTr) : TE := fun σ H Q => te σ H fun a b H1 => RgOk a b ∧ NewT (rgV a b) H1 Q
theorem pe_tupRgN {p : Pos} {te : RTr} (hc : X.calm = true) (hg : Gl X "tuple") (hm : X.mg "tuple" = none) (he : PRg X e te)
    (na : starEach [e] X.env = (false, eval e X.env) :: starEach [] X.env := by rfl) : PE X (.Call (.Name "tuple" p) [e] [] pos) (tTupRgN te) := .mk fun pins s σ H Q I h => by
  refine Call_ (ld_blt I hg hm boot_tuple (callWith_type1 (args_cons (thn (he pins s σ H _ I h) fun x s1 c => args_nil ?_) na) na))
  obtain ⟨r, a, b, t, u, v, H1, rfl, hr, J, ok, q⟩ := c
  have ok' := ok
  obtain ⟨b1, b2, b3, b4, b5⟩ := ok'
  refine call_tuple_range (n := (b - a).toNat) (J.ok.hd hc) hr (small_one b1 b2 b3 b4) (rangeSize_nat a b) b5 fun h' tk acc hk hi => ?_
  have z : (rgV a b).length ≤ sizeLine := by rw [rgV_length, sizeLine_eq]; omega
  have := lay_tup (s := { s1 with heap := h', toks := tk }) (t := tk) (J.kept (t' := tk) hk) (vals_rg hi) z q
  rw [Array.toArray_toList] at this
  exact this
end
end Rf

/-! Rf: dict(t) of a tuple of pairs that has no dict of its own. -/
namespace Rf
open PySem PySem.Spec PyProof.Rows L2
/-- the object has no dict of its own -/
def PlnT (K : PySem.W.Frag) (H : Hp) (a : Addr) : Prop := (∃ o u, H a = some (.frz o u) ∧ o.dict = none) ∨ ∃ o, K.lookup a = some o ∧ o.dict = none
section
variable {X : Cx} {pins : List (Addr × Obj)} {σ : L2.St} {H : Hp} {s : Shared}
theorem plain_seq {a : Addr} {xs : List V} (I : Inv X pins σ H s) (h : SqT X.K H a xs) (p : PlnT X.K H a) : ∃ its, Vals xs its ∧ PlainSeq "tuple" s.heap a its.toArray ∧ xs.length ≤ sizeLine := by
  obtain ⟨its, r, ⟨o, ho, hc, n, hd⟩, z⟩ := I.tuple h
  refine ⟨its, r, ⟨o, n, ho, hc, ?_, hd⟩, z⟩
  rcases p with ⟨o', u, e, d⟩ | ⟨o', e, d⟩
  · rw [(I.hok a _ e).1] at ho; cases ho; exact d
  · rw [I.kIn a o' e] at ho; cases ho; exact d
def rDictT (K : PySem.W.Frag) : List V → Hp → VK → Prop := fun xs H Q => ∃ (a : Addr) (ps : List Addr) (kvs : List (Key × V)), xs = [.ref a] ∧ SqT K H a (ps.map V.ref) ∧ PlnT K H a ∧
  Paired (fun p kv => SqT K H p [kV kv.1, kv.2]) ps kvs ∧ ∀ p, H p = none → Q (.ref p) (upd H p (.dK (mergeK [] kvs)))
theorem call_dictT (hcalm : X.calm = true) : CallR X (.type "dict") (rDictT X.K) := by
  rintro pins s σ H xs us Q I r ⟨a, ps, kvs, rfl, hq, hpl, hp, q⟩
  obtain ⟨u, rfl, rx⟩ := vals1 r
  cases rx
  obtain ⟨its, rv, pl, hz⟩ := plain_seq I hq hpl
  cases refs_at rv
  obtain ⟨prs, rel, hl, hpr⟩ := pairs_of I hp
  rw [List.length_map] at hz
  have hk : ∀ j (h : j < prs.length), ∃ k : Value, (ps.map Value.ref).toArray[j]? = some (.ref (ps.getD j 0)) ∧ PairAt s.heap (ps.getD j 0) k (prs[j]).2 ∧ keyIs (prs[j]).1 k = true := fun j h => by
    obtain ⟨b, k, e1, e2, e3⟩ := hpr j _ (List.getElem?_eq_getElem h)
    refine ⟨k, by simp [e1], .inl ?_, e3⟩
    simp only [List.getD_eq_getElem?_getD, e1, Option.getD_some]
    exact e2
  let kf : Nat → Value := fun j => if h : j < prs.length then Classical.choose (hk j h) else .none
  have hkf : ∀ j (h : j < prs.length), (ps.map Value.ref).toArray[j]? = some (.ref (ps.getD j 0)) ∧ PairAt s.heap (ps.getD j 0) (kf j) (prs[j]).2 ∧ keyIs (prs[j]).1 (kf j) = true := fun j h => by
    have := Classical.choose_spec (hk j h)
    simpa only [kf, h, dif_pos] using this
  let pv : List (Value × Value) := (List.range prs.length).map fun j => (kf j, (prs.getD j (.inl 0, .none)).2)
  have pvl : pv.length = prs.length := by simp [pv]
  have pvg : ∀ j k v, pv[j]? = some (k, v) → ∃ h : j < prs.length, k = kf j ∧ v = (prs[j]).2 := fun j k v e => by
    have h : j < prs.length := by rw [← pvl]; exact (List.getElem?_eq_some_iff.mp e).1
    refine ⟨h, ?_⟩
    simp only [pv, List.getElem?_map, List.getElem?_range h, Option.map_some, Option.some.injEq, Prod.mk.injEq, List.getD_eq_getElem?_getD, List.getElem?_eq_getElem h, Option.getD_some] at e
    exact ⟨e.1.symm, e.2.symm⟩
  refine PySem.call_dict_pairs (knd := mixKind X.prog X.w) (kvs := prs) (PairArg.tuple a (ps.map Value.ref).toArray (fun j => ps.getD j 0) pv) (I.ok.hd hcalm) ⟨pl, ?_, fun j k v e => ?_⟩ ⟨pvl.symm, fun j k v e => ?_⟩ ?_ fun h' tk hd' keep => ?_
  · simp [pvl, hl]
  · obtain ⟨h, rfl, rfl⟩ := pvg j k v e
    exact ⟨(hkf j h).1, (hkf j h).2.1⟩
  · obtain ⟨h, rfl, rfl⟩ := pvg j k v e
    exact ⟨(prs[j]).1, List.getElem?_eq_getElem h, (hkf j h).2.2⟩
  · rw [pvl, hl]; exact hz
  · have hm : (s.heap.objs.size == sysModules) = false := by simp; exact Nat.ne_of_gt I.big
    have hlen : (mergeK [] kvs).length ≤ sizeLine := by
      have := length_mergeK kvs []
      have := rel.length
      simp at *
      omega
    refine ⟨.ref s.heap.objs.size, _, I.laid (t' := tk) (o := .dK (mergeK [] kvs)) (fun b o e => keep b o (by simp) e) (Nat.le_refl _) ⟨hlen, hm, _, KV.merge rel .nil, hd'⟩, rfl, q _ ?_⟩
    exact I.hok.fresh (Nat.le_refl _)
end
end Rf

/-! Rf: sorted of a tuple. -/
namespace Rf
open PySem PySem.Calls PyProof.Rows
section
variable {prog : Program} {w : World} {A : Around} {E : Value → Shared → Prop} {s : Shared} {t : Addr} {vs : List Value}
/-- the heap with a new list of these, made empty and then filled -/
abbrev filled (h : Heap) (vs : List Value) : Heap := (h.push (seqObj "list" #[] 0)).update h.objs.size (Obj.mapSeq (· ++ vs.toArray))
theorem tuple_gathered {Q : List Value → Shared → Prop} (ht : IsTup s.heap t vs.toArray) (z : vs.length ≤ sizeLine) (q : Q vs { s with heap := filled s.heap vs }) : wpAny (model prog w) A (collect (.ref t)) Q E s := by
  obtain ⟨ob, at0, cl, m, dt⟩ := ht
  have at1 := Heap.get?_push_of_some (seqObj "list" #[] 0) at0
  have new1 : (s.heap.push (seqObj "list" #[] 0)).get? s.heap.objs.size = some (seqObj "list" #[] 0) := Heap.get?_push_size _ rfl
  have z2 : (#[] ++ vs.toArray).size ≤ sizeLine + 1 := by simp; omega
  have grown : wpAny (model prog w) A (do
      match (← load s.heap.objs.size).data with
      | .seq xs _ => pure xs.toList
      | _ => unsupported "internal:collect") Q E { s with heap := filled s.heap vs } := by
    refine wpAny_bind (wpAny_load (get?_update_seq new1 _) (wpAny_pure ?_))
    have e0 : ((#[] : Array Value) ++ vs.toArray).toList = vs := by simp
    rw [e0]; exact q
  have ext : ∀ (B : Around) (P : PySem.Fin → Shared → Prop) (E' : Value → Shared → Prop), P (.done (.ret (.ref s.heap.objs.size))) { s with heap := filled s.heap vs } →
      wpAny (model prog w) B (Builtin.List.listExtendWith (.ref s.heap.objs.size) (.ref t) (.ref s.heap.objs.size)) P E' { s with heap := s.heap.push (seqObj "list" #[] 0) } := fun B P E' p => by
    unfold Builtin.List.listExtendWith
    refine wpAny_bind (wpAny_typeOf (T := "tuple") ⟨ob, at1, cl⟩ ?_)
    rw [if_pos (by simp)]
    refine wpAny_bind (listItems_at at1 dt (wpAny_bind (listItems_at new1 rfl ?_)))
    rw [if_neg (by simp)]
    exact wpAny_bind (listUpdate_at new1 rfl (wpAny_pure p) (Nat.zero_le _) z2)
  unfold collect
  refine wpAny_bind (wpAny_runValue (codeAny_builtin entry_proto_collect' (wpAny_bind (wpAny_newList (wpAny_pure ⟨Code.quiet_builtin _ (by decide +kernel), codeAny_builtin entry_list_iadd' ?_⟩)))))
  refine ext _ _ _ ?_
  exact grown
/-- what sorted makes of a tuple: the new list sorted -/
theorem tuple_sorted {κ : KeyKind} {Q : Value → Shared → Prop} (ht : IsTup s.heap t vs.toArray) (z : vs.length ≤ sizeLine) (S : PySem.W.SortsAt prog w A.in1.in1 { s with heap := PySem.W.sortingHeap (PySem.W.copyHeap s.heap vs) (s.heap.objs.size + 1) vs } κ vs)
    (q : Q (.ref (s.heap.objs.size + 1)) { s with heap := sortedAll s.heap vs (PySem.W.sortVals κ false vs vs).toArray }) : wpAny (model prog w) A (call (.builtin "sorted") [.ref t]) Q E s := by
  have sz : (filled s.heap vs).objs.size = s.heap.objs.size + 1 := (Heap.size_update ..).trans (size_push' ..)
  refine call_function_entry_kw kind_sorted plain_sorted entry_sorted (args_sorted1 _) ?_
  unfold Builtin.«sorted»
  refine wpAny_bind (m := checkCount "sorted" 1 1 _) (wpAny_pure (wpAny_bind (tuple_gathered ht z (wpAny_bind (wpAny_newList ?_ z)))))
  rw [show (filled s.heap vs).objs.size = s.heap.objs.size + 1 from sz]
  refine wpAny_bind (wpAny_holding (wpAny_call_entry_kw slot_list_sort ⟨_, PySem.W.copyHeap_at s.heap vs, rfl⟩ entry_list_sort ?_ (args_list_sort _)))
  refine PySem.W.list_sort_vals (s := { s with heap := PySem.W.copyHeap s.heap vs }) (PySem.W.copyHeap_at s.heap vs) S z ?_
  exact ⟨_, rfl, wpAny_pure ⟨_, rfl, q⟩⟩
end
end Rf

/-! Rf: tuple(zip(a, b)) of two tuples: every pair is kept. -/
namespace Rf
open PySem PySem.Spec
section
variable {prog : Program} {w : World} {A : Around} {E : Value → Shared → Prop} {s : Shared}
/-- its own tuple was handed out, and is still held -/
abbrev ZipHeld (h : Heap) (z TI TO p : Addr) (f : Bool) : Prop :=
  h.get? z = some { cls := .type "zip", dict := none, data := .fields #[rawInt p, .bool f, .bool false, .ref TI, .ref TO], slots := #[] }
theorem wpAny_alive {a : Addr} {Q : Option Obj → Shared → Prop} (h : Q (s.heap.get? a) s) : wpAny (model prog w) A (loadIfAlive a) Q E s := fun Γ p _ => by
  simp only [loadIfAlive, Sem.wp_loadIfAlive]
  exact h
/-- not free: it says so, and marks it -/
theorem zip_notFree {z TI TO p : Addr} {f : Bool} {o : Obj} {Q : Bool → Shared → Prop} (hz : ZipHeld s.heap z TI TO p f) (hp : s.heap.get? p = some o)
    (h : ∀ h', ZipHeld h' z TI TO p true → Heap.SameBut z s.heap h' → Q false { s with heap := h' }) : wpAny (model prog w) A (Builtin.SmallTypes.ownedTupleIsFree (.ref z)) Q E s := by
  unfold Builtin.SmallTypes.ownedTupleIsFree
  refine wpAny_bind (wpAny_field hz rfl (x := rawInt p) rfl ?_)
  refine wpAny_bind (wpAny_alive ?_)
  show wpAny _ _ (if (s.heap.get? ((p : Int).toNat)).isNone = true then _ else _) _ _ _
  rw [Int.toNat_natCast, hp]
  refine wpAny_bind (wpAny_field hz rfl (x := .bool f) rfl ?_)
  cases f with
  | true => exact wpAny_bind (wpAny_pure (wpAny_pure (h _ hz ⟨rfl, fun _ _ => rfl⟩)))
  | false =>
    refine wpAny_bind (wpAny_setField_rec hz (by simp) fun h₁ hz₁ hs₁ => ?_)
    exact wpAny_pure (h _ hz₁ hs₁)
/-- one turn: a pair of its own -/
theorem zipHeld_item {z TI TO i1 i2 l1 l2 p : Addr} {f : Bool} {o : Obj} {k1 k2 : Nat} {xs ys : Array Value} {x y : Value} {Q : Value → Shared → Prop} (D : ZipApart z TI TO i1 i2 l1 l2) (hpz : p ≠ z)
    (hz : ZipHeld s.heap z TI TO p f) (hp : s.heap.get? p = some o) (hTI : IsPair s.heap TI (.ref i1) (.ref i2))
    (h1 : s.heap.IsTupleIter i1 l1 k1) (h2 : s.heap.IsTupleIter i2 l2 k2) (hl1 : s.heap.IsTuple l1 xs) (hl2 : s.heap.IsTuple l2 ys) (hx : xs[k1]? = some x) (hy : ys[k2]? = some y)
    (hQ : ∀ h', ZipHeld h' z TI TO p true → h'.IsTupleIter i1 l1 (k1 + 1) → h'.IsTupleIter i2 l2 (k2 + 1) → IsPair h' s.heap.objs.size x y → h'.objs.size = s.heap.objs.size + 1 →
      (∀ c o, c ≠ z → c ≠ i1 → c ≠ i2 → s.heap.get? c = some o → h'.get? c = some o) → Q (.ref s.heap.objs.size) { s with heap := h' }) :
    wpAny (model prog w) A (Builtin.«zip.__next__» ⟨[.ref z], []⟩) (fun fin s' => ∃ v, fin = .done (.ret v) ∧ Q v s') E s := by
  show wpAny _ _ (field (.ref z) 2 >>= _) _ _ _
  refine wpAny_bind (wpAny_field hz rfl (x := .bool false) rfl ?_)
  show wpAny _ _ (field (.ref z) 3 >>= _) _ _ _
  refine wpAny_bind (wpAny_field hz rfl (x := .ref TI) rfl ?_)
  refine wpAny_bind (wpAny_seqItems hTI rfl ?_)
  show wpAny _ _ (Builtin.SmallTypes.ownedTupleIsFree (.ref z) >>= _) _ _ _
  refine wpAny_bind (zip_notFree hz hp fun h₁ hz₁ hs₁ => ?_)
  simp only [Bool.false_eq_true, if_false]
  refine wpAny_bind ?_
  simp only [← Array.forIn_toList, List.forIn_cons, List.forIn_nil]
  refine wpAny_bind (wpAny_bind (wpAny_holding ?_))
  show wpAny _ _ (Builtin.SmallTypes.nextOf (.ref i1) >>= _) _ _ _
  refine wpAny_bind (RZ.nextOf_tuple_item (h1.extBut hs₁.extBut D.i1z) (hl1.extBut hs₁.extBut D.l1z) hx fun h₂ h1₂ hs₂ => wpAny_pure ?_)
  refine wpAny_pure ?_
  refine wpAny_bind (wpAny_bind (wpAny_holding ?_))
  show wpAny _ _ (Builtin.SmallTypes.nextOf (.ref i2) >>= _) _ _ _
  refine wpAny_bind (RZ.nextOf_tuple_item ((h2.extBut hs₁.extBut D.i2z).extBut hs₂.extBut D.i12.symm) ((hl2.extBut hs₁.extBut D.l2z).extBut hs₂.extBut D.l2i1) hy fun h₃ h2₃ hs₃ => wpAny_pure ?_)
  refine wpAny_pure (wpAny_pure ?_)
  have hsz : h₃.objs.size = s.heap.objs.size := by rw [hs₃.1, hs₂.1, hs₁.1]
  have up : ∀ c o, c ≠ i1 → c ≠ i2 → h₁.get? c = some o → h₃.get? c = some o := fun c o c1 c2 e => hs₃.extBut _ _ c2 (hs₂.extBut _ _ c1 e)
  refine wpAny_bind (wpAny_newTuple ?_ (by show 2 ≤ sizeLine; rw [sizeLine_eq]; decide))
  refine wpAny_pure ⟨_, rfl, ?_⟩
  show Q (.ref h₃.objs.size) { s with heap := h₃.push { cls := .type "tuple", data := .seq #[x, y] } }
  have := hQ (h₃.push { cls := .type "tuple", data := .seq #[x, y] }) (Heap.get?_push_of_some _ (up _ _ D.i1z.symm D.i2z.symm hz₁)) (h1₂.at fun o e => Heap.get?_push_of_some _ (hs₃.extBut _ _ D.i12 e)) (h2₃.at fun o e => Heap.get?_push_of_some _ e)
    (by rw [← hsz]; exact Heap.get?_push_size _ rfl) (by rw [Heap.size_push, hsz]) fun c o c1 c2 c3 e => Heap.get?_push_of_some _ (up _ _ c2 c3 (hs₁.extBut _ _ c1 e))
  rwa [hsz]
theorem zipHeld_end {z TI TO i1 i2 l1 l2 p : Addr} {f : Bool} {o : Obj} {k1 k2 : Nat} {xs ys : Array Value} {Q : Fin → Shared → Prop} (hh : A.handled = none) (D : ZipApart z TI TO i1 i2 l1 l2)
    (hz : ZipHeld s.heap z TI TO p f) (hp : s.heap.get? p = some o) (hTI : IsPair s.heap TI (.ref i1) (.ref i2))
    (h1 : s.heap.IsTupleIter i1 l1 k1) (h2 : s.heap.IsTupleIter i2 l2 k2) (hl1 : s.heap.IsTuple l1 xs) (hl2 : s.heap.IsTuple l2 ys) (hend : xs[k1]? = none ∨ ys[k2]? = none)
    (hE : ∀ h' e, (∀ c o, c ≠ z → c ≠ i1 → c ≠ i2 → s.heap.get? c = some o → h'.get? c = some o) → (∃ o, h'.get? e = some o ∧ o.cls = .type "StopIteration") → E (.ref e) { s with heap := h' }) :
    wpAny (model prog w) A (Builtin.«zip.__next__» ⟨[.ref z], []⟩) Q E s := by
  show wpAny _ _ (field (.ref z) 2 >>= _) _ _ _
  refine wpAny_bind (wpAny_field hz rfl (x := .bool false) rfl ?_)
  show wpAny _ _ (field (.ref z) 3 >>= _) _ _ _
  refine wpAny_bind (wpAny_field hz rfl (x := .ref TI) rfl ?_)
  refine wpAny_bind (wpAny_seqItems hTI rfl ?_)
  show wpAny _ _ (Builtin.SmallTypes.ownedTupleIsFree (.ref z) >>= _) _ _ _
  refine wpAny_bind (zip_notFree hz hp fun h₁ hz₁ hs₁ => ?_)
  simp only [Bool.false_eq_true, if_false]
  refine wpAny_bind ?_
  simp only [← Array.forIn_toList, List.forIn_cons, List.forIn_nil]
  refine wpAny_bind (wpAny_bind (wpAny_holding ?_))
  show wpAny _ _ (Builtin.SmallTypes.nextOf (.ref i1) >>= _) _ _ _
  cases hx : xs[k1]? with
  | none =>
    exact wpAny_bind (RZ.nextOf_tuple_end hh (h1.extBut hs₁.extBut D.i1z) (hl1.extBut hs₁.extBut D.l1z) hx fun h₂ e hs₂ he =>
      hE h₂ e (fun c o c1 c2 c3 x => hs₂ _ _ c2 (hs₁.extBut _ _ c1 x)) he)
  | some x =>
    have hy : ys[k2]? = none := by rcases hend with h | h; rw [hx] at h; cases h; exact h
    refine wpAny_bind (RZ.nextOf_tuple_item (h1.extBut hs₁.extBut D.i1z) (hl1.extBut hs₁.extBut D.l1z) hx fun h₂ h1₂ hs₂ => wpAny_pure ?_)
    refine wpAny_pure ?_
    refine wpAny_bind (wpAny_bind (wpAny_holding ?_))
    show wpAny _ _ (Builtin.SmallTypes.nextOf (.ref i2) >>= _) _ _ _
    exact wpAny_bind (RZ.nextOf_tuple_end hh ((h2.extBut hs₁.extBut D.i2z).extBut hs₂.extBut D.i12.symm) ((hl2.extBut hs₁.extBut D.l2z).extBut hs₂.extBut D.l2i1) hy fun h₃ e hs₃ he =>
      hE h₃ e (fun c o c1 c2 c3 x => hs₃ _ _ c3 (hs₂.extBut _ _ c2 (hs₁.extBut _ _ c1 x))) he)
/-! the state at turn k -/
structure ZAt (h : Heap) (z TI TO i1 i2 l1 l2 : Addr) (xs ys : Array Value) (k : Nat) : Prop where
  ti : IsPair h TI (.ref i1) (.ref i2)
  to : ∃ a b, IsPair h TO a b
  t1 : h.IsTupleIter i1 l1 k
  t2 : h.IsTupleIter i2 l2 k
  l1 : h.IsTuple l1 xs
  l2 : h.IsTuple l2 ys
  z0 : k = 0 → IsZip h z TI TO .none
  z1 : 0 < k → ∃ p f o, p ≠ z ∧ p ≠ i1 ∧ p ≠ i2 ∧ p ≠ TO ∧ ZipHeld h z TI TO p f ∧ h.get? p = some o ∧ o.cls = .type "tuple"
theorem zat_item {z TI TO i1 i2 l1 l2 : Addr} {k : Nat} {xs ys : Array Value} {x y : Value} {Q : Option Value → Shared → Prop} (D : ZipApart z TI TO i1 i2 l1 l2) (Z : ZAt s.heap z TI TO i1 i2 l1 l2 xs ys k) (hx : xs[k]? = some x) (hy : ys[k]? = some y)
    (hQ : ∀ h', ZAt h' z TI TO i1 i2 l1 l2 xs ys (k + 1) → IsPair h' s.heap.objs.size x y → h'.objs.size = s.heap.objs.size + 1 → (∀ c o, c ≠ z → c ≠ TO → c ≠ i1 → c ≠ i2 → s.heap.get? c = some o → h'.get? c = some o) → Q (some (.ref s.heap.objs.size)) { s with heap := h' }) :
    wpAny (model prog w) A (pyNext (.ref z)) Q E s := by
  have far : ∀ {c o}, s.heap.get? c = some o → s.heap.objs.size ≠ c := fun e => Nat.ne_of_gt (Heap.lt_size e)
  obtain ⟨oi1, e1, _⟩ := id Z.t1
  obtain ⟨oi2, e2, _⟩ := id Z.t2
  obtain ⟨ta, tb, hTO⟩ := Z.to
  rcases Nat.eq_zero_or_pos k with rfl | hk
  · have hz := Z.z0 rfl
    refine RZ.pyNext_zipT_item D hz Z.ti hTO Z.t1 Z.t2 Z.l1 Z.l2 hx hy fun h' a1 a2 a3 a4 a5 a6 a7 => hQ h' ⟨a7 _ _ D.TIz D.TITO D.TIi1 D.TIi2 Z.ti, ⟨_, _, a2⟩, a3, a4, Z.l1.at fun o e => a7 _ _ D.l1z D.l1TO D.l1i1 D.l1i2 e, Z.l2.at fun o e => a7 _ _ D.l2z D.l2TO D.l2i1 D.l2i2 e, fun e => by omega, fun _ => ⟨_, false, _, far hz, far e1, far e2, far hTO, a1, a5, rfl⟩⟩ a5 a6 a7
  · obtain ⟨p, f, o, p1, p2, p3, p4, hz, hp, hc⟩ := Z.z1 hk
    have hT : s.TypeIs (.ref z) "zip" := ⟨_, hz, rfl⟩
    unfold pyNext
    refine wpAny_bind (wpAny_attempt (wpAny_callSpecial?_slot (name := Str.ofString "__next__") hT F.slot_zip_next
      (wpAny_call_entry F.slot_zip_next hT F.entry_zip_next
        (zipHeld_item D p1 hz hp Z.ti Z.t1 Z.t2 Z.l1 Z.l2 hx hy fun h' a1 a2 a3 a4 a6 a5 => wpAny_pure (hQ h' ?_ a4 a6 fun c o c1 c2 c3 c4 e => a5 c o c1 c3 c4 e)) (F.args_zip_next_1 _))))
    exact ⟨a5 _ _ D.TIz D.TIi1 D.TIi2 Z.ti, ⟨_, _, a5 _ _ D.TOz D.TOi1 D.TOi2 hTO⟩, a2, a3, Z.l1.at fun o e => a5 _ _ D.l1z D.l1i1 D.l1i2 e, Z.l2.at fun o e => a5 _ _ D.l2z D.l2i1 D.l2i2 e, fun e => by omega, fun _ => ⟨p, true, o, p1, p2, p3, p4, a1, a5 _ _ p1 p2 p3 hp, hc⟩⟩
theorem zat_end {z TI TO i1 i2 l1 l2 : Addr} {k : Nat} {xs ys : Array Value} {Q : Option Value → Shared → Prop} (hh : A.handled = none) (D : ZipApart z TI TO i1 i2 l1 l2) (Z : ZAt s.heap z TI TO i1 i2 l1 l2 xs ys k) (hend : xs[k]? = none ∨ ys[k]? = none)
    (hQ : ∀ h', (∀ c o, c ≠ z → c ≠ TO → c ≠ i1 → c ≠ i2 → s.heap.get? c = some o → h'.get? c = some o) → Q none { s with heap := h' }) :
    wpAny (model prog w) A (pyNext (.ref z)) Q E s := by
  obtain ⟨ta, tb, hTO⟩ := Z.to
  rcases Nat.eq_zero_or_pos k with rfl | hk
  · exact RZ.pyNext_zipT_end hh D (Z.z0 rfl) Z.ti hTO Z.t1 Z.t2 Z.l1 Z.l2 hend hQ
  · obtain ⟨p, f, o, p1, p2, p3, p4, hz, hp, hc⟩ := Z.z1 hk
    have hT : s.TypeIs (.ref z) "zip" := ⟨_, hz, rfl⟩
    unfold pyNext
    refine wpAny_bind (wpAny_attempt (wpAny_callSpecial?_slot (name := Str.ofString "__next__") hT F.slot_zip_next
      (wpAny_call_entry F.slot_zip_next hT F.entry_zip_next (zipHeld_end hh D hz hp Z.ti Z.t1 Z.t2 Z.l1 Z.l2 hend fun h' e hk he => ?_) (F.args_zip_next_1 _))))
    obtain ⟨o, ho, hc⟩ := he
    refine wpAny_bind (wpAny_isInstance (T := "StopIteration") (b := true) ⟨o, ho, hc⟩ isSubtype_stop ?_)
    exact wpAny_pure (hQ _ fun c o c1 c2 c3 c4 e => hk c o c1 c3 c4 e)
theorem ZAt.keep {h h' : Heap} {z TI TO i1 i2 l1 l2 S : Addr} {k : Nat} {xs ys : Array Value} {o : Obj} (Z : ZAt h z TI TO i1 i2 l1 l2 xs ys k) (hS : h.get? S = some o) (hc : o.cls = .type "list")
    (kp : ∀ c o, c ≠ S → h.get? c = some o → h'.get? c = some o) : ZAt h' z TI TO i1 i2 l1 l2 xs ys k := by
  have go : ∀ {c : Addr} {u : Obj}, h.get? c = some u → u.cls ≠ .type "list" → h'.get? c = some u := fun {c u} e n => kp c u (fun x => by subst x; rw [hS] at e; cases e; exact n hc) e
  obtain ⟨a, b, hTO⟩ := Z.to
  obtain ⟨u1, e1, c1, d1⟩ := Z.t1
  obtain ⟨u2, e2, c2, d2⟩ := Z.t2
  obtain ⟨v1, f1, q1, g1⟩ := Z.l1
  obtain ⟨v2, f2, q2, g2⟩ := Z.l2
  refine ⟨go Z.ti (by simp), ⟨a, b, go hTO (by simp)⟩, ⟨u1, go e1 (by rw [c1]; decide), c1, d1⟩, ⟨u2, go e2 (by rw [c2]; decide), c2, d2⟩, ⟨v1, go f1 (by rw [q1]; decide), q1, g1⟩, ⟨v2, go f2 (by rw [q2]; decide), q2, g2⟩, fun e => go (Z.z0 e) (by simp), fun e => ?_⟩
  obtain ⟨p, f, o, p1, p2, p3, p4, hz, hp, hpc⟩ := Z.z1 e
  exact ⟨p, f, o, p1, p2, p3, p4, go hz (by simp), go hp (by rw [hpc]; decide), hpc⟩
/-- what was gathered: pairs of their own, one above the other -/
structure Gath (h : Heap) (no : List Addr) (b : Nat) (xs ys : Array Value) (ps : List Addr) : Prop where
  lo : ∀ p ∈ ps, b ≤ p ∧ p ∉ no
  up : ps.Pairwise (· < ·)
  at_ : ∀ (j : Nat) (p : Addr), ps[j]? = some p → ∃ x y : Value, xs[j]? = some x ∧ ys[j]? = some y ∧ IsPair h p x y
theorem Gath.keep {h h' : Heap} {no : List Addr} {b : Nat} {xs ys : Array Value} {ps : List Addr} (P : Gath h no b xs ys ps) (kp : ∀ c o, c ∉ no → h.get? c = some o → h'.get? c = some o) : Gath h' no b xs ys ps := ⟨P.lo, P.up, fun j p e => by
  obtain ⟨x, y, h3, h4, h5⟩ := P.at_ j p e
  exact ⟨x, y, h3, h4, kp _ _ (P.lo p (List.mem_of_getElem? e)).2 h5⟩⟩
theorem Gath.more {h : Heap} {no : List Addr} {b : Nat} {xs ys : Array Value} {ps : List Addr} {q : Addr} {x y : Value} (P : Gath h no b xs ys ps) (hb : b ≤ q) (hn : q ∉ no) (hl : ∀ p ∈ ps, p < q) (hx : xs[ps.length]? = some x) (hy : ys[ps.length]? = some y) (hq : IsPair h q x y) :
    Gath h no b xs ys (ps ++ [q]) := by
  refine ⟨fun p hp => ?_, List.pairwise_append.mpr ⟨P.up, List.pairwise_singleton _ _, fun a ha c hc => by rw [List.mem_singleton.mp hc]; exact hl a ha⟩, fun j p e => ?_⟩
  · rcases List.mem_append.mp hp with hp | hp
    · exact P.lo p hp
    · rw [List.mem_singleton.mp hp]; exact ⟨hb, hn⟩
  · by_cases hj : j < ps.length
    · rw [List.getElem?_append_left hj] at e; exact P.at_ j p e
    · rw [List.getElem?_append_right (by omega)] at e
      have hj2 : j = ps.length := by
        have := (List.getElem?_eq_some_iff.mp e).1
        simp at this; omega
      subst hj2
      simp at e
      subst e
      exact ⟨x, y, hx, hy, hq⟩
theorem zip_loop {R : Result → Shared → Prop} {z TI TO i1 i2 l1 l2 S : Addr} {xs ys : Array Value} {b0 : Nat} (hh : A.handled = none) (D : ZipApart z TI TO i1 i2 l1 l2) (hS : S ∉ [z, TO, i1, i2]) (res : Value) {n : Nat} (hn : n = min xs.size ys.size) (hz : n ≤ sizeLine) :
    ∀ (m k : Nat) (s : Shared) (ps : List Addr) (c : Nat), n - k = m → k ≤ n → ps.length = k → b0 ≤ s.heap.objs.size → ZAt s.heap z TI TO i1 i2 l1 l2 xs ys k → s.heap.get? S = some { cls := .type "list", dict := none, data := .seq (ps.map Value.ref).toArray c, slots := #[] } →
    Gath s.heap [S, z, TO, i1, i2] b0 xs ys ps →
    (∀ h' ps' c', ps'.length = n → (∀ b o, b ∉ [S, z, TO, i1, i2] → s.heap.get? b = some o → h'.get? b = some o) → h'.get? S = some { cls := .type "list", dict := none, data := .seq (ps'.map Value.ref).toArray c', slots := #[] } → Gath h' [S, z, TO, i1, i2] b0 xs ys ps' → R (.ok (.ret res)) { s with heap := h' }) →
    codeAny (model prog w) A (.builtin "list.extend.loop" ⟨[.ref S, .ref z, res], []⟩) R s := by
  have nS : ∀ {b}, b ∉ [S, z, TO, i1, i2] → b ≠ S ∧ b ≠ z ∧ b ≠ TO ∧ b ≠ i1 ∧ b ≠ i2 := fun {b} h => by simpa [not_or] using h
  have hS' : S ≠ z ∧ S ≠ TO ∧ S ≠ i1 ∧ S ≠ i2 := by simpa [not_or] using hS
  intro m
  induction m with
  | zero =>
    intro k s ps c hm hk hsz hb0 Z hl P hR
    refine codeAny_builtin F.entry_extend_loop ?_
    rw [Around.under_plainId F.plain_extend_loop _]
    show wpAny _ A.in1 (pyNext (.ref z) >>= _) _ _ s
    have hend : xs[k]? = none ∨ ys[k]? = none := by
      rcases Nat.le_total xs.size ys.size with q | q
      · exact .inl (by simp; omega)
      · exact .inr (by simp; omega)
    have kp' : ∀ {h' : Heap}, (∀ c o, c ≠ z → c ≠ TO → c ≠ i1 → c ≠ i2 → s.heap.get? c = some o → h'.get? c = some o) → ∀ b o, b ∉ [S, z, TO, i1, i2] → s.heap.get? b = some o → h'.get? b = some o := fun kp b o hb e => by
      have := nS hb; exact kp _ _ this.2.1 this.2.2.1 this.2.2.2.1 this.2.2.2.2 e
    exact wpAny_bind (zat_end (A := A.in1) hh D Z hend fun h' kp => wpAny_pure (hR h' ps c (by omega) (kp' kp) (kp _ _ hS'.1 hS'.2.1 hS'.2.2.1 hS'.2.2.2 hl) (P.keep (kp' kp))))
  | succ m ih =>
    intro k s ps c hm hk hsz hb0 Z hl P hR
    have hlt : k < n := by omega
    have hkx : k < xs.size := by omega
    have hky : k < ys.size := by omega
    refine codeAny_builtin F.entry_extend_loop ?_
    rw [Around.under_plainId F.plain_extend_loop _]
    show wpAny _ A.in1 (pyNext (.ref z) >>= _) _ _ s
    refine wpAny_bind (zat_item D Z (Array.getElem?_eq_getElem hkx) (Array.getElem?_eq_getElem hky) fun h' Z' hP hsz' kp => ?_)
    have hl' := kp _ _ hS'.1 hS'.2.1 hS'.2.2.1 hS'.2.2.2 hl
    have far : ∀ {c o}, s.heap.get? c = some o → s.heap.objs.size ≠ c := fun e => Nat.ne_of_gt (Heap.lt_size e)
    have fresh : s.heap.objs.size ∉ [S, z, TO, i1, i2] := by
      obtain ⟨oi1, e1, _⟩ := id Z.t1
      obtain ⟨oi2, e2, _⟩ := id Z.t2
      obtain ⟨ta, tb, hTO⟩ := Z.to
      have hz : ∃ o, s.heap.get? z = some o := by
        rcases Nat.eq_zero_or_pos k with q | q
        · exact ⟨_, Z.z0 q⟩
        · obtain ⟨p, f, o, _, _, _, _, hz, _⟩ := Z.z1 q; exact ⟨_, hz⟩
      obtain ⟨oz, hz⟩ := hz
      simp only [List.mem_cons, List.not_mem_nil, or_false, not_or]
      exact ⟨far hl, far hz, far hTO, far e1, far e2⟩
    have low : ∀ p ∈ ps, p < s.heap.objs.size := fun p hp => by
      obtain ⟨j, hj⟩ := List.getElem?_of_mem hp
      obtain ⟨x, y, _, _, e⟩ := P.at_ j p hj
      exact Heap.lt_size e
    show wpAny _ A.in1 (updateSeq S (·.push (.ref s.heap.objs.size)) >>= _) _ _ _
    refine wpAny_bind ?_
    have kpS : ∀ b o, b ≠ S → h'.get? b = some o → (h'.update S (Obj.mapSeq (·.push (.ref s.heap.objs.size)))).get? b = some o := fun b o hb e => (Heap.get?_update_other _ _ (Ne.symm hb)).trans e
    have kp2 : ∀ b o, b ∉ [S, z, TO, i1, i2] → s.heap.get? b = some o → (h'.update S (Obj.mapSeq (·.push (.ref s.heap.objs.size)))).get? b = some o := fun b o hb e => by
      have := nS hb; exact kpS _ _ this.1 (kp _ _ this.2.1 this.2.2.1 this.2.2.2.1 this.2.2.2.2 e)
    have zsz : (h'.update S (Obj.mapSeq (·.push (Value.ref s.heap.objs.size)))).objs.size = h'.objs.size := (Heap.SameBut.update (h := h') (a := S) ..).1
    have eL : ((ps.map Value.ref).toArray.push (Value.ref s.heap.objs.size)) = ((ps ++ [s.heap.objs.size]).map Value.ref).toArray := by simp
    refine wpAny_updateSeq hl' rfl (wpAny_pure ⟨plainId_quiet F.plain_extend_loop _, ih (k + 1) _ (ps ++ [s.heap.objs.size]) _ (by omega) hlt (by rw [List.length_append, hsz]; rfl) (by show b0 ≤ (h'.update S _).objs.size; rw [zsz, hsz']; omega) (Z'.keep hl' rfl kpS) (by rw [← eL]; exact Heap.get?_update_self _ hl' rfl) ((P.keep kp2).more hb0 fresh low (by rw [hsz]; exact Array.getElem?_eq_getElem hkx) (by rw [hsz]; exact Array.getElem?_eq_getElem hky) (kpS _ _ (nS fresh).1 hP)) fun h'' acc' c' a1 a2 a3 a4 => hR h'' acc' c' a1 (fun b o hb e => a2 b o hb (kp2 b o hb e)) a3 a4⟩)
      (by simp; omega) (by show ((ps.map Value.ref).toArray.push _).size ≤ sizeLine + 1; rw [Array.size_push]; simp; omega)
theorem zip_nolen : typeLookup (.type "zip") "__len__" = pure none := by rw [typeLookup_type, builtinLookup_eq_fast]; kernel_rfl
theorem zip_nohint : typeLookup (.type "zip") "__length_hint__" = pure none := by rw [typeLookup_type, builtinLookup_eq_fast]; kernel_rfl
theorem collect_zip {z TI TO i1 i2 l1 l2 : Addr} {xs ys : Array Value} {n : Nat} {Q : List Value → Shared → Prop} (hh : A.handled = none) (D : ZipApart z TI TO i1 i2 l1 l2) (hn : n = min xs.size ys.size) (hsz : n ≤ sizeLine) (Z : ZAt s.heap z TI TO i1 i2 l1 l2 xs ys 0)
    (hQ : ∀ (h' : Heap) (ps : List Addr), ps.length = n → (∀ b o, b ∉ [z, TO, i1, i2] → s.heap.get? b = some o → h'.get? b = some o) → Gath h' [z, TO, i1, i2] s.heap.objs.size xs ys ps → Q (ps.map Value.ref) { s with heap := h' }) :
    wpAny (model prog w) A (collect (.ref z)) Q E s := by
  have hz := Z.z0 rfl
  obtain ⟨oi1, e1, _⟩ := id Z.t1
  obtain ⟨oi2, e2, _⟩ := id Z.t2
  obtain ⟨ta, tb, hTO⟩ := Z.to
  have far : ∀ {c o}, s.heap.get? c = some o → s.heap.objs.size ≠ c := fun e => Nat.ne_of_gt (Heap.lt_size e)
  have hS : s.heap.objs.size ∉ [z, TO, i1, i2] := by
    simp only [List.mem_cons, List.not_mem_nil, or_false, not_or]
    exact ⟨far hz, far hTO, far e1, far e2⟩
  unfold collect
  refine wpAny_bind (wpAny_runValue (codeAny_builtin F.entry_proto_collect ?_))
  rw [Around.under_plainId F.plain_proto_collect _]
  show wpAny _ A.in1 (newList [] >>= fun l' => again (.builtin "list.__iadd__" ⟨[l', .ref z], []⟩)) _ _ s
  refine wpAny_bind (wpAny_newObj_type ?_)
  refine wpAny_pure ⟨plainId_quiet F.plain_list_iadd _, codeAny_builtin F.entry_list_iadd ?_⟩
  rw [Around.under_plainId F.plain_list_iadd _]
  have new : (s.heap.push { cls := .type "list", data := .seq ([] : List Value).toArray }).get? s.heap.objs.size = some { cls := .type "list", data := .seq ([] : List Value).toArray } := Heap.get?_push_size _ rfl
  have k1 : ∀ b o, s.heap.get? b = some o → (s.heap.push { cls := .type "list", data := .seq ([] : List Value).toArray }).get? b = some o := fun b o e => Heap.get?_push_of_some _ e
  have hT : ({ s with heap := s.heap.push { cls := .type "list", data := .seq ([] : List Value).toArray } } : Shared).TypeIs (.ref z) "zip" := ⟨_, k1 _ _ hz, rfl⟩
  have d1 : Builtin.List.listSameRef (.ref s.heap.objs.size) (.ref z) = false := by simp [Builtin.List.listSameRef, far hz]
  show wpAny _ A.in1 (Builtin.List.listExtendWith (.ref s.heap.objs.size) (.ref z) (.ref s.heap.objs.size)) _ _ _
  unfold Builtin.List.listExtendWith
  refine wpAny_bind (wpAny_typeOf hT ?_)
  have d2 : (Value.type "zip" == Value.type "list") = false := by decide
  have d3 : (Value.type "zip" == Value.type "tuple") = false := by decide
  simp only [d1, d2, d3, Bool.or_false, Bool.false_eq_true, if_false]
  refine wpAny_bind (wpAny_pyIter_zip (k1 _ _ hz) ?_)
  refine wpAny_bind (wpAny_holding ?_)
  unfold Builtin.List.listLengthHint
  refine wpAny_bind (wpAny_specialOf hT zip_nolen ?_)
  show wpAny _ A.in1 (specialOf (Value.ref z) (Str.ofString "__length_hint__") >>= _) _ _ _
  refine wpAny_bind (wpAny_specialOf hT zip_nohint ?_)
  refine wpAny_pure ?_
  show wpAny _ A.in1 (rule "list.extend.makes-room" >>= fun _ => Builtin.List.listTouch (.ref s.heap.objs.size) >>= fun _ =>
    again (.builtin "list.extend.loop" ⟨[.ref s.heap.objs.size, .ref z, .ref s.heap.objs.size], []⟩)) _ _ _
  refine wpAny_bind (wpAny_rule ?_)
  refine wpAny_bind ?_
  show wpAny _ A.in1 (updateSeq s.heap.objs.size (·.push .none) >>= fun _ => updateSeq s.heap.objs.size (·.pop)) _ _ _
  refine wpAny_bind (wpAny_updateSeq new rfl ?_)
  have n2 := Heap.get?_update_self (Obj.mapSeq (·.push Value.none)) new rfl
  refine wpAny_updateSeq n2 rfl ?_
  have n3 := Heap.get?_update_self (Obj.mapSeq (·.pop)) n2 rfl
  have k2 : ∀ b o, b ≠ s.heap.objs.size → s.heap.get? b = some o →
      (((s.heap.push { cls := .type "list", data := .seq ([] : List Value).toArray }).update s.heap.objs.size (Obj.mapSeq (·.push Value.none))).update s.heap.objs.size (Obj.mapSeq (·.pop))).get? b = some o :=
    fun b o hb e => (Heap.get?_update_other _ _ (Ne.symm hb)).trans ((Heap.get?_update_other _ _ (Ne.symm hb)).trans (k1 _ _ e))
  have k3 : ∀ {b o}, s.heap.get? b = some o →
      (((s.heap.push { cls := .type "list", data := .seq ([] : List Value).toArray }).update s.heap.objs.size (Obj.mapSeq (·.push Value.none))).update s.heap.objs.size (Obj.mapSeq (·.pop))).get? b = some o := fun e => k2 _ _ (far e).symm e
  have Z2 : ZAt (((s.heap.push { cls := .type "list", data := .seq ([] : List Value).toArray }).update s.heap.objs.size (Obj.mapSeq (·.push Value.none))).update s.heap.objs.size (Obj.mapSeq (·.pop))) z TI TO i1 i2 l1 l2 xs ys 0 :=
    ⟨k3 Z.ti, ⟨ta, tb, k3 hTO⟩, Z.t1.at fun o e => k3 e, Z.t2.at fun o e => k3 e, Z.l1.at fun o e => k3 e, Z.l2.at fun o e => k3 e, fun _ => k3 hz, fun h => absurd h (by omega)⟩
  refine wpAny_pure ⟨plainId_quiet F.plain_extend_loop _, zip_loop (b0 := s.heap.objs.size) hh D hS _ hn hsz n 0 _ [] _ rfl (Nat.zero_le _) rfl (Nat.le_trans (Nat.le_succ _) (Nat.le_of_eq ((Heap.size_push ..).symm.trans ((Heap.SameBut.update ..).1.symm.trans (Heap.SameBut.update ..).1.symm)))) Z2 n3 ⟨fun p hp => (by cases hp), List.Pairwise.nil, fun j v e => (by simp at e)⟩ fun h' acc' c' a1 a2 a3 a4 => ?_⟩
  show wpAny _ A (load s.heap.objs.size >>= _) _ _ _
  refine wpAny_bind (wpAny_load a3 ?_)
  refine wpAny_pure ?_
  show Q (acc'.map Value.ref).toArray.toList _
  refine hQ h' acc' a1 (fun b o hb e => a2 b o (fun m => ?_) (k3 e)) ⟨fun p hp => ⟨(a4.lo p hp).1, fun m => (a4.lo p hp).2 (List.mem_cons_of_mem _ m)⟩, a4.up, a4.at_⟩
  rcases List.mem_cons.mp m with m | m
  · exact far e m.symm
  · exact hb m
theorem code_tuple_zip {z TI TO i1 i2 l1 l2 : Addr} {xs ys : Array Value} {n : Nat} {Q₁ : Value → Shared → Prop} (hh : A.handled = none) (D : ZipApart z TI TO i1 i2 l1 l2) (hn : n = min xs.size ys.size) (hsz : n ≤ sizeLine) (Z : ZAt s.heap z TI TO i1 i2 l1 l2 xs ys 0)
    (h : ∀ (h' : Heap) (ps : List Addr), ps.length = n → (∀ b o, b ∉ [z, TO, i1, i2] → s.heap.get? b = some o → h'.get? b = some o) → Gath h' [z, TO, i1, i2] s.heap.objs.size xs ys ps →
      Q₁ (.ref h'.objs.size) { s with heap := h'.push { cls := .type "tuple", data := .seq (ps.map Value.ref).toArray } }) :
    codeAny (model prog w) A (.call (.builtin "tuple.__new__") ⟨[.type "tuple", .ref z], []⟩) (wants Q₁ E) s := by
  refine codeAny_of_tree ?_
  show wpAny _ A.in1 (do checkBuiltinCall "tuple.__new__" ⟨[.type "tuple", .ref z], []⟩; again (.builtin "tuple.__new__" ⟨[.type "tuple", .ref z], []⟩)) _ _ s
  refine wpAny_bind (wpAny_of_eq (F.newCall_tuple_1 _) (wpAny_pure ⟨plainId_quiet F.plain_tuple_new _, codeAny_builtin F.entry_tuple_new ?_⟩))
  rw [Around.under_plainId F.plain_tuple_new _]
  have hsub := sub_tuple_self
  have hinit := init_tuple_lookup
  have hmh := madeHere_tuple
  have hTI : s.TypeIs (.ref z) "zip" := ⟨_, Z.z0 rfl, rfl⟩
  wp_walk using wpAny_typeOf hTI, collect_zip (A := A.in1) hh D hn hsz Z
  intro h' ps h1 h2 h3
  show wpAny _ _ (Builtin.Tuple.tupleExact (ps.map Value.ref).toArray >>= fun v => ret v) _ _ _
  unfold Builtin.Tuple.tupleExact
  refine wpAny_bind (wpAny_newObj_type ?_ (by show (ps.map Value.ref).toArray.size ≤ sizeLine; simp; omega))
  exact wpAny_pure (h h' ps h1 h2 h3)
theorem call_tuple_zip {z TI TO i1 i2 l1 l2 : Addr} {xs ys : Array Value} {n : Nat} {Q : Value → Shared → Prop} (hh : A.handled = none) (D : ZipApart z TI TO i1 i2 l1 l2) (hn : n = min xs.size ys.size) (hsz : n ≤ sizeLine) (Z : ZAt s.heap z TI TO i1 i2 l1 l2 xs ys 0)
    (hQ : ∀ (h' : Heap) (ps : List Addr), ps.length = n → (∀ b o, b ∉ [z, TO, i1, i2] → s.heap.get? b = some o → h'.get? b = some o) → Gath h' [z, TO, i1, i2] s.heap.objs.size xs ys ps →
      Q (.ref h'.objs.size) { s with heap := h'.push { cls := .type "tuple", data := .seq (ps.map Value.ref).toArray } }) :
    wpAny (model prog w) A (call (.type "tuple") [.ref z]) Q E s := by
  refine callType_codes (Q₁ := fun obj s₁ => s₁.TypeIs obj "tuple" ∧ Q obj s₁) F.called_tuple (F.typeCall_tuple_1 _) F.entry_object_init
    (code_tuple_zip (A := A.in1) hh D hn hsz Z fun h' acc h1 h2 h3 => ⟨⟨_, Heap.get?_push_size _ rfl, rfl⟩, hQ h' acc h1 h2 h3⟩) fun obj s₁ h₁ => ?_
  exact ⟨h₁.1, F.args_object_init_2 obj _, object_init_meets F.called_tuple.init.lookup F.called_tuple.made (by decide) prog w A.in1 _ s₁ ⟨h₁.1, rfl, h₁.2⟩⟩
end
end Rf

/-! Rf: tuple(zip(a, b)) of two tuples, a rule. -/
namespace Rf
open PySem PySem.Spec PyProof.Rows L2
/-- several new tuples, each with its object -/
def layP (H : Hp) : List (Addr × Obj × List V) → Hp
  | [] => H
  | e :: L => upd (layP H L) e.1 (.frz e.2.1 (.tup e.2.2))
theorem layP_out {H : Hp} {b : Addr} : ∀ {L : List (Addr × Obj × List V)}, b ∉ L.map (·.1) → layP H L b = H b
  | [], _ => rfl
  | e :: L, h => by
    simp only [List.map_cons, List.mem_cons, not_or] at h
    show upd (layP H L) e.1 _ b = _
    rw [upd_ne h.1, layP_out h.2]
theorem layP_in {H : Hp} : ∀ {L : List (Addr × Obj × List V)} {b : Addr} {o : HO}, b ∈ L.map (·.1) → layP H L b = some o → ∃ e ∈ L, e.1 = b ∧ o = .frz e.2.1 (.tup e.2.2)
  | [], b, o, h, _ => by cases h
  | e :: L, b, o, h, q => by
    by_cases hb : b = e.1
    · subst hb
      have : layP H (e :: L) e.1 = some (.frz e.2.1 (.tup e.2.2)) := upd_same
      rw [this] at q
      cases q
      exact ⟨e, List.mem_cons_self, rfl, rfl⟩
    · have : layP H (e :: L) b = layP H L b := upd_ne hb
      rw [this] at q
      simp only [List.map_cons, List.mem_cons] at h
      obtain ⟨d, hd, r⟩ := layP_in (h.resolve_left hb) q
      exact ⟨d, List.mem_cons_of_mem _ hd, r⟩
/-- what several new tuples and one of them all must answer -/
def NewTs (rows : List (List V)) (H : Hp) (Q : VK) : Prop := ∀ L : List (Addr × Obj × List V), L.map (·.2.2) = rows → (L.map (·.1)).Nodup → (∀ e ∈ L, H e.1 = none ∧ e.2.1.dict = none) → NewT (L.map fun e => V.ref e.1) (layP H L) Q
section
variable {X : Cx} {pins : List (Addr × Obj)} {σ : L2.St} {H : Hp} {s : Shared}
theorem inv_many {h' : Heap} {L : List (Addr × Obj × List V)} {t : Nat} (I : Inv X pins σ H s) (k : ∀ b u, s.heap.get? b = some u → h'.get? b = some u) (hl : ∀ e ∈ L, s.heap.objs.size ≤ e.1 ∧ ObjOk X.prog X.w H h' e.1 (.frz e.2.1 (.tup e.2.2))) :
    Inv X pins σ (layP H L) { s with heap := h', toks := t } := by
  have old : ∀ {b}, b < s.heap.objs.size → layP H L b = H b := fun {b} hb => layP_out fun m => by
    obtain ⟨e, he, rfl⟩ := List.mem_map.mp m
    exact absurd (Nat.lt_of_lt_of_le hb (hl e he).1) (Nat.lt_irrefl _)
  have lt : ∀ {b o}, H b = some o → b < s.heap.objs.size := fun e => I.hok.lt e
  have up : ∀ {b o}, H b = some o → layP H L b = some o := fun e => by rw [old (lt e)]; exact e
  refine I.un (t' := t) ⟨fun b u q _ _ _ => k b u q, fun b u q _ _ _ => ⟨u.slots, k b u q⟩, fun b u q n _ => ?_, fun b u q _ => ⟨u, k b u q⟩, fun b xs q => up q, fun b u xs q => up q, fun b ps q => ⟨#[], by rw [up q]; simp⟩⟩ fun b o e => ?_
  · rw [old (Heap.lt_size q)]; exact n
  · by_cases hb : b ∈ L.map (·.1)
    · obtain ⟨d, hd, rfl, rfl⟩ := layP_in hb e
      exact (hl d hd).2.stay (fun c v _ q => q) (fun c q => up q) fun c xs q => up q
    · rw [layP_out hb] at e
      exact (I.hok b o e).stay (fun c v _ q => k c v q) (fun c q => up q) fun c xs q => up q
def zipV : List V → List V → List (List V)
  | x :: r, y :: t => [x, y] :: zipV r t
  | _, _ => []
theorem zipV_get : ∀ {xs ys : List V} {j : Nat} {x y : V}, xs[j]? = some x → ys[j]? = some y → (zipV xs ys)[j]? = some [x, y]
  | [], _, j, x, y, h, _ => by simp at h
  | _ :: _, [], j, x, y, _, h => by simp at h
  | a :: r, b :: t, 0, x, y, h, g => by simp at h g; subst h; subst g; rfl
  | a :: r, b :: t, j + 1, x, y, h, g => by simpa [zipV] using zipV_get (xs := r) (ys := t) (by simpa using h) (by simpa using g)
theorem zipV_len : ∀ {xs ys : List V}, (zipV xs ys).length = min xs.length ys.length
  | [], ys => by cases ys <;> simp [zipV]
  | _ :: _, [] => by simp [zipV]
  | a :: r, b :: t => by simp only [zipV, List.length_cons, zipV_len]; omega
def tTupZip (K : PySem.W.Frag) (ta : TA) : TE := fun σ H Q => ta σ H fun vs H1 => ∃ a b xs ys, vs = [.ref a, .ref b] ∧ SqT K H1 a xs ∧ SqT K H1 b ys ∧ NewTs (zipV xs ys) H1 Q
theorem pe_tupZip {X : Cx} {e e2 : Expr} {ta : TA} {p p2 pos pos2 : Pos} (hc : X.calm = true) (hg : Gl X "tuple") (hm : X.mg "tuple" = none) (hg2 : Gl X "zip") (hm2 : X.mg "zip" = none) (ha : PA X [e, e2] ta)
    (hs : starEach [e, e2] X.env = (false, eval e X.env) :: starEach [e2] X.env := by rfl) (hpl : (backTo pos2 (starEach [e2] X.env)).any (·.1) = false := by rfl)
    (hs2 : starEach [.Call (.Name "zip" p2) [e, e2] [] pos2] X.env = (false, eval (.Call (.Name "zip" p2) [e, e2] [] pos2) X.env) :: starEach [] X.env := by rfl) :
    PE X (.Call (.Name "tuple" p) [.Call (.Name "zip" p2) [e, e2] [] pos2] [] pos) (tTupZip X.K ta) := by
  refine ⟨fun pins s σ H Q I h => ?_⟩
  refine Call_ (ld_blt I hg hm boot_tuple (PyProof.Rows.callWith_type1 (args_cons (Call_ (ld_blt I hg2 hm2 PyProof.Rows.boot_zip (PyProof.Rows.callWith_type1 (thn (ha.run pos2 pins s σ H _ I h) fun us s1 ⟨vs, H1, I1, r1, q1⟩ => ?_) hs hpl))) hs2) hs2 rfl))
  obtain ⟨a, b, xs, ys, ex, hqx, hqy, q⟩ := q1
  subst ex
  cases r1 with
  | cons r rr =>
    cases rr with
    | cons r' rr =>
      cases rr
      cases r
      cases r'
      obtain ⟨its, rv, p1, hz1⟩ := I1.tuple hqx
      obtain ⟨its2, rv2, p2, hz2⟩ := I1.tuple hqy
      obtain ⟨o1, ho1, _⟩ := id p1
      obtain ⟨o2, ho2, _⟩ := id p2
      have n1 := rv.length
      have n2 := rv2.length
      refine RZ.call_zipT (show s1.heap.IsTuple a its.toArray from p1) (show s1.heap.IsTuple b its2.toArray from p2) fun h' hz hTI hTO h1 h2 hsz hk => args_nil ?_
      refine call_tuple_zip (s := { s1 with heap := h' }) (n := min its.length its2.length) (I1.ok.hd hc) (PySem.W.ktu_apart s1.heap.objs.size a b (Heap.lt_size ho1) (Heap.lt_size ho2)) (by simp) (by omega)
        (xs := its.toArray) (ys := its2.toArray) ⟨hTI, ⟨_, _, hTO⟩, h1, h2, Heap.IsTuple.at (show s1.heap.IsTuple a its.toArray from p1) (hk a), Heap.IsTuple.at (show s1.heap.IsTuple b its2.toArray from p2) (hk b), fun _ => hz, fun z => absurd z (by omega)⟩ fun h'' ps e1 k2 G => ?_
      have kept : ∀ b o, s1.heap.get? b = some o → h''.get? b = some o := fun b o e => k2 b o (by
        have := Heap.lt_size e
        simp only [List.mem_cons, List.not_mem_nil, or_false, not_or]
        refine ⟨?_, ?_, ?_, ?_⟩ <;> (intro z; rw [z] at this; first | exact absurd this (Nat.not_lt.mpr (Nat.le_add_right _ _)) | exact absurd this (Nat.lt_irrefl _))) (hk b o e)
      have eLs : (zipV xs ys).length = ps.length := by rw [zipV_len, e1, n1, n2]
      have key : ∀ e ∈ (ps.zip (zipV xs ys)), ∃ (x y : Value) (vx vy : V), e.2 = [vx, vy] ∧ RelV vx x ∧ RelV vy y ∧ IsPair h'' e.1 x y ∧ h'.objs.size ≤ e.1 := fun e he => by
        obtain ⟨j, hj⟩ := List.getElem?_of_mem he
        rw [List.getElem?_zip_eq_some] at hj
        obtain ⟨g1, g2⟩ := hj
        obtain ⟨x, y, f1, f2, f3⟩ := G.at_ j _ g1
        have f1' : its[j]? = some x := by simpa using f1
        have f2' : its2[j]? = some y := by simpa using f2
        have l1 := (List.getElem?_eq_some_iff.mp f1').1
        have l2 := (List.getElem?_eq_some_iff.mp f2').1
        have q1 : xs[j]? = some (xs[j]'(by omega)) := List.getElem?_eq_getElem _
        have q2 : ys[j]? = some (ys[j]'(by omega)) := List.getElem?_eq_getElem _
        obtain ⟨x', g1', w1⟩ := rv.get q1
        obtain ⟨y', g2', w2⟩ := rv2.get q2
        rw [f1'] at g1'; cases g1'
        rw [f2'] at g2'; cases g2'
        have := zipV_get q1 q2
        rw [g2] at this
        exact ⟨x, y, _, _, Option.some.inj this, w1, w2, f3, (G.lo _ (List.mem_of_getElem? g1)).1⟩
      have eps : ((ps.zip (zipV xs ys)).map fun e => (e.1, (h''.get? e.1).getD default, e.2)).map (·.1) = ps := by
        rw [List.map_map]; exact List.map_fst_zip (by omega)
      have ers : ((ps.zip (zipV xs ys)).map fun e => (e.1, (h''.get? e.1).getD default, e.2)).map (·.2.2) = zipV xs ys := by
        rw [List.map_map]; exact List.map_snd_zip (by omega)
      have I3 := inv_many (t := s1.toks) (L := (ps.zip (zipV xs ys)).map fun e => (e.1, (h''.get? e.1).getD default, e.2)) I1 kept fun d hd => by
        obtain ⟨e, he, rfl⟩ := List.mem_map.mp hd
        obtain ⟨x, y, vx, vy, f1, f2, f3, f4, f5⟩ := key e he
        refine ⟨Nat.le_trans (by rw [hsz]; exact Nat.le_add_right _ _) f5, ?_⟩
        show ObjOk _ _ _ _ e.1 (.frz ((h''.get? e.1).getD default) (.tup e.2))
        rw [f1, f4]
        exact ⟨f4, by show 2 ≤ sizeLine; rw [sizeLine_eq]; decide, [x, y], .cons f2 (.cons f3 .nil), ⟨_, f4, rfl, _, rfl⟩⟩
      have q' := q _ ers (by rw [eps]; exact G.up.imp fun h => Nat.ne_of_lt h) fun d hd => by
        obtain ⟨e, he, rfl⟩ := List.mem_map.mp hd
        obtain ⟨x, y, vx, vy, f1, f2, f3, f4, f5⟩ := key e he
        refine ⟨I1.hok.fresh (Nat.le_trans (by rw [hsz]; exact Nat.le_add_right _ _) f5), ?_⟩
        show ((h''.get? e.1).getD default).dict = none
        rw [f4]; rfl
      have eV : ∀ l : List Addr, Vals (l.map V.ref) (l.map Value.ref) := fun l => by
        induction l with
        | nil => exact .nil
        | cons a l ih => exact .cons rfl ih
      have eM : (((ps.zip (zipV xs ys)).map fun e => (e.1, (h''.get? e.1).getD default, e.2)).map fun e => V.ref e.1) = ps.map V.ref := by
        conv => rhs; rw [← eps]
        simp only [List.map_map]; rfl
      rw [eM] at q'
      exact lay_tup (s := { s1 with heap := h'' }) (t := s1.toks) I3 (eV ps) (by rw [List.length_map]; omega) q'
end
end Rf

/-! Rf: sum, max, min of a tuple of ints; t[::-1] of a tuple -/
namespace Rf
open PySem PySem.Spec PyProof.Rows L2 HT
section
variable {prog : Program} {w : World} {A : Around} {E : Value → Shared → Prop} {s : Shared} {l : Addr} {its : List Value} {ns : List Int} {Q : Value → Shared → Prop}
/-- a walk over a tuple's items -/
theorem iter_tupI {R : Value → Shared → Prop} {vs : Array Value} (ht : s.heap.IsTuple l vs)
    (h : ∀ h2 : Heap, (∀ b o, s.heap.get? b = some o → h2.get? b = some o) → (h2.IsTupleIter s.heap.objs.size l 0 ∧ h2.IsTuple l vs) → (∀ b ∈ [s.heap.objs.size, l], b < h2.objs.size) → l ≠ s.heap.objs.size → R (.ref s.heap.objs.size) { s with heap := h2 }) :
    wpAny (model prog w) A (pyIter (.ref l)) R E s := by
  have lt : l < s.heap.objs.size := by obtain ⟨_, e, _⟩ := ht; exact Heap.lt_size e
  have up : ∀ b o, s.heap.get? b = some o → (s.heap.push { cls := .type "tuple_iterator", data := .fields #[.ref l, .int 0 0] }).get? b = some o := fun b o e => Heap.get?_push_of_some _ e
  refine wpAny_pyIter_tuple ht (h _ up ⟨⟨_, Heap.get?_push_size _ rfl, rfl, rfl⟩, ht.at (up l)⟩ (fun b hb => ?_) (Nat.ne_of_lt lt))
  have z : (s.heap.push { cls := .type "tuple_iterator", data := .fields #[.ref l, .int 0 0] }).objs.size = s.heap.objs.size + 1 := Heap.size_push ..
  rw [z]
  simp only [List.mem_cons, List.not_mem_nil, or_false] at hb
  rcases hb with rfl | rfl
  · exact Nat.lt_succ_self _
  · exact Nat.lt_succ_of_lt lt
theorem kept_it {h2 h' : Heap} (up : ∀ b o, s.heap.get? b = some o → h2.get? b = some o) (hk : ∀ b o, b ∉ [s.heap.objs.size] → h2.get? b = some o → h'.get? b = some o) : ∀ b o, s.heap.get? b = some o → h'.get? b = some o := fun b o e =>
  hk b o (fun m => absurd (Heap.lt_size e) (by rw [List.mem_singleton.mp m]; exact Nat.lt_irrefl _)) (up b o e)
theorem sum_tup (hh : A.handled = none) (ht : s.heap.IsTuple l its.toArray) (hi : IntsAre its ns)
    (h : ∀ h' tk t', (∀ b o, s.heap.get? b = some o → h'.get? b = some o) → Q (.int ns.sum t') { s with heap := h', toks := tk }) : wpAny (model prog w) A (call (.builtin "sum") [.ref l]) Q E s := by
  obtain ⟨xs, e⟩ := hi.allInts.items
  have hn : numsOf (intItems xs).toList = ns := by rw [← e]; exact hi.numsOf
  rw [nums_intItems] at hn
  rw [e] at ht
  refine call_sum_walkG (iter_tupI ht fun h2 up st hf hne => ?_)
  refine ⟨_, _, _, _, _, _, numAt xs, rfl, Walks.tuple (A := A.in1) hh _ l hne (intItems xs), st, hf, (fun _ _ => intItems_at), fun h' tk t' hk => ?_⟩
  have := h h' tk t' (kept_it up hk)
  have e2 : preSum (numAt xs) (intItems xs).size = ns.sum := by rw [preSum_eq, List.take_of_length_le (by simp [intItems]), hn]
  rw [e2]; exact this
theorem max_tup (hh : A.handled = none) (ht : s.heap.IsTuple l its.toArray) (hi : IntsAre its ns) (hne : 0 < ns.length)
    (h : ∀ h' tk M t', (∀ b o, s.heap.get? b = some o → h'.get? b = some o) → M ∈ ns → (∀ a, a ∈ ns → a ≤ M) → Q (.int M t') { s with heap := h', toks := tk }) : wpAny (model prog w) A (call (.builtin "max") [.ref l]) Q E s := by
  obtain ⟨xs, e⟩ := hi.allInts.items
  have hn : numsOf (intItems xs).toList = ns := by rw [← e]; exact hi.numsOf
  rw [nums_intItems] at hn
  subst hn
  rw [e] at ht
  have hsz : 0 < xs.size := by simpa using hne
  refine call_max_walk (iter_tupI ht fun h2 up st hf hn => ?_)
  refine ⟨_, _, _, _, _, _, _, rfl, Walks.tuple (A := A.in1) hh _ l hn (intItems xs), st, hf, by simpa [intItems] using hsz, CmpOf.ints_gt (numAt xs) (fun _ _ => intItems_at), fun v h' tk hP hk => ?_⟩
  obtain ⟨t, rfl⟩ := intItems_at hP
  obtain ⟨h1, g2⟩ := argBest_gt (numAt xs) ((intItems xs).size - 1)
  have hs : (intItems xs).size = xs.size := by simp [intItems]
  refine h h' tk _ t (kept_it up hk) ?_ fun a ha => ?_
  · rw [numAt_eq]; exact PySem.getD_mem (by rw [List.length_map, Array.length_toList]; omega)
  · obtain ⟨j, hj, rfl⟩ := mem_getD ha
    rw [List.length_map, Array.length_toList] at hj
    rw [← numAt_eq]; exact g2 j (by omega)
theorem min_tup (hh : A.handled = none) (ht : s.heap.IsTuple l its.toArray) (hi : IntsAre its ns) (hne : 0 < ns.length)
    (h : ∀ h' tk M t', (∀ b o, s.heap.get? b = some o → h'.get? b = some o) → M ∈ ns → (∀ a, a ∈ ns → M ≤ a) → Q (.int M t') { s with heap := h', toks := tk }) : wpAny (model prog w) A (call (.builtin "min") [.ref l]) Q E s := by
  obtain ⟨xs, e⟩ := hi.allInts.items
  have hn : numsOf (intItems xs).toList = ns := by rw [← e]; exact hi.numsOf
  rw [nums_intItems] at hn
  subst hn
  rw [e] at ht
  have hsz : 0 < xs.size := by simpa using hne
  refine call_min_walk (iter_tupI ht fun h2 up st hf hn => ?_)
  refine ⟨_, _, _, _, _, _, _, rfl, Walks.tuple (A := A.in1) hh _ l hn (intItems xs), st, hf, by simpa [intItems] using hsz, CmpOf.ints_lt (numAt xs) (fun _ _ => intItems_at), fun v h' tk hP hk => ?_⟩
  obtain ⟨t, rfl⟩ := intItems_at hP
  obtain ⟨h1, g2⟩ := argBest_lt (numAt xs) ((intItems xs).size - 1)
  have hs : (intItems xs).size = xs.size := by simp [intItems]
  refine h h' tk _ t (kept_it up hk) ?_ fun a ha => ?_
  · rw [numAt_eq]; exact PySem.getD_mem (by rw [List.length_map, Array.length_toList]; omega)
  · obtain ⟨j, hj, rfl⟩ := mem_getD ha
    rw [List.length_map, Array.length_toList] at hj
    rw [← numAt_eq]; exact g2 j (by omega)
/-! t[::-1] -/
theorem rev_apply {sl : Addr} {vl vu vs : Value} {n : Nat} {R : Int × Int × Nat → Shared → Prop} (hs : s.heap.IsSliceOf sl vl vu vs) (pl : IsPart vl none) (pu : IsPart vu none) (ps : IsPart vs (some (-1)))
    (h : R ((n : Int) - 1, -1, n) s) : wpAny (model prog w) A (Builtin.Slice.sliceApplied (.ref sl) (pure (n : Int))) R E s := by
  obtain ⟨os, hos, hcs, hds⟩ := id hs
  unfold Builtin.Slice.sliceApplied Builtin.Slice.sliceFields
  refine wpAny_bind (wpAny_bind (wpAny_field hos hds (x := vl) rfl (wpAny_bind (wpAny_field hos hds (x := vu) rfl (wpAny_bind (wpAny_field hos hds (x := vs) rfl (wpAny_pure ?_)))))))
  refine wpAny_bind (slicePart_ ps ?_)
  show wpAny _ _ (if ((-1 : Int) == 0) = true then _ else _) _ _ s
  rw [if_neg (by decide)]
  refine wpAny_bind (slicePart_ pl (wpAny_bind (slicePart_ pu (wpAny_bind (wpAny_pure ?_)))))
  show wpAny _ _ (pure ((n : Int) - 1, (-1 : Int), Builtin.Slice.slicePlaces ((n : Int) - 1) (-1) (-1))) _ _ s
  have e : Builtin.Slice.slicePlaces ((n : Int) - 1) (-1) (-1) = n := by
    unfold Builtin.Slice.slicePlaces
    rw [if_neg (by decide)]
    split
    · rw [show -(-1 : Int) = 1 from rfl, Int.ediv_one]; omega
    · omega
  rw [e]
  exact wpAny_pure h
theorem rev_pick (xs : Array Value) : ((List.range xs.size).filterMap fun (m : Nat) => xs[(((xs.size : Int) - 1) + (m : Int) * -1).toNat]?).toArray = xs.toList.reverse.toArray := by
  congr 1
  apply List.ext_getElem?
  intro j
  have go : ∀ k : Nat, k ≤ xs.size → (List.range k).filterMap (fun (m : Nat) => xs[(((xs.size : Int) - 1) + (m : Int) * -1).toNat]?) = (xs.toList.reverse).take k := by
    intro k
    induction k with
    | zero => intro _; rfl
    | succ k ih =>
      intro hk
      have hi : (((xs.size : Int) - 1) + (k : Int) * -1).toNat = xs.size - 1 - k := by omega
      have hg : xs[xs.size - 1 - k]? = some (xs[xs.size - 1 - k]'(by omega)) := Array.getElem?_eq_getElem _
      rw [List.range_succ, List.filterMap_append, ih (by omega), List.take_succ]
      congr 1
      simp only [List.filterMap_cons, List.filterMap_nil, hi, hg]
      rw [List.getElem?_reverse (by simp; omega)]
      simp [hg]
  rw [go _ (Nat.le_refl _), List.take_of_length_le (by simp)]
theorem getItem_tuple_rev {t sl : Addr} {items : Array Value} {vl vu vs : Value} (ht : IsTup s.heap t items) (hs : s.heap.IsSliceOf sl vl vu vs) (pl : IsPart vl none) (pu : IsPart vu none) (ps : IsPart vs (some (-1)))
    (h : Q (.ref s.heap.objs.size) { s with heap := s.heap.push { cls := .type "tuple", data := .seq items.toList.reverse.toArray } })
    (hsz : items.size ≤ sizeLine) : wpAny (model prog w) A (getItem (.ref t) (.ref sl)) Q E s := by
  have fits : sizeOk (.seq items.toList.reverse.toArray) := by
    show items.toList.reverse.toArray.size ≤ sizeLine
    simpa using hsz
  obtain ⟨os, hos, hcs, hds⟩ := id hs
  have hTs : s.TypeIs (.ref sl) "slice" := ⟨os, hos, hcs⟩
  unfold getItem
  try with_reducible refine wpAny_holding ?_
  first | refine wpAny_bind (wpAny_pure ?_) | skip
  refine wpAny_bind (wpAny_sequenceKey ht.typeIs (by decide) ?_)
  refine wpAny_bind (wpAny_callSpecial?_slot (name := Str.ofString "__getitem__") ht.typeIs PyProof.Rows.slot_tuple_getitem
    (wpAny_call_entry PyProof.Rows.slot_tuple_getitem ht.typeIs entry_tuple_getitem ?_ (args_tuple_getitem _ _)))
  show wpAny _ _ (Builtin.Tuple.tupleItemsOf (.ref t) >>= _) _ _ s
  refine wpAny_bind (tupleItemsOf_ ht (wpAny_bind (wpAny_typeOf hTs ?_)))
  rw [if_pos (by decide)]
  refine wpAny_bind (rev_apply hs pl pu ps ?_)
  have no : ¬ ((((items.size : Int) - 1) == 0 && (-1 : Int) == 1 && items.size == items.size) = true) := by simp
  show wpAny _ _ (if (((items.size : Int) - 1) == 0 && (-1 : Int) == 1 && items.size == items.size) = true then _ else _) _ _ s
  rw [if_neg no, rev_pick]
  first
    | exact wpAny_bind (m := Builtin.Tuple.tupleExact _) (wpAny_newObj_type (wpAny_pure ⟨_, rfl, wpAny_pure h⟩) fits)
    | exact wpAny_bind (m := Builtin.Tuple.tupleExact _) (wpAny_newObj_type (wpAny_bind (wpAny_pure (wpAny_pure ⟨_, rfl, wpAny_pure h⟩))) fits)
    | exact wpAny_bind (wpAny_bind (m := Builtin.Tuple.tupleExact _) (wpAny_newObj_type (wpAny_pure (wpAny_pure ⟨_, rfl, wpAny_pure h⟩)) fits))
    | exact wpAny_bind (wpAny_bind (m := Builtin.Tuple.tupleExact _) (wpAny_newObj_type (wpAny_pure ⟨_, rfl, wpAny_pure h⟩) fits))
end
/-! the calls, by values -/
section
variable {X : Cx}
def rSumT (K : PySem.W.Frag) : List V → Hp → VK → Prop := fun vs H Q => ∃ (a : Addr) (ns : List Int), vs = [V.ref a] ∧ SqT K H a (ns.map V.int) ∧ Q (.int ns.sum) H
def rMaxT (K : PySem.W.Frag) : List V → Hp → VK → Prop := fun vs H Q => ∃ (a : Addr) (ns : List Int), vs = [V.ref a] ∧ SqT K H a (ns.map V.int) ∧ 0 < ns.length ∧ ∀ m, m ∈ ns → (∀ y, y ∈ ns → y ≤ m) → Q (.int m) H
def rMinT (K : PySem.W.Frag) : List V → Hp → VK → Prop := fun vs H Q => ∃ (a : Addr) (ns : List Int), vs = [V.ref a] ∧ SqT K H a (ns.map V.int) ∧ 0 < ns.length ∧ ∀ m, m ∈ ns → (∀ y, y ∈ ns → m ≤ y) → Q (.int m) H
theorem cr_sumT (hc : X.calm = true) : CallR X (.builtin "sum") (rSumT X.K) := by
  rintro pins s σ H vs us Q I r ⟨a, ns, rfl, hs, q⟩
  obtain ⟨its, rv, hl, _⟩ := I.tuple hs
  rw [Vals.ref1 r]
  exact sum_tup (I.ok.hd hc) hl rv.ints fun h' tk t' hk => ⟨.int _, H, I.kept hk, ⟨_, rfl⟩, q⟩
theorem cr_maxT (hc : X.calm = true) : CallR X (.builtin "max") (rMaxT X.K) := by
  rintro pins s σ H vs us Q I r ⟨a, ns, rfl, hs, hne, q⟩
  obtain ⟨its, rv, hl, _⟩ := I.tuple hs
  rw [Vals.ref1 r]
  exact max_tup (I.ok.hd hc) hl rv.ints hne fun h' tk m t' hk h1 h2 => ⟨.int _, H, I.kept hk, ⟨_, rfl⟩, q m h1 h2⟩
theorem cr_minT (hc : X.calm = true) : CallR X (.builtin "min") (rMinT X.K) := by
  rintro pins s σ H vs us Q I r ⟨a, ns, rfl, hs, hne, q⟩
  obtain ⟨its, rv, hl, _⟩ := I.tuple hs
  rw [Vals.ref1 r]
  exact min_tup (I.ok.hd hc) hl rv.ints hne fun h' tk m t' hk h1 h2 => ⟨.int _, H, I.kept hk, ⟨_, rfl⟩, q m h1 h2⟩
end
section
variable {X : Cx}
def tRevT (K : PySem.W.Frag) (te : TE) : TE := fun σ H Q => te σ H fun x H1 => ∃ a xs, x = .ref a ∧ ((SqL K H1 a xs ∧ ∀ p, H1 p = none → Q (.ref p) (upd H1 p (.lst xs.reverse))) ∨ (SqT K H1 a xs ∧ NewT xs.reverse H1 Q))
theorem pe_revT {e : Expr} {te : TE} {k : Nat} {p1 p2 p3 pos : Pos} (he : PE X e te) : PE X (.Subscript e (.Slice none none (some (.UnaryOp .USub (.Constant (.int 1) k p1) p2)) p3) pos) (tRevT X.K te) := by
  refine ⟨fun pins s σ H Q I h => ?_⟩
  refine Subscript_ (thn (he.run pins s σ H _ I h) fun v s1 ⟨x, H1, I1, r1, q1⟩ => ?_)
  obtain ⟨a, xs, ex, q1⟩ := q1
  subst ex
  cases r1
  have hst : PO X (some (.UnaryOp .USub (.Constant (.int 1) k p1) p2)) (tPart (tUn (rU fun i => .int (-i)) (tC (.int 1)))) := po_some (pe_un un_neg pe_int)
  refine wpAny_Slice (thn (po_none.run pins s1 σ H1 (fun o H2 => o = none ∧ H2 = H1) I1 ⟨rfl, rfl⟩) fun vl s2 ⟨l, H2, I2, pl, el, e2⟩ => ?_)
  subst el e2
  refine thn (po_none.run pins s2 σ H2 (fun o H3 => o = none ∧ H3 = H2) I2 ⟨rfl, rfl⟩) fun vu s3 ⟨u, H3, I3, pu, eu, e3⟩ => ?_
  subst eu e3
  refine thn (hst.run pins s3 σ H3 (fun o H4 => o = some (-1) ∧ H4 = H3) I3 ⟨1, rfl, -1, rfl, rfl, rfl⟩) fun vs s4 ⟨o, H4, I4, ps, eo, e4⟩ => ?_
  subst eo e4
  have I5 : Inv X pins σ H4 { s4 with heap := s4.heap.push { cls := .type "slice", data := .fields #[vl, vu, vs] } } := I4.kept (t' := s4.toks) fun b ob q => Heap.get?_push_of_some _ q
  show wpAny (model X.prog X.w) X.A (subscriptTail e (.Slice none none (some (.UnaryOp .USub (.Constant (.int 1) k p1) p2)) p3) (.ref a) (.ref s4.heap.objs.size)) (EP X pins σ Q) X.xe { s4 with heap := s4.heap.push { cls := .type "slice", data := .fields #[vl, vu, vs] } }
  rcases q1 with ⟨hx, q⟩ | ⟨hx, q⟩
  · obtain ⟨its, r, ht, hz⟩ := I5.list hx
    have hlen := r.length
    refine tail_any (ops := [.ref a, .ref s4.heap.objs.size]) ht.isList.typeIs (PySem.slot_list_getitem.lookup) ?_ (by with_unfolding_all rfl)
    refine wpAny_getItem_list_slice ht.isList (Heap.IsSliceOf.new _ vl vu vs) pl pu ps (by decide) ?_ (by rw [List.size_toArray]; omega)
    rw [PySem.W.krv_pick]
    refine ⟨.ref _, _, I5.laid (t' := s4.toks) (o := .lst xs.reverse) (fun b ob q => Heap.get?_push_of_some _ q) (Nat.le_refl _) ?_, rfl, q _ (I5.hok.fresh (Nat.le_refl _))⟩
    exact ⟨by rw [List.length_reverse]; exact hz, _, 0, r.reverse, Heap.get?_push_size _ rfl⟩
  · obtain ⟨its, r, ht, hz⟩ := I5.tuple hx
    have hlen := r.length
    refine tail_any (ops := [.ref a, .ref s4.heap.objs.size]) ht.typeIs (slot_tuple_getitem.lookup) ?_ (by with_unfolding_all rfl)
    refine getItem_tuple_rev ht (Heap.IsSliceOf.new _ vl vu vs) pl pu ps ?_ (by rw [List.size_toArray]; omega)
    exact lay_tup (s := { s4 with heap := s4.heap.push { cls := .type "slice", data := .fields #[vl, vu, vs] } }) I5 r.reverse (by rw [List.length_reverse]; exact hz) q
end
end Rf

/-! Rf: len(set(xs)) of ints, a list or a tuple -/
namespace Rf
open PySem PySem.Spec PyProof.Rows L2
theorem insU_memL {x z : Int} : ∀ {l : List Int}, z ∈ insU x l ↔ z = x ∨ z ∈ l
  | [] => by simp [insU]
  | y :: r => by
    unfold insU
    split
    · simp
    · split
      · rename_i h; subst h; simp
      · simp only [List.mem_cons, insU_memL (l := r)]; constructor <;> (rintro (h | h | h) <;> simp [h])
theorem sdd_memL {z : Int} : ∀ {l : List Int}, z ∈ sdd l ↔ z ∈ l
  | [] => by simp [sdd]
  | x :: l => by
    show z ∈ insU x (sdd l) ↔ _
    rw [insU_memL, sdd_memL (l := l), List.mem_cons]
theorem insU_nd {x : Int} : ∀ {l : List Int}, l.Pairwise (· < ·) → (insU x l).Pairwise (· < ·)
  | [], _ => by simp [insU]
  | y :: r, h => by
    obtain ⟨h1, h2⟩ := List.pairwise_cons.mp h
    unfold insU
    split
    · rename_i g
      exact List.pairwise_cons.mpr ⟨fun z hz => (List.mem_cons.mp hz).elim (fun e => e ▸ g) fun hz => Int.lt_trans g (h1 z hz), h⟩
    · split
      · exact h
      · exact List.pairwise_cons.mpr ⟨fun z hz => (insU_memL.mp hz).elim (fun e => by rw [e]; omega) fun hz => h1 z hz, insU_nd h2⟩
theorem sdd_riseL : ∀ {l : List Int}, (sdd l).Pairwise (· < ·)
  | [] => .nil
  | x :: l => insU_nd sdd_riseL
theorem nd_len : ∀ {l m : List Int}, l.Nodup → m.Nodup → (∀ z, z ∈ l ↔ z ∈ m) → l.length = m.length := fun h1 h2 h => ((List.perm_ext_iff_of_nodup h1 h2).mpr h).length_eq
theorem setR_count {w : World} {h : Heap} {a : Addr} {ns : List Int} {c : Nat} (R : SetR w h a (fun j => decide (j ∈ ns)) c) : c = (sdd ns).length := by
  obtain ⟨_, es, _, _, _, _, _, _, nd, hm, _, _, hn, _⟩ := R
  rw [← hn, ← Array.length_toList, ← List.length_map (f := L2.keyOf)]
  refine nd_len nd (List.nodup_iff_pairwise_ne.mpr (sdd_riseL.imp fun h => by omega)) fun z => ?_
  rw [sdd_memL, ← hm z]
  simp
def tLsetA (K : PySem.W.Frag) (te : TE) : TE := fun σ H Q => te σ H fun x H1 => ∃ (l : Addr) (ns : List Int), x = .ref l ∧ (SqL K H1 l (ns.map V.int) ∨ SqT K H1 l (ns.map V.int)) ∧ ns.length ≤ 4000 ∧ Q (.int ((sdd ns).length : Nat)) H1
theorem pe_lsetA {X : Cx} {a : Expr} {te : TE} {p p2 q pos : Pos} (hc : X.calm = true) (hg : Gl X "len") (hm : X.mg "len" = none) (hg2 : Gl X "set") (hm2 : X.mg "set" = none) (ha : PE X a te)
    (na : starEach [a] X.env = (false, eval a X.env) :: starEach [] X.env) : PE X (.Call (.Name "len" p) [.Call (.Name "set" p2) [a] [] q] [] pos) (tLsetA X.K te) := by
  refine ⟨fun pins s σ H Q I h => ?_⟩
  refine Call_ (ld_blt I hg hm boot_len (PyProof.Rows.callWith_builtin1 (PyProof.Rows.args_cons ?_ rfl) rfl rfl))
  refine Call_ (ld_blt I hg2 hm2 boot_set (PyProof.Rows.callWith_type1 (PyProof.Rows.args_cons (thn (ha.run pins s σ H _ I h) fun v s1 ⟨x, H1, I1, r1, q1⟩ => PyProof.Rows.args_nil ?_) na) na rfl))
  obtain ⟨l, ns, rfl, hq, hl, q1⟩ := q1
  cases r1
  have go : ∀ (h' : Heap) (tk c : Nat), SetR X.w h' s1.heap.objs.size (fun j => decide (j ∈ ns)) c → c ≤ ns.length → (∀ b o, s1.heap.get? b = some o → h'.get? b = some o) →
      wpAny (model X.prog X.w) X.A (spliced (backTo pos (starEach [] X.env))) (fun vs s₂ => wpAny (model X.prog X.w) X.A (call (.builtin "len") (Value.ref s1.heap.objs.size :: vs)) (EP X pins σ Q) X.xe s₂) X.xe { s1 with heap := h', toks := tk } := fun h' tk c R hcl hk => by
    refine PyProof.Rows.args_nil ?_
    have e := setR_count R
    obtain ⟨o, es, ep, t, ho, hex, hd, _, _, _, _, hf, hn, _⟩ := R
    have I2 : Inv X pins σ H1 { s1 with heap := h', toks := tk } := I1.kept hk
    refine call_len_set (s := { s1 with heap := h', toks := tk }) ho hex hd hf (by omega) ⟨.int ((sdd ns).length : Nat), H1, I2.tok _, ⟨_, by rw [hn, e] <;> rfl⟩, q1⟩
  rcases hq with hq | hq
  · obtain ⟨its, r, pl, hz⟩ := I1.list hq
    exact set_of_list ns (I1.ok.hd hc) pl.isList (by simpa using RZ.intsAre_vals r) (by unfold scanBound; omega) go
  · obtain ⟨its, r, pl, hz⟩ := I1.tuple hq
    exact call_set_tupI ns (I1.ok.hd hc) pl (by simpa using RZ.intsAre_vals r) (by unfold scanBound; omega) go
end Rf

/-! Rf: count of data in a list, in a tuple; index of data in a tuple -/
namespace Rf
open PySem PySem.Spec PyProof.Rows L2
section
variable {X : Cx}
def rCountD (K : PySem.W.Frag) : V → List V → Hp → VK → Prop := fun x xs H Q => ∃ (a : Addr) (y : V) (d : PyData) (ds : List PyData), x = V.ref a ∧ xs = [y] ∧ Dp K H (V.ref a) (.list ds) ∧ Dp K H y d ∧
  SeqAt.shaped (.list ds) = true ∧ SeqAt.shaped d = true ∧ Q (.int ((ds.countP fun z => PyData.eqv z d : Nat))) H
theorem read_count {h : Heap} {its : List Value} {ds : List PyData} {d : PyData} (e : its.map (SeqAt.readOf h) = ds) : its.countP (fun u => PyData.eqv (SeqAt.readOf h u) d) = ds.countP fun z => PyData.eqv z d := by
  subst e
  rw [List.countP_map]
  rfl
theorem mt_countD (hu : X.A.units + 65 < cLine) : MtR X "list.count" (rCountD X.K) := by
  rintro pins s σ H x xs v us Q I rx rxs ⟨a, y, d, ds, rfl, rfl, hl, hy, sl, sd, q⟩
  cases rx
  obtain ⟨uy, rfl, ry⟩ := vals1 rxs
  obtain ⟨bs, r1⟩ := Dp.reads I d y uy hy ry
  have room : X.A.units + 1 + min (PyData.depthAll ds) d.depth < cLine := room_in_shaped sd hu
  cases hl with
  | lst hs ha =>
    obtain ⟨its, rv, ⟨⟨cls, dd, data, sls⟩, n, ho, hc, hdn, hdt⟩, hlen⟩ := I.list hs
    simp only at hc hdt
    subst hc hdt
    obtain ⟨as, h4⟩ := Dp.readsAll I ds _ its ha rv
    have e := read_count (d := d) (SeqAt.readsAll_map ds its as (SeqAt.canLay_of_shaped sl) h4)
    refine call_meets PySem.F.slot_list_count ⟨_, ho, rfl⟩ PySem.F.entry_list_count (PySem.F.args_list_count_2 _ _)
      (SeqAt.list_countAt a its.toArray n dd sls uy fun u => PyData.eqv (SeqAt.readOf s.heap u) d) ⟨ho, SeqAt.items_eqAt (vs := its.toArray) (show ReadsAll s.heap its.toArray.toList ds as from h4) r1 (SeqAt.canLay_of_shaped sl) (SeqAt.canLay_of_shaped sd) room, ?_⟩
    refine ⟨.int ((ds.countP fun z => PyData.eqv z d : Nat)), H, I.tok _, ⟨s.toks, ?_⟩, q⟩
    rw [← e]
def rTCountD (K : PySem.W.Frag) : V → List V → Hp → VK → Prop := fun x xs H Q => ∃ (a : Addr) (y : V) (d : PyData) (ds : List PyData), x = V.ref a ∧ xs = [y] ∧ Dp K H (V.ref a) (.tuple ds) ∧ PlnT K H a ∧ Dp K H y d ∧
  SeqAt.shaped (.list ds) = true ∧ SeqAt.shaped d = true ∧ Q (.int ((ds.countP fun z => PyData.eqv z d : Nat))) H
theorem mt_tcountD (hu : X.A.units + 65 < cLine) : MtR X "tuple.count" (rTCountD X.K) := by
  rintro pins s σ H x xs v us Q I rx rxs ⟨a, y, d, ds, rfl, rfl, hl, -, hy, sl, sd, q⟩
  cases rx
  obtain ⟨uy, rfl, ry⟩ := vals1 rxs
  obtain ⟨bs, r1⟩ := Dp.reads I d y uy hy ry
  have room : X.A.units + 1 + min (PyData.depthAll ds) d.depth < cLine := room_in_shaped sd hu
  cases hl with
  | tup hs ha =>
    obtain ⟨its, rv, ⟨⟨cls, dd, data, sls⟩, ho, hc, n, hdt⟩, hlen⟩ := I.tuple hs
    simp only at hc hdt
    subst hc hdt
    obtain ⟨as, h4⟩ := Dp.readsAll I ds _ its ha rv
    have e := read_count (d := d) (SeqAt.readsAll_map ds its as (SeqAt.canLay_of_shaped sl) h4)
    refine call_meets PySem.F.slot_tuple_count ⟨_, ho, rfl⟩ PySem.F.entry_tuple_count (PySem.F.args_tuple_count_2 _ _)
      (SeqAt.tuple_countAt a its.toArray n dd sls uy fun u => PyData.eqv (SeqAt.readOf s.heap u) d) ⟨ho, SeqAt.items_eqAt (vs := its.toArray) (show ReadsAll s.heap its.toArray.toList ds as from h4) r1 (SeqAt.canLay_of_shaped sl) (SeqAt.canLay_of_shaped sd) room, ?_⟩
    refine ⟨.int ((ds.countP fun z => PyData.eqv z d : Nat)), H, I.tok _, ⟨s.toks, ?_⟩, q⟩
    rw [← e]
def rTIndexD (K : PySem.W.Frag) : V → List V → Hp → VK → Prop := fun x xs H Q => ∃ (a : Addr) (y : V) (d : PyData) (ds : List PyData) (j : Nat) (z : PyData), x = V.ref a ∧ xs = [y] ∧ Dp K H (V.ref a) (.tuple ds) ∧ PlnT K H a ∧ Dp K H y d ∧
  SeqAt.shaped (.list ds) = true ∧ SeqAt.shaped d = true ∧ ds[j]? = some z ∧ PyData.eqv z d = true ∧ (∀ (m : Nat) (z' : PyData), m < j → ds[m]? = some z' → PyData.eqv z' d = false) ∧ Q (.int (j : Nat)) H
theorem mt_tindexD (hu : X.A.units + 65 < cLine) : MtR X "tuple.index" (rTIndexD X.K) := by
  rintro pins s σ H x xs v us Q I rx rxs ⟨a, y, d, ds, j, z, rfl, rfl, hl, -, hy, sl, sd, hz, hzj, hno, q⟩
  cases rx
  obtain ⟨uy, rfl, ry⟩ := vals1 rxs
  obtain ⟨bs, r1⟩ := Dp.reads I d y uy hy ry
  have room : X.A.units + 1 + min (PyData.depthAll ds) d.depth < cLine := room_in_shaped sd hu
  cases hl with
  | tup hs ha =>
    obtain ⟨its, rv, ⟨⟨cls, dd, data, sls⟩, ho, hc, n, hdt⟩, hlen⟩ := I.tuple hs
    simp only at hc hdt
    subst hc hdt
    obtain ⟨as, h4⟩ := Dp.readsAll I ds _ its ha rv
    have hmap := SeqAt.readsAll_map ds its as (SeqAt.canLay_of_shaped sl) h4
    have at_ : ∀ (m : Nat) (hm : m < its.toArray.size), ∃ z', ds[m]? = some z' ∧ SeqAt.readOf s.heap its.toArray[m] = z' := fun m hm => by
      have hml : m < its.length := by simpa using hm
      refine ⟨_, by rw [← hmap, List.getElem?_map, List.getElem?_eq_getElem hml]; rfl, by simp⟩
    have hj : j < its.toArray.size := by
      have := (List.getElem?_eq_some_iff.mp hz).1
      rw [← hmap, List.length_map] at this
      simpa using this
    refine call_meets PySem.F.slot_tuple_index ⟨_, ho, rfl⟩ PySem.F.entry_tuple_index (PySem.F.args_tuple_index_2 _ _)
      (TI.tuple_indexAt a its.toArray n dd sls uy (fun u => PyData.eqv (SeqAt.readOf s.heap u) d) j hj ?_ fun m hm hmj => ?_) ⟨ho, SeqAt.items_eqAt (vs := its.toArray) (show ReadsAll s.heap its.toArray.toList ds as from h4) r1 (SeqAt.canLay_of_shaped sl) (SeqAt.canLay_of_shaped sd) room, .int (j : Nat), H, I.tok _, ⟨_, rfl⟩, q⟩
    · obtain ⟨z', h1, h2⟩ := at_ j hj
      rw [hz] at h1; cases h1
      show PyData.eqv (SeqAt.readOf s.heap its.toArray[j]) d = true
      rw [h2]; exact hzj
    · obtain ⟨z', h1, h2⟩ := at_ m hm
      show PyData.eqv (SeqAt.readOf s.heap its.toArray[m]) d = false
      rw [h2]; exact hno m z' hmj h1
/-! a method of a tuple -/
def tTM (K : PySem.W.Frag) (r : V → List V → Hp → VK → Prop) (to : TE) (t : TA) : TE := fun σ H Q => to σ H fun x H1 => (∃ a vs, x = .ref a ∧ SqT K H1 a vs ∧ PlnT K H1 a) ∧ t σ H1 fun xs H2 => r x xs H2 Q
theorem pe_tm {o e : Expr} {es : List Expr} {to : TE} {t : TA} {name : Str} {apos cpos : Pos} {id : String} {r : V → List V → Hp → VK → Prop} (slot : Slot "tuple" name id) (hty : typeOf (.builtin id) = pure (.type "method_descriptor")) (hm : MtR X id r) (ho : PE X o to) (ha : PA X (e :: es) t)
    (b1 : attributeBase o name X.env (eval o X.env) = eval o X.env)
    (b2 : ((backTo cpos (starEach (e :: es) X.env)).all (fun x => !x.1) && (backToKw cpos (keywordEach [] X.env)).all (fun x => x.1.isSome)
      && decide ((e :: es).length + ([] : List Keyword).length + (if ([] : List Keyword).isEmpty then 0 else 1) < 30)) = true)
    (b3 : (apos.endLine == cpos.line) = true) (b4 : starEach (e :: es) X.env = (false, eval e X.env) :: starEach es X.env) (b5 : (backTo cpos (starEach es X.env)).any (·.1) = false) :
    PE X (.Call (.Attribute o name apos) (e :: es) [] cpos) (tTM X.K r to t) := .mk fun pins s σ H Q I h =>
  wpAny_Call_method_late b1 b2 b3 rfl (thn (ho.run pins s σ H _ I h) fun v s1 c => by
    obtain ⟨x, H1, I1, r1, ⟨a, vs, rfl, hs, hp⟩, q1⟩ := c
    cases r1
    obtain ⟨its, -, ⟨ob, n, e1, e2, e3, -⟩, -⟩ := plain_seq I1 hs hp
    refine ⟨"tuple", id, PySem.F.plainAttrs_tuple, slot, hty, ⟨ob, e1, e2⟩, fun b eb => by cases eb; exact ⟨ob, e1, e3⟩, ?_⟩
    have A := ha.run cpos pins s1 σ H1 _ I1 q1
    rw [b4] at A ⊢
    refine Calls.callWith_builtin (by show (false || (backTo cpos (starEach es X.env)).any (·.1)) = false; rw [b5] <;> rfl) (Calls.evalArgs_plain (thn A fun us s2 c2 => ?_))
    obtain ⟨ws, H2, I2, r2, q2⟩ := c2
    exact hm pins s2 σ H2 (.ref a) ws _ us Q I2 rfl r2 q2)
end
end Rf

/-! Rf: which data a value of the machine stands for. -/
namespace Rf
open PySem L2

abbrev Al := List (Bool × Addr)
/-- a tuple of ours, or one of zip's pairs -/
def TpT (K : PySem.W.Frag) (H : Hp) (a : Addr) (vs : List V) (ds : List D) : Prop := SqT K H a vs ∧ (PlnT K H a ∨ looseT ds = true)
mutual
/-- a value stands for data (no list but by its cell) -/
inductive DN (K : PySem.W.Frag) (H : Hp) (al : Al) : V → D → Prop
  | non : DN K H al .non .non
  | bl (b : Bool) : DN K H al (.bl b) (.bl b)
  | int (i : Int) : DN K H al (.int i) (.int i)
  | str (x : Str) : DN K H al (.str x) (.str x)
  | tup {a : Addr} {vs : List V} {ds : List D} : TpT K H a vs ds → DNL K H al vs ds → DN K H al (.ref a) (.tup ds)
  | ref {n : Nat} {b : Bool} {a : Addr} : al[n]? = some (b, a) → DN K H al (.ref a) (.ref n)
inductive DNL (K : PySem.W.Frag) (H : Hp) (al : Al) : List V → List D → Prop
  | nil : DNL K H al [] []
  | cons {v : V} {vs : List V} {d : D} {ds : List D} : DN K H al v d → DNL K H al vs ds → DNL K H al (v :: vs) (d :: ds)
end
/-- the written list, or the script -/
def SqR (K : PySem.W.Frag) (H : Hp) (a : Addr) (xs : List V) : Prop := (∃ o, H a = some (.frz o (.lst xs))) ∨
  ∃ (o : Obj) (its : Array Value) (n : Nat), K.lookup a = some o ∧ o.cls = .type "list" ∧ o.dict = none ∧ o.data = .seq its n ∧ its.size ≤ sizeLine ∧ Vals xs its.toList
theorem SqR.sq {K : PySem.W.Frag} {H : Hp} {a : Addr} {xs : List V} (h : SqR K H a xs) : SqL K H a xs := by
  rcases h with ⟨o, h⟩ | h
  · exact .inl (.inr ⟨o, h⟩)
  · exact .inr h
def CellOk (K : PySem.W.Frag) (H : Hp) (al : Al) (b : Bool) (a : Addr) : O → Prop
  | .lst ds => b = true ∧ ∃ vs, H a = some (.lst vs) ∧ DNL K H al vs ds
  | .ro ds => b = false ∧ ∃ vs, SqR K H a vs ∧ DNL K H al vs ds
  | .dic kvs => b = true ∧ ∃ ws, H a = some (.dK ws) ∧ ws.map (·.1) = kvs.map (·.1) ∧ DNL K H al (ws.map (·.2)) (kvs.map (·.2))
structure SRel (K : PySem.W.Frag) (H : Hp) (al : Al) (S : Store) : Prop where
  len : al.length = S.length
  ok : ∀ (n : Nat) o b a, S[n]? = some o → al[n]? = some (b, a) → CellOk K H al b a o
  inj : ∀ (m n : Nat) a, al[m]? = some (true, a) → al[n]? = some (true, a) → m = n
/-- what stood stands, but for the cells; new cells are new -/
structure Ext (al : Al) (H : Hp) (al' : Al) (H' : Hp) : Prop where
  pre : ∃ be : Al, al' = al ++ be ∧ ∀ b a, (b, a) ∈ be → b = true ∧ H a = none
  fr : ∀ a o, H a = some o → (true, a) ∉ al → H' a = some o
  tp : ∀ a vs, H a = some (.tup vs) → H' a = some (.tup vs)
  fz : ∀ a o u, H a = some (.frz o u) → H' a = some (.frz o u)
structure RelE (K : PySem.W.Frag) (H : Hp) (al : Al) (r : Sl) (σ : L2.St) : Prop where
  len : r.length = σ.length
  ok : ∀ (i : Nat) d, r[i]? = some (some d) → ∃ v, σ[i]? = some (some v) ∧ DN K H al v d
/-- a value behind an evaluation that began at H0: data, or a new list -/
def DV (K : PySem.W.Frag) (H0 H : Hp) (al : Al) (v : V) (d : D) : Prop := DN K H al v d ∨
  ∃ a vs ds, v = .ref a ∧ d = .lst ds ∧ H a = some (.lst vs) ∧ (true, a) ∉ al ∧ H0 a = none ∧ DNL K H al vs ds
def Out (K : PySem.W.Frag) (al : Al) (H : Hp) (S' : Store) (d : D) (v : V) (H' : Hp) : Prop := ∃ al', Ext al H al' H' ∧ SRel K H' al' S' ∧ DV K H H' al' v d
def OutS (K : PySem.W.Frag) (al : Al) (H : Hp) (r' : Sl) (S' : Store) (σ' : L2.St) (H' : Hp) : Prop := ∃ al', Ext al H al' H' ∧ SRel K H' al' S' ∧ RelE K H' al' r' σ'

section
variable {K : PySem.W.Frag} {H H' H1 H2 : Hp} {al al' al1 al2 : Al} {S S1 S2 : Store} {v : V} {d : D} {vs : List V} {ds : List D} {r : Sl} {σ : L2.St}

theorem sqT_tp (tp : ∀ a vs, H a = some (.tup vs) → H' a = some (.tup vs)) (fz : ∀ a o u, H a = some (.frz o u) → H' a = some (.frz o u)) {a : Addr} (h : SqT K H a vs) : SqT K H' a vs := by
  rcases h with (h | ⟨o, h⟩) | h
  · exact .inl (.inl (tp _ _ h))
  · exact .inl (.inr ⟨o, fz _ _ _ h⟩)
  · exact .inr h
theorem tpT_tp (tp : ∀ a vs, H a = some (.tup vs) → H' a = some (.tup vs)) (fz : ∀ a o u, H a = some (.frz o u) → H' a = some (.frz o u)) {a : Addr} (h : TpT K H a vs ds) : TpT K H' a vs ds := by
  refine ⟨sqT_tp tp fz h.1, ?_⟩
  rcases h.2 with (⟨o, u, e, d⟩ | p) | p
  · exact .inl (.inl ⟨o, u, fz _ _ _ e, d⟩)
  · exact .inl (.inr p)
  · exact .inr p
theorem get_pre {n : Nat} {p : Bool × Addr} {be : Al} (h : al[n]? = some p) : (al ++ be)[n]? = some p := by
  rw [List.getElem?_append_left (List.getElem?_eq_some_iff.mp h).1]; exact h
mutual
theorem DN.up (tp : ∀ a vs, H a = some (.tup vs) → H' a = some (.tup vs)) (fz : ∀ a o u, H a = some (.frz o u) → H' a = some (.frz o u)) (pr : ∀ (n : Nat) p, al[n]? = some p → al'[n]? = some p) : ∀ {v : V} {d : D}, DN K H al v d → DN K H' al' v d
  | _, _, .non => .non
  | _, _, .bl b => .bl b
  | _, _, .int i => .int i
  | _, _, .str x => .str x
  | _, _, .tup h l => .tup (tpT_tp tp fz h) (DNL.up tp fz pr l)
  | _, _, .ref h => .ref (pr _ _ h)
theorem DNL.up (tp : ∀ a vs, H a = some (.tup vs) → H' a = some (.tup vs)) (fz : ∀ a o u, H a = some (.frz o u) → H' a = some (.frz o u)) (pr : ∀ (n : Nat) p, al[n]? = some p → al'[n]? = some p) : ∀ {vs : List V} {ds : List D}, DNL K H al vs ds → DNL K H' al' vs ds
  | _, _, .nil => .nil
  | _, _, .cons h l => .cons (DN.up tp fz pr h) (DNL.up tp fz pr l)
end
theorem Ext.prefix (e : Ext al H al' H') : ∀ (n : Nat) p, al[n]? = some p → al'[n]? = some p := fun n p h => by
  obtain ⟨be, rfl, _⟩ := e.pre
  exact get_pre h
theorem DN.mono (e : Ext al H al' H') (h : DN K H al v d) : DN K H' al' v d := h.up e.tp e.fz e.prefix
theorem DNL.mono (e : Ext al H al' H') (h : DNL K H al vs ds) : DNL K H' al' vs ds := h.up e.tp e.fz e.prefix
theorem DNL.length : ∀ {vs : List V} {ds : List D}, DNL K H al vs ds → vs.length = ds.length
  | _, _, .nil => rfl
  | _, _, .cons _ l => by simp [l.length]
theorem DNL.get : ∀ {vs : List V} {ds : List D} {i : Nat} {d : D}, DNL K H al vs ds → ds[i]? = some d → ∃ v, vs[i]? = some v ∧ DN K H al v d
  | _, _, _, _, .nil, h => by simp at h
  | _, _, 0, _, .cons h _, e => by simp at e; subst e; exact ⟨_, rfl, h⟩
  | _, _, i + 1, d, .cons _ l, e => by
    obtain ⟨v, h1, h2⟩ := DNL.get (i := i) (d := d) l (by simpa using e)
    exact ⟨v, by simpa using h1, h2⟩
theorem DNL.getV : ∀ {vs : List V} {ds : List D} {i : Nat} {v : V}, DNL K H al vs ds → vs[i]? = some v → ∃ d, ds[i]? = some d ∧ DN K H al v d
  | _, _, _, _, .nil, h => by simp at h
  | _, _, 0, _, .cons h _, e => by simp at e; subst e; exact ⟨_, rfl, h⟩
  | _, _, i + 1, d, .cons _ l, e => by
    obtain ⟨v, h1, h2⟩ := DNL.getV (i := i) (v := d) l (by simpa using e)
    exact ⟨v, by simpa using h1, h2⟩
theorem DNL.append : ∀ {vs : List V} {ds : List D} {ws : List V} {es : List D}, DNL K H al vs ds → DNL K H al ws es → DNL K H al (vs ++ ws) (ds ++ es)
  | _, _, _, _, .nil, s => s
  | _, _, _, _, .cons h t, s => .cons h (DNL.append t s)
theorem DNL.take : ∀ {vs : List V} {ds : List D} (n : Nat), DNL K H al vs ds → DNL K H al (vs.take n) (ds.take n)
  | _, _, 0, _ => .nil
  | _, _, _ + 1, .nil => .nil
  | _, _, n + 1, .cons h t => .cons h (DNL.take n t)
theorem DNL.drop : ∀ {vs : List V} {ds : List D} (n : Nat), DNL K H al vs ds → DNL K H al (vs.drop n) (ds.drop n)
  | _, _, 0, r => r
  | _, _, _ + 1, .nil => .nil
  | _, _, n + 1, .cons _ t => DNL.drop n t
theorem DNL.set : ∀ {vs : List V} {ds : List D} (n : Nat) {v : V} {d : D}, DNL K H al vs ds → DN K H al v d → DNL K H al (vs.set n v) (ds.set n d)
  | _, _, _, _, _, .nil, _ => .nil
  | _, _, 0, _, _, .cons _ t, h => .cons h t
  | _, _, n + 1, _, _, .cons q t, h => .cons q (DNL.set n t h)
theorem DNL.one (h : DN K H al v d) : DNL K H al [v] [d] := .cons h .nil
theorem DNL.reverse : ∀ {vs : List V} {ds : List D}, DNL K H al vs ds → DNL K H al vs.reverse ds.reverse
  | _, _, .nil => .nil
  | _, _, .cons h t => by simp only [List.reverse_cons]; exact (DNL.reverse t).append (.one h)
theorem DNL.dropLast : ∀ {vs : List V} {ds : List D}, DNL K H al vs ds → DNL K H al vs.dropLast ds.dropLast
  | _, _, .nil => .nil
  | _, _, .cons h .nil => .nil
  | _, _, .cons h (.cons h2 t) => .cons h (DNL.dropLast (.cons h2 t))
theorem DNL.eraseIdx : ∀ {vs : List V} {ds : List D} (n : Nat), DNL K H al vs ds → DNL K H al (vs.eraseIdx n) (ds.eraseIdx n)
  | _, _, _, .nil => by simp only [List.eraseIdx_nil]; exact .nil
  | _, _, 0, .cons _ t => t
  | _, _, n + 1, .cons h t => .cons h (DNL.eraseIdx n t)
theorem DNL.cut (h : DNL K H al vs ds) (lo hi : Option Int) : DNL K H al (cutV vs lo hi) (Rf.cut ds lo hi) := by
  unfold cutV Rf.cut
  rw [h.length]
  exact (h.drop _).take _
theorem DNL.replicate (h : DNL K H al vs ds) : ∀ n : Nat, DNL K H al (List.replicate n vs).flatten (List.replicate n ds).flatten
  | 0 => .nil
  | n + 1 => by simp only [List.replicate_succ, List.flatten_cons]; exact h.append (h.replicate n)

/-! ### extension -/
theorem Ext.refl : Ext al H al H := ⟨⟨[], by simp, fun _ _ h => absurd h (by simp)⟩, fun _ _ h _ => h, fun _ _ h => h, fun _ _ _ h => h⟩
theorem SRel.cell (R : SRel K H al S) {n : Nat} {b : Bool} {a : Addr} (h : al[n]? = some (b, a)) : ∃ o, S[n]? = some o ∧ CellOk K H al b a o := by
  have hn : n < S.length := by rw [← R.len]; exact (List.getElem?_eq_some_iff.mp h).1
  exact ⟨S[n], List.getElem?_eq_getElem hn, R.ok n _ b a (List.getElem?_eq_getElem hn) h⟩
theorem SRel.addr (R : SRel K H al S) {n : Nat} {o : O} (h : S[n]? = some o) : ∃ b a, al[n]? = some (b, a) ∧ CellOk K H al b a o := by
  have hn : n < al.length := by rw [R.len]; exact (List.getElem?_eq_some_iff.mp h).1
  exact ⟨(al[n]).1, (al[n]).2, List.getElem?_eq_getElem hn, R.ok n _ _ _ h (List.getElem?_eq_getElem hn)⟩
/-- a cell that may change is tracked: a list or a dict -/
theorem CellOk.trk {b : Bool} {a : Addr} {o : O} (c : CellOk K H al b a o) (hb : b = true) : (∃ vs, H a = some (.lst vs)) ∨ ∃ ws, H a = some (.dK ws) := by
  cases o with
  | lst ds => obtain ⟨_, vs, h, _⟩ := c; exact .inl ⟨vs, h⟩
  | ro ds => obtain ⟨h, _⟩ := c; rw [hb] at h; cases h
  | dic kvs => obtain ⟨_, ws, h, _⟩ := c; exact .inr ⟨ws, h⟩
theorem SRel.tracked (R : SRel K H al S) {a : Addr} (h : (true, a) ∈ al) : (∃ vs, H a = some (.lst vs)) ∨ ∃ ws, H a = some (.dK ws) := by
  obtain ⟨n, hn⟩ := List.mem_iff_getElem?.mp h
  obtain ⟨o, _, c⟩ := R.cell hn
  exact CellOk.trk c rfl
theorem SRel.fresh (R : SRel K H al S) {a : Addr} (h : H a = none) : (true, a) ∉ al := fun m => by
  rcases R.tracked m with ⟨_, e⟩ | ⟨_, e⟩ <;> (rw [h] at e; cases e)
/-- new behind is new ahead -/
theorem Ext.back (e : Ext al H al' H') (R : SRel K H' al' S) {a : Addr} (h : H' a = none) : H a = none := by
  cases q : H a with
  | none => rfl
  | some o =>
    by_cases m : (true, a) ∈ al
    · obtain ⟨be, rfl, _⟩ := e.pre
      exact absurd (List.mem_append_left _ m) (R.fresh h)
    · rw [e.fr a o q m] at h; cases h
theorem Ext.trans (e : Ext al H al1 H1) (R : SRel K H1 al1 S) (e2 : Ext al1 H1 al2 H2) : Ext al H al2 H2 := by
  refine ⟨?_, fun a o h m => ?_, fun a vs h => e2.tp _ _ (e.tp _ _ h), fun a o u h => e2.fz _ _ _ (e.fz _ _ _ h)⟩
  · obtain ⟨be, rfl, hb⟩ := e.pre
    obtain ⟨be2, rfl, hb2⟩ := e2.pre
    refine ⟨be ++ be2, by simp, fun b a m => ?_⟩
    rcases List.mem_append.mp m with m | m
    · exact hb b a m
    · exact ⟨(hb2 b a m).1, e.back R (hb2 b a m).2⟩
  · refine e2.fr a o (e.fr a o h m) fun m1 => ?_
    obtain ⟨be, rfl, hb⟩ := e.pre
    rcases List.mem_append.mp m1 with m1 | m1
    · exact m m1
    · rw [(hb _ _ m1).2] at h; cases h
theorem RelE.mono (e : Ext al H al' H') (h : RelE K H al r σ) : RelE K H' al' r σ := ⟨h.len, fun i d q => let ⟨v, a, b⟩ := h.ok i d q; ⟨v, a, b.mono e⟩⟩
theorem DV.mono {H0 : Hp} (e : Ext al H al' H') (h : DV K H0 H al v d) : DV K H0 H' al' v d := by
  rcases h with h | ⟨a, vs, ds, rfl, rfl, h, m, h0, l⟩
  · exact .inl (h.mono e)
  · refine .inr ⟨a, vs, ds, rfl, rfl, e.fr a _ h m, fun m1 => ?_, h0, l.mono e⟩
    obtain ⟨be, rfl, hb⟩ := e.pre
    rcases List.mem_append.mp m1 with m1 | m1
    · exact m m1
    · rw [(hb _ _ m1).2] at h; cases h
theorem DV.start {H0 : Hp} (e : Ext al H0 al1 H) (R : SRel K H al1 S) (h : DV K H H' al' v d) : DV K H0 H' al' v d := by
  rcases h with h | ⟨a, vs, ds, rfl, rfl, h, m, h0, l⟩
  · exact .inl h
  · exact .inr ⟨a, vs, ds, rfl, rfl, h, m, e.back R h0, l⟩
/-- a new object that is no cell -/
theorem Ext.new {p : Addr} {o : HO} (h : H p = none) : Ext al H al (upd H p o) :=
  ⟨⟨[], by simp, fun _ _ m => absurd m (by simp)⟩, fun a u e _ => by rw [upd_ne (ne_of_none e h)]; exact e, fun a vs e => by rw [upd_ne (ne_of_none e h)]; exact e, fun a u w e => by rw [upd_ne (ne_of_none e h)]; exact e⟩
theorem CellOk.mono {b : Bool} {a : Addr} {o : O} (c : CellOk K H al b a o) (tp : ∀ a vs, H a = some (.tup vs) → H' a = some (.tup vs)) (fz : ∀ a o u, H a = some (.frz o u) → H' a = some (.frz o u)) (pr : ∀ (n : Nat) p, al[n]? = some p → al'[n]? = some p) (ha : b = true → H' a = H a) : CellOk K H' al' b a o := by
  cases o with
  | lst ds => obtain ⟨hb, vs, h, l⟩ := c; exact ⟨hb, vs, by rw [ha hb]; exact h, l.up tp fz pr⟩
  | ro ds =>
    obtain ⟨hb, vs, h, l⟩ := c
    refine ⟨hb, vs, ?_, l.up tp fz pr⟩
    rcases h with ⟨o, h⟩ | h
    · exact .inl ⟨o, fz _ _ _ h⟩
    · exact .inr h
  | dic kvs => obtain ⟨hb, ws, h, k, l⟩ := c; exact ⟨hb, ws, by rw [ha hb]; exact h, k, l.up tp fz pr⟩
/-- the cells stand while the heap grows beside them -/
theorem SRel.grow (R : SRel K H al S) (e : Ext al H al H') (hc : ∀ a, (true, a) ∈ al → H' a = H a) : SRel K H' al S :=
  ⟨R.len, fun n o b a h1 h2 => CellOk.mono (R.ok n o b a h1 h2) e.tp e.fz (fun _ _ q => q) fun hb => hc a (List.mem_iff_getElem?.mpr ⟨n, by rw [h2, hb]⟩), R.inj⟩
theorem SRel.new (R : SRel K H al S) {p : Addr} {o : HO} (h : H p = none) : SRel K (upd H p o) al S :=
  R.grow (Ext.new h) fun a m => upd_ne fun z => R.fresh h (z ▸ m)
/-- a new object is laid into the store -/
theorem SRel.layO (R : SRel K H al S) {a : Addr} {o : O} (m : (true, a) ∉ al) (co : CellOk K H (al ++ [(true, a)]) true a o) : SRel K H (al ++ [(true, a)]) (S ++ [o]) := by
  have pr : ∀ (n : Nat) p, al[n]? = some p → (al ++ [(true, a)])[n]? = some p := fun n p q => get_pre q
  refine ⟨by simp [R.len], fun n o' b c h1 h2 => ?_, fun i j c h1 h2 => ?_⟩
  · by_cases hn : n < S.length
    · rw [List.getElem?_append_left hn] at h1
      rw [List.getElem?_append_left (by rw [R.len]; exact hn)] at h2
      exact CellOk.mono (R.ok n o' b c h1 h2) (fun _ _ q => q) (fun _ _ _ q => q) pr fun _ => rfl
    · have e : n = S.length := by
        have := (List.getElem?_eq_some_iff.mp h1).1
        simp at this; omega
      subst e
      rw [List.getElem?_append_right (by omega)] at h1
      rw [← R.len, List.getElem?_append_right (by omega)] at h2
      simp at h1 h2
      obtain ⟨rfl, rfl⟩ := h2
      subst h1
      exact co
  · by_cases hi : i < al.length
    · rw [List.getElem?_append_left hi] at h1
      by_cases hj : j < al.length
      · rw [List.getElem?_append_left hj] at h2
        exact R.inj i j c h1 h2
      · have := (List.getElem?_eq_some_iff.mp h2).1
        simp at this
        have e : j = al.length := by omega
        subst e
        rw [List.getElem?_append_right (by omega)] at h2
        simp at h2
        subst h2
        exact absurd (List.mem_iff_getElem?.mpr ⟨i, h1⟩) m
    · have := (List.getElem?_eq_some_iff.mp h1).1
      simp at this
      have e : i = al.length := by omega
      subst e
      rw [List.getElem?_append_right (by omega)] at h1
      simp at h1
      subst h1
      by_cases hj : j < al.length
      · rw [List.getElem?_append_left hj] at h2
        exact absurd (List.mem_iff_getElem?.mpr ⟨j, h2⟩) m
      · have := (List.getElem?_eq_some_iff.mp h2).1
        simp at this
        omega
theorem SRel.lay (R : SRel K H al S) {a : Addr} {vs : List V} (h : H a = some (.lst vs)) (m : (true, a) ∉ al) (l : DNL K H al vs ds) : SRel K H (al ++ [(true, a)]) (S ++ [.lst ds]) :=
  R.layO m ⟨rfl, vs, h, l.up (fun _ _ q => q) (fun _ _ _ q => q) fun n p q => get_pre q⟩
/-- a cell is written -/
theorem Ext.write {a : Addr} {o : HO} (m : (true, a) ∈ al) (R : SRel K H al S) : Ext al H al (upd H a o) := by
  have nt : ∀ c u, H c = some u → (∀ vs, u ≠ .lst vs) → (∀ ws, u ≠ .dK ws) → c ≠ a := fun c u e h1 h2 z => by
    subst z
    rcases R.tracked m with ⟨vs, q⟩ | ⟨ws, q⟩
    · rw [e] at q; exact h1 vs (Option.some.inj q)
    · rw [e] at q; exact h2 ws (Option.some.inj q)
  refine ⟨⟨[], by simp, fun _ _ m => absurd m (by simp)⟩, fun c u e n => ?_, fun c vs e => ?_, fun c u w e => ?_⟩
  · rw [upd_ne (show c ≠ a from fun z => n (by rw [z]; exact m))]; exact e
  · rw [upd_ne (nt c _ e (fun _ z => nomatch z) fun _ z => nomatch z)]; exact e
  · rw [upd_ne (nt c _ e (fun _ z => nomatch z) fun _ z => nomatch z)]; exact e
theorem SRel.write (R : SRel K H al S) {n : Nat} {a : Addr} {u : HO} {o : O} (h : al[n]? = some (true, a)) (c : CellOk K (upd H a u) al true a o) : SRel K (upd H a u) al (S.set n o) := by
  have m : (true, a) ∈ al := List.mem_iff_getElem?.mpr ⟨n, h⟩
  have e : Ext al H al (upd H a u) := Ext.write m R
  have hn : n < S.length := by rw [← R.len]; exact (List.getElem?_eq_some_iff.mp h).1
  refine ⟨by simp [R.len], fun i o' b a' h1 h2 => ?_, R.inj⟩
  by_cases hi : n = i
  · subst hi
    rw [List.getElem?_set_self hn] at h1
    cases h1
    rw [h] at h2; cases h2
    exact c
  · rw [List.getElem?_set_ne hi] at h1
    refine CellOk.mono (R.ok i o' b a' h1 h2) e.tp e.fz (fun _ _ q => q) fun hb => upd_ne fun z => hi ?_
    subst z; subst hb
    exact R.inj n i _ h h2
theorem mat_ok {H0 : Hp} (e : Ext al H0 al1 H) (R : SRel K H al1 S) (h : DV K H0 H al1 v d) : ∃ al2, Ext al H0 al2 H ∧ SRel K H al2 (mat d S).2 ∧ DN K H al2 v (mat d S).1 := by
  rcases h with h | ⟨a, vs, ds, rfl, rfl, h, m, h0, l⟩
  · cases h with
    | non => exact ⟨al1, e, R, .non⟩
    | bl b => exact ⟨al1, e, R, .bl b⟩
    | int i => exact ⟨al1, e, R, .int i⟩
    | str x => exact ⟨al1, e, R, .str x⟩
    | tup q l => exact ⟨al1, e, R, .tup q l⟩
    | ref q => exact ⟨al1, e, R, .ref q⟩
  · refine ⟨al1 ++ [(true, a)], ⟨?_, e.fr, e.tp, e.fz⟩, R.lay h m l, .ref (b := true) ?_⟩
    · obtain ⟨be, rfl, hb⟩ := e.pre
      refine ⟨be ++ [(true, a)], by simp, fun b c q => ?_⟩
      rcases List.mem_append.mp q with q | q
      · exact hb b c q
      · simp at q; obtain ⟨rfl, rfl⟩ := q; exact ⟨rfl, h0⟩
    · rw [← R.len]; simp
end
end Rf

/-! Rf: the operations upon values. -/
namespace Rf
open PySem L2
section
variable {K : PySem.W.Frag} {H0 H H' H1 H2 : Hp} {al al' al1 al2 : Al} {S S1 S2 : Store} {v x y : V} {d : D} {vs : List V} {ds : List D}

theorem DV.int_of {i : Int} (h : DV K H0 H al v (.int i)) : v = .int i := by
  rcases h with h | ⟨a, vs, ds, _, e, _⟩
  · cases h; rfl
  · cases e
theorem DV.str_of {i : Str} (h : DV K H0 H al v (.str i)) : v = .str i := by
  rcases h with h | ⟨a, vs, ds, _, e, _⟩
  · cases h; rfl
  · cases e
theorem DV.bl_of {i : Bool} (h : DV K H0 H al v (.bl i)) : v = .bl i := by
  rcases h with h | ⟨a, vs, ds, _, e, _⟩
  · cases h; rfl
  · cases e
theorem DV.non_of (h : DV K H0 H al v .non) : v = .non := by
  rcases h with h | ⟨a, vs, ds, _, e, _⟩
  · cases h; rfl
  · cases e
theorem DV.tup_of2 (h : DV K H0 H al v (.tup ds)) : ∃ a vs, v = .ref a ∧ TpT K H a vs ds ∧ DNL K H al vs ds := by
  rcases h with h | ⟨a, vs, ds, _, e, _⟩
  · cases h with
    | tup q l => exact ⟨_, _, rfl, q, l⟩
  · cases e
theorem DV.tup_of (h : DV K H0 H al v (.tup ds)) : ∃ a vs, v = .ref a ∧ SqT K H a vs ∧ DNL K H al vs ds := by
  obtain ⟨a, vs, e, q, l⟩ := h.tup_of2
  exact ⟨a, vs, e, q.1, l⟩
theorem DN.dv (h : DN K H al v d) : DV K H0 H al v d := .inl h
/-- a value that is None stands for None alone -/
theorem DV.none_iff (h : DV K H0 H al v d) : decide (v = .non) = decide (d = .non) := by
  rcases h with h | ⟨a, vs, ds, rfl, rfl, _⟩
  · cases h <;> simp
  · simp
/-- the items of a list that may be changed -/
theorem mlOf_ok (R : SRel K H al S) (h : DV K H0 H al v d) (e : mlOf S d = some ds) : ∃ a vs, v = .ref a ∧ H a = some (.lst vs) ∧ DNL K H al vs ds := by
  rcases h with h | ⟨a, vs, ds', rfl, rfl, h, _, _, l⟩
  · cases h with
    | ref q =>
      obtain ⟨o, ho, c⟩ := R.cell q
      simp only [mlOf, ho] at e
      cases o with
      | lst ds' => simp at e; subst e; obtain ⟨_, vs, h, l⟩ := c; exact ⟨_, vs, rfl, h, l⟩
      | ro ds' => simp at e
      | dic kvs => simp at e
    | _ => simp [mlOf] at e
  · simp [mlOf] at e; subst e; exact ⟨a, vs, rfl, h, l⟩
theorem cellL_ok (R : SRel K H al S) {n : Nat} {b : Bool} {a : Addr} (q : al[n]? = some (b, a)) (e : cellL S n = some ds) : ∃ vs, SqL K H a vs ∧ DNL K H al vs ds := by
  unfold cellL at e
  obtain ⟨o, ho, c⟩ := R.cell q
  rw [ho] at e
  cases o with
  | lst ds' => simp at e; subst e; obtain ⟨_, vs, h, l⟩ := c; exact ⟨vs, .inl (.inl h), l⟩
  | ro ds' => simp at e; subst e; obtain ⟨_, vs, h, l⟩ := c; exact ⟨vs, h.sq, l⟩
  | dic kvs => simp at e
theorem lstOf_ok (R : SRel K H al S) (h : DV K H0 H al v d) (e : lstOf S d = some ds) : ∃ a vs, v = .ref a ∧ SqL K H a vs ∧ DNL K H al vs ds := by
  rcases h with h | ⟨a, vs, ds', rfl, rfl, h, _, _, l⟩
  · cases h with
    | ref q =>
      obtain ⟨vs, h, l⟩ := cellL_ok R q e
      exact ⟨_, vs, rfl, h, l⟩
    | _ => simp [lstOf] at e
  · simp [lstOf] at e; subst e; exact ⟨a, vs, rfl, .inl (.inl h), l⟩
theorem seqOf_ok (R : SRel K H al S) (h : DV K H0 H al v d) (e : seqOf S d = some ds) : ∃ a vs, v = .ref a ∧ (SqL K H a vs ∨ SqT K H a vs) ∧ DNL K H al vs ds := by
  cases d with
  | tup ds' =>
    simp [seqOf] at e; subst e
    obtain ⟨a, vs, rfl, q, l⟩ := h.tup_of
    exact ⟨a, vs, rfl, .inr q, l⟩
  | lst ds' => obtain ⟨a, vs, rfl, q, l⟩ := lstOf_ok R h (ds := ds) (by simpa [lstOf, seqOf] using e); exact ⟨a, vs, rfl, .inl q, l⟩
  | ref n => obtain ⟨a, vs, rfl, q, l⟩ := lstOf_ok R h (ds := ds) (by simpa [lstOf, seqOf] using e); exact ⟨a, vs, rfl, .inl q, l⟩
  | _ => simp [seqOf] at e

theorem seqOf_ok2 (R : SRel K H al S) (h : DV K H0 H al v d) (e : seqOf S d = some ds) : ∃ a vs, v = .ref a ∧ (SqL K H a vs ∨ (TpT K H a vs ds ∧ d = .tup ds)) ∧ DNL K H al vs ds := by
  cases d with
  | tup ds' =>
    simp [seqOf] at e; subst e
    obtain ⟨a, vs, rfl, q, l⟩ := h.tup_of2
    exact ⟨a, vs, rfl, .inr ⟨q, rfl⟩, l⟩
  | lst ds' => obtain ⟨a, vs, rfl, q, l⟩ := lstOf_ok R h (ds := ds) (by simpa [lstOf, seqOf] using e); exact ⟨a, vs, rfl, .inl q, l⟩
  | ref n => obtain ⟨a, vs, rfl, q, l⟩ := lstOf_ok R h (ds := ds) (by simpa [lstOf, seqOf] using e); exact ⟨a, vs, rfl, .inl q, l⟩
  | _ => simp [seqOf] at e

/-! ### as the library's data -/
theorem mapO_some {α β : Type} {f : α → Option β} {a : α} {r : List α} {bs : List β} (h : mapO f (a :: r) = some bs) : ∃ b t, f a = some b ∧ mapO f r = some t ∧ bs = b :: t := by
  unfold mapO at h
  cases e : f a with
  | none => rw [e] at h; cases h
  | some b =>
    cases e2 : mapO f r with
    | none => rw [e, e2] at h; cases h
    | some t => rw [e, e2] at h; exact ⟨b, t, rfl, rfl, (Option.some.inj h).symm⟩
theorem dp_list {f : D → Option PyData} (hf : ∀ v d p, f d = some p → DN K H al v d → Dp K H v p) : ∀ {vs : List V} {ds : List D} {ps : List PyData}, DNL K H al vs ds → mapO f ds = some ps → DpAll K H vs ps
  | _, _, _, .nil, e => by simp [mapO] at e; subst e; exact .nil
  | _, _, _, .cons h l, e => by
    obtain ⟨b, t, e1, e2, rfl⟩ := mapO_some e
    exact .cons (hf _ _ _ e1 h) (dp_list hf l e2)
theorem dat_dn (R : SRel K H al S) : ∀ (n : Nat) (v : V) (d : D) (p : PyData), dat S n d = some p → DN K H al v d → Dp K H v p
  | n, _, .non, p, e, .non => by cases n <;> (simp [dat] at e; subst e; exact .non)
  | n, _, .bl b, p, e, .bl _ => by cases n <;> (simp [dat] at e; subst e; exact .bl b)
  | n, _, .int i, p, e, .int _ => by cases n <;> (simp [dat] at e; subst e; exact .int i)
  | n, _, .str x, p, e, .str _ => by cases n <;> (simp [dat] at e; subst e; exact .str x)
  | 0, _, .tup ds, p, e, _ => by simp [dat] at e
  | 0, _, .ref m, p, e, _ => by simp [dat] at e
  | n + 1, _, .tup ds, p, e, .tup q l => by
    simp only [dat, Option.map_eq_some_iff] at e
    obtain ⟨ps, e, rfl⟩ := e
    exact .tup q.1 (dp_list (fun v d p => dat_dn R n v d p) l e)
  | n + 1, _, .ref m, p, e, .ref q => by
    simp only [dat] at e
    cases ec : cellL S m with
    | none => rw [ec] at e; cases e
    | some ds =>
      rw [ec] at e
      simp only [Option.map_eq_some_iff] at e
      obtain ⟨ps, e, rfl⟩ := e
      obtain ⟨vs, h, l⟩ := cellL_ok R q ec
      exact .lst h (dp_list (fun v d p => dat_dn R n v d p) l e)
theorem dat_dv (R : SRel K H al S) {n : Nat} {p : PyData} (e : dat S n d = some p) (h : DV K H0 H al v d) : Dp K H v p := by
  rcases h with h | ⟨a, vs, ds, rfl, rfl, h, _, _, l⟩
  · exact dat_dn R n v d p e h
  · cases n with
    | zero => simp [dat] at e
    | succ n =>
      simp only [dat, Option.map_eq_some_iff] at e
      obtain ⟨ps, e, rfl⟩ := e
      exact .lst (.inl (.inl h)) (dp_list (fun v d p => dat_dn R n v d p) l e)
theorem Out.here (R : SRel K H al S) (h : DN K H al v d) : Out K al H S d v H := ⟨al, Ext.refl, R, .inl h⟩
theorem tpT_new {p : Addr} {ob : Obj} (hd : ob.dict = none) : TpT K (upd H p (.frz ob (.tup vs))) p vs ds := ⟨.inl (.inr ⟨ob, upd_same⟩), .inl (.inl ⟨ob, _, upd_same, hd⟩)⟩
theorem Out.newTup (R : SRel K H al S) {p : Addr} {ob : Obj} (hp : H p = none) (hd : ob.dict = none) (l : DNL K H al vs ds) : Out K al H S (.tup ds) (.ref p) (upd H p (.frz ob (.tup vs))) :=
  ⟨al, Ext.new hp, R.new hp, .inl (.tup (tpT_new hd) (l.mono (Ext.new hp)))⟩
theorem Out.newLst (R : SRel K H al S) {p : Addr} (hp : H p = none) (l : DNL K H al vs ds) : Out K al H S (.lst ds) (.ref p) (upd H p (.lst vs)) :=
  ⟨al, Ext.new hp, R.new hp, .inr ⟨p, vs, ds, rfl, rfl, upd_same, R.fresh hp, hp, l.mono (Ext.new hp)⟩⟩

/-! ### two operands -/
/-- an operation by values: a rule of the layer, met by what the data tells -/
def OpG (X : Cx) (f : Value → Value → Sem Value) (S : Store) (a b d : D) : Prop :=
  ∃ r : R2, OpR X f r ∧ ∀ (x y : V) (H0 H1 H : Hp) (al : Al) (Q : VK), SRel X.K H al S → DV X.K H0 H al x a → DV X.K H1 H al y b → (∀ v H', Out X.K al H S d v H' → Q v H') → r x y H Q
variable {X : Cx}
theorem small_ok {i : Int} (h : small i = true) : -(2 ^ 64) < i ∧ i < 2 ^ 64 := by
  unfold small at h; simpa using h
theorem bin_cat {a b : D} {xs ys : List D} (h1 : mlOf S a = some xs) (h2 : mlOf S b = some ys) (hz : xs.length + ys.length ≤ sizeLine) : OpG X (binaryOp .Add) S a b (.lst (xs ++ ys)) :=
  ⟨rCat, op_cat, fun x y H0 H1 H al Q R hx hy q => by
    obtain ⟨p, vs, rfl, h, l⟩ := mlOf_ok R hx h1
    obtain ⟨p2, vs2, rfl, h', l'⟩ := mlOf_ok R hy h2
    exact ⟨p, p2, vs, vs2, rfl, rfl, h, h', by rw [l.length, l'.length]; exact hz, fun t ht => q _ _ (Out.newLst R ht (l.append l'))⟩⟩
theorem dnl_rep {K : PySem.W.Frag} {H : Hp} {al : Al} {vs : List V} {x : List D} (l : DNL K H al vs x) : ∀ n : Nat, DNL K H al (List.replicate n vs).flatten (List.replicate n x).flatten
  | 0 => .nil
  | n + 1 => by
    rw [List.replicate_succ, List.replicate_succ, List.flatten_cons, List.flatten_cons]
    exact l.append (dnl_rep l n)
/-- a text so many times -/
def rRepX : R2 := fun x y H Q => ∃ (z : Str) (k : Int), x = .str z ∧ y = .int k ∧ 2 ≤ k ∧ k ≤ 1000 ∧ 1 ≤ z.length ∧ z.length ≤ 1000 ∧ Q (.str ⟨(List.replicate k.toNat z.cps).foldl (· ++ ·) #[]⟩) H
theorem rep_size {α : Type} (a : Array α) : ∀ (n : Nat) (acc : Array α), ((List.replicate n a).foldl (· ++ ·) acc).size = acc.size + n * a.size
  | 0, acc => by simp
  | n + 1, acc => by
    rw [List.replicate_succ, List.foldl_cons, rep_size a n, Array.size_append, Nat.succ_mul]
    omega
theorem op_repX : OpR X (binaryOp .Mult) rRepX := by
  rintro pins s σ H x y v u Q I rx ry ⟨z, k, rfl, rfl, k1, k2, z1, z2, q⟩
  obtain ⟨t, rfl⟩ := rx
  obtain ⟨t2, rfl⟩ := ry
  have n1 : ¬ k < 1 := by omega
  have n2 : (k == 1 || z.length == 0) = false := by
    simp only [Bool.or_eq_false_iff, beq_eq_false_iff_ne]
    exact ⟨by omega, by omega⟩
  refine P.mul_str (by simp only [Bool.or_eq_false_iff, decide_eq_false_iff_not]; omega) (fun _ _ => ?_) (fun _ _ => ?_) ?_
  · have : (1000 : Int) ≤ (2 ^ 63 - 1) / k := (Int.le_ediv_iff_mul_le (by omega)).mpr (by omega)
    omega
  · have h1 : z.length * k.toNat ≤ 1000 * 1000 := Nat.mul_le_mul z2 (by omega)
    exact PyProof.Rows.short24 (by omega)
  · rw [if_neg n1, n2, if_neg (by decide)]
    refine ⟨?_, .str _, H, I.tok _, ⟨_, rfl⟩, q⟩
    show ((List.replicate k.toNat z.cps).foldl (· ++ ·) #[]).size ≤ sizeLine
    have h1 : z.length * k.toNat ≤ 1000 * 1000 := Nat.mul_le_mul z2 (by omega)
    have h2 : k.toNat * z.cps.size = z.length * k.toNat := Nat.mul_comm _ _
    rw [rep_size, sizeLine_eq]
    simp only [Array.size_empty, Nat.zero_add]
    omega
theorem bin_ok {op : Operator} {a b : D} (h : binS S op a b = some d) : OpG X (binaryOp op) S a b d := by
  unfold binS at h
  split at h
  · cases h; exact ⟨_, op_add, fun x y H0 H1 H al Q R hx hy q => ⟨_, _, hx.int_of, hy.int_of, q _ _ (Out.here R (.int _))⟩⟩
  · split at h
    · rename_i hz
      cases h
      exact ⟨_, op_add_str, fun x y H0 H1 H al Q R hx hy q => ⟨_, _, hx.str_of, hy.str_of, hz, q _ _ (Out.here R (.str _))⟩⟩
    · cases h
  · split at h
    · rename_i hz
      cases h
      refine ⟨_, op_catN, fun x y H0 H1 H al Q R hx hy q => ?_⟩
      obtain ⟨p, vs, rfl, hp, l⟩ := hx.tup_of2
      obtain ⟨p2, vs2, rfl, hp2, l2⟩ := hy.tup_of2
      refine ⟨p, p2, vs, vs2, rfl, rfl, hp.1, hp2.1, by rw [l.length, l2.length]; exact hz, fun e => ?_, fun _ e => ?_, fun _ _ t ob ht hd => q _ _ (Out.newTup R ht hd (l.append l2))⟩
      · subst e
        cases l
        exact q _ _ (Out.here R (.tup hp2 l2))
      · subst e
        cases l2
        exact q _ _ (Out.here R (.tup (by rw [List.append_nil]; exact hp) (by rw [List.append_nil]; exact l)))
    · cases h
  · split at h
    · split at h
      · cases h
        rename_i h1 h2 hz
        exact bin_cat h1 h2 hz
      · cases h
    · cases h
  · cases h; exact ⟨_, op_sub, fun x y H0 H1 H al Q R hx hy q => ⟨_, _, hx.int_of, hy.int_of, q _ _ (Out.here R (.int _))⟩⟩
  · split at h
    · rename_i hz
      cases h
      refine ⟨_, op_mul, fun x y H0 H1 H al Q R hx hy q => ⟨_, _, hx.int_of, hy.int_of, ?_, q _ _ (Out.here R (.int _))⟩⟩
      rcases Bool.or_eq_true_iff.mp hz with hz | hz
      · exact .inl (small_ok hz)
      · exact .inr (small_ok hz)
    · cases h
  · split at h
    · rename_i x k hz
      obtain ⟨h1, h2, h3, h4⟩ := hz
      cases h
      have hne : ∀ {K : PySem.W.Frag} {H : Hp} {al : Al} {vs : List V}, DNL K H al vs x → vs ≠ [] := fun l e => by subst e; cases l; exact h1 rfl
      refine ⟨_, op_repN, fun x y H0 H1 H al Q R hx hy q => ?_⟩
      obtain ⟨p, vs, rfl, hp, l⟩ := hx.tup_of2
      refine ⟨p, k, vs, rfl, hy.int_of, hp.1, hne l, by omega, h4, by rw [l.length]; exact h2, fun k1 => ?_, fun _ t ob ht hd => q _ _ (Out.newTup R ht hd (dnl_rep l _))⟩
      subst k1
      have e1 : (List.replicate (Int.toNat 1) x).flatten = x := by simp
      rw [e1] at q
      exact q _ _ (Out.here R (.tup hp l))
    · cases h
  · split at h
    · rename_i hz
      cases h
      exact ⟨_, op_repX, fun x y H0 H1 H al Q R hx hy q => ⟨_, _, hx.str_of, hy.int_of, hz.1, hz.2.1, hz.2.2.1, hz.2.2.2, q _ _ (Out.here R (.str _))⟩⟩
    · cases h
  · split at h
    · split at h
      · rename_i h1 hz
        cases h
        refine ⟨_, op_rep, fun x y H0 H1 H al Q R hx hy q => ?_⟩
        obtain ⟨p, vs, rfl, hp, l⟩ := mlOf_ok R hx h1
        exact ⟨p, _, vs, rfl, hy.int_of, hp, hz.1, hz.2.1, by rw [l.length]; exact hz.2.2, fun t ht => q _ _ (Out.newLst R ht (l.replicate _))⟩
      · cases h
    · cases h
  · split at h
    · rename_i hz
      cases h; exact ⟨_, op_fdivW, fun x y H0 H1 H al Q R hx hy q => ⟨_, _, hx.int_of, hy.int_of, wide_div (b := 1000) hz.1 (by omega) (by decide) (by decide), q _ _ (Out.here R (.int _))⟩⟩
    · cases h
  · split at h
    · rename_i hz
      cases h; exact ⟨_, op_mod, fun x y H0 H1 H al Q R hx hy q => ⟨_, _, hx.int_of, hy.int_of, hz, q _ _ (Out.here R (.int _))⟩⟩
    · cases h
  · split at h
    · rename_i hz
      cases h; exact ⟨_, op_pow, fun x y H0 H1 H al Q R hx hy q => ⟨_, _, hx.int_of, hy.int_of, hz, q _ _ (Out.here R (.int _))⟩⟩
    · cases h
  · split at h
    · rename_i hz
      cases h; exact ⟨_, op_shl, fun x y H0 H1 H al Q R hx hy q => ⟨_, _, hx.int_of, hy.int_of, hz, q _ _ (Out.here R (.int _))⟩⟩
    · cases h
  · split at h
    · rename_i hz
      cases h; exact ⟨_, op_shr, fun x y H0 H1 H al Q R hx hy q => ⟨_, _, hx.int_of, hy.int_of, hz, q _ _ (Out.here R (.int _))⟩⟩
    · cases h
  · cases h; exact ⟨_, op_and, fun x y H0 H1 H al Q R hx hy q => ⟨_, _, hx.int_of, hy.int_of, q _ _ (Out.here R (.int _))⟩⟩
  · cases h
end
end Rf

/-! Rf: dicts of the store. -/
namespace Rf
open PySem L2
section
variable {K : PySem.W.Frag} {H0 H H' H1 H2 : Hp} {al al' al1 al2 : Al} {S S1 S2 S' : Store} {v x y : V} {d a b : D} {vs : List V} {ds as : List D} {X : Cx} {k : Nat} {n : Nat}
/-- a dict of data -/
def DNK (K : PySem.W.Frag) (H : Hp) (al : Al) (ws : List (Key × V)) (kvs : List (Key × D)) : Prop := ws.map (·.1) = kvs.map (·.1) ∧ DNL K H al (ws.map (·.2)) (kvs.map (·.2))
theorem DNK.nil : DNK K H al [] [] := ⟨rfl, .nil⟩
theorem DNK.cons {q : Key} {ws : List (Key × V)} {kvs : List (Key × D)} (h : DN K H al v d) (t : DNK K H al ws kvs) : DNK K H al ((q, v) :: ws) ((q, d) :: kvs) := ⟨by simp [t.1], .cons h t.2⟩
theorem DNK.uncons {p : Key × V} {q : Key × D} {ws : List (Key × V)} {kvs : List (Key × D)} (h : DNK K H al (p :: ws) (q :: kvs)) : p.1 = q.1 ∧ DN K H al p.2 q.2 ∧ DNK K H al ws kvs := by
  obtain ⟨h1, h2⟩ := h
  simp only [List.map_cons, List.cons.injEq] at h1
  cases h2 with
  | cons h t => exact ⟨h1.1, h, h1.2, t⟩
theorem DNK.any (q : Key) : ∀ {ws : List (Key × V)} {kvs : List (Key × D)}, DNK K H al ws kvs → (ws.any fun kv => decide (kv.1 = q)) = kvs.any fun kv => decide (kv.1 = q)
  | [], [], _ => rfl
  | [], _ :: _, h => by cases h.1
  | _ :: _, [], h => by cases h.1
  | p :: ws, z :: kvs, h => by
    obtain ⟨h1, _, h3⟩ := h.uncons
    simp only [List.any_cons, h1, DNK.any q h3]
theorem DNK.map (q : Key) (hv : DN K H al v d) : ∀ {ws : List (Key × V)} {kvs : List (Key × D)}, DNK K H al ws kvs → DNK K H al (ws.map fun kv => if kv.1 = q then (kv.1, v) else kv) (kvs.map fun kv => if kv.1 = q then (kv.1, d) else kv)
  | [], [], _ => .nil
  | [], _ :: _, h => by cases h.1
  | _ :: _, [], h => by cases h.1
  | p :: ws, z :: kvs, h => by
    obtain ⟨h1, h2, h3⟩ := h.uncons
    have t := DNK.map q hv h3
    simp only [List.map_cons, h1]
    split
    · exact DNK.cons hv t
    · obtain ⟨p1, p2⟩ := p
      obtain ⟨z1, z2⟩ := z
      simp only at h1; subst h1
      exact DNK.cons h2 t
theorem DNK.append : ∀ {ws us : List (Key × V)} {kvs lvs : List (Key × D)}, DNK K H al ws kvs → DNK K H al us lvs → DNK K H al (ws ++ us) (kvs ++ lvs) := fun h t => ⟨by simp [h.1, t.1], by simp only [List.map_append]; exact h.2.append t.2⟩
theorem DNK.put (q : Key) (hv : DN K H al v d) {ws : List (Key × V)} {kvs : List (Key × D)} (h : DNK K H al ws kvs) : DNK K H al (putK ws q v) (dput kvs q d) := by
  unfold putK dput
  rw [h.any q]
  split
  · exact h.map q hv
  · exact h.append (DNK.cons hv .nil)
theorem DNK.length {ws : List (Key × V)} {kvs : List (Key × D)} (h : DNK K H al ws kvs) : ws.length = kvs.length := by
  have := congrArg List.length h.1
  simpa using this
theorem DNK.find (q : Key) : ∀ {ws : List (Key × V)} {kvs : List (Key × D)} {d : D}, DNK K H al ws kvs → (kvs.find? fun kv => decide (kv.1 = q)).map (·.2) = some d → ∃ v, valV ws q = some v ∧ DN K H al v d
  | [], [], _, _, e => by simp at e
  | [], _ :: _, _, h, _ => by cases h.1
  | _ :: _, [], _, h, _ => by cases h.1
  | p :: ws, z :: kvs, d, h, e => by
    obtain ⟨h1, h2, h3⟩ := h.uncons
    by_cases hq : z.1 = q
    · rw [List.find?_cons, show decide (z.1 = q) = true from decide_eq_true hq] at e
      simp only [Option.map_some, Option.some.injEq] at e
      subst e
      exact ⟨p.2, valV_pos (h1.trans hq), h2⟩
    · rw [List.find?_cons, show decide (z.1 = q) = false from decide_eq_false hq] at e
      obtain ⟨v, e1, e2⟩ := DNK.find q h3 e
      exact ⟨v, by rw [valV_neg (fun z' => hq (h1.symm.trans z'))]; exact e1, e2⟩
theorem DNK.fold : ∀ {us : List (Key × V)} {lvs : List (Key × D)} {ws : List (Key × V)} {kvs : List (Key × D)}, DNK K H al us lvs → DNK K H al ws kvs → DNK K H al (mergeK ws us) (lvs.foldl (fun acc kv => dput acc kv.1 kv.2) kvs)
  | [], [], _, _, _, h => h
  | [], _ :: _, _, _, h, _ => by cases h.1
  | _ :: _, [], _, _, h, _ => by cases h.1
  | p :: us, z :: lvs, ws, kvs, h, g => by
    obtain ⟨h1, h2, h3⟩ := h.uncons
    show DNK K H al (mergeK (putK ws p.1 p.2) us) (lvs.foldl _ (dput kvs z.1 z.2))
    rw [h1]
    exact DNK.fold h3 (g.put z.1 h2)
theorem DNK.up (e : Ext al H al' H') {ws : List (Key × V)} {kvs : List (Key × D)} (h : DNK K H al ws kvs) : DNK K H' al' ws kvs := ⟨h.1, h.2.mono e⟩
theorem keyOf_kV {q : Key} (h : DV K H0 H al v d) (e : keyOf d = some q) : v = kV q := by
  cases d <;> simp [keyOf] at e
  · subst e; exact h.int_of
  · subst e; exact h.str_of
theorem DNK.miss {K : PySem.W.Frag} {H : Hp} {al : Al} (q : Key) : ∀ {ws : List (Key × V)} {kvs : List (Key × D)}, DNK K H al ws kvs → (kvs.find? fun kv => decide (kv.1 = q)).map (·.2) = none → valV ws q = none
  | [], [], _, _ => rfl
  | [], _ :: _, h, _ => by cases h.1
  | _ :: _, [], h, _ => by cases h.1
  | p :: ws, z :: kvs, h, e => by
    obtain ⟨h1, h2, h3⟩ := h.uncons
    by_cases hq : z.1 = q
    · rw [List.find?_cons, show decide (z.1 = q) = true from decide_eq_true hq] at e
      cases e
    · rw [List.find?_cons, show decide (z.1 = q) = false from decide_eq_false hq] at e
      rw [valV_neg (fun z' => hq (h1.symm.trans z'))]
      exact DNK.miss q h3 e
theorem DV.ref_of {n : Nat} (h : DV K H0 H al v (.ref n)) : ∃ b a, v = .ref a ∧ al[n]? = some (b, a) := by
  rcases h with h | ⟨a, vs, ds, _, e, _⟩
  · cases h with
    | ref q => exact ⟨_, _, rfl, q⟩
  · cases e
theorem cell_dic {kvs : List (Key × D)} (R : SRel K H al S) (h : DV K H0 H al v (.ref n)) (e : S[n]? = some (.dic kvs)) : ∃ a ws, v = .ref a ∧ al[n]? = some (true, a) ∧ H a = some (.dK ws) ∧ DNK K H al ws kvs := by
  obtain ⟨b, a, rfl, q⟩ := h.ref_of
  obtain ⟨rfl, ws, h, k, l⟩ := R.ok n _ b a e q
  exact ⟨a, ws, rfl, q, h, k, l⟩
theorem dicOf_ok {kvs : List (Key × D)} (R : SRel K H al S) (h : DV K H0 H al v d) (e : dicOf S d = some kvs) : ∃ a ws, v = .ref a ∧ H a = some (.dK ws) ∧ DNK K H al ws kvs := by
  unfold dicOf at e
  split at e
  · split at e
    · rename_i hc
      cases e
      obtain ⟨a, ws, e1, _, e2, e3⟩ := cell_dic R h hc
      exact ⟨a, ws, e1, e2, e3⟩
    · cases e
  · cases e
def rInK (n : Bool) : R2 := fun x y H Q => ∃ a o, y = .ref a ∧ DGet H a x o ∧ Q (.bl (if n then !o.isSome else o.isSome)) H
theorem op_inK (hu : X.A.units + 1 < cLine) : OpR X (compareOp .In) (rInK false) := fun pins s σ H x y v u Q I rx ry h => by
  obtain ⟨a, o, rfl, g, q⟩ := h
  obtain rfl : u = Value.ref a := ry
  exact d_in hu I g rx fun s' I' => ⟨.bl _, H, I', rfl, q⟩
theorem op_notInK (hu : X.A.units + 1 < cLine) : OpR X (compareOp .NotIn) (rInK true) := fun pins s σ H x y v u Q I rx ry h => by
  obtain ⟨a, o, rfl, g, q⟩ := h
  obtain rfl : u = Value.ref a := ry
  exact d_notIn hu I g rx fun s' I' => ⟨.bl _, H, I', rfl, q⟩
theorem DNK.get (q : Key) {ws : List (Key × V)} {kvs : List (Key × D)} (l : DNK K H al ws kvs) : (valV ws q).isSome = ((kvs.find? fun kv => decide (kv.1 = q)).map (·.2)).isSome := by
  cases hf : (kvs.find? fun kv => decide (kv.1 = q)).map (·.2) with
  | some d0 =>
    obtain ⟨v0, g1, _⟩ := l.find q hf
    rw [g1]; rfl
  | none => rw [l.miss q hf]; rfl
end
end Rf

/-! Rf: comparisons, subscripts, slices. -/
namespace Rf
open PySem L2
section
variable {S : Store} {a b d : D} {X : Cx} {k : Nat}
theorem units65 {A : Around} (hr : Room k A) : A.units + 65 < cLine := by have := hr.un; omega
theorem eqv_int (i j : Int) : PyData.eqv (.int i) (.int j) = decide (i = j) := by rw [PyData.eqv]; exact Bool.beq_eq_decide_eq i j
theorem eqv_str (i j : Str) : PyData.eqv (.str i) (.str j) = decide (i = j) := by rw [PyData.eqv]; exact Bool.beq_eq_decide_eq i j
theorem eqv_bl (i j : Bool) : PyData.eqv (.bool i) (.bool j) = decide (i = j) := by rw [PyData.eqv]; exact Bool.beq_eq_decide_eq i j
theorem shaped_int (i : Int) : SeqAt.shaped (.int i) = true := by simp [SeqAt.shaped, PyData.canLay0, PyData.depth]
theorem shaped_bl (i : Bool) : SeqAt.shaped (.bool i) = true := by simp [SeqAt.shaped, PyData.canLay0, PyData.depth]
/-- what == reads -/
theorem eq_reads {bo : Bool} (h : eqS S a b = some bo) : (∃ i j : Str, a = .str i ∧ b = .str j ∧ bo = decide (i = j)) ∨ ∃ p q, SeqAt.shaped p = true ∧ SeqAt.shaped q = true ∧ PyData.eqv p q = bo ∧ ∀ (x y : V) (H0 H1 H : Hp) (al : Al), SRel X.K H al S → DV X.K H0 H al x a → DV X.K H1 H al y b → Dp X.K H x p ∧ Dp X.K H y q := by
  unfold eqS at h
  split at h
  · cases h; exact .inr ⟨.int _, .int _, shaped_int _, shaped_int _, eqv_int _ _, fun x y H0 H1 H al R hx hy => by rw [hx.int_of, hy.int_of]; exact ⟨.int _, .int _⟩⟩
  · cases h; exact .inl ⟨_, _, rfl, rfl, rfl⟩
  · cases h; exact .inr ⟨.bool _, .bool _, shaped_bl _, shaped_bl _, eqv_bl _ _, fun x y H0 H1 H al R hx hy => by rw [hx.bl_of, hy.bl_of]; exact ⟨.bl _, .bl _⟩⟩
  · split at h
    · rename_i p q h1 h2
      split at h
      · rename_i hs
        simp only [Bool.and_eq_true] at hs
        cases h
        exact .inr ⟨p, q, hs.1, hs.2, rfl, fun x y H0 H1 H al R hx hy => ⟨dat_dv R h1 hx, dat_dv R h2 hy⟩⟩
      · cases h
    · cases h
theorem dec_strV (i j : Str) : decide (V.str i = V.str j) = decide (i = j) := by simp
theorem eq_ok (hr : Room k X.A) {bo : Bool} (h : eqS S a b = some bo) : OpG X (compareOp .Eq) S a b (.bl bo) := by
  rcases eq_reads (X := X) h with ⟨i, j, rfl, rfl, rfl⟩ | ⟨p, q, h1, h2, e, h3⟩
  · exact ⟨_, op_eq, fun x y H0 H1 H al Q R hx hy g => by rw [hx.str_of, hy.str_of]; exact ⟨rfl, by rw [dec_strV]; exact g _ _ (Out.here R (.bl _))⟩⟩
  · refine ⟨_, op_eqD hr.units, fun x y H0 H1 H al Q R hx hy g => ?_⟩
    obtain ⟨d1, d2⟩ := h3 x y H0 H1 H al R hx hy
    exact ⟨p, q, d1, d2, h1, h2, by rw [e]; exact g _ _ (Out.here R (.bl _))⟩
theorem ne_ok (hr : Room k X.A) {bo : Bool} (h : eqS S a b = some bo) : OpG X (compareOp .NotEq) S a b (.bl (!bo)) := by
  rcases eq_reads (X := X) h with ⟨i, j, rfl, rfl, rfl⟩ | ⟨p, q, h1, h2, e, h3⟩
  · exact ⟨_, op_ne, fun x y H0 H1 H al Q R hx hy g => by rw [hx.str_of, hy.str_of]; exact ⟨rfl, by rw [dec_strV]; exact g _ _ (Out.here R (.bl _))⟩⟩
  · refine ⟨_, op_neD hr.units, fun x y H0 H1 H al Q R hx hy g => ?_⟩
    obtain ⟨d1, d2⟩ := h3 x y H0 H1 H al R hx hy
    exact ⟨p, q, d1, d2, h1, h2, by rw [e]; exact g _ _ (Out.here R (.bl _))⟩

/-! in, not in -/
def rInT (K : PySem.W.Frag) : R2 := fun x y H Q => ∃ d ds, Dp K H x d ∧ Dp K H y (.tuple ds) ∧ SeqAt.shaped d = true ∧ SeqAt.shaped (.list ds) = true ∧ Q (.bl (ds.any fun z => PyData.eqv z d)) H
def rNotInT (K : PySem.W.Frag) : R2 := fun x y H Q => ∃ d ds, Dp K H x d ∧ Dp K H y (.tuple ds) ∧ SeqAt.shaped d = true ∧ SeqAt.shaped (.list ds) = true ∧ Q (.bl (!ds.any fun z => PyData.eqv z d)) H
theorem canLays {ds : List PyData} (h : SeqAt.shaped (.list ds) = true) : PyData.canLayAll0 ds = true := SeqAt.canLay_of_shaped h
theorem op_inT (hu : X.A.units + 65 < cLine) : OpR X (compareOp .In) (rInT X.K) := fun pins s σ H x y v u Q I rx ry h => by
  obtain ⟨d, ds, hd, he, sd, se, q⟩ := h
  obtain ⟨as, r1⟩ := Dp.reads I _ _ _ hd rx
  obtain ⟨bs, r2⟩ := Dp.reads I _ _ _ he ry
  exact SeqAt.in_tuple_reads r2 r1 (canLays se) (SeqAt.canLay_of_shaped sd) (PyProof.Rows.room_in_shaped sd hu) ⟨.bl _, H, I, rfl, q⟩
theorem op_notInT (hu : X.A.units + 65 < cLine) : OpR X (compareOp .NotIn) (rNotInT X.K) := fun pins s σ H x y v u Q I rx ry h => by
  obtain ⟨d, ds, hd, he, sd, se, q⟩ := h
  obtain ⟨as, r1⟩ := Dp.reads I _ _ _ hd rx
  obtain ⟨bs, r2⟩ := Dp.reads I _ _ _ he ry
  exact SeqAt.notIn_tuple_reads r2 r1 (canLays se) (SeqAt.canLay_of_shaped sd) (PyProof.Rows.room_in_shaped sd hu) ⟨.bl _, H, I, rfl, q⟩
theorem in_reads {bo : Bool} (hk : inK S a b = none) (h : inS S a b = some bo) : ∃ p qs, SeqAt.shaped p = true ∧ SeqAt.shaped (.list qs) = true ∧ (qs.any fun q => PyData.eqv q p) = bo ∧
    ((∀ (x y : V) (H0 H1 H : Hp) (al : Al), SRel X.K H al S → DV X.K H0 H al x a → DV X.K H1 H al y b → Dp X.K H x p ∧ Dp X.K H y (.list qs)) ∨
      (∀ (x y : V) (H0 H1 H : Hp) (al : Al), SRel X.K H al S → DV X.K H0 H al x a → DV X.K H1 H al y b → Dp X.K H x p ∧ Dp X.K H y (.tuple qs))) := by
  unfold inS at h
  split at h
  · rename_i ds hs
    split at h
    · rename_i p qs h1 h2
      split at h
      · rename_i hz
        simp only [Bool.and_eq_true] at hz
        cases h
        refine ⟨p, qs, hz.1, hz.2, rfl, ?_⟩
        cases b with
        | tup ds' =>
          simp [seqOf] at hs; subst hs
          refine .inr fun x y H0 H1 H al R hx hy => ⟨dat_dv R h1 hx, ?_⟩
          obtain ⟨t, vs, rfl, q, l⟩ := hy.tup_of
          exact .tup q (dp_list (fun v d p => dat_dn R _ v d p) l h2)
        | lst ds' =>
          refine .inl fun x y H0 H1 H al R hx hy => ⟨dat_dv R h1 hx, ?_⟩
          obtain ⟨t, vs, rfl, q, l⟩ := lstOf_ok R hy (by simpa [lstOf, seqOf] using hs)
          exact .lst q (dp_list (fun v d p => dat_dn R _ v d p) l h2)
        | ref n =>
          refine .inl fun x y H0 H1 H al R hx hy => ⟨dat_dv R h1 hx, ?_⟩
          obtain ⟨t, vs, rfl, q, l⟩ := lstOf_ok R hy (by simpa [lstOf, seqOf] using hs)
          exact .lst q (dp_list (fun v d p => dat_dn R _ v d p) l h2)
        | _ => simp [seqOf] at hs
      · cases h
    · cases h
  · rw [hk] at h; cases h
theorem in_dic {bo : Bool} (h : inS S a b = some bo) : (∃ kvs ky, dicOf S b = some kvs ∧ keyOf a = some ky ∧ ((kvs.find? fun kv => decide (kv.1 = ky)).map (·.2)).isSome = bo) ∨ inK S a b = none := by
  cases hk : inK S a b with
  | none => exact .inr rfl
  | some b0 =>
    left
    have hn : seqOf S b = none := by
      unfold inK at hk
      split at hk
      · rename_i g1 g2
        unfold dicOf at g1
        split at g1
        · split at g1
          · rename_i hc; simp [seqOf, cellL, hc]
          · cases g1
        · cases g1
      · cases hk
    unfold inS at h
    rw [hn] at h
    simp only at h
    rw [hk] at h
    cases h
    unfold inK at hk
    split at hk
    · rename_i g1 g2
      cases hk
      exact ⟨_, _, g1, g2, rfl⟩
    · cases hk
theorem in_ok (hr : Room k X.A) {bo : Bool} (h : inS S a b = some bo) : OpG X (compareOp .In) S a b (.bl bo) := by
  rcases in_dic h with ⟨kvs, ky, g1, g2, rfl⟩ | hk
  · refine ⟨_, op_inK (by have := units65 hr; omega), fun x y H0 H1 H al Q R hx hy g => ?_⟩
    obtain ⟨p, ws, rfl, hp, l⟩ := dicOf_ok R hy g1
    refine ⟨p, valV ws ky, rfl, ?_, ?_⟩
    · rw [keyOf_kV hx g2]; exact DGet.k hp
    · rw [l.get ky]; exact g _ _ (Out.here R (.bl _))
  obtain ⟨p, qs, h1, h2, e, h3 | h3⟩ := in_reads (X := X) hk h
  · refine ⟨_, op_inD (units65 hr), fun x y H0 H1 H al Q R hx hy g => ?_⟩
    obtain ⟨d1, d2⟩ := h3 x y H0 H1 H al R hx hy
    exact ⟨p, qs, d1, d2, h1, h2, by rw [e]; exact g _ _ (Out.here R (.bl _))⟩
  · refine ⟨_, op_inT (units65 hr), fun x y H0 H1 H al Q R hx hy g => ?_⟩
    obtain ⟨d1, d2⟩ := h3 x y H0 H1 H al R hx hy
    exact ⟨p, qs, d1, d2, h1, h2, by rw [e]; exact g _ _ (Out.here R (.bl _))⟩
theorem notIn_ok (hr : Room k X.A) {bo : Bool} (h : inS S a b = some bo) : OpG X (compareOp .NotIn) S a b (.bl (!bo)) := by
  rcases in_dic h with ⟨kvs, ky, g1, g2, rfl⟩ | hk
  · refine ⟨_, op_notInK (by have := units65 hr; omega), fun x y H0 H1 H al Q R hx hy g => ?_⟩
    obtain ⟨p, ws, rfl, hp, l⟩ := dicOf_ok R hy g1
    refine ⟨p, valV ws ky, rfl, ?_, ?_⟩
    · rw [keyOf_kV hx g2]; exact DGet.k hp
    · rw [l.get ky]; exact g _ _ (Out.here R (.bl _))
  obtain ⟨p, qs, h1, h2, e, h3 | h3⟩ := in_reads (X := X) hk h
  · refine ⟨_, op_notInD (units65 hr), fun x y H0 H1 H al Q R hx hy g => ?_⟩
    obtain ⟨d1, d2⟩ := h3 x y H0 H1 H al R hx hy
    exact ⟨p, qs, d1, d2, h1, h2, by rw [e]; exact g _ _ (Out.here R (.bl _))⟩
  · refine ⟨_, op_notInT (units65 hr), fun x y H0 H1 H al Q R hx hy g => ?_⟩
    obtain ⟨d1, d2⟩ := h3 x y H0 H1 H al R hx hy
    exact ⟨p, qs, d1, d2, h1, h2, by rw [e]; exact g _ _ (Out.here R (.bl _))⟩

/-! < <= > >= -/
def rOrd (K : PySem.W.Frag) (g : PyData → PyData → Bool) : R2 := fun x y H Q => ∃ p q, Dp K H x p ∧ Dp K H y q ∧ PySem.W.alike p q = true ∧ p ≠ .none ∧ SeqAt.shaped p = true ∧ Q (.bl (g p q)) H
theorem ordR {op : CmpOp} {g : PyData → PyData → Bool} (hr : Room k X.A)
    (rule : ∀ (s : Shared) (a b : Value) (p q : PyData) (as bs : List Addr) (Q : Value → Shared → Prop), Reads s.heap a p as → Reads s.heap b q bs → PySem.W.alike p q = true → p ≠ .none → X.A.units + min p.depth q.depth < cLine → Q (.bool (g p q)) s → wpAny (model X.prog X.w) X.A (compareOp op a b) Q X.xe s) :
    OpR X (compareOp op) (rOrd X.K g) := fun pins s σ H x y v u Q I rx ry h => by
  obtain ⟨p, q, hp, hq, hal, hn, hs, h⟩ := h
  obtain ⟨as, r1⟩ := Dp.reads I _ _ _ hp rx
  obtain ⟨bs, r2⟩ := Dp.reads I _ _ _ hq ry
  exact rule s v u p q as bs _ r1 r2 hal hn (SeqAt.room_of_shaped hs hr.units) ⟨.bl _, H, I, rfl, h⟩
theorem ord_ok {op : CmpOp} {f : Int → Int → Bool} {g : PyData → PyData → Bool} {bo : Bool} (hi : OpR X (compareOp op) (rI0 fun i j => .bl (f i j))) (hd : OpR X (compareOp op) (rOrd X.K g)) (h : ordS S f g a b = some bo) : OpG X (compareOp op) S a b (.bl bo) := by
  unfold ordS at h
  split at h
  · cases h; exact ⟨_, hi, fun x y H0 H1 H al Q R hx hy q => ⟨_, _, hx.int_of, hy.int_of, q _ _ (Out.here R (.bl _))⟩⟩
  · split at h
    · rename_i p q h1 h2
      split at h
      · rename_i hs
        simp only [Bool.and_eq_true, Bool.not_eq_true'] at hs
        cases h
        refine ⟨_, hd, fun x y H0 H1 H al Q R hx hy w => ⟨p, q, dat_dv R h1 hx, dat_dv R h2 hy, hs.1.1.1, fun z => ?_, hs.1.2, w _ _ (Out.here R (.bl _))⟩⟩
        rw [z] at hs
        simp [noneP] at hs
      · cases h
    · cases h
theorem cmp_ok (hr : Room k X.A) {op : CmpOp} {bo : Bool} (h : cmpS S op a b = some bo) : OpG X (compareOp op) S a b (.bl bo) := by
  unfold cmpS at h
  split at h
  · exact eq_ok hr h
  · simp only [Option.map_eq_some_iff] at h
    obtain ⟨c, h, rfl⟩ := h
    exact ne_ok hr h
  · exact ord_ok op_lt (ordR hr fun s a b p q as bs Q r1 r2 h1 h2 h3 h4 => PySem.W.lt_data r1 r2 h1 h2 h3 h4) h
  · exact ord_ok op_le (ordR hr fun s a b p q as bs Q r1 r2 h1 h2 h3 h4 => PySem.W.le_data r1 r2 h1 h2 h3 h4) h
  · exact ord_ok op_gt (ordR hr fun s a b p q as bs Q r1 r2 h1 h2 h3 h4 => PySem.W.gt_data r1 r2 h1 h2 h3 h4) h
  · exact ord_ok op_ge (ordR hr fun s a b p q as bs Q r1 r2 h1 h2 h3 h4 => PySem.W.ge_data r1 r2 h1 h2 h3 h4) h
  · exact in_ok hr h
  · simp only [Option.map_eq_some_iff] at h
    obtain ⟨c, h, rfl⟩ := h
    exact notIn_ok hr h
  · split at h
    · cases h; exact ⟨_, op_is_bl, fun x y H0 H1 H al Q R hx hy q => ⟨_, _, hx.bl_of, hy.bl_of, q _ _ (Out.here R (.bl _))⟩⟩
    · cases h
      exact ⟨_, op_isN, fun x y H0 H1 H al Q R hx hy q => ⟨hy.non_of, by rw [hx.none_iff]; exact q _ _ (Out.here R (.bl _))⟩⟩
    · cases h
  · split at h
    · cases h; exact ⟨_, op_isnot_bl, fun x y H0 H1 H al Q R hx hy q => ⟨_, _, hx.bl_of, hy.bl_of, q _ _ (Out.here R (.bl _))⟩⟩
    · cases h
      exact ⟨_, op_notN, fun x y H0 H1 H al Q R hx hy q => ⟨hy.non_of, by rw [hx.none_iff]; exact q _ _ (Out.here R (.bl _))⟩⟩
    · cases h
end
end Rf

/-! Rf: built-in functions upon values. -/
namespace Rf
open PySem L2
/-- several values behind an evaluation -/
inductive DVL (K : PySem.W.Frag) (H0 H : Hp) (al : Al) : List V → List D → Prop
  | nil : DVL K H0 H al [] []
  | cons {v : V} {vs : List V} {d : D} {ds : List D} : DV K H0 H al v d → DVL K H0 H al vs ds → DVL K H0 H al (v :: vs) (d :: ds)
section
variable {K : PySem.W.Frag} {H0 H H' H1 H2 : Hp} {al al' al1 al2 : Al} {S S1 S2 : Store} {v x y : V} {d a b : D} {vs : List V} {ds : List D} {X : Cx} {k : Nat}
theorem DVL.mono (e : Ext al H al' H') : ∀ {vs : List V} {ds : List D}, DVL K H0 H al vs ds → DVL K H0 H' al' vs ds
  | _, _, .nil => .nil
  | _, _, .cons h t => .cons (h.mono e) (t.mono e)
theorem DVL.start (e : Ext al H0 al1 H) (R : SRel K H al1 S) : ∀ {vs : List V} {ds : List D}, DVL K H H' al' vs ds → DVL K H0 H' al' vs ds
  | _, _, .nil => .nil
  | _, _, .cons h t => .cons (h.start e R) (t.start e R)
theorem DVL.one1 (h : DVL K H0 H al vs [a]) : ∃ x, vs = [x] ∧ DV K H0 H al x a := by
  cases h with
  | cons h t => cases t; exact ⟨_, rfl, h⟩
theorem DVL.two2 (h : DVL K H0 H al vs [a, b]) : ∃ x y, vs = [x, y] ∧ DV K H0 H al x a ∧ DV K H0 H al y b := by
  cases h with
  | cons h t => cases t with
    | cons h' t' => cases t'; exact ⟨_, _, rfl, h, h'⟩
theorem DNL.dvl : ∀ {vs : List V} {ds : List D}, DNL K H al vs ds → DVL K H0 H al vs ds
  | _, _, .nil => .nil
  | _, _, .cons h t => .cons (.inl h) t.dvl

/-- a call of a built-in by values -/
def CallG (X : Cx) (f : Value) (S : Store) (as : List D) (d : D) (S' : Store) : Prop :=
  ∃ r, CallR X f r ∧ ∀ (xs : List V) (H0 H : Hp) (al : Al) (Q : VK), SRel X.K H al S → DVL X.K H0 H al xs as → (∀ v H', Out X.K al H S' d v H' → Q v H') → r xs H Q

/-! ### all of one kind -/
theorem ints_of : ∀ {vs : List V} {ds : List D} {ns : List Int}, DNL K H al vs ds → mapO asI ds = some ns → vs = ns.map V.int
  | _, _, _, .nil, e => by simp [mapO] at e; subst e; rfl
  | _, _, _, .cons h l, e => by
    obtain ⟨b, t, e1, e2, rfl⟩ := mapO_some e
    have := ints_of l e2
    subst this
    cases h <;> simp [asI] at e1
    subst e1; rfl
theorem bls_of : ∀ {vs : List V} {ds : List D} {ns : List Bool}, DNL K H al vs ds → mapO asB ds = some ns → vs = ns.map V.bl
  | _, _, _, .nil, e => by simp [mapO] at e; subst e; rfl
  | _, _, _, .cons h l, e => by
    obtain ⟨b, t, e1, e2, rfl⟩ := mapO_some e
    have := bls_of l e2
    subst this
    cases h <;> simp [asB] at e1
    subst e1; rfl
theorem maxI_mem : ∀ (r : List Int) (m : Int), (maxI m r = m ∨ maxI m r ∈ r) ∧ m ≤ maxI m r ∧ ∀ y ∈ r, y ≤ maxI m r
  | [], m => ⟨.inl rfl, Int.le_refl _, fun _ h => absurd h (by simp)⟩
  | x :: r, m => by
    obtain ⟨h1, h2, h3⟩ := maxI_mem r (if m < x then x else m)
    show (maxI (if m < x then x else m) r = m ∨ maxI (if m < x then x else m) r ∈ x :: r) ∧ m ≤ maxI (if m < x then x else m) r ∧ ∀ y ∈ x :: r, y ≤ maxI (if m < x then x else m) r
    have hm : m ≤ (if m < x then x else m) ∧ x ≤ (if m < x then x else m) := by split <;> omega
    refine ⟨?_, by omega, fun y hy => ?_⟩
    · rcases h1 with h1 | h1
      · rw [h1]
        split
        · exact .inr List.mem_cons_self
        · exact .inl rfl
      · exact .inr (List.mem_cons_of_mem _ h1)
    · rcases List.mem_cons.mp hy with rfl | hy
      · omega
      · exact h3 y hy
theorem minI_mem : ∀ (r : List Int) (m : Int), (minI m r = m ∨ minI m r ∈ r) ∧ minI m r ≤ m ∧ ∀ y ∈ r, minI m r ≤ y
  | [], m => ⟨.inl rfl, Int.le_refl _, fun _ h => absurd h (by simp)⟩
  | x :: r, m => by
    obtain ⟨h1, h2, h3⟩ := minI_mem r (if x < m then x else m)
    show (minI (if x < m then x else m) r = m ∨ minI (if x < m then x else m) r ∈ x :: r) ∧ minI (if x < m then x else m) r ≤ m ∧ ∀ y ∈ x :: r, minI (if x < m then x else m) r ≤ y
    have hm : (if x < m then x else m) ≤ m ∧ (if x < m then x else m) ≤ x := by split <;> omega
    refine ⟨?_, by omega, fun y hy => ?_⟩
    · rcases h1 with h1 | h1
      · rw [h1]
        split
        · exact .inr List.mem_cons_self
        · exact .inl rfl
      · exact .inr (List.mem_cons_of_mem _ h1)
    · rcases List.mem_cons.mp hy with rfl | hy
      · omega
      · exact h3 y hy

/-! ### sorted -/
def rSortD (K : PySem.W.Frag) : List V → Hp → VK → Prop := fun xs H Q => ∃ (a : Addr) (vs : List V) (bs : List (D × PyData)) (Rv : V → D × PyData → Prop), xs = [.ref a] ∧ (SqL K H a vs ∨ SqT K H a vs) ∧ Paired Rv vs bs ∧ Paired (fun v z => Dp K H v z.2) vs bs ∧
  PySem.W.AllAlike (bs.map (·.2)) ∧ (PySem.W.Sortable (bs.map (·.2)) ∨ (bs.length ≤ 1 ∧ ∀ z ∈ bs, z.2 ≠ .none)) ∧ (∀ z ∈ bs, z.2.depth ≤ 64) ∧ ∀ p ws, H p = none → Paired Rv ws (bs.mergeSort dLe) → Q (.ref p) (upd H p (.lst ws))
theorem each_of {α β γ : Type} {F : γ → α → Prop} {G : γ → β → Prop} : ∀ {vs : List γ} {us : List α} {bs : List β}, Paired F vs us → Paired G vs bs → PySem.W.EachIs (fun u z => ∃ v, F v u ∧ G v z) us bs
  | _, _, _, .nil, .nil => .nil
  | _, _, _, .cons h t, .cons h' t' => .cons ⟨_, h, h'⟩ (each_of t t')
theorem of_each {α β γ : Type} {F : γ → α → Prop} {G : γ → β → Prop} : ∀ {us : List α} {bs : List β}, PySem.W.EachIs (fun u z => ∃ v, F v u ∧ G v z) us bs → ∃ vs, Paired F vs us ∧ Paired G vs bs
  | _, _, .nil => ⟨[], .nil, .nil⟩
  | _, _, .cons ⟨v, h, h'⟩ t => by
    obtain ⟨vs, h1, h2⟩ := of_each t
    exact ⟨v :: vs, .cons h h1, .cons h' h2⟩
theorem each_imp {α β : Type} {F G : α → β → Prop} (f : ∀ a b, F a b → G a b) : ∀ {us : List α} {bs : List β}, PySem.W.EachIs F us bs → PySem.W.EachIs G us bs
  | _, _, .nil => .nil
  | _, _, .cons h t => .cons (f _ _ h) (each_imp f t)
theorem pair_len {α β : Type} {F : α → β → Prop} : ∀ {l₁ : List α} {l₂ : List β}, Paired F l₁ l₂ → l₁.length = l₂.length
  | _, _, .nil => rfl
  | _, _, .cons _ t => by simp [pair_len t]
/-- one item alone is sorted, whatever it is -/
theorem sorts_one {prog : Program} {w : World} {A : Around} {s : Shared} {vs : List Value} {ds : List PyData} (e : PySem.W.EachIs (fun v d => ∃ as, Reads s.heap v d as) vs ds) (hal : PySem.W.AllAlike ds) (h1 : ds.length ≤ 1) (hn : ∀ d ∈ ds, d ≠ .none) (hu : ∀ d, d ∈ ds → A.units + d.depth < cLine) : PySem.W.SortsAt prog w A s (PySem.W.dataKind s.heap ds) vs := by
  refine ⟨fun v hv => ?_, ?_⟩
  · obtain ⟨d, hd, as, r⟩ := e.left v hv
    exact ⟨_, PySem.W.dataKind_some hal hd r⟩
  · refine ⟨PyProof.Rows.general', ?_, fun h2 => absurd h2 (by rw [e.length]; omega)⟩
    intro E x y a b Q ha hb hq
    obtain ⟨d, as, hd, ra, rfl⟩ := PySem.W.dataKind_inv ha
    obtain ⟨d', as', hd', rb, rfl⟩ := PySem.W.dataKind_inv hb
    exact PySem.W.oneLt_alike (f := false) (fun h => absurd h (by decide)) ra rb (hal d hd d' hd') (hn d hd) (Nat.lt_of_le_of_lt (Nat.add_le_add_left (Nat.min_le_left _ _) _) (hu d hd)) hq
theorem sorted_any {β : Type} {prog : Program} {w : World} {A : Around} {E : Value → Shared → Prop} {s : Shared} {vs : List Value} {bs : List β} {enc : β → PyData} {Rv : Value → β → Prop} {l : Addr} {Q : Value → Shared → Prop} (hl : s.heap.IsList l vs.toArray ∨ PyProof.Rows.IsTup s.heap l vs.toArray) (e : PySem.W.EachIs Rv vs bs) (er : PySem.W.EachIs (fun v b => ∃ as, Reads s.heap v (enc b) as) vs bs) (hal : PySem.W.AllAlike (bs.map enc)) (hk : PySem.W.Sortable (bs.map enc) ∨ (bs.length ≤ 1 ∧ ∀ z ∈ bs, enc z ≠ .none)) (hL : bs.length ≤ sizeLine)
    (hu : ∀ b, b ∈ bs → A.units + 2 + (enc b).depth < cLine) (h : ∀ out, out.length = bs.length → PySem.W.EachIs Rv out (bs.mergeSort (PySem.W.dataLe false enc)) → Q (.ref (s.heap.objs.size + 1)) { s with heap := PyProof.Rows.sortedAll s.heap vs (List.toArray out) }) :
    wpAny (model prog w) A (call (.builtin "sorted") [.ref l]) Q E s := by
  have er' : PySem.W.EachIs (fun v b => ∃ as, Reads (PySem.W.sortingHeap (PySem.W.copyHeap s.heap vs) (s.heap.objs.size + 1) vs) v (enc b) as) vs bs := er.mono fun _ _ ⟨as, r⟩ => ⟨as, PyProof.Rows.Reads.keeps (fun _ _ => PySem.W.sorting_copy_old) r⟩
  have em := PySem.W.each_map (R := fun v d => ∃ as, Reads (PySem.W.sortingHeap (PySem.W.copyHeap s.heap vs) (s.heap.objs.size + 1) vs) v d as) enc er'
  have hz : vs.length ≤ sizeLine := by rw [e.length]; exact hL
  have hS : PySem.W.SortsAt prog w A.in1.in1 { s with heap := PySem.W.sortingHeap (PySem.W.copyHeap s.heap vs) (s.heap.objs.size + 1) vs } (PySem.W.dataKind (PySem.W.sortingHeap (PySem.W.copyHeap s.heap vs) (s.heap.objs.size + 1) vs) (bs.map enc)) vs := by
    rcases hk with hk | ⟨h1, hn⟩
    · exact PySem.W.SortsAt.data (s := { s with heap := PySem.W.sortingHeap (PySem.W.copyHeap s.heap vs) (s.heap.objs.size + 1) vs }) em hal hk (PySem.W.bound_map hu)
    · exact sorts_one (s := { s with heap := PySem.W.sortingHeap (PySem.W.copyHeap s.heap vs) (s.heap.objs.size + 1) vs }) em hal (by rw [List.length_map]; exact h1) (fun d hd => by obtain ⟨b, hb, rfl⟩ := List.mem_map.mp hd; exact hn b hb) (PySem.W.bound_map hu)
  have q := h _ (by rw [PySem.W.sortVals_length false rfl]; exact e.length) (PySem.W.sortVals_data false e er' hal)
  rcases hl with hl | hl
  · exact PySem.W.sorted_vals hl hS hz q
  · exact tuple_sorted hl hz hS q
theorem cr_sortD (hr : Room k X.A) : CallR X (.builtin "sorted") (rSortD X.K) := fun pins s σ H xs us Q I r h => by
  obtain ⟨a, vs, bs, Rv, rfl, hs, hv, hd, hal, hk, hdep, q⟩ := h
  obtain ⟨its, rv, hl, hz⟩ : ∃ its, Vals vs its ∧ (s.heap.IsList a its.toArray ∨ PyProof.Rows.IsTup s.heap a its.toArray) ∧ vs.length ≤ sizeLine := by
    rcases hs with hs | hs
    · obtain ⟨its, rv, hl, hz⟩ := I.list hs
      exact ⟨its, rv, .inl hl.isList, hz⟩
    · obtain ⟨its, rv, hl, hz⟩ := I.tuple hs
      exact ⟨its, rv, .inr hl, hz⟩
  rw [Vals.ref1 r]
  have e := each_of (F := RelV) (G := Rv) rv hv
  have er := each_imp (G := fun (u : Value) (z : D × PyData) => ∃ as, Reads s.heap u z.2 as) (fun u z ⟨v, h1, h2⟩ => Dp.reads I _ _ _ h2 h1) (each_of (F := RelV) (G := fun (v : V) (z : D × PyData) => Dp X.K H v z.2) rv hd)
  refine sorted_any (enc := fun z : D × PyData => z.2) hl e er hal hk (by rw [← pair_len hv]; exact hz) (fun b hb => ?_) fun out ho eo => ?_
  · have := hdep b hb
    have := units65 hr
    show X.A.units + 2 + b.2.depth < cLine
    have := hr.un
    omega
  · obtain ⟨ws, h1, h2⟩ := of_each eo
    obtain ⟨ep, he⟩ := PyProof.Rows.sortedAll_at s.heap its out.toArray
    have hw : ws.length ≤ sizeLine := by
      have e1 : ws.length = out.length := pair_len h1
      have e2 : vs.length = bs.length := pair_len hv
      omega
    exact ⟨.ref _, upd H (s.heap.objs.size + 1) (.lst ws), I.laid (t' := s.toks) (fun _ _ => PyProof.Rows.sortedAll_old) (Nat.le_succ _) ⟨hw, out, ep, h1, he⟩, rfl, q _ _ (I.hok.fresh (Nat.le_succ _)) h2⟩
theorem pair_zip : ∀ {vs : List V} {ds : List D} {ps : List PyData}, DNL K H al vs ds → DpAll K H vs ps → Paired (fun v z => DN K H al v z.1) vs (ds.zip ps) ∧ Paired (fun v z => Dp K H v z.2) vs (ds.zip ps) ∧ (ds.zip ps).map (·.2) = ps
  | _, _, _, .nil, .nil => ⟨.nil, .nil, rfl⟩
  | _, _, _, .cons h t, .cons h' t' => by
    obtain ⟨a, b, c⟩ := pair_zip t t'
    exact ⟨.cons h a, .cons h' b, by simp [c]⟩
theorem dnl_fst : ∀ {vs : List V} {zs : List (D × PyData)}, Paired (fun v z => DN K H al v z.1) vs zs → DNL K H al vs (zs.map (·.1))
  | _, _, .nil => .nil
  | _, _, .cons h t => .cons h (dnl_fst t)
theorem sort_ok (hr : Room k X.A) {xs : List D} (h1 : seqOf S a = some ds) (h2 : sortS S ds = some xs) : CallG X (.builtin "sorted") S [a] (.lst xs) S := by
  unfold sortS at h2
  split at h2
  · rename_i ps hp
    split at h2
    · rename_i hc
      simp only [Bool.and_eq_true, List.all_eq_true, Bool.or_eq_true] at hc
      obtain ⟨⟨hal, hsh⟩, hk⟩ := hc
      cases h2
      refine ⟨_, cr_sortD hr, fun vs H0 H al Q R hv q => ?_⟩
      obtain ⟨x, rfl, hx⟩ := hv.one1
      obtain ⟨p, ws, rfl, hs, l⟩ := seqOf_ok R hx h1
      obtain ⟨z1, z2, z3⟩ := pair_zip l (dp_list (fun v d p => dat_dn R _ v d p) l hp)
      refine ⟨p, ws, ds.zip ps, _, rfl, hs, z1, z2, ?_, ?_, fun z hz => ?_, fun t us ht hu => q _ _ (Out.newLst R ht (dnl_fst hu))⟩
      · rw [z3]; exact fun d hd d' hd' => hal d hd d' hd'
      · rw [z3]
        rcases hk with (hk | hk) | ⟨hk, hk2⟩
        · refine .inl (.inl fun d hd => ?_)
          have := hk d hd
          split at this
          · exact ⟨_, _, rfl⟩
          · cases this
        · refine .inl (.inr fun d hd => ?_)
          have := hk d hd
          refine ⟨fun z => ?_, fun xs z => ?_⟩
          · rw [z] at this; cases this
          · rw [z] at this; cases this
        · refine .inr ⟨?_, fun z hz hnn => ?_⟩
          · have := congrArg List.length z3
            rw [List.length_map] at this
            rw [this]
            exact of_decide_eq_true hk
          · have hm : z.2 ∈ ps := by rw [← z3]; exact List.mem_map_of_mem hz
            have := hk2 _ hm
            rw [hnn] at this
            cases this
      · have : z.2 ∈ ps := by rw [← z3]; exact List.mem_map_of_mem hz
        exact SeqAt.depth_of_shaped (hsh _ this)
    · cases h2
  · cases h2

/-! ### repr -/
mutual
theorem noDict : ∀ {v : V} {p : PyData}, Dp K H v p → p.hasDict = false
  | _, _, .non => by simp [PyData.hasDict]
  | _, _, .bl _ => by simp [PyData.hasDict]
  | _, _, .int _ => by simp [PyData.hasDict]
  | _, _, .str _ => by simp [PyData.hasDict]
  | _, _, .lst _ l => by simp only [PyData.hasDict]; exact noDicts l
  | _, _, .tup _ l => by simp only [PyData.hasDict]; exact noDicts l
theorem noDicts : ∀ {vs : List V} {ps : List PyData}, DpAll K H vs ps → PyData.hasDictAll ps = false
  | _, _, .nil => by simp [PyData.hasDictAll]
  | _, _, .cons h l => by simp only [PyData.hasDictAll, noDict h, noDicts l]; rfl
end
def rReprD (K : PySem.W.Frag) : List V → Hp → VK → Prop := fun xs H Q => ∃ x p, xs = [x] ∧ Dp K H x p ∧ p.showable = true ∧ p.shown.length ≤ sizeLine ∧ p.depth ≤ 64 ∧ Q (.str p.shown) H
theorem cr_reprD (hr : Room k X.A) (hg : X.A.guards = some []) : CallR X (.builtin "repr") (rReprD X.K) := fun pins s σ H xs us Q I r h => by
  obtain ⟨x, p, rfl, hd, hs, hz, hdep, q⟩ := h
  obtain ⟨u, rfl, rx⟩ := vals1 r
  obtain ⟨as, hrd⟩ := Dp.reads I _ _ _ hd rx
  have hn := noDict hd
  have big : ∀ b : Addr, u = .ref b → wpAny (model X.prog X.w) X.A (call (.builtin "repr") [u]) (EP X pins σ Q) X.xe s := fun b e => by
    subst e
    refine repr_of_reads' (h₀ := s.heap) hrd hs (PyData.noDict_hsm hn) hg (by have := hr.un; omega) (fun _ _ z => z) (fun h' u tk hk => ?_) hz
    exact ⟨.str _, H, I.kept (t' := tk) hk, ⟨_, rfl⟩, q⟩
  cases hd with
  | non => cases rx; exact P.repr_of_none ⟨.str _, H, I.tok _, ⟨_, rfl⟩, by simpa only [PyData.shown] using q⟩
  | bl b => cases rx; exact P.repr_of_bool ⟨.str _, H, I.tok _, ⟨_, rfl⟩, by simpa only [PyData.shown] using q⟩
  | int i =>
    obtain ⟨t, rfl⟩ := rx
    simp only [PyData.showable, decide_eq_true_eq] at hs
    exact P.repr_of_int hs ⟨.str _, H, I.tok _, ⟨_, rfl⟩, by simpa only [PyData.shown] using q⟩
  | str z =>
    obtain ⟨t, rfl⟩ := rx
    simp only [PyData.shown] at hz q
    exact P.repr_of_str ⟨.str _, H, I.tok _, ⟨_, rfl⟩, q⟩ hz
  | lst hq l => cases rx; exact big _ rfl
  | tup hq l => cases rx; exact big _ rfl
end
end Rf

/-! Rf: built-in functions and methods. -/
namespace Rf
open PySem L2
section
variable {K : PySem.W.Frag} {H0 H H' H1 H2 : Hp} {al al' al1 al2 : Al} {S S1 S2 S' : Store} {v x y : V} {d a b : D} {vs : List V} {ds as : List D} {X : Cx} {k : Nat}
def biV : Bi → Value
  | .len => .builtin "len"
  | .tuple => .type "tuple"
  | .list => .type "list"
  | .sorted => .builtin "sorted"
  | .all => .builtin "all"
  | .any => .builtin "any"
  | .sum => .builtin "sum"
  | .max => .builtin "max"
  | .min => .builtin "min"
  | .int => .type "int"
  | .str => .type "str"
  | .repr => .builtin "repr"
  | .dict => .type "dict"
/-- a new dict is laid into the store -/
theorem Out.newDict (R : SRel K H al S) {p : Addr} (hp : H p = none) {ws : List (Key × V)} {kvs : List (Key × D)} (h : DNK K H al ws kvs) : Out K al H (S ++ [.dic kvs]) (.ref S.length) (.ref p) (upd H p (.dK ws)) := by
  have e : Ext al H al (upd H p (.dK ws)) := Ext.new hp
  have R1 : SRel K (upd H p (.dK ws)) al S := R.new hp
  have m : (true, p) ∉ al := R.fresh hp
  refine ⟨al ++ [(true, p)], ⟨⟨[(true, p)], rfl, fun b c q => ?_⟩, e.fr, e.tp, e.fz⟩, R1.layO m ⟨rfl, ws, upd_same, h.1, h.2.up e.tp e.fz fun n q z => get_pre z⟩, .inl (.ref (b := true) ?_)⟩
  · simp at q; obtain ⟨rfl, rfl⟩ := q; exact ⟨rfl, hp⟩
  · rw [← R.len]; simp
theorem pairs_dn : ∀ {vs : List V} {ds : List D} {kvs : List (Key × D)}, DNL K H al vs ds → mapO asPair ds = some kvs → ∃ (ps : List Addr) (ws : List (Key × V)), vs = ps.map V.ref ∧ Paired (fun p kv => SqT K H p [kV kv.1, kv.2]) ps ws ∧ DNK K H al ws kvs
  | _, _, _, .nil, e => by simp [mapO] at e; subst e; exact ⟨[], [], rfl, .nil, .nil⟩
  | _, _, _, .cons h l, e => by
    obtain ⟨b, t, e1, e2, rfl⟩ := mapO_some e
    obtain ⟨ps, ws, rfl, h2, h3⟩ := pairs_dn l e2
    cases h with
    | tup q l2 =>
      unfold asPair at e1
      split at e1
      · rename_i z1 z2 heq
        cases heq
        simp only [Option.map_eq_some_iff] at e1
        obtain ⟨ky, e1, rfl⟩ := e1
        cases l2 with
        | cons g1 g2 => cases g2 with
          | cons g3 g4 =>
            cases g4
            have := keyOf_kV (H0 := H) (.inl g1) e1
            subst this
            exact ⟨_ :: ps, (ky, _) :: ws, rfl, .cons q.1 h2, DNK.cons g3 h3⟩
      · cases e1
    | _ => simp [asPair] at e1
theorem plain_of {a : Addr} {vs : List V} {ds : List D} {kvs : List (Key × D)} (h : TpT K H a vs ds) (e : mapO asPair ds = some kvs) : PlnT K H a := by
  rcases h.2 with p | p
  · exact p
  · simp [looseT] at p
theorem bi_ok (hr : Room k X.A) (hg : X.A.guards = some []) (hc : X.calm = true) {f : Bi} (h : biS f as S = some (d, S')) : CallG X (biV f) S as d S' := by
  unfold biS at h
  split at h
  · split at h
    · rename_i hz
      cases h
      exact ⟨_, call_len_str, fun xs H0 H al Q R hv q => by
        obtain ⟨x, rfl, hx⟩ := hv.one1
        exact ⟨_, by rw [hx.str_of], hz, q _ _ (Out.here R (.int _))⟩⟩
    · cases h
  · split at h
    · rename_i e
      cases h
      exact ⟨_, call_len_seq, fun xs H0 H al Q R hv q => by
        obtain ⟨x, rfl, hx⟩ := hv.one1
        obtain ⟨p, ws, rfl, hs, l⟩ := seqOf_ok R hx e
        exact ⟨p, ws, rfl, hs, by rw [l.length]; exact q _ _ (Out.here R (.int _))⟩⟩
    · split at h
      · rename_i e
        cases h
        exact ⟨_, call_lenD, fun xs H0 H al Q R hv q => by
          obtain ⟨x, rfl, hx⟩ := hv.one1
          obtain ⟨p, ws, rfl, hs, l⟩ := dicOf_ok R hx e
          exact ⟨p, ws, rfl, hs, by rw [l.length]; exact q _ _ (Out.here R (.int _))⟩⟩
      · cases h
  · split at h
    · rename_i e
      cases h
      exact ⟨_, call_tupN, fun xs H0 H al Q R hv q => by
        obtain ⟨x, rfl, hx⟩ := hv.one1
        obtain ⟨p, ws, rfl, hs, l⟩ := seqOf_ok2 R hx e
        refine ⟨p, ws, rfl, ?_⟩
        rcases hs with hs | ⟨hs, _⟩
        · exact .inl ⟨hs, fun t ob ht hd => q _ _ (Out.newTup R ht hd l)⟩
        · exact .inr ⟨hs.1, q _ _ (Out.here R (.tup hs l))⟩⟩
    · cases h
  · split at h
    · rename_i e
      cases h
      exact ⟨_, call_list_of, fun xs H0 H al Q R hv q => by
        obtain ⟨x, rfl, hx⟩ := hv.one1
        obtain ⟨p, ws, rfl, hs, l⟩ := seqOf_ok R hx e
        exact ⟨p, ws, rfl, hs, fun t ht => q _ _ (Out.newLst R ht l)⟩⟩
    · cases h
  · split at h
    · rename_i e
      simp only [Option.map_eq_some_iff] at h
      obtain ⟨zs, h, e2⟩ := h
      cases e2
      exact sort_ok hr e h
    · cases h
  · split at h
    · rename_i e
      simp only [Option.map_eq_some_iff] at h
      obtain ⟨bs, h, e2⟩ := h
      cases e2
      exact ⟨_, cr_all hc, fun xs H0 H al Q R hv q => by
        obtain ⟨x, rfl, hx⟩ := hv.one1
        obtain ⟨p, ws, rfl, hs, l⟩ := lstOf_ok R hx e
        have := bls_of l h
        subst this
        exact ⟨p, bs, rfl, hs, q _ _ (Out.here R (.bl _))⟩⟩
    · cases h
  · split at h
    · rename_i e
      simp only [Option.map_eq_some_iff] at h
      obtain ⟨bs, h, e2⟩ := h
      cases e2
      exact ⟨_, cr_any hc, fun xs H0 H al Q R hv q => by
        obtain ⟨x, rfl, hx⟩ := hv.one1
        obtain ⟨p, ws, rfl, hs, l⟩ := lstOf_ok R hx e
        have := bls_of l h
        subst this
        exact ⟨p, bs, rfl, hs, q _ _ (Out.here R (.bl _))⟩⟩
    · cases h
  · simp only [Option.map_eq_some_iff] at h
    obtain ⟨ns, h, e2⟩ := h
    cases e2
    exact ⟨_, cr_sumT hc, fun xs H0 H al Q R hv q => by
      obtain ⟨x, rfl, hx⟩ := hv.one1
      obtain ⟨p, ws, rfl, hs, l⟩ := hx.tup_of
      have := ints_of l h
      subst this
      exact ⟨p, ns, rfl, hs, q _ _ (Out.here R (.int _))⟩⟩
  · split at h
    · rename_i e
      simp only [Option.map_eq_some_iff] at h
      obtain ⟨ns, h, e2⟩ := h
      cases e2
      exact ⟨_, cr_sum hc, fun xs H0 H al Q R hv q => by
        obtain ⟨x, rfl, hx⟩ := hv.one1
        obtain ⟨p, ws, rfl, hs, l⟩ := lstOf_ok R hx e
        have := ints_of l h
        subst this
        exact ⟨p, ns, rfl, hs, q _ _ (Out.here R (.int _))⟩⟩
    · cases h
  · cases h
    exact ⟨_, call_max2 hc, fun xs H0 H al Q R hv q => by
      obtain ⟨x, y, rfl, hx, hy⟩ := hv.two2
      exact ⟨_, _, by rw [hx.int_of, hy.int_of], q _ _ (Out.here R (.int _))⟩⟩
  · cases h
    exact ⟨_, call_min2 hc, fun xs H0 H al Q R hv q => by
      obtain ⟨x, y, rfl, hx, hy⟩ := hv.two2
      exact ⟨_, _, by rw [hx.int_of, hy.int_of], q _ _ (Out.here R (.int _))⟩⟩
  · split at h
    · rename_i n r e2
      cases h
      exact ⟨_, cr_maxT hc, fun xs H0 H al Q R hv q => by
        obtain ⟨x, rfl, hx⟩ := hv.one1
        obtain ⟨p, ws, rfl, hs, l⟩ := hx.tup_of
        have := ints_of l e2
        subst this
        refine ⟨p, n :: r, rfl, hs, by simp, fun m hm hle => ?_⟩
        obtain ⟨g1, g2, g3⟩ := maxI_mem r n
        have e3 : m = maxI n r := by
          have h1 : maxI n r ≤ m := by
            rcases g1 with g1 | g1
            · exact hle _ (by rw [g1]; exact List.mem_cons_self)
            · exact hle _ (List.mem_cons_of_mem _ g1)
          have h2 : m ≤ maxI n r := by
            rcases List.mem_cons.mp hm with hm | hm
            · rw [hm]; exact g2
            · exact g3 m hm
          omega
        rw [e3]; exact q _ _ (Out.here R (.int _))⟩
    · cases h
  · split at h
    · rename_i e
      split at h
      · rename_i n r e2
        cases h
        exact ⟨_, cr_max hc, fun xs H0 H al Q R hv q => by
          obtain ⟨x, rfl, hx⟩ := hv.one1
          obtain ⟨p, ws, rfl, hs, l⟩ := lstOf_ok R hx e
          have := ints_of l e2
          subst this
          refine ⟨p, n :: r, rfl, hs, by simp, fun m hm hle => ?_⟩
          obtain ⟨g1, g2, g3⟩ := maxI_mem r n
          have e3 : m = maxI n r := by
            have h1 : maxI n r ≤ m := by
              rcases g1 with g1 | g1
              · exact hle _ (by rw [g1]; exact List.mem_cons_self)
              · exact hle _ (List.mem_cons_of_mem _ g1)
            have h2 : m ≤ maxI n r := by
              rcases List.mem_cons.mp hm with hm | hm
              · rw [hm]; exact g2
              · exact g3 m hm
            omega
          rw [e3]; exact q _ _ (Out.here R (.int _))⟩
      · cases h
    · cases h
  · split at h
    · rename_i n r e2
      cases h
      exact ⟨_, cr_minT hc, fun xs H0 H al Q R hv q => by
        obtain ⟨x, rfl, hx⟩ := hv.one1
        obtain ⟨p, ws, rfl, hs, l⟩ := hx.tup_of
        have := ints_of l e2
        subst this
        refine ⟨p, n :: r, rfl, hs, by simp, fun m hm hle => ?_⟩
        obtain ⟨g1, g2, g3⟩ := minI_mem r n
        have e3 : m = minI n r := by
          have h1 : m ≤ minI n r := by
            rcases g1 with g1 | g1
            · exact hle _ (by rw [g1]; exact List.mem_cons_self)
            · exact hle _ (List.mem_cons_of_mem _ g1)
          have h2 : minI n r ≤ m := by
            rcases List.mem_cons.mp hm with hm | hm
            · rw [hm]; exact g2
            · exact g3 m hm
          omega
        rw [e3]; exact q _ _ (Out.here R (.int _))⟩
    · cases h
  · split at h
    · rename_i e
      split at h
      · rename_i n r e2
        cases h
        exact ⟨_, cr_min hc, fun xs H0 H al Q R hv q => by
          obtain ⟨x, rfl, hx⟩ := hv.one1
          obtain ⟨p, ws, rfl, hs, l⟩ := lstOf_ok R hx e
          have := ints_of l e2
          subst this
          refine ⟨p, n :: r, rfl, hs, by simp, fun m hm hle => ?_⟩
          obtain ⟨g1, g2, g3⟩ := minI_mem r n
          have e3 : m = minI n r := by
            have h1 : m ≤ minI n r := by
              rcases g1 with g1 | g1
              · exact hle _ (by rw [g1]; exact List.mem_cons_self)
              · exact hle _ (List.mem_cons_of_mem _ g1)
            have h2 : minI n r ≤ m := by
              rcases List.mem_cons.mp hm with hm | hm
              · rw [hm]; exact g2
              · exact g3 m hm
            omega
          rw [e3]; exact q _ _ (Out.here R (.int _))⟩
      · cases h
    · cases h
  · cases h
    exact ⟨_, call_int1, fun xs H0 H al Q R hv q => by
      obtain ⟨x, rfl, hx⟩ := hv.one1
      exact .inl ⟨_, by rw [hx.int_of], q _ _ (Out.here R (.int _))⟩⟩
  · cases h
    exact ⟨_, call_int1, fun xs H0 H al Q R hv q => by
      obtain ⟨x, rfl, hx⟩ := hv.one1
      exact .inr ⟨_, by rw [hx.bl_of], q _ _ (Out.here R (.int _))⟩⟩
  · split at h
    · rename_i hz
      cases h
      exact ⟨_, call_str_int, fun xs H0 H al Q R hv q => by
        obtain ⟨x, rfl, hx⟩ := hv.one1
        exact ⟨_, by rw [hx.int_of], hz, q _ _ (Out.here R (.str _))⟩⟩
    · cases h
  · split at h
    · rename_i p e
      simp only [Option.map_eq_some_iff] at h
      obtain ⟨z, h, e2⟩ := h
      cases e2
      unfold reprS at h
      split at h
      · rename_i hz
        simp only [Bool.and_eq_true, decide_eq_true_eq] at hz
        cases h
        exact ⟨_, cr_reprD hr hg, fun xs H0 H al Q R hv q => by
          obtain ⟨x, rfl, hx⟩ := hv.one1
          exact ⟨x, p, rfl, dat_dv R e hx, hz.1.1, hz.1.2, hz.2, q _ _ (Out.here R (.str _))⟩⟩
      · cases h
    · cases h
  · simp only [Option.map_eq_some_iff] at h
    obtain ⟨kvs, h, e2⟩ := h
    cases e2
    exact ⟨_, call_dictT hc, fun xs H0 H al Q R hv q => by
      obtain ⟨x, rfl, hx⟩ := hv.one1
      obtain ⟨p, ws, rfl, hs, l⟩ := hx.tup_of2
      obtain ⟨ps, us, rfl, h2, h3⟩ := pairs_dn l h
      exact ⟨p, ps, us, rfl, hs.1, plain_of hs h, h2, fun t ht => q _ _ (Out.newDict R ht (DNK.fold h3 .nil))⟩⟩
  · split at h
    · rename_i e
      simp only [Option.map_eq_some_iff] at h
      obtain ⟨kvs, h, e2⟩ := h
      cases e2
      exact ⟨_, call_dictP hc, fun xs H0 H al Q R hv q => by
        obtain ⟨x, rfl, hx⟩ := hv.one1
        obtain ⟨p, ws, rfl, hs, l⟩ := lstOf_ok R hx e
        obtain ⟨ps, us, rfl, h2, h3⟩ := pairs_dn l h
        exact ⟨p, ps, us, rfl, hs, h2, fun t ht => q _ _ (Out.newDict R ht (DNK.fold h3 .nil))⟩⟩
    · cases h
  · cases h
end
end Rf

/-! Rf: methods of lists; subscripts and slices. -/
namespace Rf
open PySem L2
section
variable {K : PySem.W.Frag} {H0 H H' H1 H2 : Hp} {al al' al1 al2 : Al} {S S1 S2 S' : Store} {v x y : V} {d a b : D} {vs : List V} {ds as : List D} {X : Cx} {k : Nat}
def mtI : Mt → String
  | .append => "list.append"
  | .extend => "list.extend"
  | .pop => "list.pop"
  | .insert => "list.insert"
  | .reverse => "list.reverse"
  | .clear => "list.clear"
  | .index => "list.index"
  | .count => "list.count"
  | .get => "dict.get"
def MtG (X : Cx) (id : String) (S : Store) (o : D) (as : List D) (d : D) (S' : Store) : Prop :=
  ∃ r, MtR X id r ∧ ∀ (x : V) (xs : List V) (H0 H1 H : Hp) (al : Al) (Q : VK), SRel X.K H al S → DV X.K H0 H al x o → DVL X.K H1 H al xs as → (∀ v H', Out X.K al H S' d v H' → Q v H') → r x xs H Q
theorem cell_lst (R : SRel K H al S) (h : DV K H0 H al v (.ref n)) (e : S[n]? = some (.lst ds)) : ∃ a vs, v = .ref a ∧ al[n]? = some (true, a) ∧ H a = some (.lst vs) ∧ DNL K H al vs ds := by
  obtain ⟨b, a, rfl, q⟩ := h.ref_of
  obtain ⟨rfl, vs, h, l⟩ := R.ok n _ b a e q
  exact ⟨a, vs, rfl, q, h, l⟩
/-- a list's cell is written -/
theorem Out.setLst {n : Nat} (R : SRel K H al S) {p : Addr} (q : al[n]? = some (true, p)) (l : DNL K H al vs ds) (hv : DN K H al v d) : Out K al H (S.set n (.lst ds)) d v (upd H p (.lst vs)) := by
  have m : (true, p) ∈ al := List.mem_iff_getElem?.mpr ⟨n, q⟩
  have e : Ext al H al (upd H p (.lst vs)) := Ext.write m R
  exact ⟨al, e, R.write q ⟨rfl, vs, upd_same, l.mono e⟩, .inl (hv.mono e)⟩
theorem Out.setDic {n : Nat} (R : SRel K H al S) {p : Addr} (q : al[n]? = some (true, p)) {ws : List (Key × V)} {kvs : List (Key × D)} (l : DNK K H al ws kvs) (hv : DN K H al v d) : Out K al H (S.set n (.dic kvs)) d v (upd H p (.dK ws)) := by
  have m : (true, p) ∈ al := List.mem_iff_getElem?.mpr ⟨n, q⟩
  have e : Ext al H al (upd H p (.dK ws)) := Ext.write m R
  exact ⟨al, e, R.write q ⟨rfl, ws, upd_same, l.1, l.2.mono e⟩, .inl (hv.mono e)⟩
theorem DVL.nil_of (h : DVL K H0 H al vs []) : vs = [] := by cases h; rfl
theorem DV.dn_of (h : DV K H0 H al v d) (hd : ∀ ds, d ≠ .lst ds) : DN K H al v d := by
  rcases h with h | ⟨a, vs, ds, _, e, _⟩
  · exact h
  · exact absurd e (hd ds)
def noL : D → Bool
  | .lst _ => false
  | _ => true
theorem noL_ne (h : noL d = true) : ∀ ds, d ≠ .lst ds := fun ds e => by rw [e] at h; cases h
/-- the arguments are no new lists, but for extend -/
theorem mt_ok {m : Mt} (hnt : ∀ xs, a ≠ .tup xs) (hr : Room k X.A) (ha : m ≠ .extend → ∀ d ∈ as, noL d = true) (h : mtS m a as S = some (d, S')) : MtG X (mtI m) S a as d S' := by
  unfold mtS at h
  split at h
  · exact absurd rfl (hnt _)
  · rename_i n
    split at h
    · rename_i xs hc
      split at h
      · rename_i yy
        split at h
        · rename_i hz
          cases h
          exact ⟨_, mt_append, fun x zs H0 H1 H al Q R hx hv q => by
            obtain ⟨p, vs, rfl, e, hp, l⟩ := cell_lst R hx hc
            obtain ⟨y, rfl, hy⟩ := hv.one1
            have hy' := hy.dn_of (noL_ne (ha (by decide) _ List.mem_cons_self))
            exact ⟨p, vs, y, rfl, rfl, hp, by rw [l.length]; exact hz, q _ _ (Out.setLst R e (l.append (.one hy')) .non)⟩⟩
        · cases h
      · split at h
        · rename_i ys hys
          split at h
          · rename_i hz
            cases h
            exact ⟨_, mt_extend, fun x zs H0 H1 H al Q R hx hv q => by
              obtain ⟨p, vs, rfl, e, hp, l⟩ := cell_lst R hx hc
              obtain ⟨y, rfl, hy⟩ := hv.one1
              obtain ⟨p2, vs2, rfl, hp2, l2⟩ := mlOf_ok R hy hys
              exact ⟨p, p2, vs, vs2, rfl, rfl, hp, hp2, by rw [l.length, l2.length]; exact hz, q _ _ (Out.setLst R e (l.append l2) .non)⟩⟩
          · cases h
        · cases h
      · split at h
        · rename_i yy hy
          cases h
          exact ⟨_, mt_pop, fun x zs H0 H1 H al Q R hx hv q => by
            obtain ⟨p, vs, rfl, e, hp, l⟩ := cell_lst R hx hc
            rw [← l.length] at hy
            obtain ⟨y, hy1, hy2⟩ := l.get hy
            exact ⟨p, vs, y, rfl, hv.nil_of, hp, hy1, q _ _ (Out.setLst R e l.dropLast hy2)⟩⟩
        · cases h
      · split at h
        · rename_i hb
          split at h
          · rename_i kk hk
            split at h
            · rename_i yy hy
              cases h
              exact ⟨_, mt_popAt, fun x zs H0 H1 H al Q R hx hv q => by
                obtain ⟨p, vs, rfl, e, hp, l⟩ := cell_lst R hx hc
                obtain ⟨y, rfl, hyi⟩ := hv.one1
                obtain ⟨w, hw1, hw2⟩ := l.get hy
                rw [← l.length] at hk
                exact ⟨p, vs, _, kk, w, rfl, by rw [hyi.int_of], hp, hb.1, hb.2, (ixN_seq hk).1, hw1, q _ _ (Out.setLst R e (l.eraseIdx kk) hw2)⟩⟩
            · cases h
          · cases h
        · cases h
      · split at h
        · rename_i hb
          cases h
          exact ⟨_, mt_insert, fun x zs H0 H1 H al Q R hx hv q => by
            obtain ⟨p, vs, rfl, e, hp, l⟩ := cell_lst R hx hc
            obtain ⟨y, y2, rfl, hyi, hy⟩ := hv.two2
            have hy' := hy.dn_of (noL_ne (ha (by decide) _ (List.mem_cons_of_mem _ List.mem_cons_self)))
            exact ⟨p, vs, _, y2, rfl, by rw [hyi.int_of], hp, by rw [l.length]; exact hb.1, hb.2.1, hb.2.2, q _ _ (Out.setLst R e (((l.take _).append (.one hy')).append (l.drop _)) .non)⟩⟩
        · cases h
      · cases h
        exact ⟨_, mt_reverse, fun x zs H0 H1 H al Q R hx hv q => by
          obtain ⟨p, vs, rfl, e, hp, l⟩ := cell_lst R hx hc
          exact ⟨p, vs, rfl, hv.nil_of, hp, q _ _ (Out.setLst R e l.reverse .non)⟩⟩
      · cases h
        exact ⟨_, mt_clear, fun x zs H0 H1 H al Q R hx hv q => by
          obtain ⟨p, vs, rfl, e, hp, l⟩ := cell_lst R hx hc
          exact ⟨p, vs, rfl, hv.nil_of, hp, q _ _ (Out.setLst R e .nil .non)⟩⟩
      · simp only [Option.map_eq_some_iff] at h
        obtain ⟨ns, h, e2⟩ := h
        cases e2
        exact ⟨_, mt_lcount, fun x zs H0 H1 H al Q R hx hv q => by
          obtain ⟨p, vs, rfl, e, hp, l⟩ := cell_lst R hx hc
          obtain ⟨y, rfl, hyi⟩ := hv.one1
          have := ints_of l h
          subst this
          exact ⟨p, ns, _, rfl, by rw [hyi.int_of], .inl (.inl hp), q _ _ (Out.here R (.int _))⟩⟩
      · split at h
        · rename_i yy p0 qs hp0 hqs
          split at h
          · rename_i hsh
            simp only [Bool.and_eq_true] at hsh
            cases h
            exact ⟨_, mt_countD (units65 hr), fun x zs H0 H1 H al Q R hx hv q => by
              obtain ⟨p, vs, rfl, e, hp, l⟩ := cell_lst R hx hc
              obtain ⟨y, rfl, hy⟩ := hv.one1
              have hy' := hy.dn_of (noL_ne (ha (by decide) _ List.mem_cons_self))
              exact ⟨p, y, p0, qs, rfl, rfl, .lst (.inl (.inl hp)) (dp_list (fun v d p => dat_dn R _ v d p) l hqs), dat_dn R _ _ _ _ hp0 hy', hsh.2, hsh.1, q _ _ (Out.here R (.int _))⟩⟩
          · cases h
        · cases h
      · split at h
        · rename_i yy p0 qs hp0 hqs
          split at h
          · rename_i hsh
            simp only [Bool.and_eq_true] at hsh
            simp only [Option.map_eq_some_iff] at h
            obtain ⟨j, hj, e2⟩ := h
            cases e2
            obtain ⟨hlt, g1, g2⟩ := List.findIdx?_eq_some_iff_getElem.mp hj
            exact ⟨_, mt_indexD (units65 hr), fun x zs H0 H1 H al Q R hx hv q => by
              obtain ⟨p, vs, rfl, e, hp, l⟩ := cell_lst R hx hc
              obtain ⟨y, rfl, hy⟩ := hv.one1
              have hy' := hy.dn_of (noL_ne (ha (by decide) _ List.mem_cons_self))
              refine ⟨p, y, p0, qs, j, qs[j], rfl, rfl, .lst (.inl (.inl hp)) (dp_list (fun v d p => dat_dn R _ v d p) l hqs), dat_dn R _ _ _ _ hp0 hy', hsh.2, hsh.1, List.getElem?_eq_getElem hlt, g1, fun m z' hm hz => ?_, q _ _ (Out.here R (.int _))⟩
              obtain ⟨hl2, rfl⟩ := List.getElem?_eq_some_iff.mp hz
              simpa using g2 m hm⟩
          · cases h
        · cases h
      · cases h
    · cases h
  · cases h

/-! a tuple's methods -/
def mtIT : Mt → String
  | .count => "tuple.count"
  | _ => "tuple.index"
theorem mt_okT {m : Mt} {xs : List D} (hr : Room k X.A) (ha : m ≠ .extend → ∀ d ∈ as, noL d = true) (h : mtT m xs as S = some (d, S')) : (m = .count ∨ m = .index) ∧ MtG X (mtIT m) S (.tup xs) as d S' := by
  unfold mtT at h
  split at h
  · split at h
    · rename_i yy p0 qs hp0 hqs
      split at h
      · rename_i hsh
        simp only [Bool.and_eq_true] at hsh
        cases h
        exact ⟨.inl rfl, _, mt_tcountD (units65 hr), fun x zs H0 H1 H al Q R hx hv q => by
          obtain ⟨p, vs, rfl, hs, l⟩ := hx.tup_of2
          obtain ⟨y, rfl, hy⟩ := hv.one1
          have hy' := hy.dn_of (noL_ne (ha (by decide) _ List.mem_cons_self))
          exact ⟨p, y, p0, qs, rfl, rfl, .tup hs.1 (dp_list (fun v d p => dat_dn R _ v d p) l hqs), hs.2.resolve_right (by simp [looseT]), dat_dn R _ _ _ _ hp0 hy', hsh.2, hsh.1, q _ _ (Out.here R (.int _))⟩⟩
      · cases h
    · cases h
  · split at h
    · rename_i yy p0 qs hp0 hqs
      split at h
      · rename_i hsh
        simp only [Bool.and_eq_true] at hsh
        simp only [Option.map_eq_some_iff] at h
        obtain ⟨j, hj, e2⟩ := h
        cases e2
        obtain ⟨hlt, g1, g2⟩ := List.findIdx?_eq_some_iff_getElem.mp hj
        exact ⟨.inr rfl, _, mt_tindexD (units65 hr), fun x zs H0 H1 H al Q R hx hv q => by
          obtain ⟨p, vs, rfl, hs, l⟩ := hx.tup_of2
          obtain ⟨y, rfl, hy⟩ := hv.one1
          have hy' := hy.dn_of (noL_ne (ha (by decide) _ List.mem_cons_self))
          refine ⟨p, y, p0, qs, j, qs[j], rfl, rfl, .tup hs.1 (dp_list (fun v d p => dat_dn R _ v d p) l hqs), hs.2.resolve_right (by simp [looseT]), dat_dn R _ _ _ _ hp0 hy', hsh.2, hsh.1, List.getElem?_eq_getElem hlt, g1, fun m z' hm hz => ?_, q _ _ (Out.here R (.int _))⟩
          obtain ⟨hl2, rfl⟩ := List.getElem?_eq_some_iff.mp hz
          simpa using g2 m hm⟩
      · cases h
    · cases h
  · cases h
/-! ### subscripts -/
def IxG (X : Cx) (S : Store) (a i d : D) : Prop :=
  ∃ r : R2, IxR X r ∧ ∀ (x y : V) (H0 H1 H : Hp) (al : Al) (Q : VK), SRel X.K H al S → DV X.K H0 H al x a → DV X.K H1 H al y i → (∀ v H', Out X.K al H S d v H' → Q v H') → r x y H Q
theorem atI_ok (l : DNL K H al vs ds) {i : Int} (h : atI ds i = some d) : ∃ v, atI vs i = some v ∧ DN K H al v d := by
  unfold atI at h ⊢
  rw [l.length]
  cases e : ixN ds.length i with
  | none => rw [e] at h; cases h
  | some j => rw [e] at h; exact l.get h
theorem idx_seq {i : Int} (h1 : seqOf S a = some ds) (h2 : atI ds i = some d) : IxG X S a (.int i) d :=
  ⟨_, ix_list.or ix_tup, fun x y H0 H1 H al Q R hx hy q => by
    obtain ⟨p, vs, rfl, hs, l⟩ := seqOf_ok R hx h1
    obtain ⟨v, e, hv⟩ := atI_ok l h2
    rcases hs with hs | hs
    · exact .inl ⟨p, vs, i, v, rfl, hy.int_of, hs, e, q _ _ (Out.here R hv)⟩
    · exact .inr ⟨p, vs, i, v, rfl, hy.int_of, hs, e, q _ _ (Out.here R hv)⟩⟩
/-- either an item of a sequence, or a dict's value -/
theorem idx_cases {i : D} (h : idxS S a i = some d) : IxG X S a i d ∨ ∃ n kvs q, a = .ref n ∧ S[n]? = some (.dic kvs) ∧ keyOf i = some q ∧ (kvs.find? fun kv => decide (kv.1 = q)).map (·.2) = some d := by
  unfold idxS at h
  split at h
  · split at h
    · rename_i e
      exact .inl (idx_seq e h)
    · split at h
      · split at h
        · rename_i e
          exact .inr ⟨_, _, _, rfl, e, rfl, h⟩
        · cases h
      · split at h
        · rename_i hz
          simp only [Option.map_eq_some_iff] at h
          obtain ⟨c, hc, rfl⟩ := h
          exact .inl ⟨_, ix_str, fun x y H0 H1 H al Q R hx hy q => ⟨_, _, c, hx.str_of, hy.int_of, hz, hc, q _ _ (Out.here R (.str _))⟩⟩
        · cases h
      · cases h
  · split at h
    · split at h
      · rename_i e
        exact .inr ⟨_, _, _, rfl, e, rfl, h⟩
      · cases h
    · cases h
  · cases h
/-! ### slices -/
def SlG (X : Cx) (S : Store) (a : D) (lo hi : Option Int) (d : D) : Prop :=
  ∃ r, SlR X r ∧ ∀ (x : V) (H0 H : Hp) (al : Al) (Q : VK), SRel X.K H al S → DV X.K H0 H al x a → (∀ v H', Out X.K al H S d v H' → Q v H') → r x lo hi H Q
theorem cut_whole {α : Type} (xs : List α) {lo hi : Option Int} (h : HT.sIx xs.length 0 lo = 0 ∧ HT.sIx xs.length xs.length hi = xs.length) : cut xs lo hi = xs := by
  unfold cut
  rw [h.1, h.2]
  simp
theorem slc_ok {lo hi : Option Int} (h : slcS S a lo hi = some d) : SlG X S a lo hi d := by
  unfold slcS at h
  split at h
  · cases h
    exact ⟨_, sl_tupN, fun x H0 H al Q R hx q => by
      obtain ⟨p, vs, rfl, hs, l⟩ := hx.tup_of2
      refine ⟨p, vs, rfl, hs.1, fun w => ?_, fun _ t ob ht hd => q _ _ (Out.newTup R ht hd (l.cut lo hi))⟩
      rw [l.length] at w
      rw [cut_whole _ w] at q
      exact q _ _ (Out.here R (.tup hs l))⟩
  · split at h
    · rename_i hz
      cases h
      exact ⟨_, sl_str, fun x H0 H al Q R hx q => ⟨_, hx.str_of, hz, q _ _ (Out.here R (.str _))⟩⟩
    · cases h
  · split at h
    · rename_i e
      cases h
      exact ⟨_, sl_list, fun x H0 H al Q R hx q => by
        obtain ⟨p, vs, rfl, hs, l⟩ := lstOf_ok R hx e
        exact ⟨p, vs, rfl, hs, fun t ht => q _ _ (Out.newLst R ht (l.cut lo hi))⟩⟩
    · cases h
end
end Rf

/-! Rf: readings of the small language; a call of a def. -/
namespace Rf
open PySem L2
section
variable {X : Cx} {e : Expr} {es : List Expr}
theorem PE.pick {t : TE} (h : ∀ σ H Q, t σ H Q → ∃ u, PE X e u ∧ u σ H Q) : PE X e t := ⟨fun pins s σ H Q I q => by
  obtain ⟨u, p, z⟩ := h σ H Q q
  exact p.run pins s σ H Q I z⟩
theorem PT.pick {t : TT} (h : ∀ σ H Q, t σ H Q → ∃ u, PT X e u ∧ u σ H Q) : PT X e t := ⟨fun pins s σ H Q I q => by
  obtain ⟨u, p, z⟩ := h σ H Q q
  exact p.run pins s σ H Q I z⟩
theorem PW.pick {t : TT} (h : ∀ σ H Q, t σ H Q → ∃ u, PW X e u ∧ u σ H Q) : PW X e t := ⟨fun wh pins s σ H Q I q => by
  obtain ⟨u, p, z⟩ := h σ H Q q
  exact p.run wh pins s σ H Q I z⟩
theorem PA.pick {t : TA} (h : ∀ σ H Q, t σ H Q → ∃ u, PA X es u ∧ u σ H Q) : PA X es t := ⟨fun pos pins s σ H Q I q => by
  obtain ⟨u, p, z⟩ := h σ H Q q
  exact p.run pos pins s σ H Q I z⟩
theorem PI.pick {tg : Expr} {t : TI} (h : ∀ σ H Q, t σ H Q → ∃ u, PI X tg e u ∧ u σ H Q) : PI X tg e t := ⟨fun pins s σ H Q I q => by
  obtain ⟨u, p, z⟩ := h σ H Q q
  exact p.run pins s σ H Q I z⟩
theorem PS.pick {st : Stmt} {t : TS} (h : ∀ D σ H, t D σ H → ∃ u, PS X st u ∧ u D σ H) : PS X st t := ⟨fun pins s σ H D I q => by
  obtain ⟨u, p, z⟩ := h D σ H q
  exact p.run pins s σ H D I z⟩
theorem PSs.pick {st : List Stmt} {t : TS} (h : ∀ D σ H, t D σ H → ∃ u, PSs X st u ∧ u D σ H) : PSs X st t := ⟨fun pins s σ H D I q => by
  obtain ⟨u, p, z⟩ := h D σ H q
  exact p.run pins s σ H D I z⟩
end

abbrev Cl := Nat → List D → Store → Rs D
/-- an expression's reading by its data -/
def TX (K : PySem.W.Frag) (c : Cl) (e : Ex) : TE := fun σ H Q => ∃ r S al d S', RelE K H al r σ ∧ SRel K H al S ∧ evE c e r S = some (d, S') ∧ ∀ v H', Out K al H S' d v H' → Q v H'
def TB (K : PySem.W.Frag) (c : Cl) (e : Ex) : TT := fun σ H Q => ∃ r S al b S', RelE K H al r σ ∧ SRel K H al S ∧ evE c e r S = some (.bl b, S') ∧ ∀ H' al', Ext al H al' H' → SRel K H' al' S' → Q b H'
def TR (K : PySem.W.Frag) (c : Cl) (es : Exs) : TA := fun σ H Q => ∃ r S al ds S', RelE K H al r σ ∧ SRel K H al S ∧ evR c es r S = some (ds, S') ∧ ∀ vs H' al', Ext al H al' H' → SRel K H' al' S' → DVL K H H' al' vs ds → Q vs H'
def TM (K : PySem.W.Frag) (c : Cl) (es : Exs) : TA := fun σ H Q => ∃ r S al ds S', RelE K H al r σ ∧ SRel K H al S ∧ evM c es r S = some (ds, S') ∧ ∀ vs H' al', Ext al H al' H' → SRel K H' al' S' → DNL K H' al' vs ds → Q vs H'
section
variable {K : PySem.W.Frag} {c : Cl} {σ : L2.St} {H H' : Hp} {al al' : Al} {r : Sl} {S S' S1 S2 : Store} {d x y : D}
/-- one evaluation ahead of the next -/
theorem TX.go {e : Ex} {Q : VK} (hr : RelE K H al r σ) (R : SRel K H al S) (h : evE c e r S = some (d, S')) (q : ∀ v H' al', Ext al H al' H' → SRel K H' al' S' → DV K H H' al' v d → Q v H') : TX K c e σ H Q :=
  ⟨r, S, al, d, S', hr, R, h, fun v H' ⟨al', e, R', h'⟩ => q v H' al' e R' h'⟩
theorem Out.of {H1 H2 : Hp} {al1 al2 : Al} {v : V} (e1 : Ext al H al1 H1) (R1 : SRel K H1 al1 S1) (o : Out K al1 H1 S' d v H2) : Out K al H S' d v H2 := by
  obtain ⟨al2, e2, R2, h⟩ := o
  exact ⟨al2, e1.trans R1 e2, R2, h.start e1 R1⟩
theorem bnd_eq {α β : Type} {a : Rs α} {f : α → Store → Rs β} {z : β × Store} (h : bnd a f = some z) : ∃ x T, a = some (x, T) ∧ f x T = some z := by
  unfold bnd at h
  split at h
  · exact ⟨_, _, rfl, h⟩
  · cases h
theorem lift_eq {α : Type} {o : Option α} {z : α × Store} (h : lift o S = some z) : o = some z.1 ∧ z.2 = S := by
  unfold lift at h
  simp only [Option.map_eq_some_iff] at h
  obtain ⟨a, h, rfl⟩ := h
  exact ⟨h, rfl⟩
end

/-! ### a def's promise, with the guards told -/
structure FnG (P : Program) (w : World) (K : PySem.W.Frag) (mg : Str → Option Value) (base : Heap) (k : Nat) (f : Addr) (fd : FuncData) (ps : List Str) (sp : Sp) : Prop where
  len : ∀ vs H Q E, sp vs H Q E → vs.length = ps.length
  run : ∀ (A : Around) (outer : List Env) (s : Shared) (H : Hp) (args : Args) (us : List Value) (vs : List V) (Q : VK) (E : XK), Room k A → A.guards = some [] →
    Env0 P w K mg base A outer s H → BindsTo s fd args (ps.zip us) → Vals vs us → sp vs H Q E → codeAny (model P w) A (.call (.ref f) args) (CR CX0 outer P w H s Q E) s
def spF (K : PySem.W.Frag) (c : Cl) (i : Nat) : Sp := fun vs H Q _ => ∃ ds S al d S', DNL K H al vs ds ∧ SRel K H al S ∧ c i ds S = some (d, S') ∧ ∀ v H', Out K al H S' d v H' → Q v H'
/-- a dict of the module: texts to ints -/
structure KDc (K : PySem.W.Frag) (w : World) (p : Addr) (kvs : List (Str × Int)) : Prop where
  go : ∃ es n, K.lookup p = some ⟨.type "dict", none, .dict es n, #[]⟩ ∧ PySem.W.KeysLit w.params es.toList ∧ (p == sysModules) = false ∧
    Paired (fun (kv : Str × Int) (e : DictEntry) => ∃ t u, e.key = .str kv.1 t ∧ e.val = .int kv.2 u) kvs es.toList
theorem kdc_find : ∀ {kvs : List (Str × Int)} {es : List DictEntry}, Paired (fun (kv : Str × Int) (e : DictEntry) => ∃ t u, e.key = .str kv.1 t ∧ e.val = .int kv.2 u) kvs es → ∀ z : Str,
    (∃ i u, kvs.lookup z = some i ∧ (es.find? fun e => Value.isStrOf z e.key).map (·.val) = some (.int i u)) ∨ (kvs.lookup z = none ∧ (es.find? fun e => Value.isStrOf z e.key).map (·.val) = none)
  | _, _, .nil, z => .inr ⟨rfl, rfl⟩
  | (x, i) :: kvs, e :: es, .cons h t, z => by
    obtain ⟨t1, u1, h1, h2⟩ := h
    rw [List.lookup_cons, List.find?_cons, h1]
    simp only [Value.isStrOf]
    by_cases q : x = z
    · subst q
      exact .inl ⟨i, u1, by simp, by simp [h2]⟩
    · have q1 : (z == x) = false := beq_eq_false_iff_ne.mpr fun e => q e.symm
      have q2 : (x == z) = false := beq_eq_false_iff_ne.mpr q
      rw [q1, q2]
      exact kdc_find t z
theorem KDc.find {K : PySem.W.Frag} {w : World} {p : Addr} {kvs : List (Str × Int)} (h : KDc K w p kvs) (z : Str) : ∃ es n, K.lookup p = some ⟨.type "dict", none, .dict es n, #[]⟩ ∧ PySem.W.KeysLit w.params es.toList ∧ (p == sysModules) = false ∧
    ((∃ i u, kvs.lookup z = some i ∧ PySem.findBy Value.isStrOf es z = some (.int i u)) ∨ (kvs.lookup z = none ∧ PySem.findBy Value.isStrOf es z = none)) := by
  obtain ⟨es, n, h1, h2, h3, h4⟩ := h.go
  refine ⟨es, n, h1, h2, h3, ?_⟩
  have := kdc_find h4 z
  unfold PySem.findBy
  rw [← Array.find?_toList]
  exact this
/-- the context fits the text's table -/
structure Gd (G : Cfg) (c : Cl) (k : Nat) (sc : Scope) (X : Cx) : Prop where
  N : X.N = G.N
  nd : X.N.Nodup
  sc : X.env.scope = sc
  calm : X.calm = true
  room : Room k X.A
  gu : X.A.guards = some []
  bl : ∀ x ∈ G.bl, X.mg x = none
  fns : ∀ (i : Nat) (p : Str × Nat), G.fns[i]? = some p → ∃ f fd ps, X.mg p.1 = some (.ref f) ∧ PySem.W.keepIn X.K (.ref f) = true ∧ Binds X.K fd ps [] ∧ ps.length = p.2 ∧ FnG X.prog X.w X.K X.mg X.base k f fd ps (spF X.K c i)
  cs : ∀ x d, G.cs.lookup x = some d → ∃ v u, X.mg x = some u ∧ RelV v u ∧ ∀ H al, DN X.K H al v d
  dc : ∀ x kvs, G.dc.lookup x = some kvs → ∃ p, X.mg x = some (.ref p) ∧ KDc X.K X.w p kvs
section
variable {X : Cx} {k : Nat} {f : Addr} {fd : FuncData} {ps : List Str} {sp : Sp} {x : Str} {p pos : Pos} {e : Expr} {es : List Expr} {t : TA}
theorem fn_runs {pins : List (Addr × Obj)} {σ : L2.St} {H : Hp} {s : Shared} {Q : VK} {us : List Value} {vs : List V} (F : FnG X.prog X.w X.K X.mg X.base k f fd ps sp) (hr : Room k X.A) (hg : X.A.guards = some []) (hb : Binds X.K fd ps [])
    (I : Inv X pins σ H s) (r : Vals vs us) (h : sp vs H Q E0) : wpAny (model X.prog X.w) X.A (call (.ref f) us) (EP X pins σ Q) X.xe s := by
  have hl : (us ++ []).length = ps.length := by rw [List.append_nil, ← r.length]; exact F.len _ _ _ _ h
  have hbb := hb s us I.kIn hl
  rw [List.append_nil] at hbb
  refine wpAny_call (codeAny_mono (F.run X.A X.stack s H ⟨us, []⟩ us vs Q E0 hr hg I.env0 hbb r h) fun z s' hz => ?_)
  match z, hz with
  | .error _, hz => exact False.elim hz
  | .ok (.ret u), hz => exact I.after hz
  | .ok .next, hz => exact False.elim hz
  | .ok .brk, hz => exact False.elim hz
  | .ok .cont, hz => exact False.elim hz
theorem pe_callG0 (F : FnG X.prog X.w X.K X.mg X.base k f fd ps sp) (hr : Room k X.A) (hg : X.A.guards = some []) (hgl : Gl X x) (hm : X.mg x = some (.ref f)) (hk : PySem.W.keepIn X.K (.ref f) = true) (hb : Binds X.K fd ps [])
    (hdb : (x == ("__debug__" : Str)) = false) : PE X (.Call (.Name x p) [] [] pos) (fun σ H Q => sp [] H Q E0) :=
  ⟨fun pins s σ H Q I h => wpAny_Call_Name_kw (ld_glob I hgl hm (PySem.W.callWith_K0 I.kIn hk (fn_runs (us := []) F hr hg hb I .nil h)) hdb)⟩
theorem pe_callG (F : FnG X.prog X.w X.K X.mg X.base k f fd ps sp) (hr : Room k X.A) (hg : X.A.guards = some []) (hgl : Gl X x) (hm : X.mg x = some (.ref f)) (hk : PySem.W.keepIn X.K (.ref f) = true) (hb : Binds X.K fd ps []) (ha : PA X (e :: es) t)
    (hdb : (x == ("__debug__" : Str)) = false) (h0 : starEach (e :: es) X.env = (false, eval e X.env) :: starEach es X.env) (h1 : starEach es X.env = es.map fun e => (false, eval e X.env)) :
    PE X (.Call (.Name x p) (e :: es) [] pos) (fun σ H Q => t σ H fun vs H1 => sp vs H1 Q E0) := by
  refine ⟨fun pins s σ H Q I h => wpAny_Call_Name_kw (ld_glob I hgl hm ?_ hdb)⟩
  have go := thn (ha.run pos pins s σ H _ I h) fun us s1 ⟨vs, H1, I1, rv, q⟩ => show X.K.In s1.heap ∧ _ from ⟨I1.kIn, fn_runs F hr hg hb I1 rv q⟩
  exact PySem.W.callWith_K (h₀ := X.base) I.ok.mod.kin hk go h0 (by rw [h1]; simp [backTo])
end
end Rf

/-! Rf: expressions, one construct at a time. -/
namespace Rf
open PySem L2
section
variable {X : Cx} {cl : Cl} {k : Nat} {a b c e o i : Expr} {es rest : List Expr} {xa xb xc : Ex} {xs : Exs} {pos p2 apos cpos : Pos}

theorem px_var {j : Nat} {x : Str} (hN : X.N[j]? = some x) (hv : Vis X.env.scope x) (hd : (x == ("__debug__" : Str)) = false) (hcd : (x == ("__classdict__" : Str)) = false) : PE X (.Name x pos) (TX X.K cl (.var j)) :=
  PE.pick fun σ H Q ⟨r, S, al, d, S', hr, R, h, q⟩ => by
    simp only [evE] at h
    obtain ⟨h1, h2⟩ := lift_eq h
    simp only at h1 h2
    subst h2
    unfold slot at h1
    split at h1
    · rename_i d' hs
      cases h1
      obtain ⟨v, e1, e2⟩ := hr.ok j d hs
      exact ⟨_, pe_var hN hv hd hcd, v, e1, q v H (Out.here R e2)⟩
    · cases h1
theorem px_cst {v : V} {d : D} (h0 : PE X e (tC v)) (hd : ∀ H al, DN X.K H al v d) : PE X e (TX X.K cl (.cst d)) :=
  PE.pick fun σ H Q ⟨r, S, al, d', S', hr, R, h, q⟩ => by
    simp only [evE, Option.some.injEq, Prod.mk.injEq] at h
    obtain ⟨rfl, rfl⟩ := h
    exact ⟨_, h0, q v H (Out.here R (hd H al))⟩
theorem px_bin {op : Operator} (ha : PE X a (TX X.K cl xa)) (hb : PE X b (TX X.K cl xb)) : PE X (.BinOp a op b pos) (TX X.K cl (.bin op xa xb)) :=
  PE.pick fun σ H Q ⟨r, S, al, d, S', hr, R, h, q⟩ => by
    simp only [evE] at h
    obtain ⟨x, S1, h1, h⟩ := bnd_eq h
    obtain ⟨y, S2, h2, h⟩ := bnd_eq h
    obtain ⟨h3, h4⟩ := lift_eq h
    simp only at h3 h4
    subst h4
    obtain ⟨rr, ho, hq⟩ := bin_ok (X := X) h3
    exact ⟨_, pe_op ho ha hb, TX.go hr R h1 fun v H1 al1 e1 R1 hv => TX.go (hr.mono e1) R1 h2 fun w H2 al2 e2 R2 hw =>
      hq v w _ _ H2 al2 Q R2 (hv.mono e2) hw fun z H3 oo => q z H3 (Out.of (al2 := al2) (e1.trans R1 e2) R2 oo)⟩
theorem px_neg (ha : PE X a (TX X.K cl xa)) : PE X (.UnaryOp .USub a pos) (TX X.K cl (.neg xa)) :=
  PE.pick fun σ H Q ⟨r, S, al, d, S', hr, R, h, q⟩ => by
    simp only [evE] at h
    obtain ⟨x, S1, h1, h⟩ := bnd_eq h
    split at h
    · rename_i n
      simp only [Option.some.injEq, Prod.mk.injEq] at h
      obtain ⟨rfl, rfl⟩ := h
      exact ⟨_, pe_un un_neg ha, TX.go hr R h1 fun v H1 al1 e1 R1 hv => ⟨n, hv.int_of, q _ _ (Out.of (al2 := al1) e1 R1 (Out.here R1 (.int _)))⟩⟩
    · cases h
theorem px_cmp (hrm : Room k X.A) {op : CmpOp} (ha : PE X a (TX X.K cl xa)) (hb : PE X b (TX X.K cl xb)) (hm : behindInMarks op b = false) : PE X (.Compare a [op] [b] pos) (TX X.K cl (.cmp op xa xb)) :=
  PE.pick fun σ H Q ⟨r, S, al, d, S', hr, R, h, q⟩ => by
    simp only [evE] at h
    obtain ⟨x, S1, h1, h⟩ := bnd_eq h
    obtain ⟨y, S2, h2, h⟩ := bnd_eq h
    obtain ⟨h3, h4⟩ := lift_eq h
    simp only [Option.map_eq_some_iff] at h3 h4
    obtain ⟨bo, h3, rfl⟩ := h3
    subst h4
    obtain ⟨rr, ho, hq⟩ := cmp_ok hrm h3
    exact ⟨_, pe_cmpR ho ha hb hm, TX.go hr R h1 fun v H1 al1 e1 R1 hv => TX.go (hr.mono e1) R1 h2 fun w H2 al2 e2 R2 hw =>
      hq v w _ _ H2 al2 Q R2 (hv.mono e2) hw fun z H3 oo => q z H3 (Out.of (al2 := al2) (e1.trans R1 e2) R2 oo)⟩
/-- a truth is one -/
theorem Out.bl_of {K : PySem.W.Frag} {al : Al} {H H' : Hp} {S : Store} {bo : Bool} {v : V} (oo : Out K al H S (.bl bo) v H') : v = .bl bo ∧ ∃ al', Ext al H al' H' ∧ SRel K H' al' S := by
  obtain ⟨al', e, R, h⟩ := oo
  exact ⟨h.bl_of, al', e, R⟩
theorem pt_cmpX (hrm : Room k X.A) {op : CmpOp} (ha : PE X a (TX X.K cl xa)) (hb : PE X b (TX X.K cl xb)) (hm : behindInMarks op b = false) : PT X (.Compare a [op] [b] pos) (TB X.K cl (.cmp op xa xb)) :=
  PT.pick fun σ H Q ⟨r, S, al, bo, S', hr, R, h, q⟩ => by
    simp only [evE] at h
    obtain ⟨x, S1, h1, h⟩ := bnd_eq h
    obtain ⟨y, S2, h2, h⟩ := bnd_eq h
    obtain ⟨h3, h4⟩ := lift_eq h
    simp only [Option.map_eq_some_iff, D.bl.injEq] at h3 h4
    obtain ⟨bo', h3, rfl⟩ := h3
    subst h4
    obtain ⟨rr, ho, hq⟩ := cmp_ok hrm h3
    exact ⟨_, pt_cmpR ho ha hb hm, TX.go hr R h1 fun v H1 al1 e1 R1 hv => TX.go (hr.mono e1) R1 h2 fun w H2 al2 e2 R2 hw =>
      hq v w _ _ H2 al2 _ R2 (hv.mono e2) hw fun z H3 oo => by
        obtain ⟨e, al3, e3, R3⟩ := oo.bl_of
        exact ⟨bo', e, q H3 al3 ((e1.trans R1 e2).trans R2 e3) R3⟩⟩
theorem nomarks {op op' : CmpOp} {b c : Expr} (h : op' ≠ .In) (h2 : op' ≠ .NotIn) : lastMarks [op, op'] [b, c] = false := nobehind c h h2
theorem chn_core (hrm : Room k X.A) {op op' : CmpOp} {H : Hp} {Q : VK} {S S' : Store} {al : Al} {r : Sl} {σ : L2.St} {d : D} (hr : RelE X.K H al r σ) (R : SRel X.K H al S) (h : evE cl (.chn op op' xa xb xc) r S = some (d, S'))
    (q : ∀ v H', Out X.K al H S' d v H' → Q v H') : ∃ r1 r2 : R2, OpR X (compareOp op) r1 ∧ OpR X (compareOp op') r2 ∧ tChain r1 r2 (TX X.K cl xa) (TX X.K cl xb) (TX X.K cl xc) σ H Q := by
  simp only [evE] at h
  obtain ⟨x, S1, h1, h⟩ := bnd_eq h
  obtain ⟨y, S2, h2, h⟩ := bnd_eq h
  split at h
  · rename_i n
    split at h
    · rename_i h3
      obtain ⟨z, S3, h4, h⟩ := bnd_eq h
      obtain ⟨h5, h6⟩ := lift_eq h
      simp only [Option.map_eq_some_iff] at h5 h6
      obtain ⟨bo', h5, rfl⟩ := h5
      subst h6
      obtain ⟨r1, ho1, hq1⟩ := cmp_ok hrm h3
      obtain ⟨r2, ho2, hq2⟩ := cmp_ok hrm h5
      refine ⟨r1, r2, ho1, ho2, TX.go hr R h1 fun v H1 al1 e1 R1 hv => TX.go (hr.mono e1) R1 h2 fun w H2 al2 e2 R2 hw => hq1 v w _ _ H2 al2 _ R2 (hv.mono e2) hw fun z' H3 oo => ?_⟩
      obtain ⟨e, al3, e3, R3⟩ := oo.bl_of
      refine ⟨true, e, ?_⟩
      rw [if_pos rfl]
      have E3 := (e1.trans R1 e2).trans R2 e3
      refine TX.go (hr.mono E3) R3 h4 fun u H4 al4 e4 R4 hu => ?_
      have hw4 : DV X.K H1 H4 al4 w (.int n) := (hw.mono e3).mono e4
      exact hq2 w u _ _ H4 al4 Q R4 hw4 hu fun z2 H5 o2 => q z2 H5 (Out.of (al2 := al4) (E3.trans R3 e4) R4 o2)
    · rename_i h3
      simp only [Option.some.injEq, Prod.mk.injEq] at h
      obtain ⟨rfl, rfl⟩ := h
      obtain ⟨r1, ho1, hq1⟩ := cmp_ok hrm h3
      refine ⟨r1, fun _ _ _ _ => False, ho1, fun _ _ _ _ _ _ _ _ _ _ _ _ z => z.elim, TX.go hr R h1 fun v H1 al1 e1 R1 hv => TX.go (hr.mono e1) R1 h2 fun w H2 al2 e2 R2 hw => hq1 v w _ _ H2 al2 _ R2 (hv.mono e2) hw fun z' H3 oo => ?_⟩
      obtain ⟨e, al3, e3, R3⟩ := oo.bl_of
      refine ⟨false, e, ?_⟩
      rw [if_neg (by decide)]
      exact q _ _ (Out.of (al2 := al3) ((e1.trans R1 e2).trans R2 e3) R3 (Out.here R3 (.bl _)))
    · cases h
  · cases h
theorem px_chn (hrm : Room k X.A) {op op' : CmpOp} (ha : PE X a (TX X.K cl xa)) (hb : PE X b (TX X.K cl xb)) (hc : PE X c (TX X.K cl xc)) (g1 : op' ≠ .In) (g2 : op' ≠ .NotIn) : PE X (.Compare a [op, op'] [b, c] pos) (TX X.K cl (.chn op op' xa xb xc)) :=
  PE.pick fun σ H Q ⟨r, S, al, d, S', hr, R, h, q⟩ => by
    obtain ⟨r1, r2, h1, h2, h3⟩ := chn_core hrm hr R h q
    exact ⟨_, pe_chain h1 h2 ha hb hc (nomarks g1 g2), h3⟩
theorem pt_chnX (hrm : Room k X.A) {op op' : CmpOp} (ha : PE X a (TX X.K cl xa)) (hb : PE X b (TX X.K cl xb)) (hc : PE X c (TX X.K cl xc)) (g1 : op' ≠ .In) (g2 : op' ≠ .NotIn) : PT X (.Compare a [op, op'] [b, c] pos) (TB X.K cl (.chn op op' xa xb xc)) :=
  PT.pick fun σ H Q ⟨r, S, al, bo, S', hr, R, h, q⟩ => by
    obtain ⟨r1, r2, h1, h2, h3⟩ := chn_core (Q := fun z H' => ∃ b, z = .bl b ∧ Q b H') hrm hr R h fun v H' oo => by
      obtain ⟨e, al3, e3, R3⟩ := oo.bl_of
      exact ⟨bo, e, q H' al3 e3 R3⟩
    exact ⟨_, pt_chain h1 h2 ha hb hc (nomarks g1 g2), h3⟩
theorem px_and (ha : PE X a (TX X.K cl xa)) (hb : PE X (.BoolOp .And (b :: rest) pos) (TX X.K cl xb)) : PE X (.BoolOp .And (a :: b :: rest) pos) (TX X.K cl (.and xa xb)) :=
  PE.pick fun σ H Q ⟨r, S, al, d, S', hr, R, h, q⟩ => by
    simp only [evE] at h
    obtain ⟨x, S1, h1, h⟩ := bnd_eq h
    refine ⟨_, pe_and ha hb, TX.go hr R h1 fun v H1 al1 e1 R1 hv => ?_⟩
    split at h
    · refine ⟨true, hv.bl_of, ?_⟩
      rw [if_pos rfl]
      exact TX.go (hr.mono e1) R1 h fun w H2 al2 e2 R2 hw => q w H2 (Out.of (al2 := al1) e1 R1 ⟨al2, e2, R2, hw⟩)
    · simp only [Option.some.injEq, Prod.mk.injEq] at h
      obtain ⟨rfl, rfl⟩ := h
      refine ⟨false, hv.bl_of, ?_⟩
      rw [if_neg (by decide)]
      exact q _ _ (Out.of (al2 := al1) e1 R1 (Out.here R1 (.bl _)))
    · cases h
theorem px_or (ha : PE X a (TX X.K cl xa)) (hb : PE X (.BoolOp .Or (b :: rest) pos) (TX X.K cl xb)) : PE X (.BoolOp .Or (a :: b :: rest) pos) (TX X.K cl (.or xa xb)) :=
  PE.pick fun σ H Q ⟨r, S, al, d, S', hr, R, h, q⟩ => by
    simp only [evE] at h
    obtain ⟨x, S1, h1, h⟩ := bnd_eq h
    refine ⟨_, pe_or ha hb, TX.go hr R h1 fun v H1 al1 e1 R1 hv => ?_⟩
    split at h
    · simp only [Option.some.injEq, Prod.mk.injEq] at h
      obtain ⟨rfl, rfl⟩ := h
      refine ⟨true, hv.bl_of, ?_⟩
      rw [if_pos rfl]
      exact q _ _ (Out.of (al2 := al1) e1 R1 (Out.here R1 (.bl _)))
    · refine ⟨false, hv.bl_of, ?_⟩
      rw [if_neg (by decide)]
      exact TX.go (hr.mono e1) R1 h fun w H2 al2 e2 R2 hw => q w H2 (Out.of (al2 := al1) e1 R1 ⟨al2, e2, R2, hw⟩)
    · cases h
theorem px_not (ha : PE X a (TX X.K cl xa)) : PE X (.UnaryOp .Not a pos) (TX X.K cl (.not xa)) :=
  PE.pick fun σ H Q ⟨r, S, al, d, S', hr, R, h, q⟩ => by
    simp only [evE] at h
    obtain ⟨x, S1, h1, h⟩ := bnd_eq h
    split at h
    · rename_i bo
      simp only [Option.some.injEq, Prod.mk.injEq] at h
      obtain ⟨rfl, rfl⟩ := h
      exact ⟨_, pe_not ha, TX.go hr R h1 fun v H1 al1 e1 R1 hv => ⟨bo, hv.bl_of, q _ _ (Out.of (al2 := al1) e1 R1 (Out.here R1 (.bl _)))⟩⟩
    · cases h
theorem TB.go {K : PySem.W.Frag} {e : Ex} {H : Hp} {al : Al} {r : Sl} {σ : L2.St} {S S' : Store} {bo : Bool} {Q : Bool → Hp → Prop} (hr : RelE K H al r σ) (R : SRel K H al S) (h : evE cl e r S = some (.bl bo, S')) (q : ∀ H' al', Ext al H al' H' → SRel K H' al' S' → Q bo H') : TB K cl e σ H Q :=
  ⟨r, S, al, bo, S', hr, R, h, q⟩
theorem pw_andX (ha : PT X a (TB X.K cl xa)) (hb : PW X (.BoolOp .And (b :: rest) pos) (TB X.K cl xb)) : PW X (.BoolOp .And (a :: b :: rest) pos) (TB X.K cl (.and xa xb)) :=
  PW.pick fun σ H Q ⟨r, S, al, d, S', hr, R, h, q⟩ => by
    simp only [evE] at h
    obtain ⟨x, S1, h1, h⟩ := bnd_eq h
    refine ⟨_, pw_and ha hb, ?_⟩
    split at h
    · refine TB.go hr R h1 fun H1 al1 e1 R1 => ?_
      rw [if_pos rfl]
      exact TB.go (hr.mono e1) R1 h fun H2 al2 e2 R2 => q H2 al2 (e1.trans R1 e2) R2
    · simp only [Option.some.injEq, Prod.mk.injEq, D.bl.injEq] at h
      obtain ⟨rfl, rfl⟩ := h
      refine TB.go hr R h1 fun H1 al1 e1 R1 => ?_
      rw [if_neg (by decide)]
      exact q H1 al1 e1 R1
    · cases h
theorem pw_orX (ha : PT X a (TB X.K cl xa)) (hb : PW X (.BoolOp .Or (b :: rest) pos) (TB X.K cl xb)) : PW X (.BoolOp .Or (a :: b :: rest) pos) (TB X.K cl (.or xa xb)) :=
  PW.pick fun σ H Q ⟨r, S, al, d, S', hr, R, h, q⟩ => by
    simp only [evE] at h
    obtain ⟨x, S1, h1, h⟩ := bnd_eq h
    refine ⟨_, pw_or ha hb, ?_⟩
    split at h
    · simp only [Option.some.injEq, Prod.mk.injEq, D.bl.injEq] at h
      obtain ⟨rfl, rfl⟩ := h
      refine TB.go hr R h1 fun H1 al1 e1 R1 => ?_
      rw [if_pos rfl]
      exact q H1 al1 e1 R1
    · refine TB.go hr R h1 fun H1 al1 e1 R1 => ?_
      rw [if_neg (by decide)]
      exact TB.go (hr.mono e1) R1 h fun H2 al2 e2 R2 => q H2 al2 (e1.trans R1 e2) R2
    · cases h
theorem pt_notX (ha : PT X a (TB X.K cl xa)) : PT X (.UnaryOp .Not a pos) (TB X.K cl (.not xa)) :=
  PT.pick fun σ H Q ⟨r, S, al, d, S', hr, R, h, q⟩ => by
    simp only [evE] at h
    obtain ⟨x, S1, h1, h⟩ := bnd_eq h
    split at h
    · rename_i bo
      simp only [Option.some.injEq, Prod.mk.injEq, D.bl.injEq] at h
      obtain ⟨rfl, rfl⟩ := h
      exact ⟨_, pt_not ha, TB.go hr R h1 fun H1 al1 e1 R1 => q H1 al1 e1 R1⟩
    · cases h
/-- a value that is a truth, as a test -/
theorem pt_valX (ha : PE X e (TX X.K cl xa)) (he : ∀ whole, isTrue e X.env whole = (do let v ← whole; standAt e.pos; holding [v] (truthy v))) : PT X e (TB X.K cl xa) :=
  PT.pick fun σ H Q ⟨r, S, al, d, S', hr, R, h, q⟩ => ⟨_, pt_val ha he, TX.go hr R h fun v H1 al1 e1 R1 hv => ⟨d, hv.bl_of, q H1 al1 e1 R1⟩⟩
theorem px_ite (hc : PT X c (TB X.K cl xc)) (ha : PE X a (TX X.K cl xa)) (hb : PE X b (TX X.K cl xb)) : PE X (.IfExp c a b pos) (TX X.K cl (.ite xc xa xb)) :=
  PE.pick fun σ H Q ⟨r, S, al, d, S', hr, R, h, q⟩ => by
    simp only [evE] at h
    obtain ⟨x, S1, h1, h⟩ := bnd_eq h
    refine ⟨_, pe_ifExp hc ha hb, ?_⟩
    split at h
    · refine TB.go hr R h1 fun H1 al1 e1 R1 => ?_
      rw [if_pos rfl]
      exact TX.go (hr.mono e1) R1 h fun w H2 al2 e2 R2 hw => q w H2 (Out.of (al2 := al1) e1 R1 ⟨al2, e2, R2, hw⟩)
    · refine TB.go hr R h1 fun H1 al1 e1 R1 => ?_
      rw [if_neg (by decide)]
      exact TX.go (hr.mono e1) R1 h fun w H2 al2 e2 R2 hw => q w H2 (Out.of (al2 := al1) e1 R1 ⟨al2, e2, R2, hw⟩)
    · cases h
theorem pt_iteX (hc : PT X c (TB X.K cl xc)) (ha : PT X a (TB X.K cl xa)) (hb : PT X b (TB X.K cl xb)) : PT X (.IfExp c a b pos) (TB X.K cl (.ite xc xa xb)) :=
  ⟨fun pins s σ H Q I ⟨r, S, al, d, S', hr, R, h, q⟩ => by
    simp only [evE] at h
    obtain ⟨x, S1, h1, h⟩ := bnd_eq h
    show wpAny (model X.prog X.w) X.A (do if ← isTrue c X.env (eval c X.env) then isTrue a X.env (eval a X.env) else isTrue b X.env (eval b X.env)) _ _ s
    refine wpAny_bind ?_
    split at h
    · refine thn (hc.run pins s σ H (fun z H1 => ∃ al1, Ext al H al1 H1 ∧ SRel X.K H1 al1 S1 ∧ z = true) I (TB.go hr R h1 fun H1 al1 e1 R1 => ⟨al1, e1, R1, rfl⟩)) fun z s1 ⟨H1, I1, al1, e1, R1, e⟩ => ?_
      subst e
      exact ha.run pins s1 σ H1 _ I1 (TB.go (hr.mono e1) R1 h fun H2 al2 e2 R2 => q H2 al2 (e1.trans R1 e2) R2)
    · refine thn (hc.run pins s σ H (fun z H1 => ∃ al1, Ext al H al1 H1 ∧ SRel X.K H1 al1 S1 ∧ z = false) I (TB.go hr R h1 fun H1 al1 e1 R1 => ⟨al1, e1, R1, rfl⟩)) fun z s1 ⟨H1, I1, al1, e1, R1, e⟩ => ?_
      subst e
      exact hb.run pins s1 σ H1 _ I1 (TB.go (hr.mono e1) R1 h fun H2 al2 e2 R2 => q H2 al2 (e1.trans R1 e2) R2)
    · cases h⟩
end
end Rf

/-! Rf: arguments, displays, calls, subscripts. -/
namespace Rf
open PySem L2
/-- no star, anywhere: each argument by itself -/
def Plain (es : List Expr) : Prop := ∀ e ∈ es, ∀ x p, e ≠ .Starred x p
theorem star_cons {e : Expr} {es : List Expr} (h : ∀ x p, e ≠ .Starred x p) (env : Env) : starEach (e :: es) env = (false, eval e env) :: starEach es env := by
  cases e <;> first | rfl | exact absurd rfl (h _ _)
theorem star_all : ∀ {es : List Expr}, Plain es → ∀ env : Env, starEach es env = es.map fun e => (false, eval e env)
  | [], _, _ => rfl
  | e :: es, h, env => by rw [star_cons (h e List.mem_cons_self), star_all (fun x hx => h x (List.mem_cons_of_mem _ hx))]; rfl
theorem star_any {es : List Expr} (h : Plain es) (env : Env) (pos : Pos) : (backTo pos (starEach es env)).any (·.1) = false := by
  rw [star_all h]; simp [backTo]
theorem Plain.tail {e : Expr} {es : List Expr} (h : Plain (e :: es)) : Plain es := fun x hx => h x (List.mem_cons_of_mem _ hx)
theorem Plain.head {e : Expr} {es : List Expr} (h : Plain (e :: es)) : ∀ x p, e ≠ .Starred x p := h e List.mem_cons_self
section
variable {X : Cx} {cl : Cl} {k : Nat} {a b c e o i : Expr} {es rest : List Expr} {xa xb xc : Ex} {xs : Exs} {pos p p2 apos cpos : Pos}

theorem pa_nilR : PA X [] (TR X.K cl .nil) := PA.pick fun σ H Q ⟨r, S, al, ds, S', hr, R, h, q⟩ => by
  simp only [evR, Option.some.injEq, Prod.mk.injEq] at h
  obtain ⟨rfl, rfl⟩ := h
  exact ⟨_, pa_nil, q [] H al Ext.refl R .nil⟩
theorem pa_nilM : PA X [] (TM X.K cl .nil) := PA.pick fun σ H Q ⟨r, S, al, ds, S', hr, R, h, q⟩ => by
  simp only [evM, Option.some.injEq, Prod.mk.injEq] at h
  obtain ⟨rfl, rfl⟩ := h
  exact ⟨_, pa_nil, q [] H al Ext.refl R .nil⟩
theorem pa_consR (ha : PE X e (TX X.K cl xa)) (hs : PA X es (TR X.K cl xs)) (hp : ∀ x p, e ≠ .Starred x p) : PA X (e :: es) (TR X.K cl (.cons xa xs)) := PA.pick fun σ H Q ⟨r, S, al, ds, S', hr, R, h, q⟩ => by
  simp only [evR] at h
  obtain ⟨x, S1, h1, h⟩ := bnd_eq h
  obtain ⟨ys, S2, h2, h⟩ := bnd_eq h
  simp only [Option.some.injEq, Prod.mk.injEq] at h
  obtain ⟨rfl, rfl⟩ := h
  exact ⟨_, pa_cons ha hs (star_cons hp _), TX.go hr R h1 fun v H1 al1 e1 R1 hv => ⟨r, S1, al1, ys, S2, hr.mono e1, R1, h2, fun vs H2 al2 e2 R2 hvs => q (v :: vs) H2 al2 (e1.trans R1 e2) R2 (.cons (hv.mono e2) (hvs.start e1 R1))⟩⟩
theorem pa_consM (ha : PE X e (TX X.K cl xa)) (hs : PA X es (TM X.K cl xs)) (hp : ∀ x p, e ≠ .Starred x p) : PA X (e :: es) (TM X.K cl (.cons xa xs)) := PA.pick fun σ H Q ⟨r, S, al, ds, S', hr, R, h, q⟩ => by
  simp only [evM] at h
  obtain ⟨x, S1, h1, h⟩ := bnd_eq h
  obtain ⟨ys, S2, h2, h⟩ := bnd_eq h
  simp only [Option.some.injEq, Prod.mk.injEq] at h
  obtain ⟨rfl, rfl⟩ := h
  refine ⟨_, pa_cons ha hs (star_cons hp _), TX.go hr R h1 fun v H1 al1 e1 R1 hv => ?_⟩
  obtain ⟨al1', e1', R1', hv'⟩ := mat_ok e1 R1 hv
  exact ⟨r, _, al1', ys, S2, hr.mono e1', R1', h2, fun vs H2 al2 e2 R2 hvs => q (v :: vs) H2 al2 (e1'.trans R1' e2) R2 (.cons (hv'.mono e2) hvs)⟩
/-- how many -/
def Exs.len : Exs → Nat
  | .nil => 0
  | .cons _ r => r.len + 1
theorem evM_len : ∀ {xs : Exs} {r : Sl} {S S' : Store} {ds : List D}, evM cl xs r S = some (ds, S') → ds.length = xs.len
  | .nil, _, _, _, _, h => by simp only [evM, Option.some.injEq, Prod.mk.injEq] at h; obtain ⟨rfl, rfl⟩ := h; rfl
  | .cons e xs, _, _, _, _, h => by
    simp only [evM] at h
    obtain ⟨x, S1, h1, h⟩ := bnd_eq h
    obtain ⟨ys, S2, h2, h⟩ := bnd_eq h
    simp only [Option.some.injEq, Prod.mk.injEq] at h
    obtain ⟨rfl, rfl⟩ := h
    simp [Exs.len, evM_len h2]
theorem evM_noL : ∀ {xs : Exs} {r : Sl} {S S' : Store} {ds : List D}, evM cl xs r S = some (ds, S') → ∀ d ∈ ds, noL d = true
  | .nil, _, _, _, _, h, d, hd => by simp only [evM, Option.some.injEq, Prod.mk.injEq] at h; obtain ⟨rfl, rfl⟩ := h; simp at hd
  | .cons e xs, _, _, _, _, h, d, hd => by
    simp only [evM] at h
    obtain ⟨x, S1, h1, h⟩ := bnd_eq h
    obtain ⟨ys, S2, h2, h⟩ := bnd_eq h
    simp only [Option.some.injEq, Prod.mk.injEq] at h
    obtain ⟨rfl, rfl⟩ := h
    rcases List.mem_cons.mp hd with rfl | hd
    · cases x <;> rfl
    · exact evM_noL h2 d hd
theorem px_tup {kk : Nat} (hs : PA X es (TM X.K cl xs)) (hz : xs.len ≤ sizeLine) : PE X (.Tuple es kk pos) (TX X.K cl (.tup xs)) := PE.pick fun σ H Q ⟨r, S, al, d, S', hr, R, h, q⟩ => by
  simp only [evE] at h
  obtain ⟨ds, S1, h1, h⟩ := bnd_eq h
  simp only [Option.some.injEq, Prod.mk.injEq] at h
  obtain ⟨rfl, rfl⟩ := h
  exact ⟨_, pe_tupN hs, r, S, al, ds, S1, hr, R, h1, fun vs H1 al1 e1 R1 hv => ⟨by rw [hv.length, evM_len h1]; exact hz, fun t ob ht hd => q _ _ (Out.of (al2 := al1) e1 R1 (Out.newTup R1 ht hd hv))⟩⟩
theorem px_lis (hs : PA X es (TM X.K cl xs)) (hz : xs.len ≤ sizeLine) : PE X (.List es pos) (TX X.K cl (.lis xs)) := PE.pick fun σ H Q ⟨r, S, al, d, S', hr, R, h, q⟩ => by
  simp only [evE] at h
  obtain ⟨ds, S1, h1, h⟩ := bnd_eq h
  simp only [Option.some.injEq, Prod.mk.injEq] at h
  obtain ⟨rfl, rfl⟩ := h
  exact ⟨_, pe_lst hs, r, S, al, ds, S1, hr, R, h1, fun vs H1 al1 e1 R1 hv => ⟨by rw [hv.length, evM_len h1]; exact hz, fun t ht => q _ _ (Out.of (al2 := al1) e1 R1 (Out.newLst R1 ht hv))⟩⟩
theorem px_call {G : Cfg} {sc : Scope} {x : Str} {j n : Nat} (gd : Gd G cl k sc X) (hf : G.fns[j]? = some (x, n)) (hg : isGl sc x = true) (hx : plainName x = true) (hs : PA X es (TM X.K cl xs)) (hp : Plain es) (hn : es = [] → xs = .nil) :
    PE X (.Call (.Name x p) es [] pos) (TX X.K cl (.call j xs)) := PE.pick fun σ H Q ⟨r, S, al, d, S', hr, R, h, q⟩ => by
  simp only [evE] at h
  obtain ⟨ds, S1, h1, h⟩ := bnd_eq h
  obtain ⟨f, fd, ps, m, kp, hb, hl, F⟩ := gd.fns j _ hf
  have hgl : Gl X x := by
    unfold isGl at hg
    show X.env.scope.names.lookup x = _
    rw [gd.sc]
    split at hg
    · assumption
    · cases hg
  have hdb : (x == ("__debug__" : Str)) = false := by
    unfold plainName at hx
    simp only [Bool.and_eq_true, Bool.not_eq_true'] at hx
    exact hx.1.1
  cases es with
  | nil =>
    have := hn rfl
    subst this
    simp only [evM, Option.some.injEq, Prod.mk.injEq] at h1
    obtain ⟨rfl, rfl⟩ := h1
    exact ⟨_, pe_callG0 F gd.room gd.gu hgl m kp hb hdb, [], S, al, d, S', .nil, R, h, q⟩
  | cons e es =>
    exact ⟨_, pe_callG F gd.room gd.gu hgl m kp hb hs hdb (star_cons hp.head _) (star_all hp.tail _), r, S, al, ds, S1, hr, R, h1, fun vs H1 al1 e1 R1 hv =>
      ⟨ds, S1, al1, d, S', hv, R1, h, fun v H2 oo => q v H2 (Out.of (al2 := al1) e1 R1 oo)⟩⟩

/-! ### built-ins by their names -/
theorem gl_of {G : Cfg} {sc : Scope} {x : Str} (gd : Gd G cl k sc X) (hg : isGl sc x = true) : Gl X x := by
  unfold isGl at hg
  show X.env.scope.names.lookup x = _
  rw [gd.sc]
  split at hg
  · assumption
  · cases hg
theorem nm_of {x : Str} (hx : plainName x = true) : (x == ("__debug__" : Str)) = false ∧ (x == ("__classdict__" : Str)) = false ∧ x ≠ "__name__" := by
  unfold plainName at hx
  simp only [Bool.and_eq_true, Bool.not_eq_true'] at hx
  exact ⟨hx.1.1, hx.1.2, beq_eq_false_iff_ne.mp hx.2⟩
def biN : Bi → Str
  | .len => "len"
  | .tuple => "tuple"
  | .list => "list"
  | .sorted => "sorted"
  | .all => "all"
  | .any => "any"
  | .sum => "sum"
  | .max => "max"
  | .min => "min"
  | .int => "int"
  | .str => "str"
  | .repr => "repr"
  | .dict => "dict"
theorem ite_some {α : Type} {c : Bool} {a f : α} {r : Option α} (h : (if c = true then some a else r) = some f) : (c = true ∧ a = f) ∨ r = some f := by
  cases c with
  | true => exact .inl ⟨rfl, Option.some.inj h⟩
  | false => exact .inr h
theorem biOf_eq {x : Str} {f : Bi} (h : biOf x = some f) : x = biN f := by
  unfold biOf at h
  iterate 13
    rcases ite_some h with ⟨h1, h2⟩ | h
    · subst h2; exact eq_of_beq h1
  cases h
theorem bi_name {x : Str} {f : Bi} (h : biOf x = some f) : bootBuiltins x = some (biV f) := by
  rw [biOf_eq h]
  cases f <;> decide +kernel
theorem biV_cases (f : Bi) : (∃ id, biV f = .builtin id) ∨ ∃ T, biV f = .type T := by cases f <;> first | exact .inl ⟨_, rfl⟩ | exact .inr ⟨_, rfl⟩
theorem px_bif {G : Cfg} {sc : Scope} {x : Str} {f : Bi} (gd : Gd G cl k sc X) (hf : biOf x = some f) (hg : isGl sc x = true) (hx : plainName x = true) (hb : G.bl.contains x = true) (hs : PA X (e :: es) (TR X.K cl xs)) (hp : Plain (e :: es)) :
    PE X (.Call (.Name x p) (e :: es) [] pos) (TX X.K cl (.bif f xs)) := PE.pick fun σ H Q ⟨r, S, al, d, S', hr, R, h, q⟩ => by
  simp only [evE] at h
  obtain ⟨ds, S1, h1, h⟩ := bnd_eq h
  obtain ⟨rr, hc, hq⟩ := bi_ok gd.room gd.gu gd.calm h
  obtain ⟨n1, n2, n3⟩ := nm_of hx
  have hm : X.mg x = none := gd.bl x (by simpa using hb)
  have go : (tCB rr (TR X.K cl xs)) σ H Q := ⟨r, S, al, ds, S1, hr, R, h1, fun vs H1 al1 e1 R1 hv => hq vs H H1 al1 Q R1 hv fun v H2 oo => q v H2 (Out.of (al2 := al1) e1 R1 oo)⟩
  have bn := bi_name hf
  rcases biV_cases f with ⟨id, ev⟩ | ⟨T, ev⟩
  · rw [ev] at hc bn
    exact ⟨_, pe_callB hc (gl_of gd hg) hm bn hs n3 n1 (star_cons hp.head _) (star_any hp.tail _ _), go⟩
  · rw [ev] at hc bn
    exact ⟨_, pe_callTy hc (gl_of gd hg) hm bn hs n3 n1 (star_cons hp.head _) (star_any hp.tail _ _), go⟩
/-! ### tuple(range(..)) -/
theorem DNL.ints {K : PySem.W.Frag} {H : Hp} {al : Al} (f : Nat → Int) : ∀ l : List Nat, DNL K H al (l.map fun i => V.int (f i)) (l.map fun i => D.int (f i))
  | [] => .nil
  | i :: l => .cons (.int _) (DNL.ints f l)
theorem rg_items {a b : Int} {zs : List D} {ws : List (Nat × List D)} {S : Store} (h : itemsS .rng [.int a, .int b] S = some (zs, ws)) : RgOk a b ∧ ∀ {K : PySem.W.Frag} {H : Hp} {al : Al}, DNL K H al (rgV a b) zs := by
  unfold itemsS at h
  simp only at h
  split at h
  · rename_i hz
    simp only [Option.some.injEq, Prod.mk.injEq] at h
    obtain ⟨rfl, rfl⟩ := h
    exact ⟨⟨hz.1, hz.2.1, hz.2.2.1, hz.2.2.2.1, by omega⟩, fun {K H al} => DNL.ints _ _⟩
  · cases h
theorem rg_items1 {b : Int} {zs : List D} {ws : List (Nat × List D)} {S : Store} (h : itemsS .rng [.int b] S = some (zs, ws)) : RgOk 0 b ∧ ∀ {K : PySem.W.Frag} {H : Hp} {al : Al}, DNL K H al (rgV 0 b) zs := by
  unfold itemsS at h
  simp only at h
  split at h
  · rename_i hz
    simp only [Option.some.injEq, Prod.mk.injEq] at h
    obtain ⟨rfl, rfl⟩ := h
    refine ⟨⟨by omega, by omega, hz.1, by omega, by omega⟩, fun {K H al} => ?_⟩
    unfold rgV
    simp only [Int.sub_zero, Int.zero_add]
    exact DNL.ints (fun i => (i : Int)) _
  · cases h
theorem px_rng1 {G : Cfg} {sc : Scope} {t : Bool} (gd : Gd G cl k sc X) (hg : isGl sc "range" = true) (hb : G.bl.contains "range" = true) (hg2 : isGl sc (if t then "tuple" else "list") = true) (hb2 : G.bl.contains (if t then ("tuple" : Str) else "list") = true)
    (ha : PE X a (TX X.K cl xa)) (hp : ∀ x p, a ≠ .Starred x p) : PE X (.Call (.Name (if t then "tuple" else "list") p) [.Call (.Name "range" p2) [a] [] cpos] [] pos) (TX X.K cl (.rngl t (.cons xa .nil))) := PE.pick fun σ H Q ⟨r, S, al, d, S', hr, R, h, q⟩ => by
  simp only [evE, evR] at h
  obtain ⟨ds, S1, h1, h⟩ := bnd_eq h
  obtain ⟨x, S2, h2, h1⟩ := bnd_eq h1
  simp only [bnd, Option.some.injEq, Prod.mk.injEq] at h1
  obtain ⟨rfl, rfl⟩ := h1
  split at h
  · rename_i zs ws hi
    simp only [Option.some.injEq, Prod.mk.injEq] at h
    obtain ⟨rfl, rfl⟩ := h
    have hx : ∃ n, x = .int n := by
      unfold itemsS at hi
      cases x <;> first | exact ⟨_, rfl⟩ | (simp at hi)
    obtain ⟨n, rfl⟩ := hx
    obtain ⟨ok, l⟩ := rg_items1 hi
    have mr : X.mg "range" = none := gd.bl _ (by simpa using hb)
    have R1 : PRg X (.Call (.Name "range" p2) [a] [] cpos) (tRg1 (TX X.K cl xa)) := prg_1 (gl_of gd hg) mr ha (star_cons hp _)
    cases t with
    | true =>
      have ml : X.mg "tuple" = none := gd.bl _ (by simpa using hb2)
      exact ⟨_, pe_tupRgN gd.calm (gl_of gd hg2) ml R1 rfl, TX.go hr R h2 fun v H1 al1 e1 R1 hv => ⟨n, hv.int_of, ok, fun t ob ht hd => q _ _ (Out.of (al2 := al1) e1 R1 (Out.newTup R1 ht hd l))⟩⟩
    | false =>
      have ml : X.mg "list" = none := gd.bl _ (by simpa using hb2)
      exact ⟨_, pe_listRg gd.calm (gl_of gd hg2) ml R1 rfl, TX.go hr R h2 fun v H1 al1 e1 R1 hv => ⟨n, hv.int_of, ok, fun t ht => q _ _ (Out.of (al2 := al1) e1 R1 (Out.newLst R1 ht l))⟩⟩
  · cases h
theorem px_rng2 {G : Cfg} {sc : Scope} {t : Bool} (gd : Gd G cl k sc X) (hg : isGl sc "range" = true) (hb : G.bl.contains "range" = true) (hg2 : isGl sc (if t then "tuple" else "list") = true) (hb2 : G.bl.contains (if t then ("tuple" : Str) else "list") = true)
    (ha : PE X a (TX X.K cl xa)) (hc : PE X b (TX X.K cl xb)) (hp : ∀ x p, a ≠ .Starred x p) (hp' : ∀ x p, b ≠ .Starred x p) : PE X (.Call (.Name (if t then "tuple" else "list") p) [.Call (.Name "range" p2) [a, b] [] cpos] [] pos) (TX X.K cl (.rngl t (.cons xa (.cons xb .nil)))) := PE.pick fun σ H Q ⟨r, S, al, d, S', hr, R, h, q⟩ => by
  simp only [evE, evR] at h
  obtain ⟨ds, S1, h1, h⟩ := bnd_eq h
  obtain ⟨x, S2, h2, h1⟩ := bnd_eq h1
  obtain ⟨ys, S3, h3, h1⟩ := bnd_eq h1
  obtain ⟨y, S4, h4, h3⟩ := bnd_eq h3
  simp only [bnd, Option.some.injEq, Prod.mk.injEq] at h1 h3
  obtain ⟨rfl, rfl⟩ := h1
  obtain ⟨rfl, rfl⟩ := h3
  split at h
  · rename_i zs ws hi
    simp only [Option.some.injEq, Prod.mk.injEq] at h
    obtain ⟨rfl, rfl⟩ := h
    have hx : ∃ n m, x = .int n ∧ y = .int m := by
      unfold itemsS at hi
      cases x <;> cases y <;> first | exact ⟨_, _, rfl, rfl⟩ | (simp at hi)
    obtain ⟨n, m, rfl, rfl⟩ := hx
    obtain ⟨ok, l⟩ := rg_items hi
    have mr : X.mg "range" = none := gd.bl _ (by simpa using hb)
    have R1 : PRg X (.Call (.Name "range" p2) [a, b] [] cpos) (tRg2 (TX X.K cl xa) (TX X.K cl xb)) := prg_2 (gl_of gd hg) mr ha hc (star_cons hp _) (star_cons hp' _) (by rw [star_cons hp']; rfl)
    cases t with
    | true =>
      have ml : X.mg "tuple" = none := gd.bl _ (by simpa using hb2)
      exact ⟨_, pe_tupRgN gd.calm (gl_of gd hg2) ml R1 rfl, TX.go hr R h2 fun v H1 al1 e1 R1 hv => TX.go (hr.mono e1) R1 h4 fun w H2 al2 e2 R2 hw => ⟨n, m, hv.int_of, hw.int_of, ok, fun t ob ht hd => q _ _ (Out.of (al2 := al2) (e1.trans R1 e2) R2 (Out.newTup R2 ht hd l))⟩⟩
    | false =>
      have ml : X.mg "list" = none := gd.bl _ (by simpa using hb2)
      exact ⟨_, pe_listRg gd.calm (gl_of gd hg2) ml R1 rfl, TX.go hr R h2 fun v H1 al1 e1 R1 hv => TX.go (hr.mono e1) R1 h4 fun w H2 al2 e2 R2 hw => ⟨n, m, hv.int_of, hw.int_of, ok, fun t ht => q _ _ (Out.of (al2 := al2) (e1.trans R1 e2) R2 (Out.newLst R2 ht l))⟩⟩
  · cases h
end
end Rf

/-! Rf: methods, isinstance, subscripts, slices, dicts. -/
namespace Rf
open PySem L2
section
variable {X : Cx} {cl : Cl} {k : Nat} {a b c e o i : Expr} {es rest : List Expr} {xa xb xc : Ex} {xs : Exs} {pos p p2 apos cpos : Pos}
theorem base_of (h : isCall0 o = false) (m : Str) (env : Env) : attributeBase o m env (eval o env) = eval o env := by
  unfold attributeBase
  split
  · cases h
  · rfl
def mtN : Mt → Str
  | .append => "append"
  | .extend => "extend"
  | .pop => "pop"
  | .insert => "insert"
  | .reverse => "reverse"
  | .clear => "clear"
  | .index => "index"
  | .count => "count"
  | .get => "get"
theorem mtOf_eq {x : Str} {f : Mt} (h : mtOf x = some f) : x = mtN f ∧ f ≠ .get := by
  unfold mtOf at h
  iterate 8
    rcases ite_some h with ⟨h1, h2⟩ | h
    · subst h2; exact ⟨eq_of_beq h1, by decide⟩
  cases h
theorem few_of {es : List Expr} (hp : Plain es) (env : Env) (hz : es.length < 30) : ((backTo cpos (starEach es env)).all (fun x => !x.1) && (backToKw cpos (keywordEach [] env)).all (fun x => x.1.isSome) && decide (es.length + ([] : List Keyword).length + (if ([] : List Keyword).isEmpty then 0 else 1) < 30)) = true := by
  rw [star_all hp]
  simp [backTo, backToKw, keywordEach, hz]
theorem px_mth {m : Str} {f : Mt} (hrm : Room k X.A) (hf : mtOf m = some f) (h0 : isCall0 o = false) (hl : (apos.endLine == cpos.line) = true) (hz : es.length < 30) (ho : PE X o (TX X.K cl xa)) (hR : PA X es (TR X.K cl xs)) (hM : PA X es (TM X.K cl xs)) (hp : Plain es) (hn : es = [] → xs = .nil) :
    PE X (.Call (.Attribute o m apos) es [] cpos) (TX X.K cl (.mth f xa xs)) := PE.pick fun σ H Q ⟨r, S, al, d, S', hr, R, h, q⟩ => by
  obtain ⟨rfl, g2⟩ := mtOf_eq hf
  simp only [evE] at h
  obtain ⟨x, S1, h1, h⟩ := bnd_eq h
  split at h
  · rename_i hsm
    obtain ⟨l0, hl0'⟩ := Option.isSome_iff_exists.mp hsm
    obtain ⟨ds, S2, h2, h⟩ := bnd_eq h
    have hno : f ≠ .extend → ∀ d ∈ ds, noL d = true := fun hne => by
      rw [if_neg hne] at h2
      exact evM_noL h2
    by_cases ht : ∃ zs, x = .tup zs
    · obtain ⟨zs, rfl⟩ := ht
      simp only [mtS] at h
      obtain ⟨hm, rr, hmt, hq⟩ := mt_okT (X := X) hrm hno h
      have hx : f ≠ .extend := by rcases hm with rfl | rfl <;> decide
      rw [if_neg hx] at h2
      have sl : Slot "tuple" (mtN f) (mtIT f) := by
        rcases hm with rfl | rfl
        · exact PySem.F.slot_tuple_count
        · exact PySem.F.slot_tuple_index
      have tm : typeOf (.builtin (mtIT f)) = pure (.type "method_descriptor") := by
        rcases hm with rfl | rfl
        · exact PySem.F.type_tuple_count
        · exact PySem.F.type_tuple_index
      cases es with
      | nil =>
        have := hn rfl
        subst this
        simp only [evM, Option.some.injEq, Prod.mk.injEq] at h2
        obtain ⟨rfl, rfl⟩ := h2
        rcases hm with rfl | rfl <;> simp [mtT] at h
      | cons e es =>
        exact ⟨_, pe_tm sl tm hmt ho hM (base_of h0 _ _) (few_of hp _ hz) hl (star_cons hp.head _) (star_any hp.tail _ _), TX.go hr R h1 fun v H1 al1 e1 R1 hv => ⟨by
            obtain ⟨p, vs, rfl, hs, l⟩ := hv.tup_of2
            exact ⟨p, vs, rfl, hs.1, hs.2.resolve_right (by simp [looseT])⟩, r, S1, al1, ds, S2, hr.mono e1, R1, h2, fun vs H2 al2 e2 R2 hvs =>
          hq v vs _ H1 H2 al2 Q R2 (hv.mono e2) hvs.dvl fun w H3 oo => q w H3 (Out.of (al2 := al2) (e1.trans R1 e2) R2 oo)⟩⟩
    have hnt : ∀ zs, x ≠ .tup zs := fun zs e => ht ⟨zs, e⟩
    have hl0 : lstOf S1 x = some l0 := by
      cases x with
      | tup zs => exact absurd rfl (hnt zs)
      | _ => simpa [seqOf, lstOf] using hl0'
    obtain ⟨rr, hmt, hq⟩ := mt_ok (X := X) hnt hrm hno h
    have ty : ∀ {H0 H1 : Hp} {al1 : Al} {v : V}, SRel X.K H1 al1 S1 → DV X.K H0 H1 al1 v x → tyV X.K "list" v H1 := fun R1 hv => by
      obtain ⟨p, vs, rfl, hs, _⟩ := lstOf_ok R1 hv hl0
      exact .inl ⟨rfl, vs, hs⟩
    have pa := PySem.F.plainAttrs_list
    have sl : Slot "list" (mtN f) (mtI f) := by
      cases f with
      | append => exact PySem.F.slot_list_append
      | extend => exact PySem.F.slot_list_extend
      | pop => exact PySem.F.slot_list_pop
      | insert => exact PySem.F.slot_list_insert
      | reverse => exact PySem.F.slot_list_reverse
      | clear => exact PySem.F.slot_list_clear
      | count => exact PySem.F.slot_list_count
      | index => exact PySem.F.slot_list_index
      | get => exact absurd rfl g2
    have tm : typeOf (.builtin (mtI f)) = pure (.type "method_descriptor") := by
      cases f with
      | append => exact PySem.F.type_list_append
      | extend => exact PySem.F.type_list_extend
      | pop => exact PySem.F.type_list_pop
      | insert => exact PySem.F.type_list_insert
      | reverse => exact PySem.F.type_list_reverse
      | clear => exact PySem.F.type_list_clear
      | count => exact PySem.F.type_list_count
      | index => exact PySem.F.type_list_index
      | get => exact absurd rfl g2
    cases es with
    | nil =>
      have := hn rfl
      subst this
      have e2 : ds = [] ∧ S2 = S1 := by
        by_cases hx : f = .extend
        · rw [if_pos hx] at h2
          simp only [evR, Option.some.injEq, Prod.mk.injEq] at h2
          exact ⟨h2.1.symm, h2.2.symm⟩
        · rw [if_neg hx] at h2
          simp only [evM, Option.some.injEq, Prod.mk.injEq] at h2
          exact ⟨h2.1.symm, h2.2.symm⟩
      obtain ⟨rfl, rfl⟩ := e2
      exact ⟨_, pe_bm0 pa sl tm hmt ho (base_of h0 _ _) hl, TX.go hr R h1 fun v H1 al1 e1 R1 hv => ⟨ty R1 hv, hq v [] _ H1 H1 al1 Q R1 hv .nil fun w H2 oo => q w H2 (Out.of (al2 := al1) e1 R1 oo)⟩⟩
    | cons e es =>
      by_cases hx : f = .extend
      · rw [if_pos hx] at h2
        exact ⟨_, pe_bm pa sl tm hmt ho hR (base_of h0 _ _) (few_of hp _ hz) hl (star_cons hp.head _) (star_any hp.tail _ _), TX.go hr R h1 fun v H1 al1 e1 R1 hv => ⟨ty R1 hv, r, S1, al1, ds, S2, hr.mono e1, R1, h2, fun vs H2 al2 e2 R2 hvs =>
          hq v vs _ H1 H2 al2 Q R2 (hv.mono e2) hvs fun w H3 oo => q w H3 (Out.of (al2 := al2) (e1.trans R1 e2) R2 oo)⟩⟩
      · rw [if_neg hx] at h2
        exact ⟨_, pe_bm pa sl tm hmt ho hM (base_of h0 _ _) (few_of hp _ hz) hl (star_cons hp.head _) (star_any hp.tail _ _), TX.go hr R h1 fun v H1 al1 e1 R1 hv => ⟨ty R1 hv, r, S1, al1, ds, S2, hr.mono e1, R1, h2, fun vs H2 al2 e2 R2 hvs =>
          hq v vs _ H1 H2 al2 Q R2 (hv.mono e2) hvs.dvl fun w H3 oo => q w H3 (Out.of (al2 := al2) (e1.trans R1 e2) R2 oo)⟩⟩
  · cases h

/-! ### isinstance -/
theorem ty_of {K : PySem.W.Frag} {H0 H : Hp} {al : Al} {S : Store} {v : V} {d : D} {t : String} (R : SRel K H al S) (h : DV K H0 H al v d) (e : tyS S d = some t) : TyX K H v (.type t) := by
  have lst : ∀ {a : Addr} {vs : List V}, SqL K H a vs → TyX K H (.ref a) (.type "list") := fun hs => by
    rcases hs with (hs | ⟨o, hs⟩) | ⟨o, its, n, hk, hc, _⟩
    · exact .base (.lst hs)
    · exact .base (.frz hs)
    · exact .kList hk hc
  rcases h with h | ⟨a, vs, ds, rfl, rfl, h, _⟩
  · cases h with
    | non => simp [tyS] at e; subst e; exact .base .non
    | bl b => simp [tyS] at e; subst e; exact .base (.bl b)
    | int b => simp [tyS] at e; subst e; exact .base (.int b)
    | str b => simp [tyS] at e; subst e; exact .base (.str b)
    | tup q l =>
      simp [tyS] at e; subst e
      rcases q with (hs | ⟨o, hs⟩) | ⟨o, its, n, hk, hc, _⟩
      · exact .base (.tup hs)
      · exact .fTuple hs
      · exact .kTuple hk hc
    | ref q =>
      obtain ⟨o, ho, c⟩ := R.cell q
      simp only [tyS, ho] at e
      cases o with
      | lst ds => simp at e; subst e; obtain ⟨_, vs, h, _⟩ := c; exact .base (.lst h)
      | ro ds => simp at e; subst e; obtain ⟨_, vs, h, _⟩ := c; exact lst h.sq
      | dic kvs => simp at e; subst e; obtain ⟨_, ws, h, _⟩ := c; exact .base (.dK h)
  · simp [tyS] at e; subst e; exact .base (.lst h)
theorem tyOf_eq {x : Str} {t : String} (h : tyOf x = some t) : x = Str.ofString t ∧ t ∈ ["int", "bool", "tuple", "list", "str", "dict"] := by
  unfold tyOf at h
  iterate 6
    rcases ite_some h with ⟨h1, h2⟩ | h
    · subst h2; exact ⟨eq_of_beq h1, by decide⟩
  cases h
theorem ty_boot : ∀ t ∈ ["int", "bool", "tuple", "list", "str", "dict"], bootBuiltins (Str.ofString t) = some (.type t) := by decide +kernel
theorem kit_all : ∀ t ∈ ["NoneType", "bool", "int", "str", "tuple", "list", "dict"], ∀ c ∈ ["int", "bool", "tuple", "list", "str", "dict"], kitB t c = some (isiS t c) := by decide +kernel
theorem tyS_mem {S : Store} {d : D} {t : String} (e : tyS S d = some t) : t ∈ ["NoneType", "bool", "int", "str", "tuple", "list", "dict"] := by
  unfold tyS at e
  split at e <;> first | (cases e; decide) | (split at e <;> first | (cases e; decide) | cases e)
theorem px_isi {G : Cfg} {sc : Scope} {x y : Str} {t : String} (gd : Gd G cl k sc X) (hx : x = "isinstance") (hg : isGl sc x = true) (hb : G.bl.contains x = true) (hy : tyOf y = some t) (hbl : isBl G sc y = true) (ha : PE X a (TX X.K cl xa)) (hp : ∀ x p, a ≠ .Starred x p) :
    PE X (.Call (.Name x p) [a, .Name y p2] [] pos) (TX X.K cl (.isi xa t)) := PE.pick fun σ H Q ⟨r, S, al, d, S', hr, R, h, q⟩ => by
  subst hx
  simp only [evE] at h
  obtain ⟨z, S1, h1, h⟩ := bnd_eq h
  split at h
  · rename_i u hu
    simp only [Option.some.injEq, Prod.mk.injEq] at h
    obtain ⟨rfl, rfl⟩ := h
    obtain ⟨ey, mt⟩ := tyOf_eq hy
    unfold isBl at hbl
    simp only [Bool.and_eq_true] at hbl
    have my : X.mg y = none := gd.bl y (by simpa using hbl.1.2)
    obtain ⟨n1, n2, n3⟩ := nm_of hbl.2
    have bt : bootBuiltins y = some (.type t) := by rw [ey]; exact ty_boot t mt
    have pc : PE X (.Name y p2) (tC (.ty t)) := pe_bltn (gl_of gd hbl.1.1) my bt rfl n3 n1
    have mi : X.mg "isinstance" = none := gd.bl _ (by simpa using hb)
    have sp : starEach [a, .Name y p2] X.env = (false, eval a X.env) :: starEach [.Name y p2] X.env := star_cons hp _
    exact ⟨_, pe_callB call_isi (gl_of gd hg) mi (by decide +kernel) (pa_cons ha (pa_cons pc pa_nil rfl) sp) (by decide) (by decide) sp rfl, TX.go hr R h1 fun v H1 al1 e1 R1 hv =>
      ⟨v, .ty t, .type u, .type t, _, rfl, .ty t, ty_of R1 hv hu, kit_ty (kit_all u (tyS_mem hu) t mt), q _ _ (Out.of (al2 := al1) e1 R1 (Out.here R1 (.bl _)))⟩⟩
  · cases h

/-! ### subscripts, slices -/
theorem plain_ix (h : ∀ lo hi st p, i ≠ .Slice lo hi st p) : PlainIx i := fun o v => by cases i <;> first | rfl | exact absurd rfl (h _ _ _ _)
theorem px_idx (hrm : Room k X.A) (ho : PE X o (TX X.K cl xa)) (hi : PE X i (TX X.K cl xb)) (hs : ∀ lo hi st p, i ≠ .Slice lo hi st p) : PE X (.Subscript o i pos) (TX X.K cl (.idx xa xb)) := PE.pick fun σ H Q ⟨r, S, al, d, S', hr, R, h, q⟩ => by
  simp only [evE] at h
  obtain ⟨x, S1, h1, h⟩ := bnd_eq h
  obtain ⟨y, S2, h2, h⟩ := bnd_eq h
  obtain ⟨h3, h4⟩ := lift_eq h
  simp only at h3 h4
  subst h4
  rcases idx_cases (X := X) h3 with ⟨rr, hx, hq⟩ | ⟨n, kvs, ky, rfl, hc, hk, hf⟩
  · exact ⟨_, pe_ix hx ho hi (plain_ix hs), TX.go hr R h1 fun v H1 al1 e1 R1 hv => TX.go (hr.mono e1) R1 h2 fun w H2 al2 e2 R2 hw =>
      hq v w _ _ H2 al2 Q R2 (hv.mono e2) hw fun z H3 oo => q z H3 (Out.of (al2 := al2) (e1.trans R1 e2) R2 oo)⟩
  · refine ⟨_, pe_dget (hu_of hrm) ho hi (plain_ix hs), TX.go hr R h1 fun v H1 al1 e1 R1 hv => TX.go (hr.mono e1) R1 h2 fun w H2 al2 e2 R2 hw => ?_⟩
    obtain ⟨p, ws, rfl, _, hp, l⟩ := cell_dic R2 (hv.mono e2) hc
    obtain ⟨u, hu1, hu2⟩ := l.find ky hf
    refine ⟨p, u, rfl, ?_, q _ _ (Out.of (al2 := al2) (e1.trans R1 e2) R2 (Out.here R2 hu2))⟩
    rw [keyOf_kV hw hk, ← hu1]
    exact DGet.k hp
/-- a slice's end -/
theorem po_of {lo : Option Expr} (h : (lo = none ∧ isNop xb = true) ∨ ∃ e, lo = some e ∧ isNop xb = false ∧ PE X e (TX X.K cl xb)) {σ : L2.St} {H : Hp} {al : Al} {r : Sl} {S S1 : Store} {z : Option Int} (hr : RelE X.K H al r σ) (R : SRel X.K H al S)
    (hv : (if isNop xb then some (none, S) else bnd (evE cl xb r S) partS) = some (z, S1)) : ∃ t, PO X lo t ∧ ∀ Q, (∀ H' al', Ext al H al' H' → SRel X.K H' al' S1 → Q z H') → t σ H Q := by
  rcases h with ⟨rfl, h⟩ | ⟨e, rfl, h, pe⟩
  · rw [if_pos h] at hv
    simp only [Option.some.injEq, Prod.mk.injEq] at hv
    obtain ⟨rfl, rfl⟩ := hv
    exact ⟨_, po_none, fun Q q => q H al Ext.refl R⟩
  · rw [if_neg (by rw [h]; decide)] at hv
    obtain ⟨x, S2, h1, hv⟩ := bnd_eq hv
    unfold partS at hv
    split at hv
    · simp only [Option.some.injEq, Prod.mk.injEq] at hv
      obtain ⟨rfl, rfl⟩ := hv
      exact ⟨_, po_some pe, fun Q q => TX.go hr R h1 fun v H1 al1 e1 R1 hv => ⟨_, hv.int_of, q H1 al1 e1 R1⟩⟩
    · cases hv
/-- .. as the rule asks it, whatever the state -/
theorem px_slc {lo hi : Option Expr} (ho : PE X o (TX X.K cl xa)) (hlo : (lo = none ∧ isNop xb = true) ∨ ∃ e, lo = some e ∧ isNop xb = false ∧ PE X e (TX X.K cl xb)) (hhi : (hi = none ∧ isNop xc = true) ∨ ∃ e, hi = some e ∧ isNop xc = false ∧ PE X e (TX X.K cl xc)) :
    PE X (.Subscript o (.Slice lo hi none p2) pos) (TX X.K cl (.slc xa xb xc)) := by
  have mk : ∀ {lo : Option Expr} {xb : Ex}, ((lo = none ∧ isNop xb = true) ∨ ∃ e, lo = some e ∧ isNop xb = false ∧ PE X e (TX X.K cl xb)) →
      PO X lo (fun σ H Q => ∃ r S al z S1, RelE X.K H al r σ ∧ SRel X.K H al S ∧ (if isNop xb then some (none, S) else bnd (evE cl xb r S) partS) = some (z, S1) ∧ ∀ H' al', Ext al H al' H' → SRel X.K H' al' S1 → Q z H') := fun {lo xb} h =>
    ⟨fun pins s σ H Q I ⟨r, S, al, z, S1, hr, R, hv, q⟩ => by
      obtain ⟨t, ht, g⟩ := po_of h hr R hv
      exact ht.run pins s σ H Q I (g Q q)⟩
  exact PE.pick fun σ H Q ⟨r, S, al, d, S', hr, R, h, q⟩ => by
    simp only [evE] at h
    obtain ⟨x, S1, h1, h⟩ := bnd_eq h
    obtain ⟨y, S2, h2, h⟩ := bnd_eq h
    obtain ⟨z, S3, h3, h⟩ := bnd_eq h
    obtain ⟨h4, h5⟩ := lift_eq h
    simp only at h4 h5
    subst h5
    obtain ⟨rr, hs, hq⟩ := slc_ok (X := X) h4
    exact ⟨_, pe_slice hs ho (mk hlo) (mk hhi), TX.go hr R h1 fun v H1 al1 e1 R1 hv => ⟨r, S1, al1, y, S2, hr.mono e1, R1, h2, fun H2 al2 e2 R2 =>
      ⟨r, S2, al2, z, _, (hr.mono e1).mono e2, R2, h3, fun H3 al3 e3 R3 => hq v _ H3 al3 Q R3 ((hv.mono e2).mono e3) fun w H4 oo => q w H4 (Out.of (al2 := al3) ((e1.trans R1 e2).trans R2 e3) R3 oo)⟩⟩⟩
theorem px_rev {kk : Nat} {p1 p3 : Pos} (ho : PE X o (TX X.K cl xa)) : PE X (.Subscript o (.Slice none none (some (.UnaryOp .USub (.Constant (.int 1) kk p1) p2)) p3) pos) (TX X.K cl (.rev xa)) := PE.pick fun σ H Q ⟨r, S, al, d, S', hr, R, h, q⟩ => by
  simp only [evE] at h
  obtain ⟨x, S1, h1, h⟩ := bnd_eq h
  unfold revO at h
  split at h
  · cases h
    exact ⟨_, pe_revT ho, TX.go hr R h1 fun v H1 al1 e1 R1 hv => by
      obtain ⟨p, ws, rfl, hs, l⟩ := hv.tup_of
      exact ⟨p, ws, rfl, .inr ⟨hs, fun t ob ht hd => q _ _ (Out.of (al2 := al1) e1 R1 (Out.newTup R1 ht hd l.reverse))⟩⟩⟩
  · split at h
    · rename_i ds hds
      cases h
      exact ⟨_, pe_revT ho, TX.go hr R h1 fun v H1 al1 e1 R1 hv => by
        obtain ⟨p, ws, rfl, hs, l⟩ := lstOf_ok R1 hv hds
        exact ⟨p, ws, rfl, .inl ⟨hs, fun t ht => q _ _ (Out.of (al2 := al1) e1 R1 (Out.newLst R1 ht l.reverse))⟩⟩⟩
    · cases h
/-! ### sorted(set(xs)) -/
theorem insU_mem {x z : Int} : ∀ {l : List Int}, z ∈ insU x l ↔ z = x ∨ z ∈ l
  | [] => by simp [insU]
  | y :: r => by
    unfold insU
    split
    · simp
    · split
      · rename_i h; subst h; simp
      · simp only [List.mem_cons, insU_mem (l := r)]; constructor <;> (rintro (h | h | h) <;> simp [h])
theorem insU_rise {x : Int} : ∀ {l : List Int}, l.Pairwise (· < ·) → (insU x l).Pairwise (· < ·)
  | [], _ => by simp [insU]
  | y :: r, h => by
    obtain ⟨h1, h2⟩ := List.pairwise_cons.mp h
    unfold insU
    split
    · rename_i hx
      refine List.pairwise_cons.mpr ⟨fun z hz => ?_, h⟩
      rcases List.mem_cons.mp hz with rfl | hz
      · exact hx
      · have := h1 z hz; omega
    · split
      · exact h
      · refine List.pairwise_cons.mpr ⟨fun z hz => ?_, insU_rise h2⟩
        rcases insU_mem.mp hz with rfl | hz
        · omega
        · exact h1 z hz
theorem sdd_mem {z : Int} : ∀ {l : List Int}, z ∈ sdd l ↔ z ∈ l
  | [] => by simp [sdd]
  | x :: l => by
    show z ∈ insU x (sdd l) ↔ _
    rw [insU_mem, sdd_mem (l := l)]
    simp
theorem sdd_rise : ∀ l : List Int, (sdd l).Pairwise (· < ·)
  | [] => .nil
  | x :: l => insU_rise (sdd_rise l)
/-- two rising lists of the same numbers -/
theorem rise_eq : ∀ {l m : List Int}, l.Pairwise (· < ·) → m.Pairwise (· < ·) → (∀ z, z ∈ l ↔ z ∈ m) → l = m
  | [], [], _, _, _ => rfl
  | [], y :: m, _, _, h => by have := (h y).mpr List.mem_cons_self; simp at this
  | x :: l, [], _, _, h => by have := (h x).mp List.mem_cons_self; simp at this
  | x :: l, y :: m, hl, hm, h => by
    obtain ⟨l1, l2⟩ := List.pairwise_cons.mp hl
    obtain ⟨m1, m2⟩ := List.pairwise_cons.mp hm
    have e : x = y := by
      have h1 := (h x).mp List.mem_cons_self
      have h2 := (h y).mpr List.mem_cons_self
      rcases List.mem_cons.mp h1 with h1 | h1
      · exact h1
      · rcases List.mem_cons.mp h2 with h2 | h2
        · exact h2.symm
        · have := m1 x h1; have := l1 y h2; omega
    subst e
    rw [rise_eq l2 m2 fun z => ?_]
    constructor
    · intro hz
      rcases List.mem_cons.mp ((h z).mp (List.mem_cons_of_mem _ hz)) with e | e
      · have := l1 z hz; omega
      · exact e
    · intro hz
      rcases List.mem_cons.mp ((h z).mpr (List.mem_cons_of_mem _ hz)) with e | e
      · have := m1 z hz; omega
      · exact e
theorem insU_len {x : Int} : ∀ {l : List Int}, x ∉ l → (insU x l).length = l.length + 1
  | [], _ => rfl
  | y :: r, h => by
    simp only [List.mem_cons, not_or] at h
    unfold insU
    split
    · rfl
    · rw [if_neg h.1]
      simp only [List.length_cons, insU_len h.2]
theorem sdd_len : ∀ {l : List Int}, l.Nodup → (sdd l).length = l.length
  | [], _ => rfl
  | x :: l, h => by
    obtain ⟨h1, h2⟩ := List.nodup_cons.mp h
    show (insU x (sdd l)).length = _
    rw [insU_len (fun m => h1 (sdd_mem.mp m)), sdd_len h2, List.length_cons]
theorem DNL.intl {K : PySem.W.Frag} {H : Hp} {al : Al} : ∀ l : List Int, DNL K H al (l.map V.int) (l.map D.int)
  | [] => .nil
  | x :: l => .cons (.int x) (DNL.intl l)
def rSetL (K : PySem.W.Frag) (w : World) : List V → Hp → VK → Prop := fun xs H Q => ∃ (l : Addr) (ns : List Int), xs = [.ref l] ∧ SqL K H l (ns.map V.int) ∧ ns.length ≤ 4000 ∧
  ∀ p : Addr, H p = none → Q (.ref p) (upd H p (SetO w p (fun j => decide (j ∈ ns)) (sdd ns).length))
theorem cr_setL (hc : X.calm = true) : CallR X (.type "set") (rSetL X.K X.w) := fun pins s σ H xs us Q I r h => by
  obtain ⟨l, ns, rfl, hq, hl, q⟩ := h
  rw [Vals.ref1 r]
  obtain ⟨its, r2, pl, hz⟩ := I.list hq
  refine set_of_list ns (I.ok.hd hc) pl.isList (by simpa using RZ.intsAre_vals r2) (by unfold scanBound; omega) fun k tk c hS hcl hk => ?_
  have ec : c = (sdd ns).length := by
    obtain ⟨_, es, _, _, _, _, _, _, nd, hm, _, _, hn, _⟩ := hS
    rw [← hn, ← Array.length_toList, ← List.length_map (f := L2.keyOf), ← sdd_len nd]
    rw [rise_eq (sdd_rise _) (sdd_rise ns) fun z => ?_]
    rw [sdd_mem, sdd_mem, ← hm z]
    simp
  rw [← ec] at q
  exact ⟨.ref _, _, I.laid (t' := tk) hk (Nat.le_refl _) (setO_new hS), rfl, q _ (I.hok.fresh (Nat.le_refl _))⟩
theorem px_sset {G : Cfg} {sc : Scope} (gd : Gd G cl k sc X) (hg : isGl sc "sorted" = true) (hb : G.bl.contains "sorted" = true) (hg2 : isGl sc "set" = true) (hb2 : G.bl.contains "set" = true) (ha : PE X a (TX X.K cl xa)) (hp : ∀ x p, a ≠ .Starred x p) :
    PE X (.Call (.Name "sorted" p) [.Call (.Name "set" p2) [a] [] cpos] [] pos) (TX X.K cl (.sset xa)) := PE.pick fun σ H Q ⟨r, S, al, d, S', hr, R, h, q⟩ => by
  simp only [evE] at h
  obtain ⟨x, S1, h1, h⟩ := bnd_eq h
  unfold ssetS at h
  split at h
  · rename_i ds hds
    split at h
    · rename_i ns hns
      split at h
      · rename_i hz
        simp only [Option.some.injEq, Prod.mk.injEq] at h
        obtain ⟨rfl, rfl⟩ := h
        have m1 : X.mg "sorted" = none := gd.bl _ (by simpa using hb)
        have m2 : X.mg "set" = none := gd.bl _ (by simpa using hb2)
        have pset := pe_callTy (cr_setL gd.calm) (gl_of gd hg2) m2 (by decide +kernel) (pa_consR ha pa_nilR hp) (by decide) (by decide) (star_cons hp _) rfl (p := p2) (pos := cpos)
        refine ⟨_, pe_callB (cr_sortedSet gd.calm) (gl_of gd hg) m1 (by decide +kernel) (pa_cons pset pa_nil rfl) (by decide) (by decide) rfl rfl, ?_⟩
        refine ⟨r, S, al, [x], S1, hr, R, by simp only [evR, h1, bnd], fun vs H1 al1 e1 R1 hv => ?_⟩
        obtain ⟨v, rfl, hv1⟩ := hv.one1
        obtain ⟨l, ws, rfl, hs, dl⟩ := lstOf_ok R1 hv1 hds
        have := ints_of dl hns
        subst this
        refine ⟨l, ns, rfl, hs, hz.2, fun t ht => ?_⟩
        have R2 : SRel X.K (upd H1 t (SetO X.w t (fun j => decide (j ∈ ns)) (sdd ns).length)) al1 S1 := R1.new ht
        have e2 : Ext al H al1 (upd H1 t (SetO X.w t (fun j => decide (j ∈ ns)) (sdd ns).length)) := e1.trans R1 (Ext.new ht)
        refine ⟨t, _, _, rfl, upd_same, hz.1, fun ms u hr hm hl hu => q _ _ ?_⟩
        have e3 : ms = sdd ns := rise_eq hr (sdd_rise ns) fun z => by rw [hm, sdd_mem]; simp
        subst e3
        exact Out.of (al2 := al1) e2 R2 (Out.newLst R2 hu (DNL.intl _))
      · cases h
    · cases h
  · cases h
theorem px_lset {G : Cfg} {sc : Scope} (gd : Gd G cl k sc X) (hg : isGl sc "len" = true) (hb : G.bl.contains "len" = true) (hg2 : isGl sc "set" = true) (hb2 : G.bl.contains "set" = true) (ha : PE X a (TX X.K cl xa)) (hp : ∀ x p, a ≠ .Starred x p) :
    PE X (.Call (.Name "len" p) [.Call (.Name "set" p2) [a] [] cpos] [] pos) (TX X.K cl (.lset xa)) := PE.pick fun σ H Q ⟨r, S, al, d, S', hr, R, h, q⟩ => by
  simp only [evE] at h
  obtain ⟨x, S1, h1, h⟩ := bnd_eq h
  unfold lsetS at h
  split at h
  · rename_i ds hds
    split at h
    · rename_i ns hns
      split at h
      · rename_i hz
        cases h
        have m1 : X.mg "len" = none := gd.bl _ (by simpa using hb)
        have m2 : X.mg "set" = none := gd.bl _ (by simpa using hb2)
        refine ⟨_, pe_lsetA gd.calm (gl_of gd hg) m1 (gl_of gd hg2) m2 ha (star_cons hp _), TX.go hr R h1 fun v H1 al1 e1 R1 hv => ?_⟩
        cases x with
        | tup es =>
          simp only [seqOf, Option.some.injEq] at hds
          subst hds
          obtain ⟨p, ws, rfl, hs, l⟩ := hv.tup_of
          have := ints_of l hns
          subst this
          exact ⟨p, ns, rfl, .inr hs, hz, q _ _ (Out.of (al2 := al1) e1 R1 (Out.here R1 (.int _)))⟩
        | _ =>
          obtain ⟨p, ws, rfl, hs, l⟩ := lstOf_ok R1 hv (by simpa [seqOf, lstOf] using hds)
          have := ints_of l hns
          subst this
          exact ⟨p, ns, rfl, .inl hs, hz, q _ _ (Out.of (al2 := al1) e1 R1 (Out.here R1 (.int _)))⟩
      · cases h
    · cases h
  · cases h
/-! ### a dict of the module -/
theorem kd_ns {K : PySem.W.Frag} {p : Addr} {es : Array DictEntry} {n : Nat} {z : Str} {u : Value} (h : K.lookup p = some ⟨.type "dict", none, .dict es n, #[]⟩) (e : PySem.findBy Value.isStrOf es z = some u) : PySem.W.nsIn K p z = some (some u) := by
  unfold PySem.W.nsIn
  rw [h]
  simp only
  unfold PySem.findBy at e
  rw [← Array.find?_toList] at e
  have hp : (fun x : DictEntry => x.key.isStr z) = fun x => Value.isStrOf z x.key := by
    funext x
    cases x.key <;> rfl
  rw [hp]
  cases hf : es.toList.find? (fun x => Value.isStrOf z x.key) with
  | none => rw [hf] at e; cases e
  | some y => rw [hf] at e; cases e; rfl
def rInKD (K : PySem.W.Frag) (w : World) : R2 := fun x y H Q => ∃ p z kvs, x = .str z ∧ y = .ref p ∧ KDc K w p kvs ∧ Q (.bl (kvs.lookup z).isSome) H
theorem op_inKD : OpR X (compareOp .In) (rInKD X.K X.w) := fun pins s σ H x y v u Q I rx ry h => by
  obtain ⟨p, z, kvs, rfl, rfl, hk, q⟩ := h
  obtain ⟨t, rfl⟩ := rx
  obtain rfl : u = Value.ref p := ry
  obtain ⟨es, n, h1, h2, h3, h4⟩ := hk.find z
  refine wpAny_in_of (strKind_is X.prog X.w z t) h3 (PySem.W.mapOf_K (prog := X.prog) (w := X.w) I.kIn h1 h2) ⟨.bl _, H, I.tok _, ?_, q⟩
  rcases h4 with ⟨i, u, e1, e2⟩ | ⟨e1, e2⟩ <;> (rw [e1, e2]; rfl)
theorem px_dcin {G : Cfg} {sc : Scope} {x : Str} {kvs : List (Str × Int)} (gd : Gd G cl k sc X) (hx : plainName x = true) (hg : isGl sc x = true) (hk : G.dc.lookup x = some kvs) (ha : PE X a (TX X.K cl xa)) (hm : behindInMarks .In (.Name x p) = false) :
    PE X (.Compare a [.In] [.Name x p] pos) (TX X.K cl (.dcin kvs xa)) := PE.pick fun σ H Q ⟨r, S, al, d, S', hr, R, h, q⟩ => by
  simp only [evE] at h
  obtain ⟨y, S1, h1, h⟩ := bnd_eq h
  obtain ⟨pd, m1, hd⟩ := gd.dc x kvs hk
  unfold dcinS at h
  split at h
  · cases h
    exact ⟨_, pe_cmpR op_inKD ha (pe_glob (v := .ref pd) (gl_of gd hg) m1 rfl (nm_of hx).1) hm, TX.go hr R h1 fun v H1 al1 e1 R1 hv =>
      ⟨pd, _, kvs, hv.str_of, rfl, hd, q _ _ (Out.of (al2 := al1) e1 R1 (Out.here R1 (.bl _)))⟩⟩
  · cases h
theorem px_dcix {G : Cfg} {sc : Scope} {x : Str} {kvs : List (Str × Int)} (gd : Gd G cl k sc X) (hx : plainName x = true) (hg : isGl sc x = true) (hk : G.dc.lookup x = some kvs) (ha : PE X i (TX X.K cl xa)) (hs : ∀ lo hi st p, i ≠ .Slice lo hi st p) :
    PE X (.Subscript (.Name x p) i pos) (TX X.K cl (.dcix kvs xa)) := PE.pick fun σ H Q ⟨r, S, al, d, S', hr, R, h, q⟩ => by
  simp only [evE] at h
  obtain ⟨y, S1, h1, h⟩ := bnd_eq h
  obtain ⟨pd, m1, hd⟩ := gd.dc x kvs hk
  unfold dcixS at h
  split at h
  · rename_i z
    split at h
    · rename_i j hj
      cases h
      refine ⟨_, pe_ix ix_kdict (pe_glob (v := .ref pd) (gl_of gd hg) m1 rfl (nm_of hx).1) ha (plain_ix hs), TX.go hr R h1 fun v H1 al1 e1 R1 hv => ?_⟩
      obtain ⟨es, n, g1, g2, g3, g4⟩ := hd.find z
      rcases g4 with ⟨j', u, e1', e2⟩ | ⟨e1', e2⟩
      · rw [hj] at e1'
        cases e1'
        refine ⟨pd, z, .int j, rfl, hv.str_of, ⟨es, n, .int j u, g1, g2, ?_, ⟨u, rfl⟩⟩, q _ _ (Out.of (al2 := al1) e1 R1 (Out.here R1 (.int _)))⟩
        exact kd_ns g1 e2
      · rw [hj] at e1'; cases e1'
    · cases h
  · cases h
/-! ### d.get(k, f) -/
/-- x.upper() -/
theorem px_sup (h0 : isCall0 o = false) (hl : (apos.endLine == cpos.line) = true) (ho : PE X o (TX X.K cl xa)) : PE X (.Call (.Attribute o "upper" apos) [] [] cpos) (TX X.K cl (.sup xa)) := PE.pick fun σ H Q ⟨r, S, al, d, S', hr, R, h, q⟩ => by
  simp only [evE] at h
  obtain ⟨x, S1, h1, h⟩ := bnd_eq h
  unfold supS at h
  split at h
  · split at h
    · rename_i hz
      simp only [Option.some.injEq, Prod.mk.injEq] at h
      obtain ⟨rfl, rfl⟩ := h
      exact ⟨_, pe_upper ho (base_of h0 _ _) hl, TX.go hr R h1 fun w H1 al1 e1 R1 hw => ⟨⟨_, hw.str_of⟩, _, hw.str_of, rfl, hz, q _ _ (Out.of (al2 := al1) e1 R1 (Out.here R1 (.str _)))⟩⟩
    · cases h
  · cases h
/-- x.join(ys) -/
theorem strs_of {K : PySem.W.Frag} {H : Hp} {al : Al} : ∀ {vs : List V} {ds : List D} {ys : List Str}, DNL K H al vs ds → mapO asS ds = some ys → vs = ys.map V.str
  | _, _, ys, .nil, h => by simp [mapO] at h; subst h; rfl
  | _, _, ys, .cons hd t, h => by
    obtain ⟨y, zs, h1, h2, rfl⟩ := mapO_some h
    cases hd with
    | str x => simp only [asS, Option.some.injEq] at h1; subst h1; rw [strs_of t h2]; rfl
    | _ => simp [asS] at h1
theorem px_sjn (h0 : isCall0 o = false) (hl : (apos.endLine == cpos.line) = true) (ho : PE X o (TX X.K cl xa)) (ha : PE X a (TX X.K cl xb)) (hp : ∀ x p, a ≠ .Starred x p) : PE X (.Call (.Attribute o "join" apos) [a] [] cpos) (TX X.K cl (.sjn xa xb)) := PE.pick fun σ H Q ⟨r, S, al, d, S', hr, R, h, q⟩ => by
  simp only [evE] at h
  obtain ⟨x, S1, h1, h⟩ := bnd_eq h
  obtain ⟨y, S2, h2, h⟩ := bnd_eq h
  cases x with
  | str z =>
    cases hsq : seqOf S2 y with
    | none => simp only [sjnS, hsq] at h; cases h
    | some ds =>
      cases hys : mapO asS ds with
      | none => simp only [sjnS, hsq, hys] at h; cases h
      | some ys =>
        simp only [sjnS, hsq, hys] at h
        split at h
        · rename_i hz
          simp only [Option.some.injEq, Prod.mk.injEq] at h
          obtain ⟨rfl, rfl⟩ := h
          have pl : Plain [a] := fun e he => by rw [List.mem_singleton.mp he]; exact hp
          refine ⟨_, pe_join ho ha (by rw [star_all pl]; rfl) (base_of h0 _ _) hl, TX.go hr R h1 fun w H1 al1 e1 R1 hw => ⟨⟨_, hw.str_of⟩, TX.go (hr.mono e1) R1 h2 fun w2 H2 al2 e2 R2 hw2 => ?_⟩⟩
          obtain ⟨p, vs, rfl, hs, l⟩ := seqOf_ok R2 hw2 hsq
          have := strs_of l hys
          subst this
          exact ⟨_, p, _, hw.str_of, rfl, hs, hz, q _ _ (Out.of (al2 := al2) (e1.trans R1 e2) R2 (Out.here R2 (.str _)))⟩
        · cases h
  | _ => simp only [sjnS] at h; cases h
theorem px_dget (hrm : Room k X.A) (h0 : isCall0 o = false) (hl : (apos.endLine == cpos.line) = true) (ho : PE X o (TX X.K cl xa)) (ha : PE X a (TX X.K cl xb)) (hb : PE X b (TX X.K cl xc)) (hp : ∀ x p, a ≠ .Starred x p) (hp' : ∀ x p, b ≠ .Starred x p) :
    PE X (.Call (.Attribute o "get" apos) [a, b] [] cpos) (TX X.K cl (.dget xa xb xc)) := PE.pick fun σ H Q ⟨r, S, al, d, S', hr, R, h, q⟩ => by
  simp only [evE] at h
  obtain ⟨x, S1, h1, h⟩ := bnd_eq h
  split at h
  · rename_i hd
    obtain ⟨y, S2, h2, h⟩ := bnd_eq h
    obtain ⟨z, S3, h3, h⟩ := bnd_eq h
    obtain ⟨h4, h5⟩ := lift_eq h
    simp only at h4 h5
    subst h5
    have pl : Plain [a, b] := fun e he => by
      rcases List.mem_cons.mp he with rfl | he
      · exact hp
      · rw [List.mem_singleton.mp he]; exact hp'
    have M : M2 X o "get" apos a b cpos := ⟨base_of h0 _ _, few_of pl _ (by simp), hl, by rw [star_all pl]; rfl⟩
    refine ⟨_, pe_dget2 (hu_of hrm) ho ha hb M, TX.go hr R h1 fun v H1 al1 e1 R1 hv => ?_⟩
    unfold isDic at hd
    split at hd
    · rename_i n
      split at hd
      · rename_i kvs0 hc0
        obtain ⟨pa, ws0, rfl, ea, hpa, l0⟩ := cell_dic R1 hv hc0
        refine ⟨pa, rfl, .inl ⟨ws0, .inl hpa⟩, TX.go (hr.mono e1) R1 h2 fun w H2 al2 e2 R2 hw => TX.go ((hr.mono e1).mono e2) R2 h3 fun u H3 al3 e3 R3 hu => ?_⟩
        unfold dgetS at h4
        split at h4
        · rename_i n' ky en hky
          cases en
          split at h4
          · rename_i kvs hc
            cases h4
            obtain ⟨pa', ws, epa, _, hpa', l⟩ := cell_dic R3 ((hv.mono e2).mono e3) hc
            cases epa
            have E3 := (e1.trans R1 e2).trans R2 e3
            cases hf : (kvs.find? fun kv => decide (kv.1 = ky)).map (·.2) with
            | some d0 =>
              rw [hf] at q
              obtain ⟨v0, g1, g2⟩ := l.find ky hf
              refine ⟨some v0, ?_, q _ _ (Out.of (al2 := al3) E3 R3 (Out.here R3 g2))⟩
              rw [keyOf_kV (hw.mono e3) hky, ← g1]
              exact DGet.k hpa'
            | none =>
              rw [hf] at q
              refine ⟨none, ?_, q _ _ ⟨al3, E3, R3, (hu.start e2 R2).start e1 R1⟩⟩
              rw [keyOf_kV (hw.mono e3) hky, ← l.miss ky hf]
              exact DGet.k hpa'
          · cases h4
        · cases h4
      · cases hd
    · cases hd
  · cases h
/-! ### max(xs, default=k), d.get(k) -/
def rMaxDf (K : PySem.W.Frag) : List V → List V → Hp → VK → Prop := fun vs zs H Q => ∃ (a : Addr) (ns : List Int) (k : Int), vs = [V.ref a] ∧ zs = [.int k] ∧ SqL K H a (ns.map V.int) ∧
  (ns = [] → Q (.int k) H) ∧ ∀ n r, ns = n :: r → Q (.int (r.foldl max n)) H
theorem cr_maxDf (hc : X.calm = true) (hu : X.A.units + 1 < cLine) : CallRK X (.builtin "max") [Str.ofString "default"] (rMaxDf X.K) := by
  intro pins s σ H vs zs us ws Q I r rz h
  obtain ⟨a, ns, k, rfl, rfl, hs, q0, q1⟩ := h
  obtain ⟨its, rv, hl, _⟩ := I.list hs
  obtain rfl := Vals.ref1 r
  obtain ⟨w1, rfl, e1⟩ := vals1 rz
  have hi := rv.ints
  refine PySem.W.max_list_default (xs := ns.map .int) (I.ok.hd hc) hl.isList (hi.reads _) ⟨fun x hx y hy => ?_, fun x hx => ?_⟩ (by rw [PyProof.Rows.depthAll_ints]; exact hu) (fun e h' tk hk => ?_) fun y ys i v h' tk bs e _ hr hk => ?_
  · obtain ⟨x', _, rfl⟩ := List.mem_map.mp hx
    obtain ⟨y', _, rfl⟩ := List.mem_map.mp hy
    rfl
  · obtain ⟨x', _, rfl⟩ := List.mem_map.mp hx
    simp
  · exact ⟨.int k, H, I.kept hk, e1, q0 (by simpa using e)⟩
  · cases ns with
    | nil => simp at e
    | cons n r =>
      simp only [List.map_cons, List.cons.injEq] at e
      obtain ⟨rfl, rfl⟩ := e
      rw [PySem.W.maxD_ints] at hr
      cases hr
      exact ⟨.int _, H, I.kept hk, ⟨_, rfl⟩, q1 n r rfl⟩
theorem foldl_maxI : ∀ (r : List Int) (n : Int), r.foldl max n = maxI n r
  | [], _ => rfl
  | x :: r, n => by
    rw [List.foldl_cons, foldl_maxI r, maxI]
    congr 1
    split <;> omega
theorem px_maxd {G : Cfg} {sc : Scope} {i : Int} {u : Nat} {kp kq : Pos} (gd : Gd G cl k sc X) (hg : isGl sc "max" = true) (hb : G.bl.contains "max" = true) (ha : PE X a (TX X.K cl xa)) (hp : ∀ x p, a ≠ .Starred x p) :
    PE X (.Call (.Name "max" p) [a] [⟨some "default", .Constant (.int i) u kp, kq⟩] pos) (TX X.K cl (.maxd i xa)) := PE.pick fun σ H Q ⟨r, S, al, d, S', hr, R, h, q⟩ => by
  simp only [evE] at h
  obtain ⟨x, S1, h1, h⟩ := bnd_eq h
  have m1 : X.mg "max" = none := gd.bl _ (by simpa using hb)
  refine ⟨_, pe_callBK (cr_maxDf gd.calm (hu_of gd.room)) (gl_of gd hg) m1 (by decide +kernel) (pa_consR ha pa_nilR hp) (pk_cons pe_int pk_nil) (by decide) (by decide) (by rw [star_cons hp]; rfl) (by rw [star_cons hp]; rfl) rfl rfl rfl, ?_⟩
  refine ⟨r, S, al, [x], S1, hr, R, by simp only [evR, h1, bnd], fun vs H1 al1 e1 R1 hv => ?_⟩
  obtain ⟨v, rfl, hv1⟩ := hv.one1
  unfold maxdS at h
  split at h
  · rename_i ds hds
    obtain ⟨l, ws, rfl, hs, dl⟩ := lstOf_ok R1 hv1 hds
    split at h
    · rename_i hns
      cases h
      have := ints_of dl hns
      subst this
      exact ⟨l, [], i, rfl, rfl, hs, fun _ => q _ _ (Out.of (al2 := al1) e1 R1 (Out.here R1 (.int _))), fun _ _ e => by cases e⟩
    · rename_i n r hns
      cases h
      have := ints_of dl hns
      subst this
      refine ⟨l, n :: r, i, rfl, rfl, hs, fun e => (by cases e), fun _ _ e => ?_⟩
      cases e
      rw [foldl_maxI]
      exact q _ _ (Out.of (al2 := al1) e1 R1 (Out.here R1 (.int _)))
    · cases h
  · cases h
theorem px_dget1 (hrm : Room k X.A) (h0 : isCall0 o = false) (hl : (apos.endLine == cpos.line) = true) (ho : PE X o (TX X.K cl xa)) (ha : PE X a (TX X.K cl xb)) (hp : ∀ x p, a ≠ .Starred x p) :
    PE X (.Call (.Attribute o "get" apos) [a] [] cpos) (TX X.K cl (.dget xa xb (.cst .non))) := PE.pick fun σ H Q ⟨r, S, al, d, S', hr, R, h, q⟩ => by
  simp only [evE] at h
  obtain ⟨x, S1, h1, h⟩ := bnd_eq h
  split at h
  · rename_i hd
    obtain ⟨y, S2, h2, h⟩ := bnd_eq h
    simp only [bnd] at h
    obtain ⟨h4, h5⟩ := lift_eq h
    simp only at h4 h5
    subst h5
    have pl : Plain [a] := fun e he => by
      rw [List.mem_singleton.mp he]; exact hp
    have M : M1 X o "get" apos a cpos := ⟨base_of h0 _ _, few_of pl _ (by simp), hl, by rw [star_all pl]; rfl⟩
    refine ⟨_, pe_dget1 (hu_of hrm) ho ha M, TX.go hr R h1 fun v H1 al1 e1 R1 hv => ?_⟩
    unfold isDic at hd
    split at hd
    · rename_i n
      split at hd
      · rename_i kvs0 hc0
        obtain ⟨pa, ws0, rfl, ea, hpa, l0⟩ := cell_dic R1 hv hc0
        refine ⟨pa, rfl, .inl ⟨ws0, .inl hpa⟩, TX.go (hr.mono e1) R1 h2 fun w H2 al2 e2 R2 hw => ?_⟩
        unfold dgetS at h4
        split at h4
        · rename_i n' ky en hky
          cases en
          split at h4
          · rename_i kvs hc
            cases h4
            obtain ⟨pa', ws, epa, _, hpa', l⟩ := cell_dic R2 (hv.mono e2) hc
            cases epa
            have E2 := e1.trans R1 e2
            cases hf : (kvs.find? fun kv => decide (kv.1 = ky)).map (·.2) with
            | some d0 =>
              rw [hf] at q
              obtain ⟨v0, g1, g2⟩ := l.find ky hf
              refine ⟨some v0, ?_, q _ _ (Out.of (al2 := al2) E2 R2 (Out.here R2 g2))⟩
              rw [keyOf_kV hw hky, ← g1]
              exact DGet.k hpa'
            | none =>
              rw [hf] at q
              refine ⟨none, ?_, q _ _ (Out.of (al2 := al2) E2 R2 (Out.here R2 .non))⟩
              rw [keyOf_kV hw hky, ← l.miss ky hf]
              exact DGet.k hpa'
          · cases h4
        · cases h4
      · cases hd
    · cases hd
  · cases h
end
end Rf

/-! Rf: dict displays, what is walked, comprehensions. -/
namespace Rf
open PySem L2
/-- several expressions -/
inductive PEs (X : Cx) (cl : Cl) : List Expr → Exs → Prop
  | nil : PEs X cl [] .nil
  | cons {e : Expr} {es : List Expr} {x : Ex} {xs : Exs} : PE X e (TX X.K cl x) → (∀ x p, e ≠ .Starred x p) → PEs X cl es xs → PEs X cl (e :: es) (.cons x xs)
section
variable {X : Cx} {cl : Cl} {k : Nat} {es : List Expr} {xs : Exs}
theorem PEs.aR : ∀ {es : List Expr} {xs : Exs}, PEs X cl es xs → PA X es (TR X.K cl xs)
  | _, _, .nil => pa_nilR
  | _, _, .cons h p t => pa_consR h t.aR p
theorem PEs.aM : ∀ {es : List Expr} {xs : Exs}, PEs X cl es xs → PA X es (TM X.K cl xs)
  | _, _, .nil => pa_nilM
  | _, _, .cons h p t => pa_consM h t.aM p
theorem PEs.plain : ∀ {es : List Expr} {xs : Exs}, PEs X cl es xs → Plain es
  | _, _, .nil => fun e h => absurd h (by simp)
  | _, _, .cons h p t => fun e he => by
    rcases List.mem_cons.mp he with rfl | he
    · exact p
    · exact t.plain e he
theorem PEs.len : ∀ {es : List Expr} {xs : Exs}, PEs X cl es xs → xs.len = es.length
  | _, _, .nil => rfl
  | _, _, .cons h p t => by simp [Exs.len, t.len]
theorem PEs.nil_of (h : PEs X cl es xs) (e : es = []) : xs = .nil := by subst e; cases h; rfl
end
section
variable {K : PySem.W.Frag} {H H' H0 : Hp} {al al' : Al} {S : Store} {p : Addr} {o : HO} {v : V} {d : D} {vs : List V} {ds : List D}
theorem Ext.mut (e : Ext al H al' H') (h : H p = none) : Ext al H al' (upd H' p o) :=
  ⟨e.pre, fun a u q m => by rw [upd_ne (ne_of_none q h)]; exact e.fr a u q m, fun a vs q => by rw [upd_ne (ne_of_none q h)]; exact e.tp a vs q, fun a u w q => by rw [upd_ne (ne_of_none q h)]; exact e.fz a u w q⟩
/-- what may be changed beside the cells -/
structure Loose (H : Hp) (p : Addr) : Prop where
  tp : ∀ vs, H p ≠ some (.tup vs)
  fz : ∀ o u, H p ≠ some (.frz o u)
theorem Loose.lst {xs : List V} (h : H p = some (.lst xs)) : Loose H p := ⟨fun vs e => (by rw [h] at e; cases e), fun o u e => (by rw [h] at e; cases e)⟩
theorem Loose.dK {xs : List (Key × V)} (h : H p = some (.dK xs)) : Loose H p := ⟨fun vs e => (by rw [h] at e; cases e), fun o u e => (by rw [h] at e; cases e)⟩
theorem Loose.keepT (l : Loose H p) : ∀ a vs, H a = some (.tup vs) → upd H p o a = some (.tup vs) := fun a vs q => by
  rw [upd_ne (show a ≠ p from fun z => l.tp vs (z ▸ q))]; exact q
theorem Loose.keepF (l : Loose H p) : ∀ a u w, H a = some (.frz u w) → upd H p o a = some (.frz u w) := fun a u w q => by
  rw [upd_ne (show a ≠ p from fun z => l.fz u w (z ▸ q))]; exact q
theorem SRel.mut (R : SRel K H al S) (m : (true, p) ∉ al) (l : Loose H p) : SRel K (upd H p o) al S :=
  ⟨R.len, fun n u b a h1 h2 => CellOk.mono (R.ok n u b a h1 h2) l.keepT l.keepF (fun _ _ q => q) fun hb => upd_ne fun z => m (by rw [← z, ← hb]; exact List.mem_iff_getElem?.mpr ⟨n, h2⟩), R.inj⟩
theorem DNL.mut (h : DNL K H al vs ds) (l : Loose H p) : DNL K (upd H p o) al vs ds := h.up l.keepT l.keepF fun _ _ q => q
theorem Ext.notIn (e : Ext al H al' H') (h : H p = some o) (m : (true, p) ∉ al) : (true, p) ∉ al' := fun m1 => by
  obtain ⟨be, rfl, hb⟩ := e.pre
  rcases List.mem_append.mp m1 with m1 | m1
  · exact m m1
  · rw [(hb _ _ m1).2] at h; cases h
end

section
variable {X : Cx} {cl : Cl} {k : Nat} {a b c e o i : Expr} {es rest vals : List Expr} {xa xb xc : Ex} {xs : Exs} {pos p p2 apos cpos : Pos}
/-! ### a dict's display -/
theorem key_pe {q : Key} {z : Option Expr} (h : keyC z = some q) : ∃ e, z = some e ∧ PE X e (tC (kV q)) := by
  unfold keyC at h
  split at h
  · cases h; exact ⟨_, rfl, pe_str⟩
  · cases h; exact ⟨_, rfl, pe_int⟩
  · cases h
theorem pairs_go : ∀ {ks : List (Option Expr)} {vals : List Expr} {keys : List Key} {xs : Exs}, mapO keyC ks = some keys → PEs X cl vals xs → ks.length = vals.length →
    ∃ trs, PPs X pos ks vals trs ∧ ∀ (σ : L2.St) (H : Hp) (al : Al) (r : Sl) (S : Store) (ds : List D) (S1 : Store) (Q : List (V × V) → Hp → Prop), RelE X.K H al r σ → SRel X.K H al S → evM cl xs r S = some (ds, S1) →
      (∀ us H' al', Ext al H al' H' → SRel X.K H' al' S1 → DNL X.K H' al' us ds → us.length = keys.length → Q ((keys.zip us).map fun kv => (kV kv.1, kv.2)) H') → tPairs trs σ H Q
  | [], [], keys, xs, hk, hv, _ => by
    simp [mapO] at hk; subst hk
    cases hv
    refine ⟨[], pps_nil, fun σ H al r S ds S1 Q hr R h q => ?_⟩
    simp only [evM, Option.some.injEq, Prod.mk.injEq] at h
    obtain ⟨rfl, rfl⟩ := h
    exact q [] H al Ext.refl R .nil rfl
  | [], _ :: _, _, _, _, _, hl => by simp at hl
  | _ :: _, [], _, _, _, _, hl => by simp at hl
  | z :: ks, v :: vals, keys, xs, hk, hv, hl => by
    obtain ⟨q1, qs, h1, h2, rfl⟩ := mapO_some hk
    cases hv with
    | @cons _ _ x xs hx hp t =>
      obtain ⟨e, rfl, pk⟩ := key_pe (X := X) h1
      obtain ⟨trs, pp, go⟩ := pairs_go h2 t (by simpa using hl)
      refine ⟨_, pps_cons pk hx pp, fun σ H al r S ds S1 Q hr R h q => ?_⟩
      simp only [evM] at h
      obtain ⟨y, S2, g1, h⟩ := bnd_eq h
      obtain ⟨ys, S3, g2, h⟩ := bnd_eq h
      simp only [Option.some.injEq, Prod.mk.injEq] at h
      obtain ⟨rfl, rfl⟩ := h
      refine TX.go hr R g1 fun w H1 al1 e1 R1 hw => ?_
      obtain ⟨al1', e1', R1', hw'⟩ := mat_ok e1 R1 hw
      exact go σ H1 al1' r _ ys S3 _ (hr.mono e1') R1' g2 fun us H2 al2 e2 R2 hus hlen => q (w :: us) H2 al2 (e1'.trans R1' e2) R2 (.cons (hw'.mono e2) hus) (by simp [hlen])
theorem zip_dnk {K : PySem.W.Frag} {H : Hp} {al : Al} : ∀ {keys : List Key} {us : List V} {ds : List D}, DNL K H al us ds → us.length = keys.length → DNK K H al (keys.zip us) (keys.zip ds)
  | [], _, _, .nil, _ => .nil
  | [], _, _, .cons _ _, h => by simp at h
  | _ :: _, _, _, .nil, h => by simp at h
  | q :: keys, _, _, .cons h t, hl => DNK.cons h (zip_dnk t (by simpa using hl))
theorem key_all : ∀ {ks : List (Option Expr)} {keys : List Key}, mapO keyC ks = some keys → ks.all (·.isSome) = true ∧ keys.length = ks.length
  | [], _, h => by simp [mapO] at h; subst h; exact ⟨rfl, rfl⟩
  | z :: ks, keys, h => by
    obtain ⟨q1, qs, h1, h2, rfl⟩ := mapO_some h
    obtain ⟨g1, g2⟩ := key_all h2
    refine ⟨?_, by simp [g2]⟩
    cases z with
    | none => simp [keyC] at h1
    | some e => simpa using g1
theorem px_dsp {ks : List (Option Expr)} {keys : List Key} (hk : mapO keyC ks = some keys) (hv : PEs X cl vals xs) (hl : ks.length = vals.length) (h15 : ks.length ≤ 15) : PE X (.Dict ks vals pos) (TX X.K cl (.dsp keys xs)) := PE.pick fun σ H Q ⟨r, S, al, d, S', hr, R, h, q⟩ => by
  simp only [evE] at h
  obtain ⟨ds, S1, h1, h⟩ := bnd_eq h
  split at h
  · rename_i hlen
    simp only [Option.some.injEq, Prod.mk.injEq] at h
    obtain ⟨rfl, rfl⟩ := h
    obtain ⟨g1, g2⟩ := key_all hk
    cases ks with
    | nil =>
      cases vals with
      | nil =>
        cases hv
        simp [mapO] at hk; subst hk
        simp only [evM, Option.some.injEq, Prod.mk.injEq] at h1
        obtain ⟨rfl, rfl⟩ := h1
        exact ⟨_, pe_dnewK, fun t ht => q _ _ (Out.newDict R ht .nil)⟩
      | cons _ _ => simp at hl
    | cons z ks =>
      obtain ⟨trs, pp, go⟩ := pairs_go (pos := pos) hk hv hl
      refine ⟨_, pe_disp pp g1 hl (by simp) h15, fun t ht => ?_⟩
      have e0 : Ext al H al (upd H t (.dK [])) := Ext.new ht
      have R0 : SRel X.K (upd H t (.dK [])) al S := R.new ht
      have m0 : (true, t) ∉ al := R.fresh ht
      refine go σ _ al r S ds S1 _ (hr.mono e0) R0 h1 fun us H2 al2 e2 R2 hus hlu => ?_
      have h2 : H2 t = some (.dK []) := e2.fr t _ upd_same m0
      have m2 : (true, t) ∉ al2 := e2.notIn upd_same m0
      refine ⟨h2, keys.zip us, rfl, by rw [List.length_zip]; omega, q _ _ ?_⟩
      have E2 : Ext al H al2 H2 := e0.trans R0 e2
      have hd : DNK X.K H2 al2 (mergeK [] (keys.zip us)) ((keys.zip ds).foldl (fun acc kv => dput acc kv.1 kv.2) []) := DNK.fold (zip_dnk hus hlu) .nil
      have L : Loose H2 t := .dK h2
      have R3 : SRel X.K (upd H2 t (.dK (mergeK [] (keys.zip us)))) al2 S1 := R2.mut m2 L
      have E3 : Ext al H al2 (upd H2 t (.dK (mergeK [] (keys.zip us)))) := E2.mut ht
      refine ⟨al2 ++ [(true, t)], ⟨?_, E3.fr, E3.tp, E3.fz⟩, R3.layO m2 ⟨rfl, _, upd_same, hd.1, hd.2.up L.keepT L.keepF fun n q z => get_pre z⟩, .inl (.ref (b := true) ?_)⟩
      · obtain ⟨be, rfl, hb⟩ := E3.pre
        refine ⟨be ++ [(true, t)], by simp, fun b c m => ?_⟩
        rcases List.mem_append.mp m with m | m
        · exact hb b c m
        · simp at m; obtain ⟨rfl, rfl⟩ := m; exact ⟨rfl, ht⟩
      · rw [← R2.len]; simp
  · cases h

/-! ### what is walked -/
/-- a pair that is taken apart at once -/
def PrD (K : PySem.W.Frag) (H : Hp) (al : Al) (v : V) (d : D) : Prop := ∃ (a : Addr) (u w : V) (x y : D), v = .ref a ∧ d = .lst [x, y] ∧ SqT K H a [u, w] ∧ DN K H al u x ∧ DN K H al w y
def DNI (z : Prop) (K : PySem.W.Frag) (H : Hp) (al : Al) (v : V) (d : D) : Prop := DN K H al v d ∨ (z ∧ PrD K H al v d)
structure ItOk (z : Prop) (K : PySem.W.Frag) (J : It) (H1 : Hp) (al1 : Al) (items : List D) (ws : List (Nat × List D)) : Prop where
  go : ∀ (H' : Hp) (al' : Al) (S' : Store) (i : Nat) (d : D), Ext al1 H1 al' H' → SRel K H' al' S' → watch S' ws = true → items[i]? = some d → J.go i H' ∧ ∀ x H'', J.yld i H' x H'' → Ext al' H' al' H'' ∧ SRel K H'' al' S' ∧ DNI z K H'' al' x d ∧ (∀ p, (H' p).isSome → H'' p = H' p)
  stop : ∀ (H' : Hp) (al' : Al) (S' : Store), Ext al1 H1 al' H' → SRel K H' al' S' → watch S' ws = true → J.stop items.length H'
def TIt (K : PySem.W.Frag) (c : Cl) (ik : IK) (xs : Exs) : TI := fun σ H R => ∃ r S al ds S1 items ws, RelE K H al r σ ∧ SRel K H al S ∧ evR c xs r S = some (ds, S1) ∧ itemsS ik ds S1 = some (items, ws) ∧
  ∀ J H1 al1, Ext al H al1 H1 → SRel K H1 al1 S1 → ItOk (ik = .zip) K J H1 al1 items ws → items.length ≤ sizeLine → R J H1
section
variable {K : PySem.W.Frag} {H1 : Hp} {al1 : Al} {S1 : Store} {items : List D} {ws : List (Nat × List D)} {z : Prop}
/-- a list whose items stand the same wherever it is looked at -/
theorem itOk_list {a : Addr} (h : ∀ (H' : Hp) (al' : Al) (S' : Store), Ext al1 H1 al' H' → SRel K H' al' S' → watch S' ws = true → ∃ vs, SqL K H' a vs ∧ DNL K H' al' vs items) : ItOk z K (Itl K a) H1 al1 items ws :=
  ⟨fun H' al' S' i d e R w hi => by
    obtain ⟨vs, hs, l⟩ := h H' al' S' e R w
    obtain ⟨v, hv1, hv2⟩ := l.get hi
    refine ⟨⟨vs, v, hs, hv1⟩, fun x H'' ⟨e1, e2⟩ => ?_⟩
    subst e1
    have := e2 vs hs
    rw [hv1] at this; cases this
    exact ⟨Ext.refl, R, .inl hv2, fun _ _ => rfl⟩,
   fun H' al' S' e R w => by
    obtain ⟨vs, hs, l⟩ := h H' al' S' e R w
    exact ⟨vs, hs, by rw [l.length]; exact Nat.le_refl _⟩⟩
theorem itOk_tup {a : Addr} {vs : List V} (hs : SqT K H1 a vs) (l : DNL K H1 al1 vs items) : ItOk z K (Itt K a) H1 al1 items ws :=
  ⟨fun H' al' S' i d e R w hi => by
    obtain ⟨v, hv1, hv2⟩ := l.get hi
    have hs' := sqT_tp e.tp e.fz hs
    refine ⟨⟨vs, v, hs', hv1⟩, fun x H'' ⟨e1, e2⟩ => ?_⟩
    subst e1
    have := e2 vs hs'
    rw [hv1] at this; cases this
    exact ⟨Ext.refl, R, .inl (hv2.mono e), fun _ _ => rfl⟩,
   fun H' al' S' e R w => ⟨vs, sqT_tp e.tp e.fz hs, by rw [l.length]; exact Nat.le_refl _⟩⟩
theorem itOk_rng {lo : Int} {n : Nat} : ItOk z K (Itr lo n) H1 al1 ((List.range n).map fun (i : Nat) => D.int (lo + (i : Int))) ws :=
  ⟨fun H' al' S' i d e R w hi => by
    rw [List.getElem?_map] at hi
    have hn : i < n := by
      by_cases hn : i < n
      · exact hn
      · rw [List.getElem?_eq_none (by simpa using hn)] at hi; cases hi
    rw [List.getElem?_range hn] at hi
    cases hi
    refine ⟨hn, fun x H'' ⟨e1, e2⟩ => ?_⟩
    subst e1; subst e2
    exact ⟨Ext.refl, R, .inl (.int _), fun _ _ => rfl⟩,
   fun H' al' S' e R w => by rw [List.length_map, List.length_range]; exact Nat.le_refl n⟩
end
theorem pi_seqX {tg : Expr} (ha : PE X e (TX X.K cl xa)) : PI X tg e (TIt X.K cl .seq (.cons xa .nil)) := ⟨fun pins s σ H R I ⟨r, S, al, ds, S1, items, ws, hr, Rs, h, hi, q⟩ => by
  simp only [evR] at h
  obtain ⟨x, S2, h1, h⟩ := bnd_eq h
  simp only [bnd, Option.some.injEq, Prod.mk.injEq] at h
  obtain ⟨rfl, rfl⟩ := h
  cases x with
  | tup zs =>
    simp only [itemsS, Option.some.injEq, Prod.mk.injEq] at hi
    obtain ⟨rfl, rfl⟩ := hi
    refine thn ((pi_tup ha).run pins s σ H (fun J H1 => ∃ a vs, SqT X.K H1 a vs ∧ vs.length = zs.length ∧ (zs.length ≤ sizeLine → R J H1)) I (TX.go hr Rs h1 fun v H1 al1 e1 R1 hv => ?_)) fun v s1 g1 => thn g1 fun itv s2 ⟨it, fp, tn, J, H', ei, I1, T, t0, f0, a, vs, hs, hl, g⟩ => ⟨it, fp, tn, J, H', ei, I1, T, t0, f0, g (by
      obtain ⟨_, _, _, hz⟩ := I1.tuple hs
      omega)⟩
    obtain ⟨a, vs, rfl, hs, l⟩ := hv.tup_of
    exact ⟨a, rfl, ⟨vs, hs⟩, a, vs, hs, l.length, fun hz => q _ _ _ e1 R1 (itOk_tup hs l) hz⟩
  | lst zs =>
    simp only [itemsS, Option.some.injEq, Prod.mk.injEq] at hi
    obtain ⟨rfl, rfl⟩ := hi
    refine thn ((pi_list ha).run pins s σ H (fun J H1 => ∃ a vs, SqL X.K H1 a vs ∧ vs.length = zs.length ∧ (zs.length ≤ sizeLine → R J H1)) I (TX.go hr Rs h1 fun v H1 al1 e1 R1 hv => ?_)) fun v s1 g1 => thn g1 fun itv s2 ⟨it, fp, tn, J, H', ei, I1, T, t0, f0, a, vs, hs, hl, g⟩ => ⟨it, fp, tn, J, H', ei, I1, T, t0, f0, g (by
      obtain ⟨_, _, _, hz⟩ := I1.list hs
      omega)⟩
    rcases hv with hv | ⟨a, vs, ds, rfl, e0, hs, m, h0, l⟩
    · cases hv
    · cases e0
      exact ⟨a, rfl, ⟨vs, .inl (.inl hs)⟩, a, vs, .inl (.inl hs), l.length, fun hz => q _ _ _ e1 R1 (itOk_list fun H' al' S' e R w => ⟨vs, .inl (.inl (e.fr a _ hs m)), l.mono e⟩) hz⟩
  | ref n =>
    simp only [itemsS, Option.map_eq_some_iff, Prod.mk.injEq] at hi
    obtain ⟨zs, hc, rfl, rfl⟩ := hi
    refine thn ((pi_list ha).run pins s σ H (fun J H1 => ∃ a vs, SqL X.K H1 a vs ∧ vs.length = zs.length ∧ (zs.length ≤ sizeLine → R J H1)) I (TX.go hr Rs h1 fun v H1 al1 e1 R1 hv => ?_)) fun v s1 g1 => thn g1 fun itv s2 ⟨it, fp, tn, J, H', ei, I1, T, t0, f0, a, vs, hs, hl, g⟩ => ⟨it, fp, tn, J, H', ei, I1, T, t0, f0, g (by
      obtain ⟨_, _, _, hz⟩ := I1.list hs
      omega)⟩
    obtain ⟨b, a, rfl, qa⟩ := hv.ref_of
    obtain ⟨vs, hs, l⟩ := cellL_ok R1 qa hc
    refine ⟨a, rfl, ⟨vs, hs⟩, a, vs, hs, l.length, fun hz => q _ _ _ e1 R1 (itOk_list fun H' al' S' e R w => ?_) hz⟩
    have hw : cellL S' n = some zs := by simpa [watch] using w
    exact cellL_ok R (e.prefix _ _ qa) hw
  | non => simp [itemsS] at hi
  | bl _ => simp [itemsS] at hi
  | int _ => simp [itemsS] at hi
  | str _ => simp [itemsS] at hi⟩
theorem zip_get {xs ys : List D} : ∀ {i : Nat} {d : D}, (zipD xs ys)[i]? = some d → ∃ a b, xs[i]? = some a ∧ ys[i]? = some b ∧ d = .lst [a, b] := by
  induction xs generalizing ys with
  | nil => intro i d h; cases ys <;> simp [zipD] at h
  | cons x xs ih =>
    intro i d h
    cases ys with
    | nil => simp [zipD] at h
    | cons y ys =>
      cases i with
      | zero => simp [zipD] at h; exact ⟨x, y, rfl, rfl, h.symm⟩
      | succ i => simp [zipD] at h; simpa using ih h
theorem zip_any {xs : List D} {i : Nat} {a : D} (h : xs.any isPr = false) (e : xs[i]? = some a) : isPr a = false := by
  rw [List.any_eq_false] at h
  simpa using h a (List.mem_of_getElem? e)
theorem zip_len {xs ys : List D} : (zipD xs ys).length = min xs.length ys.length := by
  induction xs generalizing ys with
  | nil => cases ys <;> simp [zipD]
  | cons x xs ih => cases ys with
    | nil => simp [zipD]
    | cons y ys => simp only [zipD, List.length_cons, ih]; omega
theorem zip_yld {K : PySem.W.Frag} {H' H'' : Hp} {al' : Al} {S' : Store} {x : V} {T : Addr} {u v : V} {a b : D} {z : Prop} (hz : z) (R : SRel K H' al' S') (hT : H' T = none) (e : H'' = upd H' T (.tup [u, v])) (ex : x = .ref T) (hu : DN K H' al' u a) (hv : DN K H' al' v b) :
    Ext al' H' al' H'' ∧ SRel K H'' al' S' ∧ DNI z K H'' al' x (.lst [a, b]) ∧ (∀ p, (H' p).isSome → H'' p = H' p) := by
  subst e
  subst ex
  have E := Ext.new (al := al') (o := HO.tup [u, v]) hT
  exact ⟨E, R.new hT, .inr ⟨hz, T, u, v, a, b, rfl, rfl, .inl (.inl upd_same), hu.mono E, hv.mono E⟩, fun p hp => upd_ne fun z => by subst z; rw [hT] at hp; cases hp⟩
/-- a list whose items stand the same wherever it is looked at -/
def Steady (K : PySem.W.Frag) (H1 : Hp) (al1 : Al) (a : Addr) (items : List D) (ws : List (Nat × List D)) : Prop :=
  ∀ (H' : Hp) (al' : Al) (S' : Store), Ext al1 H1 al' H' → SRel K H' al' S' → watch S' ws = true → ∃ vs, SqL K H' a vs ∧ DNL K H' al' vs items
theorem steady_of {K : PySem.W.Frag} {H0 H1 : Hp} {al1 : Al} {S1 : Store} {v : V} {d : D} {ds : List D} {ws : List (Nat × List D)} (R : SRel K H1 al1 S1) (hv : DV K H0 H1 al1 v d) (h : seqW S1 d = some (ds, ws)) : ∃ a vs, v = .ref a ∧ SqL K H1 a vs ∧ DNL K H1 al1 vs ds ∧ Steady K H1 al1 a ds ws := by
  rcases hv with hv | ⟨a, vs, ds', rfl, rfl, ha, m, h0, l⟩
  · cases hv with
    | @ref n _ _ q =>
      simp only [seqW, Option.map_eq_some_iff, Prod.mk.injEq] at h
      obtain ⟨ds', hc, rfl, rfl⟩ := h
      obtain ⟨vs, hs, l⟩ := cellL_ok R q hc
      refine ⟨_, vs, rfl, hs, l, fun H' al' S' e R' w => ?_⟩
      have hc' : cellL S' n = some ds' := by simpa [watch] using w
      exact cellL_ok R' (e.prefix _ _ q) hc'
    | _ => simp [seqW] at h
  · simp [seqW] at h
    obtain ⟨rfl, rfl⟩ := h
    refine ⟨a, vs, rfl, .inl (.inl ha), l, fun H' al' S' e R' w => ⟨vs, .inl (.inl (e.fr a _ ha m)), l.mono e⟩⟩
theorem watch_app {S : Store} {ws us : List (Nat × List D)} (h : watch S (ws ++ us) = true) : watch S ws = true ∧ watch S us = true := by
  unfold watch at h ⊢
  rw [List.all_append, Bool.and_eq_true] at h
  exact h
theorem pi_zipX {G : Cfg} {sc : Scope} {elts : List Expr} {kk : Nat} {tpos : Pos} (gd : Gd G cl k sc X) (hg : isGl sc "zip" = true) (hb : G.bl.contains "zip" = true) (ha : PEs X cl [a, b] xs) : PI X (.Tuple elts kk tpos) (.Call (.Name "zip" p) [a, b] [] pos) (TIt X.K cl .zip xs) :=
  PI.pick fun σ H R ⟨r, S, al, ds, S1, items, ws, hr, Rs, h, hi, q⟩ => by
    have mr : X.mg "zip" = none := gd.bl _ (by simpa using hb)
    refine ⟨_, RZ.pi_zipA (gl_of gd hg) mr ha.aR (star_cons ha.plain.head _) (star_any ha.plain.tail _ _), r, S, al, ds, S1, hr, Rs, h, fun vs H1 al1 e1 R1 hv => ?_⟩
    have hl : ∃ x y, ds = [x, y] := by
      cases ha with
      | cons _ _ t => cases t with
        | cons _ _ t =>
          cases t
          simp only [evR] at h
          obtain ⟨x, S2, h1, h⟩ := bnd_eq h
          obtain ⟨ys, S3, h2, h⟩ := bnd_eq h
          obtain ⟨y, S4, h3, h2⟩ := bnd_eq h2
          simp only [bnd, Option.some.injEq, Prod.mk.injEq] at h h2
          obtain ⟨rfl, rfl⟩ := h2
          exact ⟨x, y, h.1.symm⟩
    obtain ⟨x, y, rfl⟩ := hl
    obtain ⟨v, w, rfl, hv1, hv2⟩ := hv.two2
    unfold itemsS at hi
    split at hi
    case h_6 =>
      rename_i as bs heq
      cases heq
      split at hi
      case isFalse => cases hi
      rename_i hz
      simp only [Option.some.injEq, Prod.mk.injEq] at hi
      obtain ⟨rfl, rfl⟩ := hi
      obtain ⟨pa, us, rfl, hsa, la⟩ := hv1.tup_of
      obtain ⟨pb, ts, rfl, hsb, lb⟩ := hv2.tup_of
      refine ⟨pa, pb, us, ts, rfl, .inr ⟨hsa, hsb, q _ H1 al1 e1 R1 ⟨fun H' al' S' i d e R' _ hd => ?_, fun H' al' S' e R' _ => ?_⟩ ?_⟩⟩
      · obtain ⟨da, db, g1, g2, rfl⟩ := zip_get hd
        obtain ⟨u, k1, k2⟩ := la.get g1
        obtain ⟨t, k3, k4⟩ := lb.get g2
        have sa := sqT_tp e.tp e.fz hsa
        have sb := sqT_tp e.tp e.fz hsb
        refine ⟨⟨us, ts, u, t, sa, sb, k1, k3⟩, fun z H'' ⟨T, u', t', ex, hT, eH, m1, m2⟩ => ?_⟩
        have := m1 us sa
        rw [k1] at this; cases this
        have := m2 ts sb
        rw [k3] at this; cases this
        exact zip_yld rfl R' hT eH ex (k2.mono e) (k4.mono e)
      · refine ⟨us, ts, sqT_tp e.tp e.fz hsa, sqT_tp e.tp e.fz hsb, ?_⟩
        rw [zip_len, la.length, lb.length]; omega
      · rw [zip_len, sizeLine_eq]; omega
    case h_7 =>
      rename_i heq
      cases heq
      split at hi
      · rename_i ws' us' ha' hb'
        split at hi
        case isFalse => cases hi
        rename_i hz
        simp only [Option.some.injEq, Prod.mk.injEq] at hi
        obtain ⟨rfl, rfl⟩ := hi
        obtain ⟨pa, us, rfl, hsa, la, sta⟩ := steady_of R1 hv1 ha'
        obtain ⟨pb, ts, rfl, hsb, lb, stb⟩ := steady_of R1 hv2 hb'
        refine ⟨pa, pb, us, ts, rfl, .inl ⟨hsa, hsb, q _ H1 al1 e1 R1 ⟨fun H' al' S' i d e R' hw hd => ?_, fun H' al' S' e R' hw => ?_⟩ ?_⟩⟩
        · obtain ⟨w1, w2⟩ := watch_app hw
          obtain ⟨us', sa, la'⟩ := sta H' al' S' e R' w1
          obtain ⟨ts', sb, lb'⟩ := stb H' al' S' e R' w2
          obtain ⟨da, db, g1, g2, rfl⟩ := zip_get hd
          obtain ⟨u, k1, k2⟩ := la'.get g1
          obtain ⟨t, k3, k4⟩ := lb'.get g2
          refine ⟨⟨us', ts', u, t, sa, sb, k1, k3⟩, fun z H'' ⟨T, u', t', ex, hT, eH, m1, m2⟩ => ?_⟩
          have := m1 us' sa
          rw [k1] at this; cases this
          have := m2 ts' sb
          rw [k3] at this; cases this
          exact zip_yld rfl R' hT eH ex k2 k4
        · obtain ⟨w1, w2⟩ := watch_app hw
          obtain ⟨us', sa, la'⟩ := sta H' al' S' e R' w1
          obtain ⟨ts', sb, lb'⟩ := stb H' al' S' e R' w2
          refine ⟨us', ts', sa, sb, ?_⟩
          rw [zip_len, la'.length, lb'.length]; omega
        · rw [zip_len, sizeLine_eq]; omega
      · cases hi
    all_goals (first | (cases hi; done) | (rename_i heq; cases heq; done) | (rename_i heq _; cases heq; done) | skip)
theorem pi_rng1X {G : Cfg} {sc : Scope} {tg : Expr} (gd : Gd G cl k sc X) (hg : isGl sc "range" = true) (hb : G.bl.contains "range" = true) (ha : PEs X cl [a] xs) : PI X tg (.Call (.Name "range" p) [a] [] pos) (TIt X.K cl .rng xs) :=
  PI.pick fun σ H R ⟨r, S, al, ds, S1, items, ws, hr, Rs, h, hi, q⟩ => by
    have mr : X.mg "range" = none := gd.bl _ (by simpa using hb)
    refine ⟨_, pi_range1 (gl_of gd hg) mr ha.aR (star_cons ha.plain.head _), r, S, al, ds, S1, hr, Rs, h, fun vs H1 al1 e1 R1 hv => ?_⟩
    have hl : ∃ x, ds = [x] := by
      cases ha with
      | cons _ _ t => cases t; simp only [evR] at h; obtain ⟨x, S2, h1, h⟩ := bnd_eq h; simp only [bnd, Option.some.injEq, Prod.mk.injEq] at h; exact ⟨x, h.1.symm⟩
    obtain ⟨x, rfl⟩ := hl
    have hx : ∃ n, x = .int n := by
      unfold itemsS at hi
      cases x <;> first | exact ⟨_, rfl⟩ | (simp at hi)
    obtain ⟨n, rfl⟩ := hx
    obtain ⟨v, rfl, hv1⟩ := hv.one1
    simp only [itemsS] at hi
    split at hi
    · rename_i hz
      simp only [Option.some.injEq, Prod.mk.injEq] at hi
      obtain ⟨rfl, rfl⟩ := hi
      refine ⟨n, by rw [hv1.int_of], hz.1, by omega, q _ _ _ e1 R1 ?_ (by rw [List.length_map, List.length_range, sizeLine_eq]; omega)⟩
      have := itOk_rng (z := (IK.rng = .zip)) (K := X.K) (H1 := H1) (al1 := al1) (ws := []) (lo := 0) (n := n.toNat)
      simpa only [Int.zero_add] using this
    · cases hi
theorem pi_rng2X {G : Cfg} {sc : Scope} {tg : Expr} (gd : Gd G cl k sc X) (hg : isGl sc "range" = true) (hb : G.bl.contains "range" = true) (ha : PEs X cl [a, b] xs) : PI X tg (.Call (.Name "range" p) [a, b] [] pos) (TIt X.K cl .rng xs) :=
  PI.pick fun σ H R ⟨r, S, al, ds, S1, items, ws, hr, Rs, h, hi, q⟩ => by
    have mr : X.mg "range" = none := gd.bl _ (by simpa using hb)
    refine ⟨_, pi_range2 (gl_of gd hg) mr ha.aR (by rw [star_all ha.plain]; rfl) (by rw [star_all ha.plain.tail]; rfl), r, S, al, ds, S1, hr, Rs, h, fun vs H1 al1 e1 R1 hv => ?_⟩
    have hl : ∃ x y, ds = [x, y] := by
      cases ha with
      | cons _ _ t => cases t with
        | cons _ _ t => cases t; simp only [evR] at h; obtain ⟨x, S2, h1, h⟩ := bnd_eq h; obtain ⟨ys, S3, h2, h⟩ := bnd_eq h; obtain ⟨y, S4, h3, h2⟩ := bnd_eq h2; simp only [bnd, Option.some.injEq, Prod.mk.injEq] at h h2; exact ⟨x, y, by rw [← h.1, ← h2.1]⟩
    obtain ⟨x, y, rfl⟩ := hl
    have hx : ∃ n m, x = .int n ∧ y = .int m := by
      unfold itemsS at hi
      cases x <;> cases y <;> first | exact ⟨_, _, rfl, rfl⟩ | (simp at hi)
    obtain ⟨n, m, rfl, rfl⟩ := hx
    obtain ⟨v, w, rfl, hv1, hw⟩ := hv.two2
    simp only [itemsS] at hi
    split at hi
    · rename_i hz
      simp only [Option.some.injEq, Prod.mk.injEq] at hi
      obtain ⟨rfl, rfl⟩ := hi
      exact ⟨n, m, by rw [hv1.int_of, hw.int_of], ⟨hz.1, hz.2.1, hz.2.2.1, hz.2.2.2.1⟩, q _ _ _ e1 R1 itOk_rng (by rw [List.length_map, List.length_range, sizeLine_eq]; omega)⟩
    · cases hi
end
end Rf

/-! Rf: tuple(zip(a, b)). -/
namespace Rf
open PySem PySem.Spec PyProof.Rows L2
theorem lay_many {K : PySem.W.Frag} {H : Hp} {al : Al} {S : Store} (R : SRel K H al S) : ∀ {L : List (Addr × Obj × List V)} {us ts : List V} {xs ys : List D}, DNL K H al us xs → DNL K H al ts ys → L.map (·.2.2) = zipV us ts → (L.map (·.1)).Nodup → (∀ e ∈ L, H e.1 = none ∧ e.2.1.dict = none) →
    Ext al H al (layP H L) ∧ SRel K (layP H L) al S ∧ DNL K (layP H L) al (L.map fun e => V.ref e.1) (zipT xs ys)
  | L, _, _, _, _, .nil, _, h, _, _ => by
    have : L = [] := List.map_eq_nil_iff.mp h
    subst this
    exact ⟨Ext.refl, R, .nil⟩
  | L, _, _, _, _, .cons hu la, .nil, h, _, _ => by
    have : L = [] := List.map_eq_nil_iff.mp h
    subst this
    exact ⟨Ext.refl, R, .nil⟩
  | [], _, _, _, _, .cons hu la, .cons ht lb, h, _, _ => by simp [zipV] at h
  | e :: L, _, _, _, _, .cons hu la, .cons ht lb, h, nd, fr => by
    simp only [List.map_cons, zipV, List.cons.injEq] at h
    obtain ⟨nh, nt⟩ := List.nodup_cons.mp nd
    obtain ⟨E, R1, D1⟩ := lay_many R la lb h.2 nt fun d hd => fr d (List.mem_cons_of_mem _ hd)
    obtain ⟨f1, f2⟩ := fr e List.mem_cons_self
    have hp : layP H L e.1 = none := by rw [layP_out nh]; exact f1
    have E2 : Ext al (layP H L) al (layP H (e :: L)) := Ext.new hp
    refine ⟨E.trans R1 E2, R1.new hp, .cons (.tup ?_ ((DNL.cons (hu.mono E) (.cons (ht.mono E) .nil)).mono E2)) (D1.mono E2)⟩
    rw [← h.1]
    exact tpT_new f2
theorem px_tzip {G : Cfg} {sc : Scope} {a b : Expr} {xs : Exs} {p p2 pos cpos : Pos} {X : Cx} {cl : Nat → List D → Store → Rs D} {k : Nat} (gd : Gd G cl k sc X) (hg : isGl sc "tuple" = true) (hb : G.bl.contains "tuple" = true) (hg2 : isGl sc "zip" = true) (hb2 : G.bl.contains "zip" = true) (ha : PEs X cl [a, b] xs) :
    PE X (.Call (.Name "tuple" p) [.Call (.Name "zip" p2) [a, b] [] cpos] [] pos) (TX X.K cl (.tzip xs)) := PE.pick fun σ H Q ⟨r, S, al, d, S', hr, R, h, q⟩ => by
  simp only [evE] at h
  obtain ⟨ds, S1, h1, h⟩ := bnd_eq h
  unfold tzipS at h
  split at h
  · simp only [Option.some.injEq, Prod.mk.injEq] at h
    obtain ⟨rfl, rfl⟩ := h
    have m1 : X.mg "tuple" = none := gd.bl _ (by simpa using hb)
    have m2 : X.mg "zip" = none := gd.bl _ (by simpa using hb2)
    refine ⟨_, pe_tupZip gd.calm (gl_of gd hg) m1 (gl_of gd hg2) m2 ha.aR (star_cons ha.plain.head _) (star_any ha.plain.tail _ _) rfl, r, S, al, _, _, hr, R, h1, fun vs H1 al1 e1 R1 hv => ?_⟩
    obtain ⟨v, w, rfl, hv1, hv2⟩ := hv.two2
    obtain ⟨pa, us, rfl, hsa, la⟩ := hv1.tup_of
    obtain ⟨pb, ts, rfl, hsb, lb⟩ := hv2.tup_of
    refine ⟨pa, pb, us, ts, rfl, hsa, hsb, fun L eL nd fr p ob hp hd => q _ _ ?_⟩
    obtain ⟨E, R2, D2⟩ := lay_many R1 la lb eL nd fr
    exact Out.of (al2 := al1) (e1.trans R1 E) R2 (Out.newTup R2 hp hd D2)
  · cases h
end Rf

/-! Rf: targets, comprehensions. -/
namespace Rf
open PySem L2
theorem idx_get {N : List Str} {x : Str} {i : Nat} (h : N.idxOf? x = some i) : N[i]? = some x := by
  unfold List.idxOf? at h
  obtain ⟨h1, h2, _⟩ := List.findIdx?_eq_some_iff_getElem.mp h
  rw [List.getElem?_eq_getElem h1]
  exact congrArg some (eq_of_beq h2)
def gAll : List Nat → TGs
  | [] => gNil
  | i :: is => gCons (gName i) (gAll is)
def tgP (K : PySem.W.Frag) : Pt → TG
  | .nm i => gName i
  | .tp is => gTup K is.length (gAll is)
/-- the names of a target may be stored -/
def TgOk (X : Cx) (sct : Scope) : Prop := ∀ x, isLoc sct x = true → Loc X.env.scope x ∧ (X.fn x = true ∨ X.env.scope.names.lookup x = some .local)
def trN (N : List Str) (sc : Scope) (e : Expr) : Option Nat := match e with
  | .Name x _ => if isLoc sc x then N.idxOf? x else none
  | _ => none
theorem trN_name {N : List Str} {sc : Scope} {e : Expr} {i : Nat} (h : trN N sc e = some i) : ∃ x p, e = .Name x p ∧ isLoc sc x = true ∧ N.idxOf? x = some i := by
  unfold trN at h
  split at h
  · split at h
    · rename_i hl
      exact ⟨_, _, rfl, hl, h⟩
    · cases h
  · cases h
section
variable {X : Cx} {sct : Scope} {pos : Pos}
theorem pg_nm (nd : X.N.Nodup) (tk : TgOk X sct) {e : Expr} {i : Nat} (h : trN X.N sct e = some i) : PG X e (gName i) := by
  obtain ⟨x, p, rfl, hl, hi⟩ := trN_name h
  exact pg_name nd (idx_get hi) (tk x hl).1 (tk x hl).2
theorem names_each {e : Expr} {es : List Expr} {env : Env} (h : ∀ x p, e ≠ .Starred x p) : assignEach (e :: es) env = (false, assign e env) :: assignEach es env := by
  cases e <;> first | rfl | exact absurd rfl (h _ _)
theorem pgs_all (nd : X.N.Nodup) (tk : TgOk X sct) : ∀ {es : List Expr} {is : List Nat}, mapO (trN X.N sct) es = some is → PGs X es (gAll is) ∧ (assignEach es X.env).length = is.length ∧ (assignEach es X.env).findIdx? (·.1) = none
  | [], _, h => by simp [mapO] at h; subst h; exact ⟨pgs_nil, rfl, rfl⟩
  | e :: es, _, h => by
    obtain ⟨i, is, h1, h2, rfl⟩ := mapO_some h
    obtain ⟨g1, g2, g3⟩ := pgs_all nd tk h2
    have ns : ∀ x p, e ≠ .Starred x p := fun x p z => by
      obtain ⟨y, q, rfl, _⟩ := trN_name h1
      cases z
    have he : assignEach (e :: es) X.env = (false, assign e X.env) :: assignEach es X.env := names_each ns
    refine ⟨pgs_cons (pg_nm nd tk h1) g1 (by rw [he]; rfl), by rw [he]; simp [g2], ?_⟩
    rw [he, List.findIdx?_cons]
    simp [g3]
theorem pg_tgt (hc : X.calm = true) (nd : X.N.Nodup) (tk : TgOk X sct) {tg : Expr} {t : Pt} (h : trPt X.N sct tg = some t) : PG X tg (tgP X.K t) := by
  cases tg with
  | Name x p =>
    simp only [trPt] at h
    split at h
    · rename_i hl
      simp only [Option.map_eq_some_iff] at h
      obtain ⟨i, hi, rfl⟩ := h
      exact pg_name nd (idx_get hi) (tk x hl).1 (tk x hl).2
    · cases h
  | Tuple es kk p =>
    simp only [trPt, Option.map_eq_some_iff] at h
    obtain ⟨is, hi, rfl⟩ := h
    obtain ⟨g1, g2, g3⟩ := pgs_all nd tk hi
    exact pg_tup hc g1 g2 g3
  | _ => simp [trPt] at h
end
/-! ### slots -/
section
variable {K : PySem.W.Frag} {H H' : Hp} {al al' : Al} {r r1 : Sl} {σ : L2.St} {v : V} {d : D}
theorem RelE.set (hr : RelE K H al r σ) (i : Nat) (h : DN K H al v d) : RelE K H al (r.set i (some d)) (σ.set i (some v)) := by
  refine ⟨by simp [hr.len], fun j z hj => ?_⟩
  by_cases e : i = j
  · subst e
    by_cases hi : i < r.length
    · rw [List.getElem?_set_self hi] at hj
      cases hj
      exact ⟨v, List.getElem?_set_self (by rw [← hr.len]; exact hi), h⟩
    · rw [List.getElem?_eq_none (by simpa using hi)] at hj; cases hj
  · rw [List.getElem?_set_ne e] at hj
    obtain ⟨w, h1, h2⟩ := hr.ok j z hj
    exact ⟨w, by rw [List.getElem?_set_ne e]; exact h1, h2⟩
theorem RelE.clr (hr : RelE K H al r σ) (i : Nat) : RelE K H al (r.set i none) (σ.set i none) := by
  refine ⟨by simp [hr.len], fun j z hj => ?_⟩
  by_cases e : i = j
  · subst e
    by_cases hi : i < r.length
    · rw [List.getElem?_set_self hi] at hj; cases hj
    · rw [List.getElem?_eq_none (by simpa using hi)] at hj; cases hj
  · rw [List.getElem?_set_ne e] at hj
    obtain ⟨w, h1, h2⟩ := hr.ok j z hj
    exact ⟨w, by rw [List.getElem?_set_ne e]; exact h1, h2⟩
theorem RelE.wipe (hr : RelE K H al r σ) : ∀ vs : List Nat, RelE K H al (wipeS r vs) (L2.wipe σ vs)
  | [] => hr
  | i :: vs => (hr.wipe vs).clr i
/-- what is forgotten anyway may be stored -/
theorem wipe_at (σ : L2.St) (z : Option V) (i : Nat) : ∀ vs : List Nat, i ∈ vs → L2.wipe (σ.set i z) vs = L2.wipe σ vs := by
  intro vs
  induction vs with
  | nil => intro h; simp at h
  | cons j vs ih =>
    intro h
    show (L2.wipe (σ.set i z) vs).set j none = (L2.wipe σ vs).set j none
    by_cases hv : i ∈ vs
    · rw [ih hv]
    · have e : i = j := by
        rcases List.mem_cons.mp h with h | h
        · exact h
        · exact absurd h hv
      subst e
      have out : ∀ ws : List Nat, i ∉ ws → L2.wipe (σ.set i z) ws = (L2.wipe σ ws).set i z := by
        intro ws
        induction ws with
        | nil => intro _; rfl
        | cons k ws ih2 =>
          intro hn
          simp only [List.mem_cons, not_or] at hn
          show (L2.wipe (σ.set i z) ws).set k none = ((L2.wipe σ ws).set k none).set i z
          rw [ih2 hn.2, List.set_comm _ _ hn.1]
      rw [out vs hv, List.set_set]
def ptIn : Pt → List Nat
  | .nm i => [i]
  | .tp is => is
theorem all_ok : ∀ {is : List Nat} {ds : List D} {vs : List V} {r : Sl} {σ : L2.St} {Q : L2.St → Hp → Prop}, ds.length = is.length → DNL K H al vs ds → RelE K H al r σ →
    (∀ σ1, RelE K H al (setAll r is ds) σ1 → (∀ ws, (∀ i ∈ is, i ∈ ws) → L2.wipe σ1 ws = L2.wipe σ ws) → Q σ1 H) → gAll is vs σ H Q
  | [], [], _, r, σ, Q, _, .nil, hr, q => ⟨rfl, q σ hr fun _ _ => rfl⟩
  | [], _ :: _, _, _, _, _, h, _, _, _ => by simp at h
  | _ :: _, [], _, _, _, _, h, _, _, _ => by simp at h
  | i :: is, d :: ds, _, r, σ, Q, h, .cons (v := v) (vs := vs) hd hl, hr, q => ⟨v, vs, rfl, all_ok (by simpa using h) hl (hr.set i hd) fun σ1 h1 h2 => q σ1 h1 fun ws hw => by
      rw [h2 ws fun j hj => hw j (List.mem_cons_of_mem _ hj)]
      exact wipe_at σ _ i ws (hw i List.mem_cons_self)⟩
theorem tgt_ok {t : Pt} {Q : L2.St → Hp → Prop} (hv : DN K H al v d) (hr : RelE K H al r σ) (h : setPt t d r = some r1)
    (q : ∀ σ1, RelE K H al r1 σ1 → (∀ ws, (∀ i ∈ ptIn t, i ∈ ws) → L2.wipe σ1 ws = L2.wipe σ ws) → Q σ1 H) : tgP K t v σ H Q := by
  unfold setPt at h
  split at h
  · rename_i i
    cases h
    exact q _ (hr.set _ hv) fun ws hw => wipe_at σ _ _ ws (hw _ List.mem_cons_self)
  · rename_i is ds
    split at h
    · rename_i hl
      cases h
      cases hv with
      | tup hs l => exact ⟨_, _, rfl, hs.1, by rw [l.length]; exact hl, all_ok hl l hr q⟩
    · cases h
  · cases hv
  · cases h
theorem tgt_okI {t : Pt} {Q : L2.St → Hp → Prop} {z : Prop} (hz : z → ∃ is, t = .tp is) (hv : DNI z K H al v d) (hr : RelE K H al r σ) (h : setPt t d r = some r1)
    (q : ∀ σ1, RelE K H al r1 σ1 → (∀ ws, (∀ i ∈ ptIn t, i ∈ ws) → L2.wipe σ1 ws = L2.wipe σ ws) → Q σ1 H) : tgP K t v σ H Q := by
  rcases hv with hv | ⟨h1, a, u, w, x, y, rfl, rfl, hs, hu, hw⟩
  · exact tgt_ok hv hr h q
  · obtain ⟨is, rfl⟩ := hz h1
    simp only [setPt] at h
    split at h
    · rename_i hl
      cases h
      have l : DNL K H al [u, w] [x, y] := .cons hu (.cons hw .nil)
      exact ⟨_, _, rfl, hs, by rw [l.length]; exact hl, all_ok hl l hr q⟩
    · cases h
theorem wipe_wipe (σ : L2.St) : ∀ vs ws : List Nat, (∀ i ∈ vs, i ∈ ws) → L2.wipe (L2.wipe σ vs) ws = L2.wipe σ ws
  | [], _, _ => rfl
  | i :: vs, ws, h => by
    show L2.wipe ((L2.wipe σ vs).set i none) ws = _
    rw [wipe_at _ _ i ws (h i List.mem_cons_self)]
    exact wipe_wipe σ vs ws fun j hj => h j (List.mem_cons_of_mem _ hj)
end

/-! ### comprehensions -/
section
variable {X : Cx} {cl : Cl} {k : Nat} {elt tg iter : Expr} {ifs : List Expr} {scope : Scope} {pos : Pos} {ik : IK} {xs : Exs} {t : Pt} {xc xe : Ex} {own : List (Str × Nat)}
theorem noset {e : Expr} (h : ∀ es kk p, e ≠ .Set es kk p) (env : Env) (x : Value) : foldedSetIterable e env x = pure x := by
  unfold foldedSetIterable
  split
  · exact absurd rfl (h _ _ _)
  · rfl
theorem lc_go {σ : L2.St} {H : Hp} {Q : VK} (hzp : ik = .zip → ∃ is, t = .tp is) (hown : ∀ i ∈ ptIn t, i ∈ own.map (·.2)) (h : TX X.K cl (.lc ik xs t (own.map (·.2)) xc xe) σ H Q) : tLc (TIt X.K cl ik xs) (tgP X.K t) (TB X.K cl xc) (TX X.K cl xe) (own.map (·.2)) σ H Q := by
  obtain ⟨r, S, al, d, S', hr, R, h, q⟩ := h
  simp only [evE] at h
  obtain ⟨ds, S1, h1, h⟩ := bnd_eq h
  split at h
  · rename_i items ws hit
    obtain ⟨ys, S5, hloop, h⟩ := bnd_eq h
    simp only [Option.some.injEq, Prod.mk.injEq] at h
    obtain ⟨rfl, rfl⟩ := h
    refine ⟨r, S, al, ds, S1, items, ws, hr, R, h1, hit, fun J H1 al1 e1 R1 ok hz L0 hD => ?_⟩
    generalize hf : (fun (d : D) (S2 : Store) => (match setPt t d (wipeS r (own.map (·.2))) with
        | some r1 => bnd (evE cl xc r1 S2) fun b S3 => match b with
          | .bl true => bnd (evE cl xe r1 S3) fun y S4 => some (some (mat y S4).1, (mat y S4).2)
          | .bl false => some (none, S3)
          | _ => none
        | none => none : Rs (Option D))) = f at hloop
    have hr1 := hr.mono e1
    refine ⟨fun i m Hc => m = items.length - i ∧ i ≤ items.length ∧ ∃ alc Sc accD accV restD, Ext al1 H1 alc Hc ∧ SRel X.K Hc alc Sc ∧ Hc L0 = some (.lst accV) ∧ (true, L0) ∉ alc ∧ DNL X.K Hc alc accV accD ∧ accD.length ≤ i ∧ loopL ws f (items.drop i) Sc = some (restD, S5) ∧ accD ++ restD = ys,
      ⟨items.length, rfl, Nat.zero_le _, al1, S1, [], [], ys, Ext.new hD, R1.new hD, upd_same, R1.fresh hD, .nil, Nat.le_refl _, hloop, rfl⟩, ?_⟩
    rintro i m Hc ⟨rfl, hi, alc, Sc, accD, accV, restD, ec, Rc, hDc, mD, lacc, hlen, hl, hys⟩
    by_cases hlt : i < items.length
    · have hdr : items.drop i = items[i] :: items.drop (i + 1) := List.drop_eq_getElem_cons hlt
      rw [hdr] at hl
      simp only [loopL] at hl
      split at hl
      · rename_i hw
        obtain ⟨o, S2, g1, hl⟩ := bnd_eq hl
        obtain ⟨ds2, S6, g2, hl⟩ := bnd_eq hl
        simp only [Option.some.injEq, Prod.mk.injEq] at hl
        obtain ⟨rfl, rfl⟩ := hl
        obtain ⟨jgo, jy⟩ := ok.go Hc alc Sc i _ ec Rc hw (List.getElem?_eq_getElem hlt)
        refine .inr ⟨jgo, _, fun H' n => ⟨items.length - (i + 1), by omega, n⟩, fun x H2 yl => ?_⟩
        obtain ⟨e2, R2, hx, hkeep⟩ := jy x H2 yl
        have hD2 : H2 L0 = some (.lst accV) := by rw [hkeep L0 (by rw [hDc]; rfl)]; exact hDc
        rw [← hf] at g1
        simp only at g1
        split at g1
        · rename_i r1 hr1s
          have E2 := ec.trans Rc e2
          refine tgt_okI hzp hx (((hr1.mono E2)).wipe (own.map (·.2))) hr1s fun σ1 hrs hws => ⟨?_, ?_⟩
          · rw [hws _ hown]; exact wipe_wipe σ _ _ fun i hi => hi
          · obtain ⟨b, S3, g3, g1⟩ := bnd_eq g1
            have lacc2 := lacc.mono e2
            split at g1
            · obtain ⟨y, S4, g4, g1⟩ := bnd_eq g1
              simp only [Option.some.injEq, Prod.mk.injEq] at g1
              obtain ⟨rfl, rfl⟩ := g1
              refine TB.go hrs R2 g3 fun H3 al3 e3 R3 => ?_
              rw [if_pos rfl]
              have hD3 := e3.fr L0 _ hD2 mD
              have m3 := e3.notIn hD2 mD
              refine TX.go (hrs.mono e3) R3 g4 fun w H4 al4 e4 R4 hw4 => ?_
              obtain ⟨al4', e4', R4', hw'⟩ := mat_ok e4 R4 hw4
              have hD4 := e4'.fr L0 _ hD3 m3
              have m4 := e4'.notIn hD3 m3
              have L : Loose H4 L0 := .lst hD4
              refine ⟨accV, hD4, by rw [lacc.length]; omega, rfl, hlt, al4', _, accD ++ [_], accV ++ [w], ds2, (((E2.trans R2 e3).trans R3 e4').mut hD), R4'.mut m4 L, upd_same, m4, (((lacc2.mono e3).mono e4').append (.one hw')).mut L, by simp; omega, g2, ?_⟩
              rw [← hys]
              simp
            · simp only [Option.some.injEq, Prod.mk.injEq] at g1
              obtain ⟨rfl, rfl⟩ := g1
              refine TB.go hrs R2 g3 fun H3 al3 e3 R3 => ?_
              rw [if_neg (by decide)]
              exact ⟨rfl, hlt, al3, S3, accD, accV, ds2, E2.trans R2 e3, R3, e3.fr L0 _ hD2 mD, e3.notIn hD2 mD, lacc2.mono e3, by omega, g2, hys⟩
            · cases g1
        · cases g1
      · cases hl
    · have e : i = items.length := by omega
      subst e
      rw [List.drop_length] at hl
      simp only [loopL] at hl
      split at hl
      · rename_i hw
        simp only [Option.some.injEq, Prod.mk.injEq] at hl
        obtain ⟨rfl, rfl⟩ := hl
        rw [List.append_nil] at hys
        subst hys
        exact .inl ⟨ok.stop Hc alc Sc ec Rc hw, q _ _ ⟨alc, e1.trans R1 ec, Rc, .inr ⟨L0, accV, accD, rfl, rfl, hDc, mD, e1.back R1 hD, lacc⟩⟩⟩
      · cases hl
  · cases h
end
end Rf

/-! Rf: statements. -/
namespace Rf
open PySem L2
def EndOk (K : PySem.W.Frag) (al : Al) (H : Hp) (fl : Fl) (r' : Sl) (S' : Store) (E : Ends) : Prop := match fl with
  | .nx => ∀ σ' H', OutS K al H r' S' σ' H' → E.nx σ' H'
  | .rt d => ∀ v H', Out K al H S' d v H' → E.rt v H'
  | .bk => ∀ σ' H', OutS K al H r' S' σ' H' → E.bk σ' H'
  | .ct => ∀ σ' H', OutS K al H r' S' σ' H' → E.ct σ' H'
def TSt (K : PySem.W.Frag) (c : Cl) (F : Nat) (s : St) : TS := fun E σ H => ∃ r S al fl r' S', RelE K H al r σ ∧ SRel K H al S ∧ evS c F s r S = some (fl, r', S') ∧ EndOk K al H fl r' S' E
def TSs (K : PySem.W.Frag) (c : Cl) (F : Nat) (s : Sts) : TS := fun E σ H => ∃ r S al fl r' S', RelE K H al r σ ∧ SRel K H al S ∧ evSs c F s r S = some (fl, r', S') ∧ EndOk K al H fl r' S' E
section
variable {K : PySem.W.Frag} {H H' H1 : Hp} {al al' al1 : Al} {r r1 r' : Sl} {σ σ' : L2.St} {S S' S1 : Store} {E : Ends} {fl : Fl}
theorem OutS.of (e : Ext al H al1 H1) (R : SRel K H1 al1 S1) (o : OutS K al1 H1 r' S' σ' H') : OutS K al H r' S' σ' H' := by
  obtain ⟨al', e', R', h⟩ := o
  exact ⟨al', e.trans R e', R', h⟩
theorem EndOk.of (e : Ext al H al1 H1) (R : SRel K H1 al1 S1) (h : EndOk K al H fl r' S' E) : EndOk K al1 H1 fl r' S' E := by
  cases fl with
  | nx => exact fun σ' H' o => h σ' H' (o.of e R)
  | rt d => exact fun v H' o => h v H' (Out.of (al2 := al1) e R o)
  | bk => exact fun σ' H' o => h σ' H' (o.of e R)
  | ct => exact fun σ' H' o => h σ' H' (o.of e R)
theorem bndS_eq {α : Type} {a : Rs α} {f : α → Store → Rt} {z : Fl × Sl × Store} (h : bndS a f = some z) : ∃ x T, a = some (x, T) ∧ f x T = some z := by
  unfold bndS at h
  split at h
  · exact ⟨_, _, rfl, h⟩
  · cases h
end
section
variable {X : Cx} {cl : Cl} {F k : Nat} {a b c e o i tg v : Expr} {es rest : List Expr} {xa xb xc : Ex} {xs : Exs} {pos p p2 : Pos} {t : Pt} {ys zs : Sts}
theorem sw_no {v : Expr} {tgt : Option Expr} {l : Nat} {env : Env} (h : isComp v = false) : swapsWith v tgt l env = pure false := by
  cases v <;> first | rfl | (simp [isComp] at h)
theorem sw_sub {v : Expr} {l : Nat} {env : Env} : swapsWith v (some (.Subscript o i p)) l env = pure false := by cases v <;> rfl
theorem sw_tup {v : Expr} {l : Nat} {env : Env} {kk : Nat} : swapsWith v (some (.Tuple es kk p)) l env = pure false := by cases v <;> rfl
theorem sws_sub {v o i : Expr} {p : Pos} {env : Env} : swappedStores [.Subscript o i p] v env = pure none := by
  unfold swappedStores
  rfl
theorem sws_name {v : Expr} {x : Str} {p : Pos} {env : Env} : swappedStores [.Name x p] v env = pure none := by
  unfold swappedStores
  rfl
theorem sws_tup {v : Expr} {es : List Expr} {kk : Nat} {p : Pos} {env : Env} (h : ∀ es kk p, v ≠ .Tuple es kk p) : swappedStores [.Tuple es kk p] v env = pure none := by
  unfold swappedStores
  cases v <;> first | rfl | exact absurd rfl (h _ _ _)
theorem sole {v t : Expr} {l : Nat} {env : Env} : swapsWithSole [t] v l env = swapsWith v (some t) l env := rfl
theorem asg1 {t : Expr} {env : Env} (h : ∀ x p, t ≠ .Starred x p) : (assignEach [t] env).map (·.2) = [assign t env] := by
  rw [names_each h]; rfl
/-- name or names = value -/
theorem asg_go {E : Ends} {σ : L2.St} {H : Hp} (h : TSt X.K cl F (.asg t xa) E σ H) : tAsg (TX X.K cl xa) (tgP X.K t) E σ H := by
  obtain ⟨r, S, al, fl, r', S', hr, R, h, q⟩ := h
  simp only [evS] at h
  obtain ⟨x, S1, h1, h⟩ := bndS_eq h
  split at h
  · rename_i r1 hs
    simp only [Option.some.injEq, Prod.mk.injEq] at h
    obtain ⟨rfl, rfl, rfl⟩ := h
    refine TX.go hr R h1 fun w H1 al1 e1 R1 hw => ?_
    obtain ⟨al2, e2, R2, hw'⟩ := mat_ok e1 R1 hw
    exact tgt_ok hw' (hr.mono e2) hs fun σ1 h1 _ => q σ1 H1 ⟨al2, e2, R2, h1⟩
  · cases h
theorem ps_asgX (he : PE X v (TX X.K cl xa)) (hg : PG X tg (tgP X.K t)) (hs : swapsWithSole [tg] v pos.line X.env = pure false) (hw : swappedStores [tg] v X.env = pure none) (h1 : (assignEach [tg] X.env).map (·.2) = [assign tg X.env]) : PS X (.Assign [tg] v pos) (TSt X.K cl F (.asg t xa)) :=
  PS.pick fun E σ H h => ⟨_, ps_asg he hg hs hw h1, asg_go h⟩
/-- names = a list's items -/
theorem ps_unlX {is : List Nat} (he : PE X v (TX X.K cl xa)) (hg : PG X tg (gLst X.K is.length (gAll is))) (hs : swapsWithSole [tg] v pos.line X.env = pure false) (hw : swappedStores [tg] v X.env = pure none) (h1 : (assignEach [tg] X.env).map (·.2) = [assign tg X.env]) : PS X (.Assign [tg] v pos) (TSt X.K cl F (.unl is xa)) :=
  PS.pick fun E σ H ⟨r, S, al, fl, r', S', hr, R, h, q⟩ => by
    refine ⟨_, ps_asg he hg hs hw h1, ?_⟩
    simp only [evS] at h
    obtain ⟨x, S1, g1, h⟩ := bndS_eq h
    split at h
    · rename_i ds hds
      split at h
      · rename_i hlen
        simp only [Option.some.injEq, Prod.mk.injEq] at h
        obtain ⟨rfl, rfl, rfl⟩ := h
        refine TX.go hr R g1 fun w H1 al1 e1 R1 hw => ?_
        obtain ⟨a, vs, rfl, hq, l⟩ := lstOf_ok R1 hw hds
        exact ⟨a, vs, rfl, hq, by rw [l.length]; exact hlen, all_ok hlen l (hr.mono e1) fun σ1 h1 _ => q σ1 H1 ⟨al1, e1, R1, h1⟩⟩
      · cases h
    · cases h
/-- a, b = x, y -/
theorem ps_parX {i j : Nat} {x y : Str} {a b : Expr} {px py pt : Pos} {kt k2 : Nat} {pt2 : Pos} (hc : X.calm = true) (hN : X.N.Nodup) (hi : X.N[i]? = some x) (hj : X.N[j]? = some y) (hij : i ≠ j)
    (hx : X.env.scope.names.lookup x = some .local) (hy : X.env.scope.names.lookup y = some .local) (ha : PEs X cl [a, b] xs)
    (hw : swappedStores [.Tuple [.Name x px, .Name y py] kt pt] (.Tuple [a, b] k2 pt2) X.env = pure (some [x, y])) :
    PS X (.Assign [.Tuple [.Name x px, .Name y py] kt pt] (.Tuple [a, b] k2 pt2) pos) (TSt X.K cl F (.par [i, j] xs)) :=
  PS.pick fun E σ H ⟨r, S, al, fl, r', S', hr, R, h, q⟩ => by
    refine ⟨_, ps_par hc hN hi hj hij hx hy ha.aM hw, ?_⟩
    simp only [evS] at h
    obtain ⟨ds, S1, g1, h⟩ := bndS_eq h
    split at h
    · rename_i hlen
      simp only [Option.some.injEq, Prod.mk.injEq] at h
      obtain ⟨rfl, rfl, rfl⟩ := h
      refine ⟨r, S, al, ds, S1, hr, R, g1, fun vs H1 al1 e1 R1 hv => ?_⟩
      match ds, vs, hv, hlen with
      | [d1, d2], [v1, v2], .cons h1 (.cons h2 .nil), _ => exact ⟨v1, v2, rfl, q _ H1 ⟨al1, e1, R1, ((hr.mono e1).set i h1).set j h2⟩⟩
    · cases h
theorem ps_expX (he : PE X e (TX X.K cl xa)) (hs : isComp e = false) : PS X (.Expr e pos) (TSt X.K cl F (.exp xa)) := PS.pick fun E σ H ⟨r, S, al, fl, r', S', hr, R, h, q⟩ => by
  simp only [evS] at h
  obtain ⟨x, S1, h1, h⟩ := bndS_eq h
  simp only [Option.some.injEq, Prod.mk.injEq] at h
  obtain ⟨rfl, rfl, rfl⟩ := h
  exact ⟨_, ps_expr he (sw_no hs), TX.go hr R h1 fun w H1 al1 e1 R1 hw => q σ H1 ⟨al1, e1, R1, hr.mono e1⟩⟩
theorem ps_retX (he : PE X e (TX X.K cl xa)) : PS X (.Return (some e) pos) (TSt X.K cl F (.ret xa)) := PS.pick fun E σ H ⟨r, S, al, fl, r', S', hr, R, h, q⟩ => by
  simp only [evS] at h
  obtain ⟨x, S1, h1, h⟩ := bndS_eq h
  simp only [Option.some.injEq, Prod.mk.injEq] at h
  obtain ⟨rfl, rfl, rfl⟩ := h
  exact ⟨_, ps_ret he, TX.go hr R h1 fun w H1 al1 e1 R1 hw => q w H1 ⟨al1, e1, R1, hw⟩⟩
theorem ps_retnX : PS X (.Return none pos) (TSt X.K cl F .retn) := PS.pick fun E σ H ⟨r, S, al, fl, r', S', hr, R, h, q⟩ => by
  simp only [evS, Option.some.injEq, Prod.mk.injEq] at h
  obtain ⟨rfl, rfl, rfl⟩ := h
  exact ⟨_, ps_retN, q _ _ (Out.here R .non)⟩
theorem ps_pasX : PS X (.Pass pos) (TSt X.K cl F .pas) := PS.pick fun E σ H ⟨r, S, al, fl, r', S', hr, R, h, q⟩ => by
  simp only [evS, Option.some.injEq, Prod.mk.injEq] at h
  obtain ⟨rfl, rfl, rfl⟩ := h
  exact ⟨_, ps_pass, q _ _ ⟨al, Ext.refl, R, hr⟩⟩
theorem ps_brkX : PS X (.Break pos) (TSt X.K cl F .brk) := PS.pick fun E σ H ⟨r, S, al, fl, r', S', hr, R, h, q⟩ => by
  simp only [evS, Option.some.injEq, Prod.mk.injEq] at h
  obtain ⟨rfl, rfl, rfl⟩ := h
  exact ⟨_, ps_break, q _ _ ⟨al, Ext.refl, R, hr⟩⟩
theorem ps_badX {st : Stmt} : PS X st (TSt X.K cl F .bad) := ⟨fun pins s σ H D I ⟨r, S, al, fl, r', S', hr, R, h, q⟩ => by simp [evS] at h⟩
theorem ps_cntX : PS X (.Continue pos) (TSt X.K cl F .cnt) := PS.pick fun E σ H ⟨r, S, al, fl, r', S', hr, R, h, q⟩ => by
  simp only [evS, Option.some.injEq, Prod.mk.injEq] at h
  obtain ⟨rfl, rfl, rfl⟩ := h
  exact ⟨_, ps_continue, q _ _ ⟨al, Ext.refl, R, hr⟩⟩
theorem pss_nilX : PSs X [] (TSs X.K cl F .nil) := PSs.pick fun E σ H ⟨r, S, al, fl, r', S', hr, R, h, q⟩ => by
  simp only [evSs, Option.some.injEq, Prod.mk.injEq] at h
  obtain ⟨rfl, rfl, rfl⟩ := h
  exact ⟨_, pss_nil, q _ _ ⟨al, Ext.refl, R, hr⟩⟩
theorem pss_consX {st : Stmt} {sts : List Stmt} {x : St} {xs : Sts} (h1 : PS X st (TSt X.K cl F x)) (h2 : PSs X sts (TSs X.K cl F xs)) : PSs X (st :: sts) (TSs X.K cl F (.cons x xs)) := PSs.pick fun E σ H ⟨r, S, al, fl, r', S', hr, R, h, q⟩ => by
  simp only [evSs] at h
  refine ⟨_, pss_cons h1 h2, ?_⟩
  split at h
  · rename_i r1 S1 hx
    exact ⟨r, S, al, .nx, r1, S1, hr, R, hx, fun σ1 H1 ⟨al1, e1, R1, hr1⟩ => ⟨r1, S1, al1, fl, r', S', hr1, R1, h, q.of e1 R1⟩⟩
  · rename_i hx
    refine ⟨r, S, al, fl, r', S', hr, R, h, ?_⟩
    cases fl with
    | nx => exact absurd h (hx _ _)
    | rt d => exact q
    | bk => exact q
    | ct => exact q
theorem ps_ifX {as bs : List Stmt} (hc : PT X c (TB X.K cl xc)) (ha : PSs X as (TSs X.K cl F ys)) (hb : PSs X bs (TSs X.K cl F zs)) : PS X (.If c as bs pos) (TSt X.K cl F (.ife xc ys zs)) := PS.pick fun E σ H ⟨r, S, al, fl, r', S', hr, R, h, q⟩ => by
  simp only [evS] at h
  obtain ⟨x, S1, h1, h⟩ := bndS_eq h
  refine ⟨_, ps_if hc ha hb, ?_⟩
  split at h
  · refine TB.go hr R h1 fun H1 al1 e1 R1 => ?_
    rw [if_pos rfl]
    exact ⟨r, S1, al1, fl, r', S', hr.mono e1, R1, h, q.of e1 R1⟩
  · refine TB.go hr R h1 fun H1 al1 e1 R1 => ?_
    rw [if_neg (by decide)]
    exact ⟨r, S1, al1, fl, r', S', hr.mono e1, R1, h, q.of e1 R1⟩
  · cases h
/-- o[lo:hi] = .. -/
def gSlc (to tl th : TE) : TG := fun v σ H Q => to σ H fun ov H1 => tl σ H1 fun l H2 => th σ H2 fun u H3 => ∃ (a b : Addr) (xs ys : List V) (i j : Int), ov = .ref a ∧ v = .ref b ∧ a ≠ b ∧ H3 a = some (.lst xs) ∧ H3 b = some (.lst ys) ∧ l = .int i ∧ u = .int j ∧ 0 ≤ i ∧ i ≤ j ∧ j ≤ xs.length ∧
  xs.length + ys.length ≤ sizeLine ∧ Q σ (upd H3 a (.lst (xs.take i.toNat ++ ys ++ xs.drop j.toNat)))
theorem pg_slc {to tl th : TE} {lo hi : Expr} {p2 : Pos} (ho : PE X o to) (hl : PE X lo tl) (hu : PE X hi th) : PG X (.Subscript o (.Slice (some lo) (some hi) none p2) p) (gSlc to tl th) := by
  refine ⟨fun pins s σ H v u Q I r h => ?_⟩
  show wpAny _ _ (do
    let ov ← holding [u] (eval o X.env)
    let iv ← holding [u, ov] (eval (.Slice (some lo) (some hi) none p2) X.env)
    standAt p
    holding [u, ov, iv] (setItem ov iv u)
    release [iv, u, ov] []) _ _ _
  refine wpAny_bind (wpAny_holding (thn (ho.run pins s σ H _ I h) fun ov s1 ⟨x, H1, I1, r1, q1⟩ => ?_))
  refine wpAny_bind (wpAny_holding (wpAny_Slice ?_))
  rw [evalPart_some]
  refine thn (hl.run pins s1 σ H1 _ I1 q1) fun vl s2 ⟨l, H2, I2, rl, q2⟩ => ?_
  rw [evalPart_some]
  refine thn (hu.run pins s2 σ H2 _ I2 q2) fun vu s3 ⟨w, H3, I3, ru, q3⟩ => ?_
  rw [evalPart_none]
  refine wpAny_pure ?_
  obtain ⟨a, b, xs, ys, i, j, rfl, rfl, hab, ha, hb, rfl, rfl, h0, h1, h2, hz, q⟩ := q3
  cases r1
  cases r
  have I4 : Inv X pins σ H3 { s3 with heap := s3.heap.push { cls := .type "slice", data := .fields #[vl, vu, .none] } } := I3.kept (t' := s3.toks) fun b ob q => Heap.get?_push_of_some _ q
  refine wpAny_bind (wpAny_standAt (wpAny_bind (wpAny_holding (set_slice I4 ha hb hab (Heap.IsSliceOf.new ..) rl ru h0 h1 h2 hz fun s' I5 => ?_))))
  exact wpAny_release ⟨σ, _, I5, q⟩
theorem slwS_eq {S S' : Store} {oo ll hh vv : D} (h : slwS oo ll hh vv S = some S') : ∃ (n m : Nat) (i j : Int) (xs ys : List D), oo = .ref n ∧ ll = .int i ∧ hh = .int j ∧ vv = .ref m ∧ S[n]? = some (.lst xs) ∧ S[m]? = some (.lst ys) ∧ (n ≠ m ∧ 0 ≤ i ∧ i ≤ j ∧ j ≤ xs.length ∧ xs.length + ys.length ≤ sizeLine) ∧
    S' = S.set n (.lst (xs.take i.toNat ++ ys ++ xs.drop j.toNat)) := by
  unfold slwS at h
  split at h
  · split at h
    · split at h
      · simp only [Option.some.injEq] at h
        exact ⟨_, _, _, _, _, _, rfl, rfl, rfl, rfl, by assumption, by assumption, by assumption, h.symm⟩
      · cases h
    · cases h
  · cases h
theorem ps_slwX {lo hi : Expr} {xl xh : Ex} {p2 : Pos} (hv : PE X v (TX X.K cl xa)) (ho : PE X o (TX X.K cl xb)) (hl : PE X lo (TX X.K cl xl)) (hh : PE X hi (TX X.K cl xh)) : PS X (.Assign [.Subscript o (.Slice (some lo) (some hi) none p2) p] v pos) (TSt X.K cl F (.slw xb xl xh xa)) := PS.pick fun E σ H ⟨r, S, al, fl, r', S', hr, R, h, q⟩ => by
  simp only [evS] at h
  obtain ⟨x, S1, h1, h⟩ := bndS_eq h
  obtain ⟨y, S2, h2, h⟩ := bndS_eq h
  obtain ⟨z, S3, h3, h⟩ := bndS_eq h
  obtain ⟨z2, S4, h4, h⟩ := bndS_eq h
  cases hx : slwS y z z2 (mat x S1).1 S4 with
  | none => rw [hx] at h; cases h
  | some S5 =>
    rw [hx] at h
    simp only [Option.some.injEq, Prod.mk.injEq] at h
    obtain ⟨rfl, rfl, rfl⟩ := h
    obtain ⟨n, m, i, j, xs, ys, rfl, rfl, rfl, hmx, hc, hd, ⟨hne, b0, b1, b2, b3⟩, rfl⟩ := slwS_eq hx
    refine ⟨_, ps_asg hv (pg_slc ho hl hh) (sole.trans sw_sub) sws_sub (asg1 fun _ _ z => nomatch z), TX.go hr R h1 fun w H1 al1 e1 R1 hw => ?_⟩
    obtain ⟨al1', e1', R1', hw'⟩ := mat_ok e1 R1 hw
    refine TX.go (hr.mono e1') R1' h2 fun u H2 al2 e2 R2 hu => TX.go ((hr.mono e1').mono e2) R2 h3 fun s H3 al3 e3 R3 hsi => TX.go (((hr.mono e1').mono e2).mono e3) R3 h4 fun s4 H4 al4 e4 R4 hsj => ?_
    obtain ⟨p1, vs, rfl, qa, hp, l⟩ := cell_lst R4 ((hu.mono e3).mono e4) hc
    have hw4 := (((hw'.mono e2).mono e3).mono e4)
    rw [hmx] at hw4
    obtain ⟨p2', vs2, rfl, qb, hp2, l2⟩ := cell_lst (H0 := H4) R4 (.inl hw4) hd
    have E4 := ((e1'.trans R1' e2).trans R2 e3).trans R3 e4
    have hpp : p1 ≠ p2' := fun e => hne (R4.inj n m p1 qa (by rw [qb, e]))
    refine ⟨p1, p2', vs, vs2, i, j, rfl, rfl, hpp, hp, hp2, (hsi.mono e4).int_of, hsj.int_of, b0, b1, by rw [l.length]; exact b2, by rw [l.length, l2.length]; exact b3, ?_⟩
    have mm : (true, p1) ∈ al4 := List.mem_iff_getElem?.mpr ⟨n, qa⟩
    have e5 : Ext al4 H4 al4 (upd H4 p1 (.lst (vs.take i.toNat ++ vs2 ++ vs.drop j.toNat))) := Ext.write mm R4
    exact q σ _ ⟨al4, E4.trans R4 e5, R4.write qa ⟨rfl, _, upd_same, ((((l.take _).append l2).append (l.drop _)).mono e5)⟩, (hr.mono E4).mono e5⟩
/-- o[i] = e -/
theorem ps_sixX (hrm : Room k X.A) (hv : PE X v (TX X.K cl xa)) (ho : PE X o (TX X.K cl xb)) (hi : PE X i (TX X.K cl xc)) (hs : ∀ lo hi st p, i ≠ .Slice lo hi st p) : PS X (.Assign [.Subscript o i p] v pos) (TSt X.K cl F (.six xb xc xa)) := PS.pick fun E σ H ⟨r, S, al, fl, r', S', hr, R, h, q⟩ => by
  simp only [evS] at h
  obtain ⟨x, S1, h1, h⟩ := bndS_eq h
  obtain ⟨y, S2, h2, h⟩ := bndS_eq h
  obtain ⟨z, S3, h3, h⟩ := bndS_eq h
  split at h
  · rename_i S4 hx
    simp only [Option.some.injEq, Prod.mk.injEq] at h
    obtain ⟨rfl, rfl, rfl⟩ := h
    unfold sixS at hx
    split at hx
    · rename_i n
      split at hx
      · rename_i ls hc
        split at hx
        · split at hx
          · rename_i kk j hj
            simp only [Option.some.injEq] at hx
            subst hx
            have hasn : ∀ w, assign (.Subscript o i p) X.env w = (do
                let ov ← holding [w] (eval o X.env)
                let iv ← holding [w, ov] (eval i X.env)
                standAt p
                holding [w, ov, iv] (setItem ov iv w)
                release [w, ov, iv] []) := fun w => by cases i <;> first | rfl | exact absurd rfl (hs _ _ _ _)
            refine ⟨_, ps_asg hv (pg_sub ho hi set_list hasn) (sole.trans sw_sub) sws_sub (asg1 fun _ _ z => nomatch z), TX.go hr R h1 fun w H1 al1 e1 R1 hw => ?_⟩
            obtain ⟨al1', e1', R1', hw'⟩ := mat_ok e1 R1 hw
            refine TX.go (hr.mono e1') R1' h2 fun u H2 al2 e2 R2 hu => TX.go ((hr.mono e1').mono e2) R2 h3 fun s H3 al3 e3 R3 hsi => ?_
            obtain ⟨p, vs, rfl, qa, hp, l⟩ := cell_lst R3 (hu.mono e3) hc
            have E3 := (e1'.trans R1' e2).trans R2 e3
            refine ⟨p, vs, _, j, rfl, hsi.int_of, hp, by rw [l.length]; exact hj, ?_⟩
            have m : (true, p) ∈ al3 := List.mem_iff_getElem?.mpr ⟨n, qa⟩
            have e4 : Ext al3 H3 al3 (upd H3 p (.lst (vs.set j w))) := Ext.write m R3
            exact q σ _ ⟨al3, E3.trans R3 e4, R3.write qa ⟨rfl, _, upd_same, (l.set j ((hw'.mono e2).mono e3)).mono e4⟩, (hr.mono E3).mono e4⟩
          · cases hx
        · cases hx
      · rename_i kvs hc
        split at hx
        · rename_i ky hk
          split at hx
          · rename_i hz
            simp only [Option.some.injEq] at hx
            subst hx
            refine ⟨_, ps_dput (hu_of hrm) ho hi hv sw_sub, TX.go hr R h1 fun w H1 al1 e1 R1 hw => ?_⟩
            obtain ⟨al1', e1', R1', hw'⟩ := mat_ok e1 R1 hw
            refine TX.go (hr.mono e1') R1' h2 fun u H2 al2 e2 R2 hu => TX.go ((hr.mono e1').mono e2) R2 h3 fun s H3 al3 e3 R3 hsi => ?_
            obtain ⟨p, ws, rfl, qa, hp, l⟩ := cell_dic R3 (hu.mono e3) hc
            have E3 := (e1'.trans R1' e2).trans R2 e3
            have m : (true, p) ∈ al3 := List.mem_iff_getElem?.mpr ⟨n, qa⟩
            have e4 : Ext al3 H3 al3 (upd H3 p (.dK (putK ws ky w))) := Ext.write m R3
            refine ⟨p, _, rfl, ?_, q σ _ ⟨al3, E3.trans R3 e4, R3.write qa ?_, (hr.mono E3).mono e4⟩⟩
            · rw [keyOf_kV hsi hk]
              exact DPut.k hp (by rw [l.length]; exact hz)
            · have := (l.put ky ((hw'.mono e2).mono e3)).up e4
              exact ⟨rfl, _, upd_same, this.1, this.2⟩
          · cases hx
        · cases hx
      · cases hx
    · cases hx
  · cases h
/-! ### loops -/
theorem ps_forX {ik : IK} {body : List Stmt} (hzp : ik = .zip → ∃ is, t = .tp is) (hp : PassesOwn (model X.prog X.w) X.A X.env X.xe) (hc : X.calm = true) (hi : PI X tg e (TIt X.K cl ik xs)) (hg : PG X tg (tgP X.K t)) (hb : PSs X body (TSs X.K cl F ys)) (hs : ∀ es kk p, e ≠ .Set es kk p) :
    PS X (.For tg e body [] pos) (TSt X.K cl F (.forr ik xs t ys)) := PS.pick fun E σ H ⟨r, S, al, fl, r', S', hr, R, h, q⟩ => by
  simp only [evS] at h
  obtain ⟨ds, S1, h1, h⟩ := bndS_eq h
  split at h
  · rename_i items ws hit
    refine ⟨_, ps_for hp hc hi hg hb (noset hs X.env), r, S, al, ds, S1, items, ws, hr, R, h1, hit, fun J H1 al1 e1 R1 ok hz => ?_⟩
    refine ⟨fun i m σc Hc => m = items.length - i ∧ i ≤ items.length ∧ ∃ alc Sc rc, Ext al1 H1 alc Hc ∧ SRel X.K Hc alc Sc ∧ RelE X.K Hc alc rc σc ∧ forL ws t (evSs cl F ys) (items.drop i) rc Sc = some (fl, r', S'),
      ⟨items.length, rfl, Nat.zero_le _, al1, S1, r, Ext.refl, R1, hr.mono e1, h⟩, ?_⟩
    rintro i m σc Hc ⟨rfl, hil, alc, Sc, rc, ec, Rc, hrc, hl⟩
    have q1 := EndOk.of (e1.trans R1 ec) Rc q
    by_cases hlt : i < items.length
    · rw [List.drop_eq_getElem_cons hlt] at hl
      simp only [forL] at hl
      split at hl
      · rename_i hw
        split at hl
        · rename_i r1 hr1
          obtain ⟨jgo, jy⟩ := ok.go Hc alc Sc i _ ec Rc hw (List.getElem?_eq_getElem hlt)
          refine .inr ⟨jgo, _, fun σ' H' n => ⟨items.length - (i + 1), by omega, n⟩, fun x H2 yl => ?_⟩
          obtain ⟨e2, R2, hx, _⟩ := jy x H2 yl
          have E2 := ec.trans Rc e2
          refine tgt_okI hzp hx (hrc.mono e2) hr1 fun σ1 hrs _ => ?_
          have nxt : ∀ {r2 : Sl} {S2 : Store}, forL ws t (evSs cl F ys) (items.drop (i + 1)) r2 S2 = some (fl, r', S') → ∀ σ' H', OutS X.K alc H2 r2 S2 σ' H' →
              items.length - (i + 1) = items.length - (i + 1) ∧ i + 1 ≤ items.length ∧ ∃ alc Sc rc, Ext al1 H1 alc H' ∧ SRel X.K H' alc Sc ∧ RelE X.K H' alc rc σ' ∧ forL ws t (evSs cl F ys) (items.drop (i + 1)) rc Sc = some (fl, r', S') :=
            fun {r2 S2} hf σ' H' ⟨al3, e3, R3, h3⟩ => ⟨rfl, hlt, al3, S2, r2, E2.trans R2 e3, R3, h3, hf⟩
          split at hl
          · rename_i r2 S2 hb2
            exact ⟨r1, Sc, alc, .nx, r2, S2, hrs, R2, hb2, nxt hl⟩
          · rename_i r2 S2 hb2
            exact ⟨r1, Sc, alc, .ct, r2, S2, hrs, R2, hb2, nxt hl⟩
          · rename_i r2 S2 hb2
            simp only [Option.some.injEq, Prod.mk.injEq] at hl
            obtain ⟨rfl, rfl, rfl⟩ := hl
            exact ⟨r1, Sc, alc, .bk, r2, S2, hrs, R2, hb2, fun σ' H' oo => q1 σ' H' (oo.of e2 R2)⟩
          · rename_i vv r2 S2 hb2
            simp only [Option.some.injEq, Prod.mk.injEq] at hl
            obtain ⟨rfl, rfl, rfl⟩ := hl
            exact ⟨r1, Sc, alc, .rt vv, r2, S2, hrs, R2, hb2, fun v' H' oo => q1 v' H' (Out.of (al2 := alc) e2 R2 oo)⟩
          · cases hl
        · cases hl
      · cases hl
    · have ee : i = items.length := by omega
      subst ee
      rw [List.drop_length] at hl
      simp only [forL] at hl
      split at hl
      · rename_i hw
        simp only [Option.some.injEq, Prod.mk.injEq] at hl
        obtain ⟨rfl, rfl, rfl⟩ := hl
        exact .inl ⟨ok.stop Hc alc Sc ec Rc hw, q1 _ _ ⟨alc, Ext.refl, Rc, hrc⟩⟩
      · cases hl
  · cases h
theorem ps_whlX {body : List Stmt} (hp : PassesOwn (model X.prog X.w) X.A X.env X.xe) (hc : PT X c (TB X.K cl xc)) (hb : PSs X body (TSs X.K cl F ys)) : PS X (.While c body [] pos) (TSt X.K cl F (.whl xc ys)) := PS.pick fun E σ H ⟨r, S, al, fl, r', S', hr, R, h, q⟩ => by
  simp only [evS] at h
  refine ⟨_, ps_while hp hc hb, fun m σc Hc => ∃ alc Sc rc, Ext al H alc Hc ∧ SRel X.K Hc alc Sc ∧ RelE X.K Hc alc rc σc ∧ whlL (evE cl xc) (evSs cl F ys) m rc Sc = some (fl, r', S'), ⟨F, al, S, r, Ext.refl, R, hr, h⟩, ?_⟩
  rintro m σc Hc ⟨alc, Sc, rc, ec, Rc, hrc, hl⟩
  have q1 := EndOk.of ec Rc q
  cases m with
  | zero => simp [whlL] at hl
  | succ m =>
    simp only [whlL] at hl
    split at hl
    · rename_i S1 hcc
      refine TB.go hrc Rc hcc fun H1 al1 e1 R1 => ?_
      rw [if_pos rfl]
      refine ⟨_, fun σ' H' n => ⟨m, Nat.lt_succ_self _, n⟩, ?_⟩
      have nxt : ∀ {r2 : Sl} {S2 : Store}, whlL (evE cl xc) (evSs cl F ys) m r2 S2 = some (fl, r', S') → ∀ σ' H', OutS X.K al1 H1 r2 S2 σ' H' →
          ∃ alc Sc rc, Ext al H alc H' ∧ SRel X.K H' alc Sc ∧ RelE X.K H' alc rc σ' ∧ whlL (evE cl xc) (evSs cl F ys) m rc Sc = some (fl, r', S') :=
        fun {r2 S2} hf σ' H' ⟨al3, e3, R3, h3⟩ => ⟨al3, S2, r2, (ec.trans Rc e1).trans R1 e3, R3, h3, hf⟩
      have hr1 := hrc.mono e1
      split at hl
      · rename_i r2 S2 hb2
        exact ⟨rc, S1, al1, .nx, r2, S2, hr1, R1, hb2, nxt hl⟩
      · rename_i r2 S2 hb2
        exact ⟨rc, S1, al1, .ct, r2, S2, hr1, R1, hb2, nxt hl⟩
      · rename_i r2 S2 hb2
        simp only [Option.some.injEq, Prod.mk.injEq] at hl
        obtain ⟨rfl, rfl, rfl⟩ := hl
        exact ⟨rc, S1, al1, .bk, r2, S2, hr1, R1, hb2, fun σ' H' oo => q1 σ' H' (oo.of e1 R1)⟩
      · rename_i vv r2 S2 hb2
        simp only [Option.some.injEq, Prod.mk.injEq] at hl
        obtain ⟨rfl, rfl, rfl⟩ := hl
        exact ⟨rc, S1, al1, .rt vv, r2, S2, hr1, R1, hb2, fun v' H' oo => q1 v' H' (Out.of (al2 := al1) e1 R1 oo)⟩
      · cases hl
    · rename_i S1 hcc
      simp only [Option.some.injEq, Prod.mk.injEq] at hl
      obtain ⟨rfl, rfl, rfl⟩ := hl
      refine TB.go hrc Rc hcc fun H1 al1 e1 R1 => ?_
      rw [if_neg (by decide)]
      exact q1 _ _ ⟨al1, e1, R1, hrc.mono e1⟩
    · cases hl
end
end Rf

/-! Rf: the translation is sound: expressions. -/
namespace Rf
open PySem L2
section
variable {G : Cfg} {cl : Cl} {k : Nat} {sc : Scope} {X : Cx}
theorem isLoc_cases {s : Scope} {x : Str} (h : isLoc s x = true) : s.names.lookup x = some .local ∨ s.names.lookup x = some .cell := by
  unfold isLoc at h
  split at h
  · exact .inl (by assumption)
  · exact .inr (by assumption)
  · cases h
theorem isVis_cases {s : Scope} {x : Str} (h : isVis s x = true) : Vis s x := by
  unfold isVis at h
  split at h
  · exact .inl (by assumption)
  · exact .inr (.inl (by assumption))
  · exact .inr (.inr (by assumption))
  · cases h
/-- a comprehension's block -/
theorem Gd.blk (gd : Gd G cl k sc X) (scope : Scope) (s : Shared) (H : Hp) (C : Addr) (cc : List (Str × Addr)) (fp : List Addr) : Gd G cl k (relS scope sc) (X.blk s H scope (compEnvC scope cc C X.env) fp) :=
  ⟨gd.N, gd.nd, by
    show relabel scope X.env = relS scope sc
    rw [← gd.sc]
    rfl, gd.calm, gd.room, gd.gu, gd.bl, gd.fns, gd.cs, gd.dc⟩
theorem tgOk_blk (gd : Gd G cl k sc X) (scope : Scope) (s : Shared) (H : Hp) (C : Addr) (cc : List (Str × Addr)) (fp : List Addr) : TgOk (X.blk s H scope (compEnvC scope cc C X.env) fp) scope := fun x hx => by
  have sc' : (X.blk s H scope (compEnvC scope cc C X.env) fp).env.scope = relS scope sc := (gd.blk scope s H C cc fp).sc
  rw [sc']
  rcases isLoc_cases hx with h | h
  · have := lookup_relS_keep (sc := sc) (k := .local) (by decide) h
    exact ⟨.inl this, .inr this⟩
  · have := lookup_relS_keep (sc := sc) (k := .cell) (by decide) h
    refine ⟨.inr this, .inl ?_⟩
    show (scope.names.lookup x == some .cell) = true
    rw [h]; rfl
theorem own_mem {N : List Str} {scope : Scope} {x : Str} {i : Nat} (h : isLoc scope x = true) (hi : N.idxOf? x = some i) : i ∈ (ownOf N scope).map (·.2) := by
  refine List.mem_map.mpr ⟨(x, i), ?_, rfl⟩
  unfold ownOf
  refine List.mem_filterMap.mpr ?_
  rcases isLoc_cases h with h | h
  · exact ⟨(x, .local), PySem.mem_of_lookup h, by simp [hi]⟩
  · exact ⟨(x, .cell), PySem.mem_of_lookup h, by simp [hi]⟩
theorem own_pt {N : List Str} {scope : Scope} {tg : Expr} {t : Pt} (h : trPt N scope tg = some t) : ∀ i ∈ ptIn t, i ∈ (ownOf N scope).map (·.2) := by
  cases tg with
  | Name x p =>
    simp only [trPt] at h
    split at h
    · rename_i hl
      simp only [Option.map_eq_some_iff] at h
      obtain ⟨i, hi, rfl⟩ := h
      intro j hj
      simp only [ptIn, List.mem_singleton] at hj
      subst hj
      exact own_mem hl hi
    · cases h
  | Tuple es kk p =>
    simp only [trPt, Option.map_eq_some_iff] at h
    obtain ⟨is, hi, rfl⟩ := h
    have all : ∀ {es : List Expr} {is : List Nat}, mapO (trN N scope) es = some is → ∀ i ∈ is, i ∈ (ownOf N scope).map (·.2) := by
      intro es
      induction es with
      | nil => intro is h; simp [mapO] at h; subst h; intro i hi; simp at hi
      | cons e es ih =>
        intro is h
        obtain ⟨i, t, h1, h2, rfl⟩ := mapO_some h
        intro j hj
        rcases List.mem_cons.mp hj with rfl | hj
        · obtain ⟨x, p, _, hl, hx⟩ := trN_name h1
          exact own_mem hl hx
        · exact ih h2 j hj
    exact all hi
  | _ => simp [trPt] at h
/-- what is shown at each depth -/
structure Snd (G : Cfg) (cl : Cl) (k : Nat) (n : Nat) : Prop where
  e : ∀ {sc : Scope} {X : Cx} {e : Expr} {x : Ex}, Gd G cl k sc X → trE G n sc e = some x → PE X e (TX X.K cl x)
  t : ∀ {sc : Scope} {X : Cx} {e : Expr} {x : Ex}, Gd G cl k sc X → trE G n sc e = some x → PT X e (TB X.K cl x)
  es : ∀ {sc : Scope} {X : Cx} {es : List Expr} {xs : Exs}, Gd G cl k sc X → trEs G n sc es = some xs → PEs X cl es xs
  b : ∀ {sc : Scope} {X : Cx} {op : BoolOp} {vs : List Expr} {x : Ex} {pos : Pos}, Gd G cl k sc X → trB G n sc op vs = some x → PE X (.BoolOp op vs pos) (TX X.K cl x)
  w : ∀ {sc : Scope} {X : Cx} {op : BoolOp} {vs : List Expr} {x : Ex} {pos : Pos}, Gd G cl k sc X → trB G n sc op vs = some x → PW X (.BoolOp op vs pos) (TB X.K cl x)
  o : ∀ {sc : Scope} {X : Cx} {lo : Option Expr} {x : Ex}, Gd G cl k sc X → trO G n sc lo = some x → (lo = none ∧ isNop x = true) ∨ ∃ e, lo = some e ∧ isNop x = false ∧ PE X e (TX X.K cl x)
  c : ∀ {sc : Scope} {X : Cx} {ifs : List Expr} {x : Ex}, Gd G cl k sc X → trC G n sc ifs = some x → PTs X ifs (TB X.K cl x)
  i : ∀ {sc : Scope} {X : Cx} {e tg : Expr} {ik : IK} {as : Exs}, Gd G cl k sc X → trI G n sc tg e = some (ik, as) → PI X tg e (TIt X.K cl ik as) ∧ ∀ es kk p, e ≠ .Set es kk p
theorem isDc_eq {G : Cfg} {sc : Scope} {e : Expr} {kvs : List (Str × Int)} (h : isDc G sc e = some kvs) : ∃ x p, e = .Name x p ∧ plainName x = true ∧ isGl sc x = true ∧ G.dc.lookup x = some kvs := by
  unfold isDc at h
  split at h
  · split at h
    · rename_i hc
      simp only [Bool.and_eq_true] at hc
      exact ⟨_, _, rfl, hc.2, hc.1, h⟩
    · cases h
  · cases h
theorem isZip_eq {G : Cfg} {sc : Scope} {tg e a b : Expr} (h : isZip G sc tg e = some (a, b)) : ∃ es kk tp p pos, tg = .Tuple es kk tp ∧ e = .Call (.Name "zip" p) [a, b] [] pos ∧ isBl G sc "zip" = true := by
  unfold isZip at h
  split at h
  · split at h
    · split at h
      · rename_i hc
        simp only [Bool.and_eq_true] at hc
        cases h
        have := eq_of_beq hc.1
        subst this
        exact ⟨_, _, _, _, _, rfl, rfl, hc.2⟩
      · cases h
    · cases h
  · cases h
theorem isSet_eq {G : Cfg} {sc : Scope} {x : Str} {e b : Expr} (h : isSet G sc x e = some b) : ∃ p pos, e = .Call (.Name "set" p) [b] [] pos ∧ x = "sorted" ∧ isBl G sc "set" = true := by
  unfold isSet at h
  split at h
  · split at h
    · rename_i hc
      simp only [Bool.and_eq_true] at hc
      cases h
      have := eq_of_beq hc.2.1
      subst this
      exact ⟨_, _, rfl, eq_of_beq hc.1, hc.2.2⟩
    · cases h
  · cases h
theorem isTz_eq {G : Cfg} {sc : Scope} {x : Str} {e : Expr} {u v : Expr} (h : isTz G sc x e = some (u, v)) : ∃ p pos, e = .Call (.Name "zip" p) [u, v] [] pos ∧ x = "tuple" ∧ isBl G sc "zip" = true := by
  unfold isTz at h
  split at h
  · split at h
    · rename_i hc
      simp only [Bool.and_eq_true] at hc
      cases h
      have := eq_of_beq hc.2.1
      subst this
      exact ⟨_, _, rfl, eq_of_beq hc.1, hc.2.2⟩
    · cases h
  · cases h
theorem isLs_eq {G : Cfg} {sc : Scope} {x : Str} {e b : Expr} (h : isLs G sc x e = some b) : ∃ p pos, e = .Call (.Name "set" p) [b] [] pos ∧ x = "len" ∧ isBl G sc "set" = true := by
  unfold isLs at h
  split at h
  · split at h
    · rename_i hc
      simp only [Bool.and_eq_true] at hc
      cases h
      have := eq_of_beq hc.2.1
      subst this
      exact ⟨_, _, rfl, eq_of_beq hc.1, hc.2.2⟩
    · cases h
  · cases h
theorem zip_tp {G : Cfg} {n : Nat} {sc : Scope} {N : List Str} {sc2 : Scope} {tg e : Expr} {ik : IK} {as : Exs} {t : Pt} (h : trI G n sc tg e = some (ik, as)) (ht : trPt N sc2 tg = some t) : ik = .zip → ∃ is, t = .tp is := fun hz => by
  subst hz
  cases n with
  | zero => simp [trI] at h
  | succ n =>
    simp only [trI] at h
    split at h
    · simp [Option.map_eq_some_iff] at h
    · split at h
      · rename_i hzz
        unfold isZip at hzz
        split at hzz
        · split at hzz
          · simp only [trPt, Option.map_eq_some_iff] at ht
            obtain ⟨is, _, rfl⟩ := ht
            exact ⟨is, rfl⟩
          · cases hzz
        · cases hzz
      · simp [Option.map_eq_some_iff] at h
theorem isMaxd_eq {G : Cfg} {sc : Scope} {f a : Expr} {args : List Expr} {kws : List Keyword} {k : Int} (h : isMaxd G sc f args kws = some (a, k)) :
    ∃ p u kp kq, f = .Name "max" p ∧ args = [a] ∧ kws = [⟨some "default", .Constant (.int k) u kp, kq⟩] ∧ isBl G sc "max" = true := by
  unfold isMaxd at h
  split at h
  · split at h
    · rename_i hc
      simp only [Bool.and_eq_true] at hc
      cases h
      have h1 := eq_of_beq hc.1
      have h2 := eq_of_beq hc.2.1
      subst h1 h2
      exact ⟨_, _, _, _, rfl, rfl, rfl, hc.2.2⟩
    · cases h
  · cases h
theorem tr_star {n : Nat} {e : Expr} {x : Ex} (h : trE G n sc e = some x) : ∀ a p, e ≠ .Starred a p := fun a p z => by
  subst z
  cases n <;> simp [trE] at h
theorem tr_set {n : Nat} {e : Expr} {x : Ex} (h : trE G n sc e = some x) : ∀ es kk p, e ≠ .Set es kk p := fun a b p z => by
  subst z
  cases n <;> simp [trE] at h
theorem two_some {α β γ : Type} {a : Option α} {b : Option β} {f : α → β → γ} {z : γ} (h : (match a, b with | some x, some y => some (f x y) | _, _ => none) = some z) : ∃ x y, a = some x ∧ b = some y ∧ f x y = z := by
  cases a <;> cases b <;> simp at h
  exact ⟨_, _, rfl, rfl, h⟩
theorem three_some {α β γ δ : Type} {a : Option α} {b : Option β} {c : Option γ} {f : α → β → γ → δ} {z : δ} (h : (match a, b, c with | some x, some y, some w => some (f x y w) | _, _, _ => none) = some z) : ∃ x y w, a = some x ∧ b = some y ∧ c = some w ∧ f x y w = z := by
  cases a <;> cases b <;> cases c <;> simp at h
  exact ⟨_, _, _, rfl, rfl, rfl, h⟩
theorem isRange_eq {e : Expr} {rs : List Expr} (h : isRange G sc e = some rs) : ∃ p pos, e = .Call (.Name "range" p) rs [] pos ∧ isBl G sc "range" = true ∧ ((∃ a, rs = [a]) ∨ ∃ a b, rs = [a, b]) := by
  unfold isRange at h
  split at h
  · split at h
    · rename_i hc
      simp only [Bool.and_eq_true, Bool.or_eq_true, beq_iff_eq] at hc
      obtain ⟨⟨h1, h2⟩, h3⟩ := hc
      subst h1
      cases h
      refine ⟨_, _, rfl, h2, ?_⟩
      rcases h3 with h3 | h3
      · exact .inl (List.length_eq_one_iff.mp h3)
      · match rs, h3 with
        | [a, b], _ => exact .inr ⟨a, b, rfl⟩
    · cases h
  · cases h
theorem isBl_parts {x : Str} (h : isBl G sc x = true) : isGl sc x = true ∧ G.bl.contains x = true ∧ plainName x = true := by
  unfold isBl at h
  simp only [Bool.and_eq_true] at h
  exact ⟨h.1.1, h.1.2, h.2⟩
theorem stepE {n : Nat} (P : Snd G cl k n) (gd : Gd G cl k sc X) {e : Expr} {x : Ex} (h : trE G (n + 1) sc e = some x) : PE X e (TX X.K cl x) := by
  cases e with
  | Name y pos =>
    simp only [trE] at h
    split at h
    · rename_i hp
      obtain ⟨n1, n2, n3⟩ := nm_of hp
      split at h
      · rename_i hv
        simp only [Option.map_eq_some_iff] at h
        obtain ⟨i, hi, rfl⟩ := h
        refine px_var ?_ ?_ n1 n2
        · rw [gd.N]; exact idx_get hi
        · rw [gd.sc]; exact isVis_cases hv
      · split at h
        · rename_i hg
          simp only [Option.map_eq_some_iff] at h
          obtain ⟨d, hd, rfl⟩ := h
          obtain ⟨v, u, hm, hu, hdn⟩ := gd.cs y d hd
          exact px_cst (pe_glob (gl_of gd hg) hm hu n1) hdn
        · cases h
    · cases h
  | Constant c j pos =>
    simp only [trE] at h
    split at h
    · cases h; exact px_cst pe_non fun _ _ => .non
    · cases h; exact px_cst pe_bl fun _ _ => .bl _
    · cases h; exact px_cst pe_int fun _ _ => .int _
    · cases h; exact px_cst pe_str fun _ _ => .str _
    · cases h
  | BinOp a op b pos =>
    simp only [trE] at h
    split at h
    case h_2 => cases h
    rename_i h1 h2
    cases h
    exact px_bin (P.e gd h1) (P.e gd h2)
  | UnaryOp op a pos =>
    simp only [trE] at h
    split at h
    · simp only [Option.map_eq_some_iff] at h
      obtain ⟨u, h1, rfl⟩ := h
      exact px_neg (P.e gd h1)
    · simp only [Option.map_eq_some_iff] at h
      obtain ⟨u, h1, rfl⟩ := h
      exact px_not (P.e gd h1)
    · cases h
  | Compare a ops bs pos =>
    simp only [trE] at h
    split at h
    · split at h
      · cases h
      · rename_i hm
        split at h
        · rename_i kvs hk
          split at h
          · simp only [Option.map_eq_some_iff] at h
            obtain ⟨u, h1, rfl⟩ := h
            obtain ⟨y, py, rfl, hp, hg, hl⟩ := isDc_eq hk
            exact px_dcin gd hp hg hl (P.e gd h1) (by simpa using hm)
          · cases h
        · split at h
          case h_2 => cases h
          rename_i h1 h2
          cases h
          exact px_cmp gd.room (P.e gd h1) (P.e gd h2) (by simpa using hm)
    · split at h
      · rename_i h1 h2 h3
        split at h
        all_goals first
          | (cases h; exact px_chn gd.room (P.e gd h1) (P.e gd h2) (P.e gd h3) (by decide) (by decide))
          | cases h
      · cases h
    · cases h
  | BoolOp op vs pos =>
    simp only [trE] at h
    exact P.b gd h
  | IfExp c a b pos =>
    simp only [trE] at h
    split at h
    case h_2 => cases h
    rename_i h1 h2 h3
    cases h
    exact px_ite (P.t gd h1) (P.e gd h2) (P.e gd h3)
  | Tuple es kk pos =>
    simp only [trE] at h
    split at h
    · rename_i hz
      simp only [Option.map_eq_some_iff] at h
      obtain ⟨u, h1, rfl⟩ := h
      have q := P.es gd h1
      exact px_tup q.aM (by rw [q.len, sizeLine_eq]; omega)
    · cases h
  | List es pos =>
    simp only [trE] at h
    split at h
    · rename_i hz
      simp only [Option.map_eq_some_iff] at h
      obtain ⟨u, h1, rfl⟩ := h
      have q := P.es gd h1
      exact px_lis q.aM (by rw [q.len, sizeLine_eq]; omega)
    · cases h
  | Subscript o i pos =>
    simp only [trE] at h
    split at h
    · split at h
      · rename_i h1 h2 h3
        cases h
        exact px_slc (P.e gd h1) (P.o gd h2) (P.o gd h3)
      · cases h
    · simp only [Option.map_eq_some_iff] at h
      obtain ⟨u, h1, rfl⟩ := h
      exact px_rev (P.e gd h1)
    · cases h
    · rename_i hs1 hs3 hs2
      split at h
      · rename_i kvs hk
        simp only [Option.map_eq_some_iff] at h
        obtain ⟨u, h1, rfl⟩ := h
        obtain ⟨y, py, rfl, hp, hg, hl⟩ := isDc_eq hk
        exact px_dcix gd hp hg hl (P.e gd h1) fun lo hi st p z => hs2 lo hi st p z
      · split at h
        · rename_i h1 h2
          cases h
          exact px_idx gd.room (P.e gd h1) (P.e gd h2) fun lo hi st p z => hs2 lo hi st p z
        · cases h
  | ListComp elt gens scope pos =>
    simp only [trE] at h
    split at h
    · rename_i tg iter ifs
      split at h
      · rename_i hblk
        split at h
        · rename_i ik as t c xx h1 h2 h3 h4
          cases h
          obtain ⟨pi, ns⟩ := P.i (tg := tg) gd h1
          have ok : BlkOk X.N X.env.scope scope (ownOf G.N scope) := by rw [gd.N, gd.sc]; exact blkOk_by hblk
          refine PE.pick fun σ H Q hq => ⟨_, pe_lc gd.calm gd.nd pi ok (fun s H C cc fp => ?_) (fun s H C cc fp => P.c (gd.blk scope s H C cc fp) h3) (fun s H C cc fp => P.e (gd.blk scope s H C cc fp) h4) (noset ns X.env), lc_go (zip_tp h1 h2) (own_pt h2) hq⟩
          have gb := gd.blk scope s H C cc fp
          exact pg_tgt (X := X.blk s H scope (compEnvC scope cc C X.env) fp) gb.calm gb.nd (tgOk_blk gd scope s H C cc fp) (by rw [gb.N]; exact h2)
        · cases h
      · cases h
    · cases h
  | Dict ks vs pos =>
    simp only [trE] at h
    split at h
    · rename_i hz
      simp only [Bool.and_eq_true, decide_eq_true_eq] at hz
      split at h
      case h_2 => cases h
      rename_i h1 h2
      cases h
      exact px_dsp h1 (P.es gd h2) hz.1 hz.2
    · cases h
  | Call f args kws cpos =>
    simp only [trE] at h
    split at h
    · split at h
      · rename_i y p
        split at h
        · rename_i hg
          simp only [Bool.and_eq_true] at hg
          split at h
          · rename_i j hj
            split at h
            · rename_i q hq
              split at h
              · rename_i hl
                simp only [Option.map_eq_some_iff] at h
                obtain ⟨xs, h1, rfl⟩ := h
                have pe := P.es gd h1
                have hy : q.1 = y := by
                  unfold fnIx at hj
                  obtain ⟨hlt, hb, _⟩ := List.findIdx?_eq_some_iff_getElem.mp hj
                  rw [List.getElem?_eq_getElem hlt] at hq
                  cases hq
                  exact eq_of_beq hb
                obtain ⟨q1, q2⟩ := q
                simp only at hy
                subst hy
                exact px_call gd hq hg.1 hg.2 pe.aM pe.plain pe.nil_of
              · cases h
            · cases h
          · split at h
            · rename_i hbl
              split at h
              · rename_i a c p2
                split at h
                · rename_i hx
                  split at h
                  · rename_i hbc
                    split at h
                    case h_2 => cases h
                    rename_i h1 h2
                    cases h
                    exact px_isi gd (eq_of_beq hx) hg.1 hbl h1 hbc (P.e gd h2) (tr_star h2)
                  · cases h
                · split at h
                  · rename_i b hb
                    simp only [Option.map_eq_some_iff] at h
                    obtain ⟨xs, h1, rfl⟩ := h
                    have pe := P.es gd h1
                    exact px_bif gd hb hg.1 hg.2 hbl pe.aR pe.plain
                  · cases h
              · rename_i a _
                split at h
                · rename_i rs hr
                  obtain ⟨p', pos', rfl, hbr, hrs⟩ := isRange_eq hr
                  obtain ⟨r1, r2, r3⟩ := isBl_parts hbr
                  have fin : ∀ (t : Bool), y = (if t then Str.ofString "tuple" else Str.ofString "list") → (trEs G n sc rs).map (.rngl t) = some x → PE X (.Call (.Name y p) [.Call (.Name "range" p') rs [] pos'] [] cpos) (TX X.K cl x) := fun t hy hh => by
                    subst hy
                    obtain ⟨xs, h1, rfl⟩ := Option.map_eq_some_iff.mp hh
                    have pe := P.es gd h1
                    rcases hrs with ⟨a, rfl⟩ | ⟨a, b, rfl⟩
                    · cases pe with
                      | cons pa ps pt => cases pt; exact px_rng1 gd r1 r2 hg.1 hbl pa ps
                    · cases pe with
                      | cons pa ps pt => cases pt with
                        | cons pb ps' pt => cases pt; exact px_rng2 gd r1 r2 hg.1 hbl pa pb ps ps'
                  split at h
                  · rename_i hy
                    exact fin true (eq_of_beq hy) h
                  · split at h
                    · rename_i hy
                      exact fin false (eq_of_beq hy) h
                    · cases h
                · split at h
                  · rename_i b hs
                    simp only [Option.map_eq_some_iff] at h
                    obtain ⟨u, h1, rfl⟩ := h
                    obtain ⟨p', pos', rfl, rfl, hbs⟩ := isSet_eq hs
                    obtain ⟨r1, r2, r3⟩ := isBl_parts hbs
                    exact px_sset gd hg.1 hbl r1 r2 (P.e gd h1) (tr_star h1)
                  · split at h
                    · rename_i u v hz
                      simp only [Option.map_eq_some_iff] at h
                      obtain ⟨us, h1, rfl⟩ := h
                      obtain ⟨p', pos', rfl, rfl, hbs⟩ := isTz_eq hz
                      obtain ⟨r1, r2, r3⟩ := isBl_parts hbs
                      exact px_tzip gd hg.1 hbl r1 r2 (P.es gd h1)
                    · split at h
                      · rename_i b hs
                        simp only [Option.map_eq_some_iff] at h
                        obtain ⟨u, h1, rfl⟩ := h
                        obtain ⟨p', pos', rfl, rfl, hbs⟩ := isLs_eq hs
                        obtain ⟨r1, r2, r3⟩ := isBl_parts hbs
                        exact px_lset gd hg.1 hbl r1 r2 (P.e gd h1) (tr_star h1)
                      · split at h
                        · rename_i b hb
                          simp only [Option.map_eq_some_iff] at h
                          obtain ⟨xs, h1, rfl⟩ := h
                          have pe := P.es gd h1
                          exact px_bif gd hb hg.1 hg.2 hbl pe.aR pe.plain
                        · cases h
              · cases h
              · split at h
                · rename_i b hb
                  simp only [Option.map_eq_some_iff] at h
                  obtain ⟨xs, h1, rfl⟩ := h
                  have pe := P.es gd h1
                  cases args with
                  | nil => exact absurd rfl (by assumption)
                  | cons a as => exact px_bif gd hb hg.1 hg.2 hbl pe.aR pe.plain
                · cases h
            · cases h
        · cases h
      · split at h
        · rename_i o m apos hget
          split at h
          · rename_i a b
            split at h
            · cases h
            · rename_i hc
              simp only [Bool.or_eq_true, not_or, Bool.not_eq_true, Bool.not_eq_false'] at hc
              split at h
              case h_2 => cases h
              rename_i h1 h2 h3
              cases h
              rw [eq_of_beq hget]
              exact px_dget gd.room hc.1 hc.2 (P.e gd h1) (P.e gd h2) (P.e gd h3) (tr_star h2) (tr_star h3)
          · rename_i a
            split at h
            · cases h
            · rename_i hc
              simp only [Bool.or_eq_true, not_or, Bool.not_eq_true, Bool.not_eq_false'] at hc
              split at h
              case h_2 => cases h
              rename_i h1 h2
              cases h
              rw [eq_of_beq hget]
              exact px_dget1 gd.room hc.1 hc.2 (P.e gd h1) (P.e gd h2) (tr_star h2)
          · cases h
        · split at h
          · cases h
          rename_i o m apos _ hc
          simp only [Bool.or_eq_true, not_or, Bool.not_eq_true, Bool.not_eq_false', decide_eq_false_iff_not] at hc
          split at h
          · rename_i hup
            split at h
            · simp only [Option.map_eq_some_iff] at h
              obtain ⟨u, h1, rfl⟩ := h
              rw [eq_of_beq hup]
              exact px_sup hc.1.1 hc.1.2 (P.e gd h1)
            · cases h
          · split at h
            · rename_i hjn
              split at h
              · split at h
                case h_2 => cases h
                rename_i h1 h2
                cases h
                rw [eq_of_beq hjn]
                exact px_sjn hc.1.1 hc.1.2 (P.e gd h1) (P.e gd h2) (tr_star h2)
              · cases h
            · split at h
              case h_2 => cases h
              rename_i h1 h2 h3
              cases h
              have pe := P.es gd h3
              exact px_mth gd.room h1 hc.1.1 hc.1.2 (by omega) (P.e gd h2) pe.aR pe.aM pe.plain pe.nil_of
      · cases h
    · split at h
      · rename_i a k hm
        simp only [Option.map_eq_some_iff] at h
        obtain ⟨u, h1, rfl⟩ := h
        obtain ⟨p, uu, kp, kq, rfl, rfl, rfl, hbm⟩ := isMaxd_eq hm
        obtain ⟨r1, r2, r3⟩ := isBl_parts hbm
        exact px_maxd gd r1 r2 (P.e gd h1) (tr_star h1)
      · cases h
  | _ => simp [trE] at h
end
end Rf

/-! Rf: the translation is sound: tests, lists, statements. -/
namespace Rf
open PySem L2
section
variable {G : Cfg} {cl : Cl} {k : Nat} {sc : Scope} {X : Cx}
theorem pt_dcin {x : Str} {p pos : Pos} {a : Expr} {xa : Ex} {kvs : List (Str × Int)} (gd : Gd G cl k sc X) (hx : plainName x = true) (hg : isGl sc x = true) (hk : G.dc.lookup x = some kvs) (ha : PE X a (TX X.K cl xa)) (hm : behindInMarks .In (.Name x p) = false) :
    PT X (.Compare a [.In] [.Name x p] pos) (TB X.K cl (.dcin kvs xa)) := PT.pick fun σ H Q ⟨r, S, al, bo, S', hr, R, h, q⟩ => by
  simp only [evE] at h
  obtain ⟨y, S1, h1, h⟩ := bnd_eq h
  obtain ⟨pd, m1, hd⟩ := gd.dc x kvs hk
  unfold dcinS at h
  split at h
  · simp only [Option.some.injEq, Prod.mk.injEq, D.bl.injEq] at h
    obtain ⟨rfl, rfl⟩ := h
    exact ⟨_, pt_cmpR op_inKD ha (pe_glob (v := .ref pd) (gl_of gd hg) m1 rfl (nm_of hx).1) hm, TX.go hr R h1 fun v H1 al1 e1 R1 hv =>
      ⟨pd, _, kvs, hv.str_of, rfl, hd, _, rfl, q H1 al1 e1 R1⟩⟩
  · cases h
theorem locs_cons {N : List Str} {sc : Scope} {e : Expr} {r : List Expr} {is : List Nat} (h : locs N sc (e :: r) = some is) : ∃ x p i js, e = .Name x p ∧ is = i :: js ∧ sc.names.lookup x = some .local ∧ N.idxOf? x = some i ∧ locs N sc r = some js ∧ i ∉ js := by
  cases e with
  | Name x p =>
    simp only [locs] at h
    split at h
    · rename_i i js l1 i1 l2
      split at h
      · cases h
      · rename_i hn
        cases h
        exact ⟨x, p, i, js, rfl, rfl, l1, i1, l2, by simpa using hn⟩
    · cases h
  | _ => simp [locs] at h
theorem locs_two {N : List Str} {sc : Scope} {e1 e2 : Expr} {is : List Nat} (h : locs N sc [e1, e2] = some is) : ∃ x y px py i j, e1 = .Name x px ∧ e2 = .Name y py ∧ is = [i, j] ∧ N[i]? = some x ∧ N[j]? = some y ∧ sc.names.lookup x = some .local ∧ sc.names.lookup y = some .local ∧ i ≠ j := by
  obtain ⟨x, px, i, js, rfl, rfl, l1, i1, h2, hn⟩ := locs_cons h
  obtain ⟨y, py, j, ks, rfl, rfl, m1, j1, h3, _⟩ := locs_cons h2
  simp only [locs, Option.some.injEq] at h3
  subst h3
  exact ⟨x, y, px, py, i, j, rfl, rfl, rfl, idx_get i1, idx_get j1, l1, m1, by simpa using hn⟩
theorem swp_par {x y : Str} {a b : Expr} {px py pt pt2 : Pos} {kt k2 : Nat} {env : Env} (bk : env.blockKind = .function) (hx : env.scope.names.lookup x = some .local) (hy : env.scope.names.lookup y = some .local) (ok : parOk [.Name x px, .Name y py] [a, b] = true)
    (ha : ∀ z p, a ≠ .Starred z p) (hb : ∀ z p, b ≠ .Starred z p) : swappedStores [.Tuple [.Name x px, .Name y py] kt pt] (.Tuple [a, b] k2 pt2) env = pure (some [x, y]) := by
  simp only [parOk, Bool.and_eq_true, Bool.not_eq_true'] at ok
  obtain ⟨⟨⟨o1, o2⟩, o3⟩, o4⟩ := ok
  have kx : env.kindOf x = some .local := hx
  have ky : env.kindOf y = some .local := hy
  have ne : x ≠ y := beq_eq_false_iff_ne.mp o2
  unfold swappedStores
  have o1' := eq_of_beq o1
  have ed : [x, y].eraseDups = [x, y] := by
    have : (y == x) = false := beq_eq_false_iff_ne.mpr fun e => ne e.symm
    simp [List.eraseDups_cons, this]
  have fa : ∀ (l : List Expr), l = [a, b] → (l.any fun | .Starred .. => true | _ => false) = false := fun l e => by
    subst e
    simp only [List.any_cons, List.any_nil, Bool.or_false]
    first | done | (cases a <;> cases b <;> first | rfl | exact absurd rfl (ha _ _) | exact absurd rfl (hb _ _))
  simp [bk, kx, ky, o1', o3, o4, fa, Expr.pos, List.filterMap_cons, ed]
theorem stepT {n : Nat} (P : Snd G cl k n) (gd : Gd G cl k sc X) {e : Expr} {x : Ex} (h : trE G (n + 1) sc e = some x) : PT X e (TB X.K cl x) := by
  have pe := stepE P gd h
  cases e with
  | UnaryOp op a pos =>
    cases op with
    | Not =>
      simp only [trE, Option.map_eq_some_iff] at h
      obtain ⟨u, h1, rfl⟩ := h
      exact pt_notX (P.t gd h1)
    | USub => exact pt_valX pe fun _ => rfl
    | UAdd => simp [trE] at h
    | Invert => simp [trE] at h
  | Compare a ops bs pos =>
    simp only [trE] at h
    split at h
    · split at h
      · cases h
      · rename_i hm
        split at h
        · rename_i kvs hk
          split at h
          · simp only [Option.map_eq_some_iff] at h
            obtain ⟨u, h1, rfl⟩ := h
            obtain ⟨y, py, rfl, hp, hg, hl⟩ := isDc_eq hk
            exact pt_dcin gd hp hg hl (P.e gd h1) (by simpa using hm)
          · cases h
        · split at h
          · rename_i h1 h2
            cases h
            exact pt_cmpX gd.room (P.e gd h1) (P.e gd h2) (by simpa using hm)
          · cases h
    · split at h
      · rename_i h1 h2 h3
        split at h
        all_goals first
          | (cases h; exact pt_chnX gd.room (P.e gd h1) (P.e gd h2) (P.e gd h3) (by decide) (by decide))
          | cases h
      · cases h
    · cases h
  | BoolOp op vs pos =>
    simp only [trE] at h
    exact (P.w gd h).pt
  | IfExp c a b pos =>
    simp only [trE] at h
    split at h
    · rename_i h1 h2 h3
      cases h
      exact pt_iteX (P.t gd h1) (P.t gd h2) (P.t gd h3)
    · cases h
  | Name => exact pt_valX pe fun _ => rfl
  | Constant => exact pt_valX pe fun _ => rfl
  | BinOp => exact pt_valX pe fun _ => rfl
  | Tuple => exact pt_valX pe fun _ => rfl
  | List => exact pt_valX pe fun _ => rfl
  | Subscript => exact pt_valX pe fun _ => rfl
  | Call => exact pt_valX pe fun _ => rfl
  | ListComp => exact pt_valX pe fun _ => rfl
  | Dict => exact pt_valX pe fun _ => rfl
  | _ => simp [trE] at h
theorem pts_yes : PTs X [] (TB X.K cl (.cst (.bl true))) := ⟨fun pins s σ H Q I ⟨r, S, al, b, S', hr, R, h, q⟩ => by
  simp only [evE, Option.some.injEq, Prod.mk.injEq, D.bl.injEq] at h
  obtain ⟨rfl, rfl⟩ := h
  exact pts_nil.run pins s σ H Q I (q H al Ext.refl R)⟩
theorem sndAll (G : Cfg) (cl : Cl) (k : Nat) : ∀ n, Snd G cl k n
  | 0 => ⟨fun _ h => by simp [trE] at h, fun _ h => by simp [trE] at h, fun _ h => by simp [trEs] at h, fun _ h => by simp [trB] at h, fun _ h => by simp [trB] at h, fun _ h => by simp [trO] at h, fun _ h => by simp [trC] at h, fun _ h => by simp [trI] at h⟩
  | n + 1 => by
    have P := sndAll G cl k n
    refine ⟨fun gd h => stepE P gd h, fun gd h => stepT P gd h, fun {sc X es xs} gd h => ?_, fun {sc X op vs x pos} gd h => ?_, fun {sc X op vs x pos} gd h => ?_, fun {sc X lo x} gd h => ?_, fun {sc X ifs x} gd h => ?_, fun {sc X e tg ik as} gd h => ?_⟩
    · cases es with
      | nil => simp only [trEs, Option.some.injEq] at h; subst h; exact .nil
      | cons e es =>
        simp only [trEs] at h
        split at h
        · rename_i h1 h2
          cases h
          exact .cons (P.e gd h1) (tr_star h1) (P.es gd h2)
        · cases h
    · match vs, h with
      | [], h => simp [trB] at h
      | [a], h => simp only [trB] at h; exact pe_one (P.e gd h)
      | a :: b :: r, h =>
        simp only [trB] at h
        split at h
        · rename_i h1 h2
          cases h
          cases op with
          | And => exact px_and (P.e gd h1) (P.b gd h2)
          | Or => exact px_or (P.e gd h1) (P.b gd h2)
        · cases h
    · match vs, h with
      | [], h => simp [trB] at h
      | [a], hh =>
        have h1 : trE G n sc a = some x := by simpa only [trB] using hh
        have ht := P.t gd h1
        cases op with
        | And => exact pw_and1 ht
        | Or => exact pw_or1 ht
      | a :: b :: r, h =>
        simp only [trB] at h
        split at h
        · rename_i h1 h2
          cases h
          cases op with
          | And => exact pw_andX (P.t gd h1) (P.w gd h2)
          | Or => exact pw_orX (P.t gd h1) (P.w gd h2)
        · cases h
    · cases lo with
      | none => simp only [trO, Option.some.injEq] at h; subst h; exact .inl ⟨rfl, rfl⟩
      | some e =>
        simp only [trO] at h
        split at h
        · rename_i y hy
          split at h
          · cases h
          · rename_i hn
            cases h
            exact .inr ⟨e, rfl, by simpa using hn, P.e gd hy⟩
        · cases h
    · match ifs, h with
      | [], h => simp only [trC, Option.some.injEq] at h; subst h; exact pts_yes
      | [c], h => simp only [trC] at h; exact pts_one (P.t gd h)
      | _ :: _ :: _, h => simp [trC] at h
    · simp only [trI] at h
      split at h
      · rename_i rs hr
        simp only [Option.map_eq_some_iff, Prod.mk.injEq] at h
        obtain ⟨xs, h1, rfl, rfl⟩ := h
        obtain ⟨p', pos', rfl, hbr, hrs⟩ := isRange_eq hr
        obtain ⟨r1, r2, r3⟩ := isBl_parts hbr
        have pe := P.es gd h1
        refine ⟨?_, fun _ _ _ z => nomatch z⟩
        rcases hrs with ⟨a, rfl⟩ | ⟨a, b, rfl⟩
        · exact pi_rng1X gd r1 r2 pe
        · exact pi_rng2X gd r1 r2 pe
      · split at h
        · rename_i za zb hz
          simp only [Option.map_eq_some_iff, Prod.mk.injEq] at h
          obtain ⟨xs, h1, rfl, rfl⟩ := h
          obtain ⟨es', kk', tp', p', pos', rfl, rfl, hbz⟩ := isZip_eq hz
          obtain ⟨r1, r2, r3⟩ := isBl_parts hbz
          exact ⟨pi_zipX gd r1 r2 (P.es gd h1), fun _ _ _ z => nomatch z⟩
        · simp only [Option.map_eq_some_iff, Prod.mk.injEq] at h
          obtain ⟨u, h1, rfl, rfl⟩ := h
          exact ⟨pi_seqX (P.e gd h1), tr_set h1⟩
/-- a def's own frame -/
structure GdS (G : Cfg) (cl : Cl) (k : Nat) (sc : Scope) (X : Cx) : Prop where
  gd : Gd G cl k sc X
  ps : PassesOwn (model X.prog X.w) X.A X.env X.xe
  fn : ∀ x, X.fn x = true
  bk : X.env.blockKind = .function
theorem GdS.tg (g : GdS G cl k sc X) : TgOk X sc := fun x hx => by
  rw [g.gd.sc]
  exact ⟨isLoc_cases hx, .inl (g.fn x)⟩
theorem chain3_eq {v a b c d : Expr} (h : chain3 v = some (a, b, c, d)) : ∃ p, v = .Compare a [.LtE, .LtE, .LtE] [b, c, d] p := by
  unfold chain3 at h
  split at h
  · cases h; exact ⟨_, rfl⟩
  · cases h
def tCh3 (r : R2) (ta tb tc td : TE) : TE := fun σ H Q => ta σ H fun x H1 => tb σ H1 fun y H2 => r x y H2 fun z H3 => ∃ k, z = .bl k ∧ (if k = true then tc σ H3 fun w H4 => r y w H4 fun z2 H5 => ∃ k2, z2 = .bl k2 ∧ (if k2 = true then td σ H5 fun u H6 => r w u H6 Q else Q (.bl false) H5) else Q (.bl false) H3)
theorem pe_ch3 {a b c d : Expr} {ta tb tc td : TE} {r : R2} {pos : Pos} (ho : OpR X (compareOp .LtE) r) (ha : PE X a ta) (hb : PE X b tb) (hc : PE X c tc) (hd : PE X d td) : PE X (.Compare a [.LtE, .LtE, .LtE] [b, c, d] pos) (tCh3 r ta tb tc td) := by
  refine ⟨fun pins s σ H Q I h => PyProof.Rows.Compare_chain (thn (ha.run pins s σ H _ I h) fun v s1 ⟨x, H1, I1, r1, q1⟩ => PyProof.Rows.chain_link (thn (hb.run pins s1 σ H1 _ I1 q1) fun u s2 ⟨y, H2, I2, r2, q2⟩ =>
    thn (ho pins s2 σ H2 x y v u _ I2 r1 r2 q2) fun e s3 ⟨z, H3, I3, r3, k, ek, q3⟩ => ?_)) (nobehind d (by decide) (by decide))⟩
  subst ek
  cases r3
  refine wpAny_truthy_bool ?_
  cases k with
  | false => exact ⟨.bl false, H3, I3, rfl, q3⟩
  | true =>
    refine PyProof.Rows.chain_link (thn (hc.run pins s3 σ H3 _ I3 q3) fun u2 s4 ⟨w, H4, I4, r4, q4⟩ => thn (ho pins s4 σ H4 y w u u2 _ I4 r2 r4 q4) fun e2 s5 ⟨z2, H5, I5, r5, k2, ek2, q5⟩ => ?_)
    subst ek2
    cases r5
    refine wpAny_truthy_bool ?_
    cases k2 with
    | false => exact ⟨.bl false, H5, I5, rfl, q5⟩
    | true => exact PyProof.Rows.chain_last (thn (hd.run pins s5 σ H5 _ I5 q5) fun u3 s6 ⟨z3, H6, I6, r6, q6⟩ => ho pins s6 σ H6 w z3 u2 u3 Q I6 r4 r6 q6)
theorem DV.int_eq {K : PySem.W.Frag} {H0 H : Hp} {al : Al} {v : V} {i : Int} (h : DV K H0 H al v (.int i)) : v = .int i := by
  rcases h with h | ⟨_, _, _, _, e, _⟩
  · cases h; rfl
  · cases e
theorem px_ch3 {a b c d : Expr} {xa xb xd xe : Ex} {pos : Pos} (ha : PE X a (TX X.K cl xa)) (hb : PE X b (TX X.K cl xb)) (hc : PE X c (TX X.K cl xd)) (hd : PE X d (TX X.K cl xe)) : PE X (.Compare a [.LtE, .LtE, .LtE] [b, c, d] pos) (TX X.K cl (.ch3 xa xb xd xe)) := PE.pick fun σ H Q ⟨r, S, al, d0, S', hr, R, h, q⟩ => by
  simp only [evE] at h
  obtain ⟨x, S1, h1, h⟩ := bnd_eq h
  obtain ⟨y, S2, h2, h⟩ := bnd_eq h
  refine ⟨_, pe_ch3 op_le ha hb hc hd, TX.go hr R h1 fun v H1 al1 e1 R1 hv => TX.go (hr.mono e1) R1 h2 fun w H2 al2 e2 R2 hw => ?_⟩
  have E2 := e1.trans R1 e2
  split at h
  · rename_i i j _
    obtain rfl := hv.int_eq
    obtain rfl := hw.int_eq
    split at h
    · rename_i hij
      obtain ⟨z, S3, h3, h⟩ := bnd_eq h
      refine ⟨i, j, rfl, rfl, true, congrArg V.bl (decide_eq_true hij), ?_⟩
      rw [if_pos rfl]
      refine TX.go (hr.mono E2) R2 h3 fun u H3 al3 e3 R3 hu => ?_
      have E3 := E2.trans R2 e3
      split at h
      · rename_i l
        obtain rfl := hu.int_eq
        split at h
        · rename_i hjl
          obtain ⟨z2, S4, h4, h⟩ := bnd_eq h
          refine ⟨j, l, rfl, rfl, true, congrArg V.bl (decide_eq_true hjl), ?_⟩
          rw [if_pos rfl]
          refine TX.go (hr.mono E3) R3 h4 fun u2 H4 al4 e4 R4 hu2 => ?_
          split at h
          · rename_i m
            obtain rfl := hu2.int_eq
            simp only [Option.some.injEq, Prod.mk.injEq] at h
            obtain ⟨rfl, rfl⟩ := h
            exact ⟨l, m, rfl, rfl, q _ _ (Out.of (al2 := al4) (E3.trans R3 e4) R4 (Out.here R4 (.bl _)))⟩
          · cases h
        · rename_i hjl
          simp only [Option.some.injEq, Prod.mk.injEq] at h
          obtain ⟨rfl, rfl⟩ := h
          refine ⟨j, l, rfl, rfl, false, congrArg V.bl (decide_eq_false hjl), ?_⟩
          rw [if_neg (by decide)]
          exact q _ _ (Out.of (al2 := al3) E3 R3 (Out.here R3 (.bl _)))
      · cases h
    · rename_i hij
      simp only [Option.some.injEq, Prod.mk.injEq] at h
      obtain ⟨rfl, rfl⟩ := h
      refine ⟨i, j, rfl, rfl, false, congrArg V.bl (decide_eq_false hij), ?_⟩
      rw [if_neg (by decide)]
      exact q _ _ (Out.of (al2 := al2) E2 R2 (Out.here R2 (.bl _)))
  · cases h
theorem ps_rseX {st : Stmt} {F : Nat} {c : Str} {xs : Exs} : PS X st (TSt X.K cl F (.rse c xs)) := ⟨fun pins s σ H D I ⟨r, S, al, fl, r', S', hr, R, h, q⟩ => by simp [evS] at h⟩
theorem ps_triX {st : Stmt} {F : Nat} {xs : Sts} {cs : List Str} {nm : Option Nat} {hh : Hss} : PS X st (TSt X.K cl F (.tri xs cs nm hh)) := ⟨fun pins s σ H D I ⟨r, S, al, fl, r', S', hr, R, h, q⟩ => by simp [evS] at h⟩
theorem raiseOf_eq {a b : Option Expr} {c : Str} {as : List Expr} (h : raiseOf a b = some (c, as)) : ∃ p e es p2, a = some (.Call (.Name c p) (e :: es) [] p2) ∧ b = none ∧ as = e :: es := by
  unfold raiseOf at h
  split at h
  · cases h; exact ⟨_, _, _, _, rfl, rfl, rfl⟩
  · cases h
theorem tryOf_eq {hs : List ExceptHandler} {o f : List Stmt} {y : Str} {en : Option Str} {su : List Stmt} (h : tryOf hs o f = some (y, en, su)) : ∃ p b0 suite p2, hs = [.ExceptHandler (some (.Name y p)) en (b0 :: suite) p2] ∧ o = [] ∧ f = [] ∧ su = b0 :: suite := by
  unfold tryOf at h
  split at h
  · cases h; exact ⟨_, _, _, _, rfl, rfl, rfl, rfl⟩
  · cases h
/-- a raise that is known -/
theorem tr_raiseE {n : Nat} {a b : Option Expr} {pos : Pos} {x : St} (h : trS G (n + 1) sc (.Raise a b pos) = some x) : ∃ c p e es p2 xs fl, a = some (.Call (.Name c p) (e :: es) [] p2) ∧ b = none ∧ x = .rse c xs ∧ isGl sc c = true ∧ plainName c = true ∧ G.xc.lookup c = some fl ∧ trEs G n sc (e :: es) = some xs ∧ fl.1.length = (e :: es).length := by
  simp only [trS] at h
  split at h
  · rename_i c as hr
    obtain ⟨p, e, es, p2, rfl, rfl, rfl⟩ := raiseOf_eq hr
    split at h
    · rename_i hg
      simp only [Bool.and_eq_true] at hg
      split at h
      · rename_i fl xs h1 h2
        split at h
        · rename_i hl
          cases h
          exact ⟨_, _, _, _, _, _, _, rfl, rfl, rfl, hg.1, hg.2, h1, h2, hl⟩
        · cases h
      · cases h
    · cases h
  · cases h
theorem tr_raise {n : Nat} {a b : Option Expr} {pos : Pos} {x : St} (h : trS G (n + 1) sc (.Raise a b pos) = some x) : ∃ c xs, x = .rse c xs := by
  obtain ⟨c, p, e, es, p2, xs, fl, _, _, h, _⟩ := tr_raiseE h
  exact ⟨c, xs, h⟩
theorem tr_tryE {n : Nat} {body : List Stmt} {hs : List ExceptHandler} {o f : List Stmt} {pos : Pos} {x : St} (h : trS G (n + 1) sc (.Try body hs o f pos) = some x) :
    ∃ y p en b0 suite p2 xs hh, hs = [.ExceptHandler (some (.Name y p)) en (b0 :: suite) p2] ∧ o = [] ∧ f = [] ∧ isCls G sc y = true ∧ trSs G n sc body = some xs ∧
      ((∃ m i, en = some m ∧ (sc.names.lookup m = some .local ∧ plainName m = true) ∧ G.N.idxOf? m = some i ∧ trKs G sc (some m) n (b0 :: suite) = some hh ∧ x = .tri xs (isaOf G.xc y) (some i) hh) ∨ (en = none ∧ trKs G sc none n (b0 :: suite) = some hh ∧ x = .tri xs (isaOf G.xc y) none hh)) := by
  simp only [trS] at h
  split at h
  · rename_i y m suite ht
    obtain ⟨p, b0, suite, p2, rfl, rfl, rfl, rfl⟩ := tryOf_eq ht
    split at h
    · rename_i hg
      split at h
      · rename_i hm
        split at h
        · rename_i i xs hh h1 h2 h3
          cases h
          exact ⟨_, _, _, _, _, _, _, _, rfl, rfl, rfl, hg, h2, .inl ⟨_, _, rfl, hm, h1, h3, rfl⟩⟩
        · cases h
      · cases h
    · cases h
  · rename_i y suite ht
    obtain ⟨p, b0, suite, p2, rfl, rfl, rfl, rfl⟩ := tryOf_eq ht
    split at h
    · rename_i hg
      split at h
      · rename_i xs hh h2 h3
        cases h
        exact ⟨_, _, _, _, _, _, _, _, rfl, rfl, rfl, hg, h2, .inr ⟨rfl, h3, rfl⟩⟩
      · cases h
    · cases h
  · cases h
theorem tr_try {n : Nat} {body : List Stmt} {hs : List ExceptHandler} {o f : List Stmt} {pos : Pos} {x : St} (h : trS G (n + 1) sc (.Try body hs o f pos) = some x) : ∃ xs cs nm hh, x = .tri xs cs nm hh := by
  obtain ⟨y, p, en, b0, suite, p2, xs, hh, _, _, _, _, _, ⟨m, i, _, _, _, _, e⟩ | ⟨_, _, e⟩⟩ := tr_tryE h
  · exact ⟨_, _, _, _, e⟩
  · exact ⟨_, _, _, _, e⟩
theorem sndS (G : Cfg) (cl : Cl) (k F : Nat) : ∀ n, (∀ {sc : Scope} {X : Cx} {s : Stmt} {x : St}, GdS G cl k sc X → trS G n sc s = some x → PS X s (TSt X.K cl F x)) ∧ (∀ {sc : Scope} {X : Cx} {ss : List Stmt} {xs : Sts}, GdS G cl k sc X → trSs G n sc ss = some xs → PSs X ss (TSs X.K cl F xs))
  | 0 => ⟨fun _ h => by simp [trS] at h, fun _ h => by simp [trSs] at h⟩
  | n + 1 => by
    obtain ⟨P1, P2⟩ := sndS G cl k F n
    have P := sndAll G cl k n
    refine ⟨fun {sc X s x} g h => ?_, fun {sc X ss xs} g h => ?_⟩
    · have tgt : ∀ {tg : Expr} {t : Pt}, trPt G.N sc tg = some t → PG X tg (tgP X.K t) := fun h => pg_tgt g.gd.calm g.gd.nd g.tg (by rw [g.gd.N]; exact h)
      cases s with
      | Assign ts v pos =>
        simp only [trS] at h
        split at h
        · rename_i y p
          split at h
          · rename_i t e h1 h2
            cases h
            by_cases hcmp : isComp v = true
            · -- a comprehension given to a name
              cases v with
              | ListComp elt gens scope pc =>
                by_cases hb : (X.env.blockKind == .function && X.env.kindOf y == some .local && p.line == pc.line && !(scope.names.any fun (n, k) => n == y && (k == .local || k == .cell))) = true
                · have hsw : swapsWith (.ListComp elt gens scope pc) (some (.Name y p)) pos.line X.env = pure true := by
                    show (pure (X.env.blockKind == .function && X.env.kindOf y == some .local && p.line == pc.line && !(scope.names.any fun (n, k) => n == y && (k == .local || k == .cell))) : Sem Bool) = pure true
                    rw [hb]
                  simp only [Bool.and_eq_true, beq_iff_eq] at hb
                  have hyl : X.env.scope.names.lookup y = some .local := hb.1.1.2
                  cases n with
                  | zero => simp [trE] at h2
                  | succ n =>
                    simp only [trE] at h2
                    split at h2
                    · rename_i tg iter ifs
                      split at h2
                      · rename_i hblk
                        split at h2
                        · rename_i ik as t2 c xx g1 g2 g3 g4
                          cases h2
                          have Q := sndAll G cl k n
                          have gd := g.gd
                          obtain ⟨pi, ns⟩ := Q.i (tg := tg) gd g1
                          have ok : BlkOk X.N X.env.scope scope (ownOf G.N scope) := by rw [gd.N, gd.sc]; exact blkOk_by hblk
                          simp only [trPt] at h1
                          split at h1
                          · simp only [Option.map_eq_some_iff] at h1
                            obtain ⟨i, hi, rfl⟩ := h1
                            refine PS.pick fun E σ H hq => ⟨_, ps_setLc gd.calm gd.nd (by rw [gd.N]; exact idx_get hi) hyl hsw pi ok (fun s H C cc fp => ?_) (fun s H C cc fp => Q.c (gd.blk scope s H C cc fp) g3) (fun s H C cc fp => Q.e (gd.blk scope s H C cc fp) g4) (noset ns X.env), lc_go (zip_tp g1 g2) (own_pt g2) (asg_go hq)⟩
                            have gb := gd.blk scope s H C cc fp
                            exact pg_tgt (X := X.blk s H scope (compEnvC scope cc C X.env) fp) gb.calm gb.nd (tgOk_blk gd scope s H C cc fp) (by rw [gb.N]; exact g2)
                          · cases h1
                        · cases h2
                      · cases h2
                    · cases h2
                · have hsw : swapsWith (.ListComp elt gens scope pc) (some (.Name y p)) pos.line X.env = pure false := by
                    show (pure (X.env.blockKind == .function && X.env.kindOf y == some .local && p.line == pc.line && !(scope.names.any fun (n, k) => n == y && (k == .local || k == .cell))) : Sem Bool) = pure false
                    rw [Bool.not_eq_true] at hb
                    rw [hb]
                  exact ps_asgX (P.e g.gd h2) (tgt h1) (sole.trans hsw) sws_name (asg1 fun _ _ z => nomatch z)
              | SetComp => cases n <;> simp [trE] at h2
              | DictComp => cases n <;> simp [trE] at h2
              | _ => simp [isComp] at hcmp
            · exact ps_asgX (P.e g.gd h2) (tgt h1) (sole.trans (sw_no (by simpa using hcmp))) sws_name (asg1 fun _ _ z => nomatch z)
          · cases h
        · rename_i es kk p
          split at h
          · rename_i vs kv pv
            split at h
            · rename_i hlen
              simp only [Bool.and_eq_true, decide_eq_true_eq] at hlen
              obtain ⟨hlen, hpar⟩ := hlen
              split at h
              · rename_i is as h1 h2
                cases h
                match es, vs, hlen with
                | [e1, e2], [v1, v2], _ =>
                  obtain ⟨x, y, px, py, i, j, rfl, rfl, rfl, hi, hj, hx, hy, hij⟩ := locs_two h1
                  exact ps_parX g.gd.calm g.gd.nd (by rw [g.gd.N]; exact hi) (by rw [g.gd.N]; exact hj) hij (by rw [g.gd.sc]; exact hx) (by rw [g.gd.sc]; exact hy) (P.es g.gd h2) (swp_par g.bk (by rw [g.gd.sc]; exact hx) (by rw [g.gd.sc]; exact hy) hpar (P.es g.gd h2).plain.head (P.es g.gd h2).plain.tail.head)
              · cases h
            · cases h
          · rename_i hnt
            split at h
            · split at h
              · rename_i is e h1 h2
                cases h
                simp only [trPt, Option.map_eq_some_iff] at h1
                obtain ⟨is', hi, e1⟩ := h1
                cases e1
                obtain ⟨g1, g2, g3⟩ := pgs_all g.gd.nd g.tg (by rw [g.gd.N]; exact hi)
                exact ps_unlX (P.e g.gd h2) (pg_lst g.gd.calm g1 g2 g3) (sole.trans sw_tup) (sws_tup fun a b c z => hnt a b c z) (asg1 fun _ _ z => nomatch z)
              · cases h
            · rename_i hcmp
              split at h
              · rename_i t e h1 h2
                cases h
                exact ps_asgX (P.e g.gd h2) (tgt h1) (sole.trans sw_tup) (sws_tup fun a b c z => hnt a b c z) (asg1 fun _ _ z => nomatch z)
              · cases h
        · rename_i o i p
          split at h
          · split at h
            · rename_i h1 h2 h3 h4
              cases h
              exact ps_slwX (P.e g.gd h1) (P.e g.gd h2) (P.e g.gd h3) (P.e g.gd h4)
            · cases h
          · cases h
          · rename_i hs
            split at h
            · rename_i h1 h2 h3
              cases h
              exact ps_sixX g.gd.room (P.e g.gd h1) (P.e g.gd h2) (P.e g.gd h3) fun a b c d z => hs a b c d z
            · cases h
        · cases h
      | Expr e pos =>
        simp only [trS] at h
        split at h
        · cases h
        · rename_i hc
          simp only [Option.map_eq_some_iff] at h
          obtain ⟨u, h1, rfl⟩ := h
          exact ps_expX (P.e g.gd h1) (by simpa using hc)
      | Return e pos =>
        simp only [trS] at h
        split at h
        · split at h
          · rename_i v a b c d hv
            obtain ⟨p, rfl⟩ := chain3_eq hv
            split at h
            · rename_i h1 h2 h3 h4
              cases h
              exact ps_retX (px_ch3 (P.e g.gd h1) (P.e g.gd h2) (P.e g.gd h3) (P.e g.gd h4))
            · cases h
          · simp only [Option.map_eq_some_iff] at h
            obtain ⟨u, h1, rfl⟩ := h
            exact ps_retX (P.e g.gd h1)
        · cases h
          exact ps_retnX
      | If c a b pos =>
        simp only [trS] at h
        split at h
        · rename_i h1 h2 h3
          cases h
          exact ps_ifX (P.t g.gd h1) (P2 g h2) (P2 g h3)
        · cases h
      | For tg iter b els pos =>
        simp only [trS] at h
        split at h
        · split at h
          · rename_i h1 h2 h3
            cases h
            obtain ⟨pi, ns⟩ := P.i (tg := tg) g.gd h2
            exact ps_forX (zip_tp h2 h1) g.ps g.gd.calm pi (tgt h1) (P2 g h3) ns
          · cases h
        · cases h
      | While c b els pos =>
        simp only [trS] at h
        split at h
        · split at h
          · rename_i h1 h2
            cases h
            exact ps_whlX g.ps (P.t g.gd h1) (P2 g h2)
          · cases h
        · cases h
      | Pass pos => simp only [trS, Option.some.injEq] at h; subst h; exact ps_pasX
      | Break pos => simp only [trS, Option.some.injEq] at h; subst h; exact ps_brkX
      | Continue pos => simp only [trS, Option.some.injEq] at h; subst h; exact ps_cntX
      | Raise a b pos =>
        obtain ⟨c, xs, rfl⟩ := tr_raise h
        exact ps_rseX
      | Try a b c d pos =>
        obtain ⟨xs, cs, nm, hh, rfl⟩ := tr_try h
        exact ps_triX
      | _ => simp [trS] at h
    · cases ss with
      | nil => simp only [trSs, Option.some.injEq] at h; subst h; exact pss_nilX
      | cons s ss =>
        simp only [trSs] at h
        split at h
        · rename_i h1 h2
          cases h
          exact pss_consX (P1 g h1) (P2 g h2)
        · rename_i h1 h2
          cases h
          exact pss_consX ps_badX (P2 g h2)
        · cases h
end
end Rf

/-! Rf: what raises. -/
namespace Rf
open PySem L2
abbrev XC := List (Str × List Str × List Str)
/-- an exception of the machine stands for data -/
def XR (K : PySem.W.Frag) (mg : Str → Option Value) (xc : XC) (H : Hp) (al : Al) (x : D) (cls : Value) (d : Option Addr) : Prop :=
  ∃ (c : Str) (ds : List D) (e : List Str × List Str) (C dd : Addr) (fs : List (Str × V)), x = excD c ds ∧ xc.lookup c = some e ∧ mg c = some (.ref C) ∧ cls = .ref C ∧ d = some dd ∧ H dd = some (.xd fs) ∧ ds.length = e.1.length ∧
    ∀ (j : Nat) f dj, e.1[j]? = some f → ds[j]? = some dj → ∃ v, fs.lookup f = some v ∧ DN K H al v dj
def OutX (K : PySem.W.Frag) (mg : Str → Option Value) (xc : XC) (al : Al) (H : Hp) (S' : Store) (x : D) (cls : Value) (d : Option Addr) (H' : Hp) : Prop := ∃ al', Ext al H al' H' ∧ SRel K H' al' S' ∧ XR K mg xc H' al' x cls d
def OutXS (K : PySem.W.Frag) (mg : Str → Option Value) (xc : XC) (al : Al) (H : Hp) (r' : Sl) (S' : Store) (x : D) (cls : Value) (d : Option Addr) (σ' : L2.St) (H' : Hp) : Prop := ∃ al', Ext al H al' H' ∧ SRel K H' al' S' ∧ RelE K H' al' r' σ' ∧ XR K mg xc H' al' x cls d
def TXx (K : PySem.W.Frag) (mg : Str → Option Value) (xc : XC) (c : Cl) (W : WX) (e : Ex) : TE := fun σ H _ => ∃ r S al x S', RelE K H al r σ ∧ SRel K H al S ∧ xE c e r S = some (x, S') ∧ ∀ cls d H', OutX K mg xc al H S' x cls d H' → W cls d σ H'
def TMx (K : PySem.W.Frag) (mg : Str → Option Value) (xc : XC) (c : Cl) (W : WX) (es : Exs) : TA := fun σ H _ => ∃ r S al x S', RelE K H al r σ ∧ SRel K H al S ∧ xM c es r S = some (x, S') ∧ ∀ cls d H', OutX K mg xc al H S' x cls d H' → W cls d σ H'
def TXt (K : PySem.W.Frag) (mg : Str → Option Value) (xc : XC) (c : Cl) (F : Nat) (W : WX) (s : St) : TS := fun _ σ H => ∃ r S al x r' S', RelE K H al r σ ∧ SRel K H al S ∧ xS c F s r S = some (x, r', S') ∧ ∀ cls d σ' H', OutXS K mg xc al H r' S' x cls d σ' H' → W cls d σ' H'
def TXs (K : PySem.W.Frag) (mg : Str → Option Value) (xc : XC) (c : Cl) (F : Nat) (W : WX) (s : Sts) : TS := fun _ σ H => ∃ r S al x r' S', RelE K H al r σ ∧ SRel K H al S ∧ xSs c F s r S = some (x, r', S') ∧ ∀ cls d σ' H', OutXS K mg xc al H r' S' x cls d σ' H' → W cls d σ' H'
structure FnR (P : Program) (w : World) (K : PySem.W.Frag) (mg : Str → Option Value) (base : Heap) (k : Nat) (f : Addr) (fd : FuncData) (ps : List Str) (sp : Sp) : Prop where
  len : ∀ vs H Q E, sp vs H Q E → vs.length = ps.length
  run : ∀ (A : Around) (outer : List Env) (s : Shared) (H : Hp) (args : Args) (us : List Value) (vs : List V) (Q : VK) (E : XK), Room k A → A.guards = some [] →
    Env0 P w K mg base A outer s H → BindsTo s fd args (ps.zip us) → Vals vs us → sp vs H Q E → codeAny (model P w) A (.call (.ref f) args) (CR (L2.CX P w) outer P w H s Q E) s
def spR (K : PySem.W.Frag) (mg : Str → Option Value) (xc : XC) (c : Cl) (i : Nat) : Sp := fun vs H _ E => ∃ ds S al x S', DNL K H al vs ds ∧ SRel K H al S ∧ c (i + BIG) ds S = some (x, S') ∧ ∀ cls d H', OutX K mg xc al H S' x cls d H' → E cls d H'
/-- c(e, ..) makes an exception of the class c with these fields -/
def MkOk (X : Cx) (c : Str) (fl : List Str) : Prop := ∀ (e : Expr) (es : List Expr) (ta : TA) (p pos : Pos), PA X (e :: es) ta → Plain (e :: es) → (∀ σ H (Q Q' : List V → Hp → Prop), ta σ H Q → (∀ vs H1, Q vs H1 → Q' vs H1) → ta σ H Q') → PMk X (.Call (.Name c p) (e :: es) [] pos)
  (fun σ H Q => ta σ H fun vs H1 => vs.length = fl.length ∧ ∀ (C dd : Addr) (fs : List (Str × V)), X.mg c = some (.ref C) → H1 dd = none → (∀ (j : Nat) f v, fl[j]? = some f → vs[j]? = some v → fs.lookup f = some v) → Q (.ref C) (some dd) (upd H1 dd (.xd fs)))
structure GdX (G : Cfg) (cl : Cl) (k : Nat) (sc : Scope) (X : Cx) (W : WX) : Prop where
  g : GdS G cl k sc X
  tk : Takes X W
  fr : ∀ (i : Nat) (p : Str × Nat), G.fns[i]? = some p → ∃ f fd ps, X.mg p.1 = some (.ref f) ∧ PySem.W.keepIn X.K (.ref f) = true ∧ Binds X.K fd ps [] ∧ ps.length = p.2 ∧ FnR X.prog X.w X.K X.mg X.base k f fd ps (spR X.K X.mg G.xc cl i)
  cm : ∀ c e, G.xc.lookup c = some e → isGl sc c = true → plainName c = true → MkOk X c e.1 ∧ ∃ C : Addr, X.mg c = some (.ref C)
section
variable {X : Cx} {k : Nat} {f : Addr} {fd : FuncData} {ps : List Str} {sp : Sp} {x : Str} {p pos : Pos} {e : Expr} {es : List Expr} {t : TA} {W : WX}
theorem fn_runsR {pins : List (Addr × Obj)} {σ : L2.St} {H : Hp} {s : Shared} {Q : VK} {us : List Value} {vs : List V} (F : FnR X.prog X.w X.K X.mg X.base k f fd ps sp) (hr : Room k X.A) (hg : X.A.guards = some []) (hb : Binds X.K fd ps []) (tk : Takes X W)
    (I : Inv X pins σ H s) (r : Vals vs us) (h : sp vs H Q fun cls d H' => W cls d σ H') : wpAny (model X.prog X.w) X.A (call (.ref f) us) (EP X pins σ Q) X.xe s := by
  have hl : (us ++ []).length = ps.length := by rw [List.append_nil, ← r.length]; exact F.len _ _ _ _ h
  have hbb := hb s us I.kIn hl
  rw [List.append_nil] at hbb
  refine wpAny_call (codeAny_mono (F.run X.A X.stack s H ⟨us, []⟩ us vs Q _ hr hg I.env0 hbb r h) fun z s' hz => ?_)
  match z, hz with
  | .error _, hz => exact tk _ _ (XE.of_call I (fun _ _ _ h => h) hz)
  | .ok (.ret u), hz => exact I.after hz
  | .ok .next, hz => exact False.elim hz
  | .ok .brk, hz => exact False.elim hz
  | .ok .cont, hz => exact False.elim hz
theorem pe_callR0 (F : FnR X.prog X.w X.K X.mg X.base k f fd ps sp) (hr : Room k X.A) (hg : X.A.guards = some []) (tk : Takes X W) (hgl : Gl X x) (hm : X.mg x = some (.ref f)) (hk : PySem.W.keepIn X.K (.ref f) = true) (hb : Binds X.K fd ps [])
    (hdb : (x == ("__debug__" : Str)) = false) : PE X (.Call (.Name x p) [] [] pos) (fun σ H Q => sp [] H Q fun cls d H' => W cls d σ H') :=
  ⟨fun pins s σ H Q I h => wpAny_Call_Name_kw (ld_glob I hgl hm (PySem.W.callWith_K0 I.kIn hk (fn_runsR (us := []) F hr hg hb tk I .nil h)) hdb)⟩
theorem pe_callR (F : FnR X.prog X.w X.K X.mg X.base k f fd ps sp) (hr : Room k X.A) (hg : X.A.guards = some []) (tk : Takes X W) (hgl : Gl X x) (hm : X.mg x = some (.ref f)) (hk : PySem.W.keepIn X.K (.ref f) = true) (hb : Binds X.K fd ps []) (ha : PA X (e :: es) t)
    (hdb : (x == ("__debug__" : Str)) = false) (h0 : starEach (e :: es) X.env = (false, eval e X.env) :: starEach es X.env) (h1 : starEach es X.env = es.map fun e => (false, eval e X.env)) :
    PE X (.Call (.Name x p) (e :: es) [] pos) (fun σ H Q => t σ H fun vs H1 => sp vs H1 Q fun cls d H' => W cls d σ H') := by
  refine ⟨fun pins s σ H Q I h => wpAny_Call_Name_kw (ld_glob I hgl hm ?_ hdb)⟩
  have go := thn (ha.run pos pins s σ H _ I h) fun us s1 ⟨vs, H1, I1, rv, q⟩ => show X.K.In s1.heap ∧ _ from ⟨I1.kIn, fn_runsR F hr hg hb tk I1 rv q⟩
  exact PySem.W.callWith_K (h₀ := X.base) I.ok.mod.kin hk go h0 (by rw [h1]; simp [backTo])
end
section
variable {K : PySem.W.Frag} {mg : Str → Option Value} {xc : XC} {H H1 H' : Hp} {al al1 : Al} {S1 S' : Store} {x : D} {cls : Value} {d : Option Addr} {r' : Sl} {σ' : L2.St}
theorem OutX.of (e : Ext al H al1 H1) (R : SRel K H1 al1 S1) (o : OutX K mg xc al1 H1 S' x cls d H') : OutX K mg xc al H S' x cls d H' := by
  obtain ⟨al', e', R', h⟩ := o
  exact ⟨al', e.trans R e', R', h⟩
theorem OutXS.of (e : Ext al H al1 H1) (R : SRel K H1 al1 S1) (o : OutXS K mg xc al1 H1 r' S' x cls d σ' H') : OutXS K mg xc al H r' S' x cls d σ' H' := by
  obtain ⟨al', e', R', h⟩ := o
  exact ⟨al', e.trans R e', R', h⟩
end
section
variable {X : Cx} {cl : Cl} {k F : Nat} {W : WX} {xc : XC} {a b c e o i tg v : Expr} {es rest : List Expr} {xa xb xd : Ex} {xs : Exs} {pos p p2 : Pos} {t : Pt} {ys zs : Sts}
theorem pe_no {u : TE} : PE X e (fun _ _ _ => False) := ⟨fun _ _ _ _ _ _ h => h.elim⟩
theorem pa_no : PA X es (fun _ _ _ => False) := ⟨fun _ _ _ _ _ _ _ h => h.elim⟩
/-- several, the first that raises -/
theorem pa_consXx (ha : PE X e (TX X.K cl xa)) (hx : PE X e (TXx X.K X.mg xc cl W xa)) (hs : PA X es (TMx X.K X.mg xc cl W xs)) (hp : ∀ x p, e ≠ .Starred x p) (hz : ∀ es', es' = es → PA X es' (fun _ _ _ => False)) :
    PA X (e :: es) (TMx X.K X.mg xc cl W (.cons xa xs)) := PA.pick fun σ H Q ⟨r, S, al, x, S', hr, R, h, q⟩ => by
  simp only [xM] at h
  split at h
  · rename_i y S1 h1
    refine ⟨_, pa_cons ha hs (star_cons hp _), TX.go hr R h1 fun w H1 al1 e1 R1 hw => ?_⟩
    obtain ⟨al2, e2, R2, hw'⟩ := mat_ok e1 R1 hw
    exact ⟨r, _, al2, x, S', hr.mono e2, R2, h, fun cls d H' oo => q cls d H' (oo.of e2 R2)⟩
  · exact ⟨_, pa_cons hx (hz _ rfl) (star_cons hp _), r, S, al, x, S', hr, R, h, q⟩
theorem px_tupXx {kk : Nat} (hs : PA X es (TMx X.K X.mg xc cl W xs)) : PE X (.Tuple es kk pos) (TXx X.K X.mg xc cl W (.tup xs)) := PE.pick fun σ H Q ⟨r, S, al, x, S', hr, R, h, q⟩ => by
  simp only [xE] at h
  exact ⟨_, pe_tupN hs, r, S, al, x, S', hr, R, h, q⟩
theorem px_iteXx (hc : PT X c (TB X.K cl xd)) (ha : PE X a (TXx X.K X.mg xc cl W xa)) (hb : PE X b (TXx X.K X.mg xc cl W xb)) : PE X (.IfExp c a b pos) (TXx X.K X.mg xc cl W (.ite xd xa xb)) := PE.pick fun σ H Q ⟨r, S, al, x, S', hr, R, h, q⟩ => by
  simp only [xE] at h
  refine ⟨_, pe_ifExp hc ha hb, ?_⟩
  split at h
  · rename_i S1 h1
    refine TB.go hr R h1 fun H1 al1 e1 R1 => ?_
    rw [if_pos rfl]
    exact ⟨r, S1, al1, x, S', hr.mono e1, R1, h, fun cls d H' oo => q cls d H' (oo.of e1 R1)⟩
  · rename_i S1 h1
    refine TB.go hr R h1 fun H1 al1 e1 R1 => ?_
    rw [if_neg (by decide)]
    exact ⟨r, S1, al1, x, S', hr.mono e1, R1, h, fun cls d H' oo => q cls d H' (oo.of e1 R1)⟩
  · cases h
/-- a built-in function whose argument raises -/
theorem px_bifXx {G : Cfg} {sc : Scope} {f : Str} {b : Bi} (gx : GdX G cl k sc X W) (hf : biOf f = some b) (hg : isGl sc f = true) (hx : plainName f = true) (hb : G.bl.contains f = true) (hs : PA X (e :: es) (TMx X.K X.mg G.xc cl W xs)) (hp : Plain (e :: es)) :
    PE X (.Call (.Name f p) (e :: es) [] pos) (TXx X.K X.mg G.xc cl W (.bif b xs)) := PE.pick fun σ H Q ⟨r, S, al, x, S', hr, R, h, q⟩ => by
  simp only [xE] at h
  have gd := gx.g.gd
  obtain ⟨n1, n2, n3⟩ := nm_of hx
  have hm : X.mg f = none := gd.bl f (by simpa using hb)
  have bn := bi_name hf
  have no : ∀ c, CallR X c (fun _ _ _ => False) := fun c pins s σ H xs us Q I r h => h.elim
  rcases biV_cases b with ⟨id, ev⟩ | ⟨T, ev⟩
  · rw [ev] at bn
    exact ⟨_, pe_callB (no _) (gl_of gd hg) hm bn hs n3 n1 (star_cons hp.head _) (star_any hp.tail _ _), r, S, al, x, S', hr, R, h, q⟩
  · rw [ev] at bn
    exact ⟨_, pe_callTy (no _) (gl_of gd hg) hm bn hs n3 n1 (star_cons hp.head _) (star_any hp.tail _ _), r, S, al, x, S', hr, R, h, q⟩
theorem px_callXx {G : Cfg} {sc : Scope} {f : Str} {j n : Nat} (gx : GdX G cl k sc X W) (hf : G.fns[j]? = some (f, n)) (hg : isGl sc f = true) (hx : plainName f = true) (hs : PA X es (TM X.K cl xs)) (hsx : PA X es (TMx X.K X.mg G.xc cl W xs)) (hp : Plain es) (hn : es = [] → xs = .nil) :
    PE X (.Call (.Name f p) es [] pos) (TXx X.K X.mg G.xc cl W (.call j xs)) := PE.pick fun σ H Q ⟨r, S, al, x, S', hr, R, h, q⟩ => by
  simp only [xE] at h
  have gd := gx.g.gd
  have hgl : Gl X f := gl_of gd hg
  have hdb := (nm_of hx).1
  split at h
  · rename_i ds S1 h1
    obtain ⟨fa, fd, ps, m, kp, hb, hl, F⟩ := gx.fr j _ hf
    cases es with
    | nil =>
      have := hn rfl
      subst this
      simp only [evM, Option.some.injEq, Prod.mk.injEq] at h1
      obtain ⟨rfl, rfl⟩ := h1
      exact ⟨_, pe_callR0 F gd.room gd.gu gx.tk hgl m kp hb hdb, [], S, al, x, S', .nil, R, h, q⟩
    | cons e es =>
      exact ⟨_, pe_callR F gd.room gd.gu gx.tk hgl m kp hb hs hdb (star_cons hp.head _) (star_all hp.tail _), r, S, al, ds, S1, hr, R, h1, fun vs H1 al1 e1 R1 hv =>
        ⟨ds, S1, al1, x, S', hv, R1, h, fun cls d H2 oo => q cls d H2 (oo.of e1 R1)⟩⟩
  · obtain ⟨fa, fd, ps, m, kp, hb, hl, F⟩ := gx.g.gd.fns j _ hf
    cases es with
    | nil =>
      have := hn rfl
      subst this
      simp [xM] at h
    | cons e es =>
      exact ⟨_, pe_callG F gd.room gd.gu hgl m kp hb hsx hdb (star_cons hp.head _) (star_all hp.tail _), r, S, al, x, S', hr, R, h, q⟩
/-! statements -/
theorem ps_asgXx (he : PE X v (TXx X.K X.mg xc cl W xa)) (hg : PG X tg (tgP X.K t)) (hs : swapsWithSole [tg] v pos.line X.env = pure false) (hw : swappedStores [tg] v X.env = pure none) (h1 : (assignEach [tg] X.env).map (·.2) = [assign tg X.env]) : PS X (.Assign [tg] v pos) (TXt X.K X.mg xc cl F W (.asg t xa)) :=
  PS.pick fun E σ H ⟨r, S, al, x, r', S', hr, R, h, q⟩ => by
    simp only [xS] at h
    split at h
    · cases h
    simp only [slE, Option.map_eq_some_iff, Prod.mk.injEq] at h
    obtain ⟨⟨y, T⟩, h2, rfl, rfl, rfl⟩ := h
    exact ⟨_, ps_asg he hg hs hw h1, r, S, al, y, T, hr, R, h2, fun cls d H' ⟨al', e', R', xr⟩ => q cls d σ H' ⟨al', e', R', hr.mono e', xr⟩⟩
theorem ps_expXx (he : PE X e (TXx X.K X.mg xc cl W xa)) (hs : isComp e = false) : PS X (.Expr e pos) (TXt X.K X.mg xc cl F W (.exp xa)) := PS.pick fun E σ H ⟨r, S, al, x, r', S', hr, R, h, q⟩ => by
  simp only [xS] at h
  split at h
  · cases h
  simp only [slE, Option.map_eq_some_iff, Prod.mk.injEq] at h
  obtain ⟨⟨y, T⟩, h2, rfl, rfl, rfl⟩ := h
  exact ⟨_, ps_expr he (sw_no hs), r, S, al, y, T, hr, R, h2, fun cls d H' ⟨al', e', R', xr⟩ => q cls d σ H' ⟨al', e', R', hr.mono e', xr⟩⟩
theorem ps_retXx (he : PE X e (TXx X.K X.mg xc cl W xa)) : PS X (.Return (some e) pos) (TXt X.K X.mg xc cl F W (.ret xa)) := PS.pick fun E σ H ⟨r, S, al, x, r', S', hr, R, h, q⟩ => by
  simp only [xS, slE, Option.map_eq_some_iff, Prod.mk.injEq] at h
  obtain ⟨⟨y, T⟩, h2, rfl, rfl, rfl⟩ := h
  exact ⟨_, ps_ret he, r, S, al, y, T, hr, R, h2, fun cls d H' ⟨al', e', R', xr⟩ => q cls d σ H' ⟨al', e', R', hr.mono e', xr⟩⟩
theorem ps_ifXx {as bs : List Stmt} (hc : PT X c (TB X.K cl xd)) (ha : PSs X as (TXs X.K X.mg xc cl F W ys)) (hb : PSs X bs (TXs X.K X.mg xc cl F W zs)) : PS X (.If c as bs pos) (TXt X.K X.mg xc cl F W (.ife xd ys zs)) := PS.pick fun E σ H ⟨r, S, al, x, r', S', hr, R, h, q⟩ => by
  simp only [xS] at h
  refine ⟨_, ps_if hc ha hb, ?_⟩
  split at h
  · rename_i S1 h1
    refine TB.go hr R h1 fun H1 al1 e1 R1 => ?_
    rw [if_pos rfl]
    exact ⟨r, S1, al1, x, r', S', hr.mono e1, R1, h, fun cls d σ' H' oo => q cls d σ' H' (oo.of e1 R1)⟩
  · rename_i S1 h1
    refine TB.go hr R h1 fun H1 al1 e1 R1 => ?_
    rw [if_neg (by decide)]
    exact ⟨r, S1, al1, x, r', S', hr.mono e1, R1, h, fun cls d σ' H' oo => q cls d σ' H' (oo.of e1 R1)⟩
  · cases h
theorem ps_no {st : Stmt} : PS X st (fun _ _ _ => False) := ⟨fun _ _ _ _ _ _ h => h.elim⟩
theorem pss_no {st : List Stmt} : PSs X st (fun _ _ _ => False) := ⟨fun _ _ _ _ _ _ h => h.elim⟩
theorem pss_consXx {st : Stmt} {sts : List Stmt} {x : St} {xs : Sts} (h1 : PS X st (TSt X.K cl F x)) (h1x : PS X st (TXt X.K X.mg xc cl F W x)) (h2 : PSs X sts (TXs X.K X.mg xc cl F W xs)) : PSs X (st :: sts) (TXs X.K X.mg xc cl F W (.cons x xs)) := PSs.pick fun E σ H ⟨r, S, al, y, r', S', hr, R, h, q⟩ => by
  simp only [xSs] at h
  split at h
  · rename_i r1 S1 hx
    exact ⟨_, pss_cons h1 h2, r, S, al, .nx, r1, S1, hr, R, hx, fun σ1 H1 ⟨al1, e1, R1, hr1⟩ => ⟨r1, S1, al1, y, r', S', hr1, R1, h, fun cls d σ' H' oo => q cls d σ' H' (oo.of e1 R1)⟩⟩
  · cases h
  · exact ⟨_, pss_cons h1x pss_no, r, S, al, y, r', S', hr, R, h, q⟩
theorem ps_rseXx {cn : Str} {fl : List Str} {e0 : List Str × List Str} (hc : X.calm = true) (tk : Takes X W) (hk : xc.lookup cn = some e0) (mk : MkOk X cn e0.1) (hs : PA X (e :: es) (TM X.K cl xs)) (hp : Plain (e :: es)) (hl : xs.len = (e :: es).length) (hf : e0.1.length = (e :: es).length) (C : Addr) (hC : X.mg cn = some (.ref C)) :
    PS X (.Raise (some (.Call (.Name cn p) (e :: es) [] p2)) none pos) (TXt X.K X.mg xc cl F W (.rse cn xs)) := PS.pick fun E σ H ⟨r, S, al, x, r', S', hr, R, h, q⟩ => by
  simp only [xS] at h
  split at h
  · rename_i ds S1 h1
    simp only [Option.some.injEq, Prod.mk.injEq] at h
    obtain ⟨rfl, rfl, rfl⟩ := h
    refine ⟨_, ps_raise hc tk (mk e es _ p p2 hs hp fun _ _ _ _ ⟨r, S, al, ds, S', a1, a2, a3, a4⟩ im => ⟨r, S, al, ds, S', a1, a2, a3, fun vs H' al' b1 b2 b3 => im _ _ (a4 vs H' al' b1 b2 b3)⟩), r, S, al, ds, S1, hr, R, h1, fun vs H1 al1 e1 R1 hv => ⟨?_, fun C' dd fs hC' hd hfs => ?_⟩⟩
    · rw [hv.length, evM_len h1, hl, hf]
    · have l0 : Loose H1 dd := ⟨fun vs z => (by rw [hd] at z; cases z), fun o u z => (by rw [hd] at z; cases z)⟩
      have nd := R1.fresh hd
      refine q _ _ _ _ ⟨al1, ?_, R1.mut nd l0, ?_, cn, ds, e0, C', dd, fs, rfl, hk, hC', rfl, rfl, upd_same, ?_, ?_⟩
      · have ne : ∀ {a : Addr} {o : HO}, H1 a = some o → upd H1 dd (.xd fs) a = some o := fun {a o} ha => by
          rw [upd_ne (show a ≠ dd from fun z => by rw [z, hd] at ha; cases ha)]; exact ha
        exact ⟨e1.pre, fun a o ha hm => ne (e1.fr a o ha hm), fun a vs ha => ne (e1.tp a vs ha), fun a o u ha => ne (e1.fz a o u ha)⟩
      · have := hr.mono e1
        exact ⟨this.len, fun i d hi => by obtain ⟨v, g1, g2⟩ := this.ok i d hi; exact ⟨v, g1, g2.up l0.keepT l0.keepF fun _ _ z => z⟩⟩
      · rw [evM_len h1, hl, hf]
      · intro j f dj hj hdj
        obtain ⟨v, hv1, hv2⟩ := hv.get hdj
        exact ⟨v, hfs j f v hj hv1, hv2.up l0.keepT l0.keepF fun _ _ z => z⟩
  · cases h
theorem ps_forXx {ik : IK} {body : List Stmt} (hzp : ik = .zip → ∃ is, t = .tp is) (hp : PassesOwn (model X.prog X.w) X.A X.env X.xe) (hc : X.calm = true) (hi : PI X tg e (TIt X.K cl ik xs)) (hg : PG X tg (tgP X.K t)) (hb : PSs X body (TSs X.K cl F ys)) (hbx : PSs X body (TXs X.K X.mg xc cl F W ys)) (hs : ∀ es kk p, e ≠ .Set es kk p) :
    PS X (.For tg e body [] pos) (TXt X.K X.mg xc cl F W (.forr ik xs t ys)) := PS.pick fun E σ H ⟨r, S, al, x, r', S', hr, R, h, q⟩ => by
  simp only [xS] at h
  split at h
  · rename_i ds S1 h1
    split at h
    · rename_i items ws hit
      have hb2 : PSs X body (fun D σ H => TSs X.K cl F ys D σ H ∨ TXs X.K X.mg xc cl F W ys D σ H) := PSs.pick fun D σ H hh => hh.elim (fun z => ⟨_, hb, z⟩) fun z => ⟨_, hbx, z⟩
      refine ⟨_, ps_for hp hc hi hg hb2 (noset hs X.env), r, S, al, ds, S1, items, ws, hr, R, h1, hit, fun J H1 al1 e1 R1 ok hz => ?_⟩
      refine ⟨fun i m σc Hc => m = items.length - i ∧ i ≤ items.length ∧ ∃ alc Sc rc, Ext al1 H1 alc Hc ∧ SRel X.K Hc alc Sc ∧ RelE X.K Hc alc rc σc ∧ forX ws t (evSs cl F ys) (xSs cl F ys) (items.drop i) rc Sc = some (x, r', S'),
        ⟨items.length, rfl, Nat.zero_le _, al1, S1, r, Ext.refl, R1, hr.mono e1, h⟩, ?_⟩
      rintro i m σc Hc ⟨rfl, hil, alc, Sc, rc, ec, Rc, hrc, hl⟩
      by_cases hlt : i < items.length
      · rw [List.drop_eq_getElem_cons hlt] at hl
        simp only [forX] at hl
        split at hl
        · rename_i hw
          split at hl
          · rename_i r1 hr1
            obtain ⟨jgo, jy⟩ := ok.go Hc alc Sc i _ ec Rc hw (List.getElem?_eq_getElem hlt)
            refine .inr ⟨jgo, _, fun σ' H' n => ⟨items.length - (i + 1), by omega, n⟩, fun x2 H2 yl => ?_⟩
            obtain ⟨e2, R2, hx, _⟩ := jy x2 H2 yl
            have E2 := ec.trans Rc e2
            refine tgt_okI hzp hx (hrc.mono e2) hr1 fun σ1 hrs _ => ?_
            have nxt : ∀ {r2 : Sl} {S2 : Store}, forX ws t (evSs cl F ys) (xSs cl F ys) (items.drop (i + 1)) r2 S2 = some (x, r', S') → ∀ σ' H', OutS X.K alc H2 r2 S2 σ' H' →
                items.length - (i + 1) = items.length - (i + 1) ∧ i + 1 ≤ items.length ∧ ∃ alc Sc rc, Ext al1 H1 alc H' ∧ SRel X.K H' alc Sc ∧ RelE X.K H' alc rc σ' ∧ forX ws t (evSs cl F ys) (xSs cl F ys) (items.drop (i + 1)) rc Sc = some (x, r', S') :=
              fun {r2 S2} hf σ' H' ⟨al3, e3, R3, h3⟩ => ⟨rfl, hlt, al3, S2, r2, E2.trans R2 e3, R3, h3, hf⟩
            split at hl
            · rename_i r2 S2 hb2
              exact .inl ⟨r1, Sc, alc, .nx, r2, S2, hrs, R2, hb2, nxt hl⟩
            · rename_i r2 S2 hb2
              exact .inl ⟨r1, Sc, alc, .ct, r2, S2, hrs, R2, hb2, nxt hl⟩
            · cases hl
            · exact .inr ⟨r1, Sc, alc, x, r', S', hrs, R2, hl, fun cls d σ' H' oo => q cls d σ' H' ((oo.of E2 R2).of e1 R1)⟩
          · cases hl
        · cases hl
      · have ee : i = items.length := by omega
        subst ee
        rw [List.drop_length] at hl
        simp [forX] at hl
    · cases h
  · cases h
end
end Rf

/-! Rf: what raises: the translation is sound. -/
namespace Rf
open PySem L2
section
variable {G : Cfg} {cl : Cl} {k F : Nat} {sc : Scope} {X : Cx} {W : WX} {xc : XC}
theorem px_noX {e : Expr} {x : Ex} (hx : ∀ r S, xE cl x r S = none) : PE X e (TXx X.K X.mg xc cl W x) := PE.pick fun σ H Q ⟨r, S, al, y, S', hr, R, h, q⟩ => by
  rw [hx] at h; cases h
theorem ps_noX {s : Stmt} {x : St} (hx : ∀ r S, xS cl F x r S = none) : PS X s (TXt X.K X.mg xc cl F W x) := PS.pick fun D σ H ⟨r, S, al, y, r', S', hr, R, h, q⟩ => by
  rw [hx] at h; cases h
theorem px_isXx {a b : Expr} {pos : Pos} {xa xb : Ex} (hrm : Room k X.A) (ha : PE X a (TXx X.K X.mg xc cl W xa)) (hm : behindInMarks .Is b = false) : PE X (.Compare a [.Is] [b] pos) (TXx X.K X.mg xc cl W (.cmp .Is xa xb)) := PE.pick fun σ H Q ⟨r, S, al, x, S', hr, R, h, q⟩ => by
  simp only [xE] at h
  split at h
  · cases h
  · obtain ⟨rr, ho, hq⟩ := cmp_ok (S := ([] : Store)) (op := .Is) hrm (show cmpS [] .Is .non .non = some true from rfl)
    exact ⟨_, pe_cmpR ho ha (pe_no (u := tC .non)) hm, r, S, al, x, S', hr, R, h, q⟩
theorem sndX (G : Cfg) (cl : Cl) (k : Nat) (W : WX) : ∀ n, (∀ {sc : Scope} {X : Cx} {e : Expr} {x : Ex}, GdX G cl k sc X W → trE G n sc e = some x → PE X e (TXx X.K X.mg G.xc cl W x)) ∧ (∀ {sc : Scope} {X : Cx} {es : List Expr} {xs : Exs}, GdX G cl k sc X W → trEs G n sc es = some xs → PA X es (TMx X.K X.mg G.xc cl W xs)) ∧
    (∀ {sc : Scope} {X : Cx} {op : BoolOp} {vs : List Expr} {x : Ex} {pos : Pos}, GdX G cl k sc X W → trB G n sc op vs = some x → PE X (.BoolOp op vs pos) (TXx X.K X.mg G.xc cl W x)) ∧
    (∀ {sc : Scope} {X : Cx} {e tg : Expr} {as : Exs}, GdX G cl k sc X W → trI G n sc tg e = some (.seq, as) → ∃ a, as = .cons a .nil ∧ PE X e (TXx X.K X.mg G.xc cl W a))
  | 0 => ⟨fun _ h => by simp [trE] at h, fun _ h => by simp [trEs] at h, fun _ h => by simp [trB] at h, fun _ h => by simp [trI] at h⟩
  | n + 1 => by
    obtain ⟨X1, X2, X3, X4⟩ := sndX G cl k W n
    have P := sndAll G cl k n
    refine ⟨fun {sc X e x} gx h => ?_, fun {sc X es xs} gx h => ?_, fun {sc X op vs x pos} gx h => ?_, fun {sc X e tg as} gx h => ?_⟩
    · have gd := gx.g.gd
      cases e with
      | Tuple es kk pos =>
        simp only [trE] at h
        split at h
        · simp only [Option.map_eq_some_iff] at h
          obtain ⟨u, h1, rfl⟩ := h
          exact px_tupXx (X2 gx h1)
        · cases h
      | IfExp c a b pos =>
        simp only [trE] at h
        split at h
        case h_2 => cases h
        rename_i h1 h2 h3
        cases h
        exact px_iteXx (P.t gd h1) (X1 gx h2) (X1 gx h3)
      | BoolOp op vs pos =>
        simp only [trE] at h
        exact X3 gx h
      | Compare a ops bs pos =>
        simp only [trE] at h
        split at h
        · rename_i op b
          split at h
          · cases h
          · rename_i hm
            split at h
            · split at h
              · simp only [Option.map_eq_some_iff] at h
                obtain ⟨_, _, rfl⟩ := h
                exact px_noX fun _ _ => by simp only [xE]
              · cases h
            · split at h
              case h_2 => cases h
              rename_i h1 h2
              cases h
              cases op
              case Is => exact px_isXx gd.room (X1 gx h1) (by simpa using hm)
              all_goals exact px_noX fun _ _ => by simp only [xE]
        · split at h
          · split at h
            all_goals first | (cases h; done) | (cases h; exact px_noX fun _ _ => by simp only [xE]) | (simp only [Option.map_eq_some_iff] at h; obtain ⟨_, _, rfl⟩ := h; exact px_noX fun _ _ => by simp only [xE])
          · cases h
        · cases h
      | Call f args kws cpos =>
        simp only [trE] at h
        split at h
        · split at h
          · rename_i y p
            split at h
            · rename_i hg
              simp only [Bool.and_eq_true] at hg
              split at h
              · rename_i j hj
                split at h
                · rename_i q hq
                  split at h
                  · rename_i hl
                    simp only [Option.map_eq_some_iff] at h
                    obtain ⟨xs, h1, rfl⟩ := h
                    have pe := P.es gd h1
                    have hy : q.1 = y := by
                      unfold fnIx at hj
                      obtain ⟨hlt, hb, _⟩ := List.findIdx?_eq_some_iff_getElem.mp hj
                      rw [List.getElem?_eq_getElem hlt] at hq
                      cases hq
                      exact eq_of_beq hb
                    obtain ⟨q1, q2⟩ := q
                    simp only at hy
                    subst hy
                    exact px_callXx gx hq hg.1 hg.2 pe.aM (X2 gx h1) pe.plain pe.nil_of
                  · cases h
                · cases h
              · split at h
                · rename_i hbl
                  have bifX : ∀ {b : Bi} {as : List Expr} {xs : Exs}, as ≠ [] → biOf y = some b → trEs G n sc as = some xs → PE X (.Call (.Name y p) as [] cpos) (TXx X.K X.mg G.xc cl W (.bif b xs)) := fun {b as xs} h0 hb h1 => by
                    cases as with
                    | nil => exact absurd rfl h0
                    | cons a as => exact px_bifXx gx hb hg.1 hg.2 hbl (X2 gx h1) (P.es gd h1).plain
                  split at h
                  · split at h
                    · split at h
                      · split at h
                        case h_2 => cases h
                        cases h
                        exact px_noX fun _ _ => by simp only [xE]
                      · cases h
                    · split at h
                      · rename_i b hb
                        simp only [Option.map_eq_some_iff] at h
                        obtain ⟨xs, h1, rfl⟩ := h
                        exact bifX (by simp) hb h1
                      · cases h
                  · split at h
                    · repeat' split at h
                      all_goals first | (cases h; done) | (cases h; exact px_noX fun _ _ => by simp only [xE]) | (simp only [Option.map_eq_some_iff] at h; obtain ⟨_, _, rfl⟩ := h; exact px_noX fun _ _ => by simp only [xE])
                    · split at h
                      · first | (cases h; done) | (cases h; exact px_noX fun _ _ => by simp only [xE]) | (simp only [Option.map_eq_some_iff] at h; obtain ⟨_, _, rfl⟩ := h; exact px_noX fun _ _ => by simp only [xE])
                      · split at h
                        · first | (cases h; done) | (cases h; exact px_noX fun _ _ => by simp only [xE]) | (simp only [Option.map_eq_some_iff] at h; obtain ⟨_, _, rfl⟩ := h; exact px_noX fun _ _ => by simp only [xE])
                        · split at h
                          · first | (cases h; done) | (cases h; exact px_noX fun _ _ => by simp only [xE]) | (simp only [Option.map_eq_some_iff] at h; obtain ⟨_, _, rfl⟩ := h; exact px_noX fun _ _ => by simp only [xE])
                          · split at h
                            · rename_i b hb
                              simp only [Option.map_eq_some_iff] at h
                              obtain ⟨xs, h1, rfl⟩ := h
                              exact bifX (by simp) hb h1
                            · cases h
                  · cases h
                  · split at h
                    · rename_i b hb
                      simp only [Option.map_eq_some_iff] at h
                      obtain ⟨xs, h1, rfl⟩ := h
                      exact bifX (by assumption) hb h1
                    · cases h
                · cases h
            · cases h
          · repeat' split at h
            all_goals first | (cases h; done) | (cases h; exact px_noX fun _ _ => by simp only [xE]) | (simp only [Option.map_eq_some_iff] at h; obtain ⟨_, _, rfl⟩ := h; exact px_noX fun _ _ => by simp only [xE])
          · cases h
        · repeat' split at h
          all_goals first | (cases h; done) | (cases h; exact px_noX fun _ _ => by simp only [xE]) | (simp only [Option.map_eq_some_iff] at h; obtain ⟨_, _, rfl⟩ := h; exact px_noX fun _ _ => by simp only [xE])
      | UnaryOp op a pos =>
        simp only [trE] at h
        split at h
        all_goals first | (cases h; done) | (cases h; exact px_noX fun _ _ => by simp only [xE]) | (simp only [Option.map_eq_some_iff] at h; obtain ⟨_, _, rfl⟩ := h; exact px_noX fun _ _ => by simp only [xE])
      | List es pos =>
        simp only [trE] at h
        split at h
        all_goals first | (cases h; done) | (cases h; exact px_noX fun _ _ => by simp only [xE]) | (simp only [Option.map_eq_some_iff] at h; obtain ⟨_, _, rfl⟩ := h; exact px_noX fun _ _ => by simp only [xE])
      | Name y pos =>
        simp only [trE] at h
        repeat' split at h
        all_goals first | (cases h; done) | (cases h; exact px_noX fun _ _ => by simp only [xE]) | (simp only [Option.map_eq_some_iff] at h; obtain ⟨_, _, rfl⟩ := h; exact px_noX fun _ _ => by simp only [xE])
      | Constant c j pos =>
        simp only [trE] at h
        repeat' split at h
        all_goals first | (cases h; done) | (cases h; exact px_noX fun _ _ => by simp only [xE]) | (simp only [Option.map_eq_some_iff] at h; obtain ⟨_, _, rfl⟩ := h; exact px_noX fun _ _ => by simp only [xE])
      | BinOp a op b pos =>
        simp only [trE] at h
        repeat' split at h
        all_goals first | (cases h; done) | (cases h; exact px_noX fun _ _ => by simp only [xE]) | (simp only [Option.map_eq_some_iff] at h; obtain ⟨_, _, rfl⟩ := h; exact px_noX fun _ _ => by simp only [xE])
      | Subscript o i pos =>
        simp only [trE] at h
        repeat' split at h
        all_goals first | (cases h; done) | (cases h; exact px_noX fun _ _ => by simp only [xE]) | (simp only [Option.map_eq_some_iff] at h; obtain ⟨_, _, rfl⟩ := h; exact px_noX fun _ _ => by simp only [xE])
      | ListComp elt gens scope pos =>
        simp only [trE] at h
        split at h
        · rename_i tg iter ifs
          split at h
          · rename_i hblk
            split at h
            · rename_i ik as t c xx h1 h2 h3 h4
              cases h
              cases ik
              case seq =>
                obtain ⟨a, rfl, pa⟩ := X4 (tg := tg) gx h1
                obtain ⟨-, ns⟩ := P.i (tg := tg) gd h1
                have ok : BlkOk X.N X.env.scope scope (ownOf G.N scope) := by rw [gd.N, gd.sc]; exact blkOk_by hblk
                refine PE.pick fun σ H Q ⟨r, S, al, y, S', hr, R, hh, q⟩ => ⟨_, pe_lc (g := tgP X.K t) (tt := TB X.K cl c) (te := TX X.K cl xx) gd.calm gd.nd (pi_tup pa) ok (fun s H C cc fp => ?_) (fun s H C cc fp => P.c (gd.blk scope s H C cc fp) h3) (fun s H C cc fp => P.e (gd.blk scope s H C cc fp) h4) (noset ns X.env), ?_⟩
                · have gb := gd.blk scope s H C cc fp
                  exact pg_tgt (X := X.blk s H scope (compEnvC scope cc C X.env) fp) gb.calm gb.nd (tgOk_blk gd scope s H C cc fp) (by rw [gb.N]; exact h2)
                · simp only [xE, xM] at hh
                  refine ⟨r, S, al, y, S', hr, R, ?_, q⟩
                  split at hh
                  · cases hh
                  · exact hh
              all_goals exact px_noX fun _ _ => by simp only [xE]
            · cases h
          · cases h
        · cases h
      | Dict ks vs pos =>
        simp only [trE] at h
        repeat' split at h
        all_goals first | (cases h; done) | (cases h; exact px_noX fun _ _ => by simp only [xE]) | (simp only [Option.map_eq_some_iff] at h; obtain ⟨_, _, rfl⟩ := h; exact px_noX fun _ _ => by simp only [xE])
      | _ => simp [trE] at h
    · cases es with
      | nil =>
        simp only [trEs, Option.some.injEq] at h
        subst h
        exact PA.pick fun σ H Q ⟨r, S, al, x, S', hr, R, h, q⟩ => by simp [xM] at h
      | cons e es =>
        simp only [trEs] at h
        split at h
        · rename_i x xs h1 h2
          cases h
          exact pa_consXx (P.e gx.g.gd h1) (X1 gx h1) (X2 gx h2) (tr_star h1) fun es' _ => pa_no
        · cases h
    · match vs, h with
      | [a], h => simp only [trB] at h; exact pe_one (X1 gx h)
      | a :: b :: r, h =>
        simp only [trB] at h
        split at h
        · cases h
          cases op <;> exact px_noX fun _ _ => by simp only [xE]
        · cases h
      | [], h => simp [trB] at h
    · simp only [trI] at h
      split at h
      · simp only [Option.map_eq_some_iff, Prod.mk.injEq] at h
        obtain ⟨_, _, z, _⟩ := h
        cases z
      · split at h
        · simp only [Option.map_eq_some_iff, Prod.mk.injEq] at h
          obtain ⟨_, _, z, _⟩ := h
          cases z
        · simp only [Option.map_eq_some_iff, Prod.mk.injEq] at h
          obtain ⟨x, h1, -, rfl⟩ := h
          exact ⟨x, rfl, X1 gx h1⟩
theorem sndXS (G : Cfg) (cl : Cl) (k F : Nat) (W : WX) : ∀ n, (∀ {sc : Scope} {X : Cx} {s : Stmt} {x : St}, GdX G cl k sc X W → trS G n sc s = some x → PS X s (TXt X.K X.mg G.xc cl F W x)) ∧ (∀ {sc : Scope} {X : Cx} {ss : List Stmt} {xs : Sts}, GdX G cl k sc X W → trSs G n sc ss = some xs → PSs X ss (TXs X.K X.mg G.xc cl F W xs))
  | 0 => ⟨fun _ h => by simp [trS] at h, fun _ h => by simp [trSs] at h⟩
  | n + 1 => by
    obtain ⟨P1, P2⟩ := sndXS G cl k F W n
    obtain ⟨N1, N2⟩ := sndS G cl k F n
    obtain ⟨X1, X2, X3, X4⟩ := sndX G cl k W n
    have P := sndAll G cl k n
    refine ⟨fun {sc X s x} gx h => ?_, fun {sc X ss xs} gx h => ?_⟩
    · have g := gx.g
      have tgt : ∀ {tg : Expr} {t : Pt}, trPt G.N sc tg = some t → PG X tg (tgP X.K t) := fun h => pg_tgt g.gd.calm g.gd.nd g.tg (by rw [g.gd.N]; exact h)
      cases s with
      | Assign ts v pos =>
        simp only [trS] at h
        split at h
        · rename_i y p
          split at h
          · rename_i t e h1 h2
            cases h
            by_cases hcmp : isComp v = true
            · cases v with
              | ListComp elt gens scope pc =>
                have : isLcE e = true := by
                  cases n with
                  | zero => simp [trE] at h2
                  | succ n =>
                    simp only [trE] at h2
                    repeat' split at h2
                    all_goals first
                      | (cases h2; done)
                      | (cases h2; rfl)
                exact ps_noX fun r S => by simp only [xS, this, if_true]
              | SetComp => cases n <;> simp [trE] at h2
              | DictComp => cases n <;> simp [trE] at h2
              | _ => simp [isComp] at hcmp
            · exact ps_asgXx (X1 gx h2) (tgt h1) (sole.trans (sw_no (by simpa using hcmp))) sws_name (asg1 fun _ _ z => nomatch z)
          · cases h
        · rename_i es kk p
          split at h
          · split at h
            · split at h
              · cases h; exact ps_noX fun _ _ => by simp only [xS]
              · cases h
            · cases h
          · rename_i hnt
            split at h
            · split at h
              · cases h; exact ps_noX fun _ _ => by simp only [xS]
              · cases h
            · split at h
              · rename_i t e h1 h2
                cases h
                exact ps_asgXx (X1 gx h2) (tgt h1) (sole.trans sw_tup) (sws_tup fun a b c z => hnt a b c z) (asg1 fun _ _ z => nomatch z)
              · cases h
        · split at h
          · split at h
            · cases h; exact ps_noX fun _ _ => by simp only [xS]
            · cases h
          · cases h
          · split at h
            · cases h; exact ps_noX fun _ _ => by simp only [xS]
            · cases h
        · cases h
      | Expr e pos =>
        simp only [trS] at h
        split at h
        · cases h
        · rename_i hc
          simp only [Option.map_eq_some_iff] at h
          obtain ⟨u, h1, rfl⟩ := h
          exact ps_expXx (X1 gx h1) (by simpa using hc)
      | Return e pos =>
        simp only [trS] at h
        split at h
        · split at h
          · split at h
            · cases h
              exact ps_noX fun _ _ => by simp only [xS, slE, xE]; rfl
            · cases h
          · simp only [Option.map_eq_some_iff] at h
            obtain ⟨u, h1, rfl⟩ := h
            exact ps_retXx (X1 gx h1)
        · cases h
          exact ps_noX fun _ _ => by simp only [xS]
      | If c a b pos =>
        simp only [trS] at h
        split at h
        · rename_i h1 h2 h3
          cases h
          exact ps_ifXx (P.t g.gd h1) (P2 gx h2) (P2 gx h3)
        · cases h
      | For tg iter b els pos =>
        simp only [trS] at h
        split at h
        · split at h
          · rename_i h1 h2 h3
            cases h
            obtain ⟨pi, ns⟩ := P.i (tg := tg) g.gd h2
            exact ps_forXx (zip_tp h2 h1) g.ps g.gd.calm pi (tgt h1) (N2 g h3) (P2 gx h3) ns
          · cases h
        · cases h
      | While c b els pos =>
        simp only [trS] at h
        split at h
        · split at h
          · cases h; exact ps_noX fun _ _ => by simp only [xS]
          · cases h
        · cases h
      | Pass pos => simp only [trS, Option.some.injEq] at h; subst h; exact ps_noX fun _ _ => by simp only [xS]
      | Break pos => simp only [trS, Option.some.injEq] at h; subst h; exact ps_noX fun _ _ => by simp only [xS]
      | Continue pos => simp only [trS, Option.some.injEq] at h; subst h; exact ps_noX fun _ _ => by simp only [xS]
      | Raise a b pos =>
        obtain ⟨c, p, e, es, p2, xs, fl, rfl, rfl, rfl, hg, hpn, hl, hx, hlen⟩ := tr_raiseE h
        obtain ⟨mk, C, hC⟩ := gx.cm c fl hl hg hpn
        have q := P.es g.gd hx
        exact ps_rseXx (fl := []) g.gd.calm gx.tk hl mk q.aM q.plain q.len hlen C hC
      | Try a b c d pos =>
        obtain ⟨xs, cs, nm, hh, rfl⟩ := tr_try h
        exact ps_noX fun _ _ => by simp only [xS]
      | _ => simp [trS] at h
    · cases ss with
      | nil =>
        simp only [trSs, Option.some.injEq] at h
        subst h
        exact PSs.pick fun D σ H ⟨r, S, al, x, r', S', hr, R, h, q⟩ => by simp [xSs] at h
      | cons s ss =>
        simp only [trSs] at h
        split at h
        · rename_i h1 h2
          cases h
          exact pss_consXx (N1 gx.g h1) (P1 gx h1) (P2 gx h2)
        · rename_i h1 h2
          cases h
          exact pss_consXx ps_badX (ps_noX fun _ _ => by simp only [xS]) (P2 gx h2)
        · cases h
end
end Rf

/-! Rf: the exception classes: what their calls make. -/
namespace Rf
open PySem L2 PySem.Spec PyProof.Rows
/-- what the base class says -/
structure KEr (K : PySem.W.Frag) (B : Addr) : Prop where
  sg : PySem.W.specialIn K (.ref B) "__getattribute__" = some (some (.builtin "type.__getattribute__"))
  ty : PySem.W.typeIn K (.ref B) = some (.type "type")
  rd : PySem.W.readsIn K B (.type "type") = true
  fi : PySem.W.findCls K (.ref B) (.type "type") "__init__" = some (.val (.builtin "ValueError.__init__"))
/-- B.__init__(self, ..), B the text's own base class -/
theorem pe_keinit {X : Cx} {e : Expr} {es : List Expr} {ta : TA} {y : Str} {B : Addr} {p1 p2 pos : Pos} {pl : Sem Bool} (KB : KEr X.K B) (hg : Gl X y) (hm : X.mg y = some (.ref B)) (ha : PA X (e :: es) ta) (hdb : (y == ("__debug__" : Str)) = false)
    (hc : eval (.Call (.Attribute (.Name y p1) "__init__" p2) (e :: es) [] pos) X.env = (do
      let ov ← eval (.Name y p1) X.env
      standAt p2.atName
      let (f, first) ← holding [ov] (getMethod ov "__init__" pl)
      callWith pos f first (backTo pos (starEach (e :: es) X.env)) (backToKw pos (keywordEach [] X.env))))
    (he : starEach (e :: es) X.env = (false, eval e X.env) :: starEach es X.env) (hpl : (backTo pos (starEach es X.env)).any (·.1) = false) :
    PE X (.Call (.Attribute (.Name y p1) "__init__" p2) (e :: es) [] pos) (tVeI X.K ta) := by
  refine ⟨fun pins s σ H Q I h => PySem.W.methodCall_KW (ld_glob I hg hm ?_ hdb) hc⟩
  obtain ⟨m, fr⟩ := I.fr
  refine PySem.W.method_of_cls fr I.ok.mod.kin KB.sg (PySem.W.cls_val fr I.ok.mod.kin KB.ty KB.rd KB.fi (by decide +kernel) ?_)
  show wpAny _ _ (callWith pos (Value.builtin "ValueError.__init__") [] (backTo pos (starEach (e :: es) X.env)) []) _ _ _
  refine PyProof.Rows.callWith_method1 (thn (ha.run pos pins _ σ H _ (I.tok _) h) fun us s1 q => ?_) he hpl
  obtain ⟨vs, H1, I1, r1, a, C, ws, ev, hl, T, ea, q⟩ := q
  subst ev
  cases r1 with
  | cons ra rw' =>
    cases ra
    exact oinit_ok T I1 ea (by rw [← Paired.length rw', sizeLine_eq]; omega) fun s' J => ⟨.non, H1, J, rfl, q⟩
/-- self.f = f, field by field -/
def Sets : List Str → List Stmt → Prop
  | [], rest => rest = []
  | f :: fl, rest => ∃ p1 p2 p3 p4 r, rest = .Assign [.Attribute (.Name "self" p1) f p2] (.Name f p3) p4 :: r ∧ Sets fl r
def KCall (p1 p2 p3 p4 p5 : Pos) (j : Nat) (m : Str) : Prop := ∀ env : Env, ∃ pl : Sem Bool, eval (.Call (.Attribute (.Name "KindError" p1) "__init__" p2) [.Name "self" p3, .Constant (.str m) j p4] [] p5) env = (do
      let ov ← eval (.Name "KindError" p1) env
      standAt p2.atName
      let (f, first) ← holding [ov] (getMethod ov "__init__" pl)
      callWith p5 f first (backTo p5 (starEach [.Name "self" p3, .Constant (.str m) j p4] env)) (backToKw p5 (keywordEach [] env)))
/-- what a class says of itself -/
structure XCl (K : PySem.W.Frag) (mg : Str → Option Value) (c : Str) (fl : List Str) (C : Addr) : Prop where
  mC : mg c = some (.ref C)
  T : OexC K C
  init : ∃ (fI B : Addr) (fd : FuncData) (st : Stmt) (q : Str) (p1 p2 p3 p4 p5 p6 : Pos) (j : Nat) (m : Str) (rest : List Stmt),
    PySem.W.findIn K (.ref C) "__init__" = some (some (.ref fI)) ∧ PySem.W.typeIn K (.ref fI) = some (.type "function") ∧ Fun K "__init__" q st fI fd ∧ Binds K fd ("self" :: fl) [] ∧ FnScope ("self" :: fl) ("self" :: fl) (defScope st) ∧
    mg "KindError" = some (.ref B) ∧ KEr K B ∧ (defScope st).names.lookup ("KindError" : Str) = some NameKind.globalImplicit ∧
    defBody st = .Expr (.Call (.Attribute (.Name "KindError" p1) "__init__" p2) [.Name "self" p3, .Constant (.str m) j p4] [] p5) p6 :: rest ∧ Sets fl rest ∧ KCall p1 p2 p3 p4 p5 j m
  nof : ∀ f ∈ fl, PySem.W.findIn K (.ref C) f = some none
  pn : ∀ f ∈ fl, plainName f = true
  ne : fl ≠ []
  nd : fl.Nodup
  few : fl.length ≤ 10
def Flds (fl : List Str) (vs : List V) (fs : List (Str × V)) : Prop := ∀ (j : Nat) f v, fl[j]? = some f → vs[j]? = some v → fs.lookup f = some v
/-- what __init__ keeps -/
def spI (C : Addr) (fl : List Str) : Sp := fun vs H Q _ => ∃ (a : Addr) (ws : List V), vs = .ref a :: ws ∧ ws.length = fl.length ∧ H a = some (exo a C none) ∧
  ∀ (H2 : Hp) (dx : Addr) (fs : List (Str × V)), H2 a = some (exo a C (some dx)) → H2 dx = some (exd dx fs) → (∀ b, b ≠ a → b ≠ dx → H2 b = H b) → H dx = none → dx ≠ a → Flds fl ws fs → Q .non H2
section
variable {X : Cx} {C : Addr} {a : Addr}
theorem lookup_ne {f g : Str} {y : V} {fs : List (Str × V)} (h : g ≠ f) : ((f, y) :: fs).lookup g = fs.lookup g := by
  rw [lookup_put, if_neg h]
theorem lookup_eq {f : Str} {y : V} {fs : List (Str × V)} : ((f, y) :: fs).lookup f = some y := by
  rw [lookup_put, if_pos rfl]
/-- the fields that are left, the dict there already -/
theorem sets_go (T : OexC X.K C) : ∀ (fl : List Str) (rest : List Stmt) (n : Nat), Sets fl rest → (∀ (j : Nat) f, fl[j]? = some f → X.N[n + j]? = some f) → X.N[0]? = some ("self" : Str) → (∀ f ∈ fl, Vis X.env.scope f) → Vis X.env.scope "self" → (∀ f ∈ fl, plainName f = true) → (∀ f ∈ fl, PySem.W.findIn X.K (.ref C) f = some none) → fl.Nodup →
    PSs X rest (fun D σ H => ∃ (a dx : Addr) (fs : List (Str × V)), σ[0]? = some (some (.ref a)) ∧ (∀ j, j < fl.length → ∃ v, σ[n + j]? = some (some v)) ∧ H a = some (exo a C (some dx)) ∧ H dx = some (exd dx fs) ∧ dx ≠ a ∧ fs.length + fl.length ≤ 900 ∧
      ∀ fs' : List (Str × V), (∀ (j : Nat) f v, fl[j]? = some f → σ[n + j]? = some (some v) → fs'.lookup f = some v) → (∀ g, g ∉ fl → fs'.lookup g = fs.lookup g) → D.nx σ (upd H dx (exd dx fs')))
  | [], rest, n, hs, _, _, _, _, _, _, _ => by
    cases hs
    refine PSs.pick fun D σ H ⟨a, dx, fs, h0, hj, ha, hd, hne, hl, q⟩ => ⟨_, pss_nil, ?_⟩
    have := q fs (fun j f v hf => by simp at hf) fun _ _ => rfl
    have e : upd H dx (exd dx fs) = H := by
      funext b
      by_cases hb : b = dx
      · subst hb; rw [upd_same, hd]
      · rw [upd_ne hb]
    rw [e] at this
    exact this
  | f :: fl, rest, n, hs, hN, h0N, hv, hvs, hp, hno, hnd => by
    obtain ⟨p1, p2, p3, p4, r, rfl, hs⟩ := hs
    have ih := sets_go T fl r (n + 1) hs (fun j g hg => by have := hN (j + 1) g (by simpa using hg); rwa [show n + 1 + j = n + (j + 1) by omega]) h0N (fun g hg => hv g (List.mem_cons_of_mem _ hg)) hvs (fun g hg => hp g (List.mem_cons_of_mem _ hg)) (fun g hg => hno g (List.mem_cons_of_mem _ hg)) (List.nodup_cons.mp hnd).2
    have pf := nm_of (hp f List.mem_cons_self)
    refine PSs.pick fun D σ H ⟨a, dx, fs, h0, hj, ha, hd, hne, hl, q⟩ => ⟨_, pss_cons (ps_ost (pe_var (i := 0) h0N hvs (by decide) (by decide)) (pe_var (i := n) (by have := hN 0 f rfl; simpa using this) (hv f List.mem_cons_self) pf.1 pf.2.1)) ih, ?_⟩
    obtain ⟨y, hy⟩ := hj 0 (by simp)
    rw [Nat.add_zero] at hy
    refine ⟨y, hy, .ref a, h0, a, C, rfl, T, hno f List.mem_cons_self, .inr ⟨dx, fs, ha, hd, by simp only [List.length_cons] at hl; omega, a, dx, (f, y) :: fs, h0, fun j hjl => ?_, ?_, upd_same, hne, by simp only [List.length_cons] at hl ⊢; omega, fun fs' h1 h2 => ?_⟩⟩
    · obtain ⟨v, hv⟩ := hj (j + 1) (by simpa using hjl)
      exact ⟨v, by rwa [show n + 1 + j = n + (j + 1) by omega]⟩
    · rw [upd_ne (Ne.symm hne)]; exact ha
    · have e : upd (upd H dx (exd dx ((f, y) :: fs))) dx (exd dx fs') = upd H dx (exd dx fs') := by
        funext b
        by_cases hb : b = dx
        · subst hb; rw [upd_same, upd_same]
        · rw [upd_ne hb, upd_ne hb, upd_ne hb]
      rw [e]
      refine q fs' (fun j g v hg hv => ?_) fun g hg => ?_
      · cases j with
        | zero =>
          cases hg
          rw [Nat.add_zero, hy] at hv
          cases hv
          rw [h2 f (List.nodup_cons.mp hnd).1, lookup_eq]
        | succ j => exact h1 j g v (by simpa using hg) (by rwa [show n + 1 + j = n + (j + 1) by omega])
      · rw [h2 g fun z => hg (List.mem_cons_of_mem _ z), lookup_ne fun z => hg (by rw [z]; exact List.mem_cons_self)]
end
theorem init_ok {P : Program} {w : World} {K : PySem.W.Frag} {mg : Str → Option Value} {base : Heap} {c : Str} {fl : List Str} {C : Addr} (x : XCl K mg c fl C) (k : Nat) : ∃ fI fd, PySem.W.findIn K (.ref C) "__init__" = some (some (.ref fI)) ∧ PySem.W.typeIn K (.ref fI) = some (.type "function") ∧ Binds K fd ("self" :: fl) [] ∧ FnOk P w K mg base (L2.CX P w) (k + 1) fI fd ("self" :: fl) (spI C fl) := by
  obtain ⟨fI, B, fd, st, q, p1, p2, p3, p4, p5, p6, j, m, rest, h1, h2, D, hb, S, mB, KB, hK, hbody, hs, hkc⟩ := x.init
  refine ⟨fI, fd, h1, h2, hb, Fun.okX D S (fun vs H Q E ⟨a, ws, e, hl, _⟩ => by rw [e]; simp [hl]) fun cdv A outer s H vs Q E room hsp => ?_⟩
  obtain ⟨a, ws, rfl, hl, ha, hq⟩ := hsp
  cases fl with
  | nil => exact absurd rfl x.ne
  | cons f fl =>
  obtain ⟨s1, s2, s3, s4, r, rfl, hs⟩ := hs
  cases ws with
  | nil => simp at hl
  | cons y ws =>
  have vis : ∀ g ∈ ("self" : Str) :: f :: fl, Vis (defScope st) g := fun g hg => by
    rcases S.par g hg with z | z
    · exact .inl z
    · exact .inr (.inl z)
  have nds := S.nd
  have pf := nm_of (x.pn f List.mem_cons_self)
  have T := x.T
  have go := sets_go (X := cxOf (L2.CX P w) P w K mg base ("self" :: f :: fl) q (defScope st) fI cdv A outer s H E) (C := C) T fl r 2 hs (fun j g hg => by
      show (("self" : Str) :: f :: fl)[2 + j]? = some g
      rw [show 2 + j = j + 1 + 1 by omega]; simpa using hg) rfl (fun g hg => vis g (List.mem_cons_of_mem _ (List.mem_cons_of_mem _ hg))) (vis _ List.mem_cons_self) (fun g hg => x.pn g (List.mem_cons_of_mem _ hg)) (fun g hg => x.nof g (List.mem_cons_of_mem _ hg)) (List.nodup_cons.mp x.nd).2
  have pself := fun {pos} => pe_var (X := cxOf (L2.CX P w) P w K mg base ("self" :: f :: fl) q (defScope st) fI cdv A outer s H E) (i := 0) (x := "self") (pos := pos) rfl (vis _ List.mem_cons_self) (by decide) (by decide)
  have pfld := fun {pos} => pe_var (X := cxOf (L2.CX P w) P w K mg base ("self" :: f :: fl) q (defScope st) fI cdv A outer s H E) (i := 1) (x := f) (pos := pos) rfl (vis _ (List.mem_cons_of_mem _ List.mem_cons_self)) pf.1 pf.2.1
  rw [hbody]
  obtain ⟨pl, hpl⟩ := hkc (envOfC q (defScope st) s.heap.objs.size fI cdv)
  refine ⟨_, pss_cons (ps_expr (pe_keinit (y := "KindError") KB hK mB (pa_cons pself (pa_cons pe_str pa_nil rfl) rfl) (by decide) hpl rfl rfl) rfl) (pss_cons (ps_ost pself pfld rfl) go), ?_⟩
  have hl' : ws.length = fl.length := by simpa using hl
  have sl : ∀ j v, (L2.start ("self" :: f :: fl) (.ref a :: y :: ws))[2 + j]? = some (some v) ↔ ws[j]? = some v := fun j v => by
    unfold L2.start
    rw [show 2 + j = j + 1 + 1 by omega]
    simp only [List.map_cons, List.cons_append, List.getElem?_cons_succ]
    by_cases hj : j < ws.length
    · rw [List.getElem?_append_left (by simpa using hj), List.getElem?_map]
      cases ws[j]? <;> simp
    · rw [List.getElem?_append_right (by simpa using hj), List.getElem?_replicate, List.getElem?_eq_none (by omega)]
      split <;> simp
  refine ⟨.ref a, rfl, a, C, [.str m], rfl, by simp, T, ha, y, rfl, .ref a, rfl, a, C, rfl, T, x.nof f List.mem_cons_self, .inl ⟨ha, fun dx hdx hne => ⟨a, dx, [(f, y)], rfl, fun j hj => ?_, upd_same, ?_, hne, ?_, fun fs' g1 g2 => ?_⟩⟩⟩
  · have : j < ws.length := by omega
    exact ⟨ws[j], (sl j _).mpr (List.getElem?_eq_getElem this)⟩
  · rw [upd_ne hne, upd_same]
  · have := x.few
    simp only [List.length_cons, List.length_nil] at this ⊢; omega
  · refine hq _ dx fs' ?_ upd_same (fun b h1 h2 => ?_) hdx hne fun j g v hg hv => ?_
    · rw [upd_ne (Ne.symm hne), upd_same]
    · rw [upd_ne h2, upd_ne h1, upd_ne h2]
    · cases j with
      | zero =>
        cases hg
        cases hv
        rw [g2 f (List.nodup_cons.mp x.nd).1, lookup_eq]
      | succ j => exact g1 j g v (by simpa using hg) ((sl j v).mpr (by simpa using hv))
/-- the call makes it -/
theorem mk_ok {X : Cx} {k : Nat} {c : Str} {fl : List Str} {C : Addr} (x : XCl X.K X.mg c fl C) (hr : Room k X.A) (hk : 2 ≤ k) (hg : Gl X c) (hp : plainName c = true) : MkOk X c fl := by
  intro e es ta p pos ha hpl mono pins s σ H Q I h
  obtain ⟨fI, fd, h1, h2, hb, F⟩ := init_ok (P := X.prog) (w := X.w) (base := X.base) x 0
  refine pmk_oex (CX := L2.CX X.prog X.w) (k := 1) (dvs := []) (ds := []) x.T h1 h2 F (hr.mono (by omega)) hb .nil passL hg x.mC ha (nm_of hp).1 (star_cons hpl.head _) (by rw [star_all hpl.tail]; simp [backTo]) pins s σ H Q I ?_
  have fe := x.few
  refine mono σ H _ _ h fun vs H1 ⟨hl, hq⟩ => ⟨by omega, fun a hn => ⟨a, vs, by simp, hl, upd_same, fun H2 dx fs e1 e2 e3 e4 e5 e6 => ⟨rfl, dx, fs, e1, e2, ?_, ?_⟩⟩⟩
  · rw [upd_ne e5] at e4; exact e4
  · have e : upd (del H2 a) dx (.xd fs) = upd H1 dx (.xd fs) := by
      funext b
      by_cases hb : b = dx
      · subst hb; rw [upd_same, upd_same]
      · rw [upd_ne hb, upd_ne hb]
        by_cases hb2 : b = a
        · subst hb2; rw [del_same, hn]
        · rw [del_ne hb2, e3 b hb2 hb, upd_ne hb2]
    rw [e]
    rw [upd_ne e5] at e4
    exact hq C dx fs x.mC e4 e6
end Rf

/-! Rf: an except suite. -/
namespace Rf
open PySem L2 PySem.Spec PyProof.Rows
/-- a class by its name -/
def CV (mg : Str → Option Value) (y : Str) (v : V) (cv : Value) : Prop := (∃ B : Addr, mg y = some (.ref B) ∧ v = .ref B ∧ cv = .ref B) ∨ (mg y = none ∧ y ≠ "__name__" ∧ ∃ t : String, bootBuiltins y = some (.type t) ∧ v = .ty t ∧ cv = .type t)
theorem CV.rel {mg : Str → Option Value} {y : Str} {v : V} {cv : Value} (h : CV mg y v cv) : RelV v cv ∧ ∀ u, RelV v u → u = cv := by
  rcases h with ⟨B, _, rfl, rfl⟩ | ⟨_, _, t, _, rfl, rfl⟩
  · exact ⟨rfl, fun u h => h⟩
  · exact ⟨rfl, fun u h => h⟩
/-- what a class says to isinstance, except, and where its fields are read -/
structure XFt (K : PySem.W.Frag) (mg : Str → Option Value) (xn : List Str) (c : Str) (e : List Str × List Str) (C : Addr) : Prop where
  cl : XCl K mg c e.1 C
  kc : (PySem.W.clsIn K C).isSome = true
  xf : XfC K C
  ha : PySem.W.findIn K (.ref C) "__class__" = some (some (.builtin "object.__class__"))
  hn : PySem.W.specialIn K (.builtin "object.__class__") "__get__" = some (some (.builtin "getset_descriptor.__get__"))
  ht : PySem.W.takesIn K (.builtin "object.__class__") = some true
  hm : PySem.W.mroIn K C (.type "object") = some true
  is : ∀ y ∈ xn, ∃ v cv, CV mg y v cv ∧ PySem.W.kitOne K (.ref C) cv = some (e.2.contains y) ∧ PySem.W.exmOne K (.ref C) cv = some (e.2.contains y)
section
variable {X : Cx} {a C dd : Addr} {oe : Obj} {pn : List (Addr × Obj)} {xn : List Str} {c : Str} {e : List Str × List Str}
theorem inst_of {pins : List (Addr × Obj)} {σ : L2.St} {H : Hp} {s : Shared} {fs : List (Str × V)} (hz : Zc (.ref C) (some dd) oe) (hf : ∃ vs, oe.data = .fields vs) (I : Inv (X.suite a ((a, oe) :: pn)) pins σ H s) (hd : H dd = some (.xd fs)) : ∃ od, PySem.W.InstAt s.heap a oe C (some od) := by
  obtain ⟨ha, _⟩ := I.pin (a, oe) (List.mem_append_left _ List.mem_cons_self)
  obtain ⟨vs, hv⟩ := hf
  obtain ⟨mA, hns, _⟩ := I.hok dd _ hd
  obtain ⟨od, ho, _⟩ := lookIn_ns hns
  exact ⟨od, ha, hz.1, by unfold PySem.W.notCls; rw [hv], by rw [hz.2]; exact ho⟩
/-- isinstance(e, c) -/
theorem call_isX (F : XFt X.K X.mg xn c e C) (hz : Zc (.ref C) (some dd) oe) (hf : ∃ vs, oe.data = .fields vs) : CallR (X.suite a ((a, oe) :: pn)) (.builtin "isinstance")
    (fun xs H Q => ∃ (v : V) (cv : Value) (b : Bool) (fs : List (Str × V)), xs = [.ref a, v] ∧ (∀ u, RelV v u → u = cv) ∧ PySem.W.kitOne X.K (.ref C) cv = some b ∧ H dd = some (.xd fs) ∧ Q (.bl b) H) := by
  intro pins s σ H xs us Q I r h
  obtain ⟨v, cv, b, fs, rfl, hv, hk, hd, q⟩ := h
  cases r with
  | cons r1 r2 =>
    cases r2 with
    | cons r3 r4 =>
      cases r4
      cases r1
      obtain rfl := hv _ r3
      obtain ⟨od, J⟩ := inst_of hz hf I hd
      exact PySem.W.kia_one (PySem.W.kitx_exc F.kc F.xf.ga F.xf.gg F.xf.exC F.ha F.hn F.ht F.hm) I.kIn J hk (fun z => nomatch z) fun tk => ⟨.bl b, H, I.kept (t' := tk) fun _ _ z => z, rfl, q⟩
/-- isinstance(e, (c, ..)) -/
theorem call_isXT (F : XFt X.K X.mg xn c e C) (hz : Zc (.ref C) (some dd) oe) (hf : ∃ vs, oe.data = .fields vs) : CallR (X.suite a ((a, oe) :: pn)) (.builtin "isinstance")
    (fun xs H Q => ∃ (t : Addr) (vs : List V) (b : Bool) (fs : List (Str × V)), xs = [.ref a, .ref t] ∧ H t = some (.tup vs) ∧ (∀ its, Vals vs its → PySem.W.kitAny X.K (.ref C) its = some b) ∧ H dd = some (.xd fs) ∧ Q (.bl b) H) := by
  intro pins s σ H xs us Q I r h
  obtain ⟨t, vs, b, fs, rfl, ht, hk, hd, q⟩ := h
  cases r with
  | cons r1 r2 =>
    cases r2 with
    | cons r3 r4 =>
      cases r4
      cases r1
      cases r3
      obtain ⟨od, J⟩ := inst_of hz hf I hd
      obtain ⟨_, its, rv, ob, ho, hc, n, hda⟩ := I.hok t _ ht
      obtain ⟨oc, odi, oda, osl⟩ := ob
      dsimp only at hc hda
      subst hc hda
      exact PySem.W.kia_tup (PySem.W.kitx_exc F.kc F.xf.ga F.xf.gg F.xf.exC F.ha F.hn F.ht F.hm) I.kIn J ho (hk its rv) (fun z => nomatch z) fun tk => ⟨.bl b, H, I.kept (t' := tk) fun _ _ z => z, rfl, q⟩
end
end Rf

/-! Rf: an except suite: its expressions, its statements. -/
namespace Rf
open PySem L2 PySem.Spec PyProof.Rows
section
variable {K : PySem.W.Frag} {mg : Str → Option Value} {xc : XC} {H H' : Hp} {al al' : Al} {S : Store} {x : D} {cls : Value} {d : Option Addr}
theorem XR.mono (e : Ext al H al' H') (R : SRel K H al S) (h : XR K mg xc H al x cls d) : XR K mg xc H' al' x cls d := by
  obtain ⟨c, ds, en, C, dd, fs, h1, h2, h3, h4, h5, h6, h7, h8⟩ := h
  refine ⟨c, ds, en, C, dd, fs, h1, h2, h3, h4, h5, e.fr dd _ h6 (fun m => ?_), h7, fun j f dj a b => ?_⟩
  · rcases R.tracked m with ⟨_, z⟩ | ⟨_, z⟩ <;> (rw [h6] at z; cases z)
  · obtain ⟨v, g1, g2⟩ := h8 j f dj a b
    exact ⟨v, g1, g2.mono e⟩
end
/-- an expression of the suite -/
def TH (K : PySem.W.Frag) (mg : Str → Option Value) (xc : XC) (a : Addr) (cls : Value) (d : Option Addr) (nm : Option Nat) (h : HE) : TE := fun σ H Q => ∃ r S al c ds v0, RelE K H al r σ ∧ SRel K H al S ∧ XR K mg xc H al (excD c ds) cls d ∧ (∀ i, nm = some i → σ[i]? = some (some (.ref a))) ∧ hE c ds r h = some v0 ∧
  ∀ v H' al', Ext al H al' H' → SRel K H' al' S → DN K H' al' v v0 → Q v H'
def THb (K : PySem.W.Frag) (mg : Str → Option Value) (xc : XC) (a : Addr) (cls : Value) (d : Option Addr) (nm : Option Nat) (h : HE) : TT := fun σ H Q => ∃ r S al c ds b, RelE K H al r σ ∧ SRel K H al S ∧ XR K mg xc H al (excD c ds) cls d ∧ (∀ i, nm = some i → σ[i]? = some (some (.ref a))) ∧ hE c ds r h = some (.bl b) ∧
  ∀ H' al', Ext al H al' H' → SRel K H' al' S → Q b H'
def THs (K : PySem.W.Frag) (mg : Str → Option Value) (xc : XC) (a : Addr) (cls : Value) (d : Option Addr) (nm : Option Nat) (h : HEs) : TA := fun σ H Q => ∃ r S al c ds vs0, RelE K H al r σ ∧ SRel K H al S ∧ XR K mg xc H al (excD c ds) cls d ∧ (∀ i, nm = some i → σ[i]? = some (some (.ref a))) ∧ hEs c ds r h = some vs0 ∧
  ∀ vs H' al', Ext al H al' H' → SRel K H' al' S → DNL K H' al' vs vs0 → Q vs H'
theorem excD_inj {c c' : Str} {ds ds' : List D} (h : excD c ds = excD c' ds') : c = c' ∧ ds = ds' := by
  unfold excD at h
  cases h
  exact ⟨rfl, rfl⟩
theorem hEs_len {c : Str} {ds : List D} {r : Sl} : ∀ {es : List Expr} {xs : HEs} {vs : List D} {G : Cfg} {sc : Scope} {en : Option Str} {n : Nat}, trHs G sc en n es = some xs → hEs c ds r xs = some vs → vs.length = es.length
  | [], xs, vs, G, sc, en, n, h, h2 => by
    cases n with
    | zero => simp [trHs] at h
    | succ n =>
      simp only [trHs, Option.some.injEq] at h
      subst h
      simp only [hEs, Option.some.injEq] at h2
      subst h2; rfl
  | e :: es, xs, vs, G, sc, en, n, h, h2 => by
    cases n with
    | zero => simp [trHs] at h
    | succ n =>
      simp only [trHs] at h
      split at h
      · rename_i x ys h3 h4
        cases h
        simp only [hEs] at h2
        split at h2
        · rename_i d' ds' g1 g2
          cases h2
          simp [hEs_len h4 g2]
        · cases h2
      · cases h
/-- the frame of an except suite -/
structure GdH (G : Cfg) (sc : Scope) (X : Cx) (a : Addr) (oe : Obj) (cls : Value) (d : Option Addr) (en : Option Str) (nm : Option Nat) : Prop where
  N : X.N = G.N
  nd : X.N.Nodup
  scp : X.env.scope = sc
  bl : ∀ x ∈ G.bl, X.mg x = none
  ft : ∀ c e, G.xc.lookup c = some e → ∃ C, XFt X.K X.mg G.xn c e C
  hz : Zc cls d oe
  hf : ∃ vs, oe.data = .fields vs
  nmi : ∀ m, en = some m → ∃ i, nm = some i ∧ X.N[i]? = some m ∧ sc.names.lookup m = some .local ∧ (m == ("__debug__" : Str)) = false ∧ (m == ("__classdict__" : Str)) = false
  nmj : ∀ i, nm = some i → ∃ m, en = some m ∧ X.N[i]? = some m
section
variable {G : Cfg} {sc : Scope} {X : Cx} {a : Addr} {oe : Obj} {cls : Value} {d : Option Addr} {en : Option Str} {nm : Option Nat} {pn : List (Addr × Obj)}
theorem isVis_of {x : Str} (h : isVis sc x = true) : Vis sc x := by
  unfold isVis at h
  split at h
  · exact .inl (by assumption)
  · exact .inr (.inl (by assumption))
  · exact .inr (.inr (by assumption))
  · cases h
theorem glS {x : Str} (g : GdH G sc X a oe cls d en nm) (h : isGl sc x = true) : Gl (X.suite a ((a, oe) :: pn)) x := by
  unfold isGl at h
  show X.env.scope.names.lookup x = _
  rw [g.scp]
  split at h
  · assumption
  · cases h
/-- a class's name -/
theorem pe_cls {y : Str} {v : V} {cv : Value} {p : Pos} (g : GdH G sc X a oe cls d en nm) (hy : isCls G sc y = true) (h : CV X.mg y v cv) : PE (X.suite a ((a, oe) :: pn)) (.Name y p) (tC v) := by
  unfold isCls at hy
  simp only [Bool.and_eq_true] at hy
  have n1 := nm_of hy.2.1
  rcases h with ⟨B, hm, rfl, rfl⟩ | ⟨hm, hn, t, hb, rfl, rfl⟩
  · exact pe_glob (v := .ref B) (glS g hy.1) hm rfl n1.1
  · exact pe_bltn (glS g hy.1) hm hb rfl hn n1.1
/-- the caught exception's name -/
theorem pe_en {m : Str} {i : Nat} {p : Pos} (g : GdH G sc X a oe cls d en nm) (hm : en = some m) : ∃ i, nm = some i ∧ PE (X.suite a ((a, oe) :: pn)) (.Name m p) (tVar i) := by
  obtain ⟨i, e1, e2, e3, e4, e5⟩ := g.nmi m hm
  exact ⟨i, e1, pe_var (X := X.suite a ((a, oe) :: pn)) e2 (.inl (by show X.env.scope.names.lookup m = _; rw [g.scp]; exact e3)) e4 e5⟩
theorem isaOf_mem {xc : XC} {c y : Str} {e : List Str × List Str} (hnd : (xc.map (·.1)).Nodup) (h : xc.lookup c = some e) : (isaOf xc y).contains c = e.2.contains y := by
  induction xc with
  | nil => cases h
  | cons z xc ih =>
    obtain ⟨c0, e0⟩ := z
    rw [List.map_cons, List.nodup_cons] at hnd
    rw [List.lookup_cons] at h
    split at h
    · rename_i hb
      have := eq_of_beq hb
      subst this
      cases h
      have hno : ∀ (p : Str × List Str × List Str → Bool), ((xc.filter p).map (·.1)).contains c = false := fun p => by
        rw [Bool.eq_false_iff]
        intro hc
        simp only [List.contains_iff_mem, List.mem_map, List.mem_filter] at hc
        obtain ⟨z, ⟨hz, _⟩, he⟩ := hc
        exact hnd.1 (List.mem_map.mpr ⟨z, hz, he⟩)
      unfold isaOf
      rw [List.filter_cons]
      split
      · rename_i hq
        simp only at hq
        rw [hq]
        simp
      · rename_i hq
        rw [hno]
        simp only [Bool.not_eq_true] at hq
        exact hq.symm
    · rename_i hb
      have ih := ih hnd.2 h
      have hne : c ≠ c0 := by simpa using hb
      unfold isaOf at ih ⊢
      rw [List.filter_cons]
      split
      · rw [List.map_cons, List.contains_cons, ih]
        simp [hne]
      · exact ih
theorem fldOf_mem {xc : XC} {c f : Str} {j : Nat} {e : List Str × List Str} (hnd : (xc.map (·.1)).Nodup) (h : xc.lookup c = some e) (hl : (fldOf xc f).lookup c = some j) : e.1[j]? = some f := by
  induction xc with
  | nil => cases h
  | cons z xc ih =>
    obtain ⟨c0, e0⟩ := z
    rw [List.map_cons, List.nodup_cons] at hnd
    rw [List.lookup_cons] at h
    have key : ∀ {l : List Str} {j : Nat}, l.idxOf? f = some j → l[j]? = some f := fun h => idx_get h
    unfold fldOf at hl ih
    rw [List.filterMap_cons] at hl
    split at h
    · rename_i hb
      have := eq_of_beq hb
      subst this
      cases h
      have hno : ∀ (q : Str × List Str × List Str → Option Nat), (xc.filterMap fun e => (q e).map fun j => (e.1, j)).lookup c = none := fun q => by
        rw [List.lookup_eq_none_iff]
        intro z hz
        obtain ⟨w, hw, he⟩ := List.mem_filterMap.mp hz
        obtain ⟨j', _, rfl⟩ := Option.map_eq_some_iff.mp he
        have : c ≠ w.1 := fun z => hnd.1 (List.mem_map.mpr ⟨w, hw, z.symm⟩)
        simpa using this
      cases hi : e.1.idxOf? f with
      | none =>
        simp only [hi, Option.map_none] at hl
        rw [hno fun e => e.2.1.idxOf? f] at hl
        cases hl
      | some i =>
        simp only [hi, Option.map_some, List.lookup_cons, beq_self_eq_true] at hl
        cases hl
        exact key hi
    · rename_i hb
      have hne : (c == c0) = false := by simpa using hb
      refine ih hnd.2 h ?_
      cases hi : e0.1.idxOf? f with
      | none => simpa only [hi, Option.map_none] using hl
      | some i => simpa only [hi, Option.map_some, List.lookup_cons, hne] using hl
theorem ext_new {H : Hp} {al : Al} {p : Addr} {o : HO} (hp : H p = none) : Ext al H al (upd H p o) := by
  have ne : ∀ {b : Addr} {u : HO}, H b = some u → upd H p o b = some u := fun {b u} hb => by
    rw [upd_ne (show b ≠ p from fun z => by rw [z, hp] at hb; cases hb)]; exact hb
  exact ⟨⟨[], by simp, fun _ _ m => absurd m (by simp)⟩, fun b u hb _ => ne hb, fun b vs hb => ne hb, fun b u w hb => ne hb⟩
theorem loose_new {H : Hp} {p : Addr} (hp : H p = none) : Loose H p := ⟨fun vs z => (by rw [hp] at z; cases z), fun o u z => (by rw [hp] at z; cases z)⟩
/-- the classes of a tuple -/
theorem pa_cls {c : Str} {e : List Str × List Str} {C : Addr} (g : GdH G sc X a oe cls d en nm) (hnd : (G.xc.map (·.1)).Nodup) (hc : G.xc.lookup c = some e) (F : XFt X.K X.mg G.xn c e C) : ∀ {es : List Expr} {cs : List (List Str)}, mapO (fun e => match e with
      | .Name y _ => if isCls G sc y then some (isaOf G.xc y) else none
      | _ => none) es = some cs → ∃ vs cvs, PA (X.suite a ((a, oe) :: pn)) es (fun σ H Q => Q vs H) ∧ vs.length = es.length ∧ (∀ its, Vals vs its → its = cvs) ∧ PySem.W.kitAny X.K (.ref C) cvs = some (cs.flatten.contains c)
  | [], cs, h => by
    simp only [mapO, Option.some.injEq] at h
    subst h
    exact ⟨[], [], pa_nil, rfl, fun its r => by cases r; rfl, rfl⟩
  | x :: es, cs, h => by
    obtain ⟨b, bs, h1, h2, rfl⟩ := mapO_some h
    obtain ⟨vs, cvs, p1, p2, p3, p4⟩ := pa_cls g hnd hc F h2
    cases x with
    | Name y p =>
      simp only at h1
      split at h1
      · rename_i hy
        cases h1
        have hx : y ∈ G.xn := by
          unfold isCls at hy
          simp only [Bool.and_eq_true] at hy
          simpa using hy.2.2
        obtain ⟨v, cv, hcv, hk, _⟩ := F.is y hx
        refine ⟨v :: vs, cv :: cvs, pa_cons (pe_cls g hy hcv) p1 rfl, by simp [p2], fun its r => ?_, ?_⟩
        · cases r with
          | cons r1 r2 => rw [hcv.rel.2 _ r1, p3 _ r2]
        · unfold PySem.W.kitAny
          rw [hk, List.flatten_cons]
          have : ((isaOf G.xc y) ++ bs.flatten).contains c = (e.2.contains y || bs.flatten.contains c) := by
            rw [← isaOf_mem hnd hc]
            simp only [List.contains_eq_any_beq, List.any_append]
          rw [this]
          cases e.2.contains y
          · simpa using p4
          · rfl
      · cases h1
    | _ => cases h1
/-- what stands for the exception -/
theorem xr_open {H : Hp} {al : Al} {c : Str} {ds : List D} (g : GdH G sc X a oe cls d en nm) (h : XR X.K X.mg G.xc H al (excD c ds) cls d) : ∃ e C dd fs, G.xc.lookup c = some e ∧ XFt X.K X.mg G.xn c e C ∧ cls = .ref C ∧ d = some dd ∧ H dd = some (.xd fs) ∧ ∀ (j : Nat) f dj, e.1[j]? = some f → ds[j]? = some dj → ∃ v, fs.lookup f = some v ∧ DN X.K H al v dj := by
  obtain ⟨c', ds', e, C, dd, fs, h1, h2, h3, h4, h5, h6, h7, h8⟩ := h
  obtain ⟨rfl, rfl⟩ := excD_inj h1
  obtain ⟨C', F⟩ := g.ft c e h2
  have := F.cl.mC
  rw [h3] at this
  cases this
  exact ⟨e, C, dd, fs, h2, F, h4, h5, h6, h8⟩
theorem ph_cst {e : Expr} {v : V} {d0 : D} (h0 : PE (X.suite a ((a, oe) :: pn)) e (tC v)) (hd : ∀ H al, DN X.K H al v d0) : PE (X.suite a ((a, oe) :: pn)) e (TH X.K X.mg G.xc a cls d nm (.cst d0)) := PE.pick fun σ H Q ⟨r, S, al, c, ds, v0, hr, R, xr, hi, h, q⟩ => by
  simp only [hE, Option.some.injEq] at h
  subst h
  exact ⟨_, h0, q v H al Ext.refl R (hd H al)⟩
theorem DN.bl_eq {K : PySem.W.Frag} {H : Hp} {al : Al} {v : V} {b : Bool} (h : DN K H al v (.bl b)) : v = .bl b := by cases h; rfl
theorem sndH (g : GdH G sc X a oe cls d en nm) (hnd : (G.xc.map (·.1)).Nodup) : ∀ n, (∀ {e : Expr} {h : HE}, trH G sc en n e = some h → PE (X.suite a ((a, oe) :: pn)) e (TH X.K X.mg G.xc a cls d nm h)) ∧ (∀ {op : BoolOp} {vs : List Expr} {h : HE} {pos : Pos}, trHB G sc en n op vs = some h → PE (X.suite a ((a, oe) :: pn)) (.BoolOp op vs pos) (TH X.K X.mg G.xc a cls d nm h)) ∧ (∀ {es : List Expr} {hs : HEs}, trHs G sc en n es = some hs → PA (X.suite a ((a, oe) :: pn)) es (THs X.K X.mg G.xc a cls d nm hs) ∧ Plain es)
  | 0 => ⟨fun h => by simp [trH] at h, fun h => by simp [trHB] at h, fun h => by simp [trHs] at h⟩
  | n + 1 => by
    obtain ⟨P1, P2, P3⟩ := sndH g hnd n
    have hne : ∀ {b c : Expr} {rest : List Expr} {op : BoolOp} {x y : HE} {pos : Pos}, PE (X.suite a ((a, oe) :: pn)) b (TH X.K X.mg G.xc a cls d nm x) → PE (X.suite a ((a, oe) :: pn)) (.BoolOp op (c :: rest) pos) (TH X.K X.mg G.xc a cls d nm y) → PE (X.suite a ((a, oe) :: pn)) (.BoolOp op (b :: c :: rest) pos) (TH X.K X.mg G.xc a cls d nm (match op with | .And => .and x y | .Or => .or x y)) := by
      intro b c rest op x y pos hb hc
      cases op with
      | And =>
        refine PE.pick fun σ H Q ⟨r, S, al, c, ds, v0, hr, R, xr, hi, h, q⟩ => ⟨_, pe_and hb hc, ?_⟩
        simp only [hE] at h
        split at h
        · rename_i h1
          refine ⟨r, S, al, c, ds, _, hr, R, xr, hi, h1, fun v H1 al1 e1 R1 hv => ⟨true, hv.bl_eq, ?_⟩⟩
          rw [if_pos rfl]
          exact ⟨r, S, al1, c, ds, v0, hr.mono e1, R1, xr.mono e1 R, hi, h, fun w H2 al2 e2 R2 hw => q w H2 al2 (e1.trans R1 e2) R2 hw⟩
        · rename_i h1
          simp only [Option.some.injEq] at h
          subst h
          refine ⟨r, S, al, c, ds, _, hr, R, xr, hi, h1, fun v H1 al1 e1 R1 hv => ⟨false, hv.bl_eq, ?_⟩⟩
          rw [if_neg (by decide)]
          exact q _ H1 al1 e1 R1 (.bl _)
        · cases h
      | Or =>
        refine PE.pick fun σ H Q ⟨r, S, al, c, ds, v0, hr, R, xr, hi, h, q⟩ => ⟨_, pe_or hb hc, ?_⟩
        simp only [hE] at h
        split at h
        · rename_i h1
          simp only [Option.some.injEq] at h
          subst h
          refine ⟨r, S, al, c, ds, _, hr, R, xr, hi, h1, fun v H1 al1 e1 R1 hv => ⟨true, hv.bl_eq, ?_⟩⟩
          rw [if_pos rfl]
          exact q _ H1 al1 e1 R1 (.bl _)
        · rename_i h1
          refine ⟨r, S, al, c, ds, _, hr, R, xr, hi, h1, fun v H1 al1 e1 R1 hv => ⟨false, hv.bl_eq, ?_⟩⟩
          rw [if_neg (by decide)]
          exact ⟨r, S, al1, c, ds, v0, hr.mono e1, R1, xr.mono e1 R, hi, h, fun w H2 al2 e2 R2 hw => q w H2 al2 (e1.trans R1 e2) R2 hw⟩
        · cases h
    refine ⟨fun {e h0} h => ?_, fun {op vs h0 pos} h => ?_, fun {es hs} h => ?_⟩
    · simp only [trH] at h
      split at h
      · split at h
        · cases h; exact ph_cst pe_non fun _ _ => .non
        · cases h; exact ph_cst pe_bl fun _ _ => .bl _
        · cases h; exact ph_cst pe_int fun _ _ => .int _
        · cases h; exact ph_cst pe_str fun _ _ => .str _
        · cases h
      · rename_i x p
        split at h
        · rename_i hx
          simp only [Bool.and_eq_true] at hx
          simp only [Option.map_eq_some_iff] at h
          obtain ⟨j, hj, rfl⟩ := h
          have nn := nm_of hx.1
          refine PE.pick fun σ H Q ⟨r, S, al, c, ds, v0, hr, R, xr, hi, h, q⟩ => ?_
          simp only [hE, slot] at h
          split at h
          · rename_i d' hs
            cases h
            obtain ⟨v, e1, e2⟩ := hr.ok j v0 hs
            exact ⟨_, pe_var (X := X.suite a ((a, oe) :: pn)) (by show X.N[j]? = _; rw [g.N]; exact idx_get hj) (by show Vis X.env.scope x; rw [g.scp]; exact isVis_of hx.2.1) nn.1 nn.2.1, v, e1, q v H al Ext.refl R e2⟩
          · cases h
        · cases h
      · rename_i gg pg m pm y pc
        split at h
        · rename_i hx
          simp only [Bool.and_eq_true, beq_iff_eq] at hx
          obtain ⟨rfl, hbl, hen⟩ := hx
          obtain ⟨b1, b2, b3⟩ := isBl_parts hbl
          have mi : X.mg "isinstance" = none := g.bl _ (by simpa using b2)
          obtain ⟨i, hnm, pen⟩ := pe_en (pn := pn) (p := pm) (i := 0) g hen
          simp only [Option.map_eq_some_iff] at h
          obtain ⟨cs, hcs, rfl⟩ := h
          refine PE.pick fun σ H Q ⟨r, S, al, c, ds, v0, hr, R, xr, hi, h, q⟩ => ?_
          simp only [hE, Option.some.injEq] at h
          subst h
          obtain ⟨e, C, dd, fs, hl, F, rfl, rfl, hd, _⟩ := xr_open g xr
          cases y with
          | Name y py =>
            simp only [clsIs] at hcs
            split at hcs
            · rename_i hy
              cases hcs
              have hxn : y ∈ G.xn := by
                unfold isCls at hy
                simp only [Bool.and_eq_true] at hy
                simpa using hy.2.2
              obtain ⟨v, cv, hcv, hk, _⟩ := F.is y hxn
              rw [← isaOf_mem hnd hl] at hk
              exact ⟨_, pe_callB (call_isX F g.hz g.hf) (glS g b1) mi (by decide +kernel) (pa_cons pen (pa_cons (pe_cls g hy hcv) pa_nil rfl) rfl) (by decide) (by decide) rfl rfl, .ref a, hi i hnm, v, cv, _, fs, rfl, hcv.rel.2, hk, hd, q _ H al Ext.refl R (.bl _)⟩
            · cases hcs
          | Tuple es kk pt =>
            simp only [clsIs] at hcs
            split at hcs
            case isFalse => cases hcs
            rename_i hz1000
            simp only [Option.map_eq_some_iff] at hcs
            obtain ⟨css, hcs, rfl⟩ := hcs
            obtain ⟨vs, cvs, p1, p2, p3, p4⟩ := pa_cls (pn := pn) g hnd hl F hcs
            refine ⟨_, pe_callB (call_isXT F g.hz g.hf) (glS g b1) mi (by decide +kernel) (pa_cons pen (pa_cons (pe_tup p1) pa_nil rfl) rfl) (by decide) (by decide) rfl rfl, .ref a, hi i hnm, ?_, fun t ht => ⟨t, vs, _, fs, rfl, upd_same, fun its r => by rw [p3 its r]; exact p4, ?_, ?_⟩⟩
            · rw [p2, sizeLine_eq]; omega
            · rw [upd_ne (show dd ≠ t from fun z => by rw [z, ht] at hd; cases hd)]; exact hd
            · exact q _ _ al (ext_new ht) (R.mut (R.fresh ht) (loose_new ht)) (.bl _)
          | _ => simp [clsIs] at hcs
        · cases h
      · rename_i m pm f pf
        split at h
        · rename_i hen
          have hen := eq_of_beq hen
          cases h
          obtain ⟨i, hnm, pen⟩ := pe_en (pn := pn) (p := pm) (i := 0) g hen
          refine PE.pick fun σ H Q ⟨r, S, al, c, ds, v0, hr, R, xr, hi, h, q⟩ => ?_
          simp only [hE] at h
          split at h
          · rename_i j hj
            obtain ⟨e, C, dd, fs, hl, F, rfl, rfl, hd, hfs⟩ := xr_open g xr
            have hf := fldOf_mem hnd hl hj
            obtain ⟨v, g1, g2⟩ := hfs j f v0 hf h
            exact ⟨_, pe_xf F.xf (F.cl.nof f (List.mem_of_getElem? hf)) g.hz g.hf pen rfl, .ref a, hi i hnm, rfl, rfl, dd, fs, v, rfl, hd, g1, q v H al Ext.refl R g2⟩
          · cases h
        · cases h
      · simp only [Option.map_eq_some_iff] at h
        obtain ⟨x, hx, rfl⟩ := h
        refine PE.pick fun σ H Q ⟨r, S, al, c, ds, v0, hr, R, xr, hi, h, q⟩ => ⟨_, pe_not (P1 hx), ?_⟩
        simp only [hE] at h
        split at h
        · rename_i bo h1
          simp only [Option.some.injEq] at h
          subst h
          exact ⟨r, S, al, c, ds, _, hr, R, xr, hi, h1, fun v H1 al1 e1 R1 hv => ⟨bo, hv.bl_eq, q _ H1 al1 e1 R1 (.bl _)⟩⟩
        · cases h
      · exact P2 h
      · split at h
        case isFalse => cases h
        rename_i hz1000
        simp only [Option.map_eq_some_iff] at h
        obtain ⟨xs, hx, rfl⟩ := h
        refine PE.pick fun σ H Q ⟨r, S, al, c, ds, v0, hr, R, xr, hi, h, q⟩ => ⟨_, pe_tupN (P3 hx).1, ?_⟩
        simp only [hE, Option.map_eq_some_iff] at h
        obtain ⟨vs0, h1, rfl⟩ := h
        refine ⟨r, S, al, c, ds, vs0, hr, R, xr, hi, h1, fun vs H1 al1 e1 R1 hv => ⟨?_, fun t ob ht hd => ?_⟩⟩
        · rw [hv.length, hEs_len hx h1, sizeLine_eq]; omega
        · have l0 := loose_new ht
          exact q _ _ al1 (e1.trans R1 (ext_new ht)) (R1.mut (R1.fresh ht) l0) (.tup (tpT_new hd) (hv.up l0.keepT l0.keepF fun _ _ z => z))
      · cases h
    · simp only [trHB] at h
      split at h
      · rename_i b c
        split at h
        · rename_i x y h1 h2
          cases h
          exact hne (P1 h1) (pe_one (P1 h2))
        · cases h
      · rename_i b c c2 rest
        split at h
        · rename_i x y h1 h2
          cases h
          exact hne (P1 h1) (P2 h2)
        · cases h
      · cases h
    · cases es with
      | nil =>
        simp only [trHs, Option.some.injEq] at h
        subst h
        refine ⟨PA.pick fun σ H Q ⟨r, S, al, c, ds, vs0, hr, R, xr, hi, h, q⟩ => ⟨_, pa_nil, ?_⟩, fun e he => absurd he (by simp)⟩
        simp only [hEs, Option.some.injEq] at h
        subst h
        exact q [] H al Ext.refl R .nil
      | cons e es =>
        simp only [trHs] at h
        split at h
        · rename_i x xs h1 h2
          cases h
          have hst : ∀ z p, e ≠ .Starred z p := fun z p ee => by subst ee; cases n <;> simp [trH] at h1
          refine ⟨PA.pick fun σ H Q ⟨r, S, al, c, ds, vs0, hr, R, xr, hi, h, q⟩ => ⟨_, pa_cons (P1 h1) (P3 h2).1 (star_cons hst _), ?_⟩, fun z hz => ?_⟩
          · simp only [hEs] at h
            split at h
            · rename_i d1 ds1 g1 g2
              cases h
              exact ⟨r, S, al, c, ds, d1, hr, R, xr, hi, g1, fun v H1 al1 e1 R1 hv => ⟨r, S, al1, c, ds, ds1, hr.mono e1, R1, xr.mono e1 R, hi, g2, fun vs H2 al2 e2 R2 hvs => q (v :: vs) H2 al2 (e1.trans R1 e2) R2 (.cons (hv.mono e2) hvs)⟩⟩
            · cases h
          · rcases List.mem_cons.mp hz with rfl | hz
            · exact hst
            · exact (P3 h2).2 z hz
        · cases h
end
end Rf

/-! Rf: an except suite: its tests, its statements. -/
namespace Rf
open PySem L2 PySem.Spec PyProof.Rows
section
variable {G : Cfg} {sc : Scope} {X : Cx} {a : Addr} {oe : Obj} {cls : Value} {d : Option Addr} {en : Option Str} {nm : Option Nat} {pn : List (Addr × Obj)}
theorem ph_val {e : Expr} {h : HE} (ha : PE (X.suite a ((a, oe) :: pn)) e (TH X.K X.mg G.xc a cls d nm h)) (he : ∀ whole, isTrue e X.env whole = (do let v ← whole; standAt e.pos; holding [v] (truthy v))) : PT (X.suite a ((a, oe) :: pn)) e (THb X.K X.mg G.xc a cls d nm h) :=
  PT.pick fun σ H Q ⟨r, S, al, c, ds, b, hr, R, xr, hi, h, q⟩ => ⟨_, pt_val ha he, r, S, al, c, ds, .bl b, hr, R, xr, hi, h, fun v H1 al1 e1 R1 hv => ⟨b, hv.bl_eq, q H1 al1 e1 R1⟩⟩
theorem sndHT (g : GdH G sc X a oe cls d en nm) (hnd : (G.xc.map (·.1)).Nodup) : ∀ n, (∀ {e : Expr} {h : HE}, trH G sc en n e = some h → PT (X.suite a ((a, oe) :: pn)) e (THb X.K X.mg G.xc a cls d nm h)) ∧ (∀ {op : BoolOp} {vs : List Expr} {h : HE} {pos : Pos}, trHB G sc en n op vs = some h → PW (X.suite a ((a, oe) :: pn)) (.BoolOp op vs pos) (THb X.K X.mg G.xc a cls d nm h))
  | 0 => ⟨fun h => by simp [trH] at h, fun h => by simp [trHB] at h⟩
  | n + 1 => by
    obtain ⟨P1, P2⟩ := sndHT g hnd n
    have hne : ∀ {b c : Expr} {rest : List Expr} {op : BoolOp} {x y : HE} {pos : Pos}, PT (X.suite a ((a, oe) :: pn)) b (THb X.K X.mg G.xc a cls d nm x) → PW (X.suite a ((a, oe) :: pn)) (.BoolOp op (c :: rest) pos) (THb X.K X.mg G.xc a cls d nm y) → PW (X.suite a ((a, oe) :: pn)) (.BoolOp op (b :: c :: rest) pos) (THb X.K X.mg G.xc a cls d nm (match op with | .And => .and x y | .Or => .or x y)) := by
      intro b c rest op x y pos hb hc
      cases op with
      | And =>
        refine PW.pick fun σ H Q ⟨r, S, al, c, ds, v0, hr, R, xr, hi, h, q⟩ => ⟨_, pw_and hb hc, ?_⟩
        simp only [hE] at h
        split at h
        · rename_i h1
          refine ⟨r, S, al, c, ds, _, hr, R, xr, hi, h1, fun H1 al1 e1 R1 => ?_⟩
          (try dsimp only); rw [if_pos rfl]
          exact ⟨r, S, al1, c, ds, v0, hr.mono e1, R1, xr.mono e1 R, hi, h, fun H2 al2 e2 R2 => q H2 al2 (e1.trans R1 e2) R2⟩
        · rename_i h1
          simp only [Option.some.injEq, D.bl.injEq] at h
          subst h
          refine ⟨r, S, al, c, ds, _, hr, R, xr, hi, h1, fun H1 al1 e1 R1 => ?_⟩
          (try dsimp only); rw [if_neg (by decide)]
          exact q H1 al1 e1 R1
        · cases h
      | Or =>
        refine PW.pick fun σ H Q ⟨r, S, al, c, ds, v0, hr, R, xr, hi, h, q⟩ => ⟨_, pw_or hb hc, ?_⟩
        simp only [hE] at h
        split at h
        · rename_i h1
          simp only [Option.some.injEq, D.bl.injEq] at h
          subst h
          refine ⟨r, S, al, c, ds, _, hr, R, xr, hi, h1, fun H1 al1 e1 R1 => ?_⟩
          (try dsimp only); rw [if_pos rfl]
          exact q H1 al1 e1 R1
        · rename_i h1
          refine ⟨r, S, al, c, ds, _, hr, R, xr, hi, h1, fun H1 al1 e1 R1 => ?_⟩
          (try dsimp only); rw [if_neg (by decide)]
          exact ⟨r, S, al1, c, ds, v0, hr.mono e1, R1, xr.mono e1 R, hi, h, fun H2 al2 e2 R2 => q H2 al2 (e1.trans R1 e2) R2⟩
        · cases h
    refine ⟨fun {e h0} h => ?_, fun {op vs h0 pos} h => ?_⟩
    · have pe := (sndH (pn := pn) g hnd (n + 1)).1 h
      simp only [trH] at h
      split at h
      · exact ph_val pe fun _ => rfl
      · exact ph_val pe fun _ => rfl
      · exact ph_val pe fun _ => rfl
      · exact ph_val pe fun _ => rfl
      · simp only [Option.map_eq_some_iff] at h
        obtain ⟨x, hx, rfl⟩ := h
        refine PT.pick fun σ H Q ⟨r, S, al, c, ds, b, hr, R, xr, hi, h, q⟩ => ⟨_, pt_not (P1 hx), ?_⟩
        simp only [hE] at h
        split at h
        · rename_i bo h1
          simp only [Option.some.injEq, D.bl.injEq] at h
          subst h
          exact ⟨r, S, al, c, ds, bo, hr, R, xr, hi, h1, fun H1 al1 e1 R1 => q H1 al1 e1 R1⟩
        · cases h
      · exact (P2 h).pt
      · exact ph_val pe fun _ => rfl
      · cases h
    · simp only [trHB] at h
      split at h
      · rename_i b c
        split at h
        · rename_i x y h1 h2
          cases h
          exact hne (P1 h1) (by cases op; exact pw_and1 (P1 h2); exact pw_or1 (P1 h2))
        · cases h
      · rename_i b c c2 rest
        split at h
        · rename_i x y h1 h2
          cases h
          exact hne (P1 h1) (P2 h2)
        · cases h
      · cases h
/-- statements -/
def TK (K : PySem.W.Frag) (mg : Str → Option Value) (xc : XC) (a : Addr) (cls : Value) (d : Option Addr) (nm : Option Nat) (f : Str → List D → Sl → Option Sl) : TS := fun D σ H => ∃ r S al c ds r', RelE K H al r σ ∧ SRel K H al S ∧ XR K mg xc H al (excD c ds) cls d ∧ (∀ i, nm = some i → σ[i]? = some (some (.ref a))) ∧ f c ds r = some r' ∧
  ∀ σ' H' al', Ext al H al' H' → SRel K H' al' S → RelE K H' al' r' σ' → (∀ i, nm = some i → σ'[i]? = some (some (.ref a))) → D.nx σ' H'
theorem comp_no {v : Expr} {n : Nat} {h : HE} (hv : trH G sc en n v = some h) : isComp v = false := by
  cases n with
  | zero => simp [trH] at hv
  | succ n => cases v <;> first | rfl | (simp [trH] at hv)
theorem sndK (g : GdH G sc X a oe cls d en nm) (hnd : (G.xc.map (·.1)).Nodup) : ∀ n, (∀ {s : Stmt} {h : Hs}, trK G sc en n s = some h → PS (X.suite a ((a, oe) :: pn)) s (TK X.K X.mg G.xc a cls d nm fun c ds r => hS c ds h r)) ∧ (∀ {ss : List Stmt} {hs : Hss}, trKs G sc en n ss = some hs → PSs (X.suite a ((a, oe) :: pn)) ss (TK X.K X.mg G.xc a cls d nm fun c ds r => hSs c ds hs r))
  | 0 => ⟨fun h => by simp [trK] at h, fun h => by simp [trKs] at h⟩
  | n + 1 => by
    obtain ⟨P1, P2⟩ := sndK g hnd n
    refine ⟨fun {s h0} h => ?_, fun {ss hs} h => ?_⟩
    · simp only [trK] at h
      split at h
      · rename_i x p v pos
        split at h
        · rename_i hx
          split at h
          · rename_i i e h1 h2
            cases h
            have hN : (X.suite a ((a, oe) :: pn)).N[i]? = some x := by show X.N[i]? = _; rw [g.N]; exact idx_get h1
            have hloc : (X.suite a ((a, oe) :: pn)).env.scope.names.lookup x = some .local := by show X.env.scope.names.lookup x = _; rw [g.scp]; exact hx.1
            refine PS.pick fun D σ H ⟨r, S, al, c, ds, r', hr, R, xr, hi, h, q⟩ => ⟨_, ps_asg ((sndH (pn := pn) g hnd n).1 h2) (pg_name g.nd hN (.inl hloc) (.inr hloc)) (sole.trans (sw_no (comp_no h2))) sws_name (asg1 fun _ _ z => nomatch z), ?_⟩
            simp only [hS, Option.map_eq_some_iff] at h
            obtain ⟨v0, h3, rfl⟩ := h
            refine ⟨r, S, al, c, ds, v0, hr, R, xr, hi, h3, fun w H1 al1 e1 R1 hw => q _ H1 al1 e1 R1 ((hr.mono e1).set i hw) fun i0 hi0 => ?_⟩
            obtain ⟨m, hm, hmN⟩ := g.nmj i0 hi0
            have : i ≠ i0 := fun z => by
              subst z
              have hN' : X.N[i]? = some x := hN
              rw [hmN] at hN'
              cases hN'
              exact hx.2 hm
            rw [List.getElem?_set_ne this]
            exact hi i0 hi0
          · cases h
        · cases h
      · rename_i c0 a0 b0 pos
        split at h
        · rename_i x y z h1 h2 h3
          cases h
          refine PS.pick fun D σ H ⟨r, S, al, c, ds, r', hr, R, xr, hi, h, q⟩ => ⟨_, ps_if ((sndHT (pn := pn) g hnd n).1 h1) (P2 h2) (P2 h3), ?_⟩
          simp only [hS] at h
          split at h
          · rename_i g1
            refine ⟨r, S, al, c, ds, true, hr, R, xr, hi, g1, fun H1 al1 e1 R1 => ?_⟩
            (try dsimp only); rw [if_pos rfl]
            exact ⟨r, S, al1, c, ds, r', hr.mono e1, R1, xr.mono e1 R, hi, h, fun σ' H2 al2 e2 R2 hr2 hi2 => q σ' H2 al2 (e1.trans R1 e2) R2 hr2 hi2⟩
          · rename_i g1
            refine ⟨r, S, al, c, ds, false, hr, R, xr, hi, g1, fun H1 al1 e1 R1 => ?_⟩
            (try dsimp only); rw [if_neg (by decide)]
            exact ⟨r, S, al1, c, ds, r', hr.mono e1, R1, xr.mono e1 R, hi, h, fun σ' H2 al2 e2 R2 hr2 hi2 => q σ' H2 al2 (e1.trans R1 e2) R2 hr2 hi2⟩
          · cases h
        · cases h
      · cases h
    · cases ss with
      | nil =>
        simp only [trKs, Option.some.injEq] at h
        subst h
        refine PSs.pick fun D σ H ⟨r, S, al, c, ds, r', hr, R, xr, hi, h, q⟩ => ⟨_, pss_nil, ?_⟩
        simp only [hSs, Option.some.injEq] at h
        subst h
        exact q σ H al Ext.refl R hr hi
      | cons s ss =>
        simp only [trKs] at h
        split at h
        · rename_i x xs h1 h2
          cases h
          refine PSs.pick fun D σ H ⟨r, S, al, c, ds, r', hr, R, xr, hi, h, q⟩ => ⟨_, pss_cons (P1 h1) (P2 h2), ?_⟩
          simp only [hSs] at h
          split at h
          · rename_i r1 g1
            exact ⟨r, S, al, c, ds, r1, hr, R, xr, hi, g1, fun σ1 H1 al1 e1 R1 hr1 hi1 => ⟨r1, S, al1, c, ds, r', hr1, R1, xr.mono e1 R, hi1, h, fun σ' H2 al2 e2 R2 hr2 hi2 => q σ' H2 al2 (e1.trans R1 e2) R2 hr2 hi2⟩⟩
          · cases h
        · cases h
end
end Rf

/-! Rf: a call's end; defs by levels. -/
namespace Rf
open PySem L2
section
variable {K : PySem.W.Frag} {H H1 : Hp} {al al1 : Al} {S S1 : Store} {v : V} {d : D} {vs : List V} {ds : List D}
mutual
theorem DN.und : ∀ {v : V} {d : D}, DN K H al v d → D.under al.length d = true
  | _, _, .non => rfl
  | _, _, .bl _ => rfl
  | _, _, .int _ => rfl
  | _, _, .str _ => rfl
  | _, _, .tup _ l => by simp only [D.under]; exact DNL.und l
  | _, _, .ref h => by simp only [D.under, decide_eq_true_eq]; exact (List.getElem?_eq_some_iff.mp h).1
theorem DNL.und : ∀ {vs : List V} {ds : List D}, DNL K H al vs ds → D.unders al.length ds = true
  | _, _, .nil => rfl
  | _, _, .cons h l => by simp only [D.unders, DN.und h, DNL.und l]; rfl
end
mutual
theorem DN.cut {n : Nat} : ∀ {v : V} {d : D}, DN K H al v d → D.under n d = true → DN K H (al.take n) v d
  | _, _, .non, _ => .non
  | _, _, .bl b, _ => .bl b
  | _, _, .int b, _ => .int b
  | _, _, .str b, _ => .str b
  | _, _, .tup q l, h => .tup q (DNL.cutd l (by simpa only [D.under] using h))
  | _, _, .ref q, h => .ref (by rw [List.getElem?_take_of_lt (by simpa only [D.under, decide_eq_true_eq] using h)]; exact q)
theorem DNL.cutd {n : Nat} : ∀ {vs : List V} {ds : List D}, DNL K H al vs ds → D.unders n ds = true → DNL K H (al.take n) vs ds
  | _, _, .nil, _ => .nil
  | _, _, .cons h l, u => by
    simp only [D.unders, Bool.and_eq_true] at u
    exact .cons (DN.cut h u.1) (DNL.cutd l u.2)
end
theorem CellOk.und {b : Bool} {a : Addr} {o : O} (c : CellOk K H al b a o) : O.under al.length o = true := by
  cases o with
  | lst ds => obtain ⟨_, vs, _, l⟩ := c; exact DNL.und l
  | ro ds => obtain ⟨_, vs, _, l⟩ := c; exact DNL.und l
  | dic kvs => obtain ⟨_, ws, _, _, l⟩ := c; exact DNL.und l
theorem CellOk.cut {n : Nat} {b : Bool} {a : Addr} {o : O} (c : CellOk K H al b a o) (u : O.under n o = true) : CellOk K H (al.take n) b a o := by
  cases o with
  | lst ds => obtain ⟨hb, vs, h, l⟩ := c; exact ⟨hb, vs, h, DNL.cutd l u⟩
  | ro ds => obtain ⟨hb, vs, h, l⟩ := c; exact ⟨hb, vs, h, DNL.cutd l u⟩
  | dic kvs => obtain ⟨hb, ws, h, k, l⟩ := c; exact ⟨hb, ws, h, k, DNL.cutd l u⟩
theorem Ext.take (e : Ext al H al1 H1) : al1.take al.length = al := by
  obtain ⟨be, rfl, _⟩ := e.pre
  simp
theorem Ext.same (e : Ext al H al1 H1) : Ext al H al H1 := ⟨⟨[], by simp, fun _ _ m => absurd m (by simp)⟩, e.fr, e.tp, e.fz⟩
/-- the cells that stood, alone -/
theorem SRel.keep (e : Ext al H al1 H1) (R0 : SRel K H al S) (R1 : SRel K H1 al1 S1) (k : keepB S S1 = true) : SRel K H1 al (S1.take S.length) := by
  have ht := e.take
  have hle : al.length ≤ al1.length := by obtain ⟨be, rfl, _⟩ := e.pre; simp
  refine ⟨?_, fun n o b a h1 h2 => ?_, R0.inj⟩
  · rw [List.length_take, ← R1.len, ← R0.len]; omega
  · have hn : n < S.length := by rw [← R0.len]; exact (List.getElem?_eq_some_iff.mp h2).1
    rw [List.getElem?_take_of_lt hn] at h1
    have c := R1.ok n o b a h1 (e.prefix _ _ h2)
    have u : O.under al.length o = true := by
      unfold keepB at k
      have kn := List.all_eq_true.mp k n (List.mem_range.mpr hn)
      rw [h1] at kn
      simp only [Bool.or_eq_true, decide_eq_true_eq] at kn
      rcases kn with kn | kn
      · exact CellOk.und (R0.ok n o b a kn.symm h2)
      · rw [R0.len]; exact kn
    have := CellOk.cut c u
    rw [ht] at this
    exact this
theorem fin_ok (e : Ext al H al1 H1) (R0 : SRel K H al S) (R1 : SRel K H1 al1 S1) (hv : DV K H H1 al1 v d) : Out K al H (fin S d S1).2 (fin S d S1).1 v H1 := by
  have ht := e.take
  have plain : Out K al H S1 d v H1 := ⟨al1, e, R1, hv⟩
  unfold fin
  split
  · rename_i hk
    have RK := SRel.keep e R0 R1 hk
    have cutv : ∀ {v : V} {d : D}, DN K H1 al1 v d → D.under S.length d = true → DN K H1 al v d := fun h u => by
      have := DN.cut h u
      rw [← R0.len, ht] at this
      exact this
    split
    · rename_i n
      split
      · rename_i hn
        refine ⟨al, e.same, RK, .inl (cutv (hv.dn_of fun _ z => nomatch z) (by simpa only [D.under, decide_eq_true_eq] using hn))⟩
      · rename_i hn
        split
        · rename_i ds hc
          split
          · rename_i hu
            obtain ⟨a, vs, rfl, qa, ha, l⟩ := cell_lst R1 hv hc
            have l' : DNL K H1 al vs ds := by
              have := DNL.cutd l hu
              rw [← R0.len, ht] at this
              exact this
            refine ⟨al, e.same, RK, .inr ⟨a, vs, ds, rfl, rfl, ha, fun m => ?_, ?_, l'⟩⟩
            · obtain ⟨j, hj⟩ := List.mem_iff_getElem?.mp m
              have hjn : j = n := R1.inj j n a (e.prefix _ _ hj) qa
              have := (List.getElem?_eq_some_iff.mp hj).1
              rw [R0.len] at this
              omega
            · obtain ⟨be, rfl, hb⟩ := e.pre
              rw [List.getElem?_append_right (by rw [R0.len]; omega)] at qa
              exact (hb true a (List.mem_iff_getElem?.mpr ⟨_, qa⟩)).2
          · exact plain
        · exact plain
    · split
      · rename_i hu
        rcases hv with hv | ⟨a, vs, ds, rfl, rfl, h, m, h0, l⟩
        · exact ⟨al, e.same, RK, .inl (cutv hv hu)⟩
        · have l' : DNL K H1 al vs ds := by
            have := DNL.cutd l (n := S.length) (by simpa only [D.under] using hu)
            rw [← R0.len, ht] at this
            exact this
          refine ⟨al, e.same, RK, .inr ⟨a, vs, ds, rfl, rfl, h, fun mm => m ?_, h0, l'⟩⟩
          obtain ⟨be, rfl, _⟩ := e.pre
          exact List.mem_append_left _ mm
      · exact plain
  · exact plain
end
/-- a def of the text, at an entry where the guards are told -/
theorem fnG_of {P : Program} {w : World} {K : PySem.W.Frag} {mg : Str → Option Value} {base : Heap} {k : Nat} {x qual : Str} {st : Stmt} {f : Addr} {fd : FuncData} {N ps : List Str} {sp : Sp} (D : Fun K x qual st f fd) (S : FnScope N ps (defScope st))
    (len : ∀ vs H Q E, sp vs H Q E → vs.length = ps.length)
    (walk : ∀ (cdv : Value) (A : Around) (outer : List Env) (s : Shared) (H : Hp) (vs : List V) (Q : VK) (E : XK), Room k (A.deeper (PyProof.Rows.envOfC qual (defScope st) s.heap.objs.size f cdv)) → A.guards = some [] → sp vs H Q E →
      ∃ t, PSs (cxOf CX0 P w K mg base N qual (defScope st) f cdv A outer s H E).nox (defBody st) t ∧ t ⟨fun _ H' => Q .non H', Q, fun _ _ => False, fun _ _ => False⟩ (start N vs) H) : FnG P w K mg base (k + 1) f fd ps sp := by
  obtain ⟨oc, od, kV, doc, pm, an, cdv, ct, osl, rfl, lk, hcd⟩ := D.ex
  refine ⟨len, fun A outer s H args us vs Q E room gu ent bind vals hsp => ?_⟩
  have stay : ∀ b o, base.get? b = some o → s.heap.get? b = some o := fun b o z => (ent.bs b o z).1
  have inK := ent.mod.kin.keeps stay
  have names : ∀ y ∈ ps.zip us, (defScope st).names.lookup y.1 = some .local ∨
      ((defScope st).names.lookup y.1 = some .cell ∧ ((cellsFrom (s.heap.objs.size + 1) (defScope st).names []).lookup y.1).isSome = true) := by
    rintro ⟨y, u⟩ hy
    have hm := (List.of_mem_zip hy).1
    rcases S.par y hm with g | g
    · exact Or.inl g
    · exact Or.inr ⟨g, PySem.W.cellsFrom_some _ _ _ (Or.inl g)⟩
  refine codeAny_call_function room.depth (inK _ _ lk) rfl S.co
    S.gen rfl (PySem.W.codeRec_of inK hcd) (bind _ _ _ _ ?_)
  refine wpAny_newFunctionEnv_cells S.kind names ?_
  rintro env rfl s1 entered
  refine ⟨(ent.mod.nolimit.keeps stay).keeps entered.toInCall.keep, codeAny_func ?_⟩
  obtain ⟨t, ht, hq⟩ := walk cdv A outer s H vs Q E (room.deeper _) gu hsp
  have I0 := inv_start (CX := CX0) (E := E) S room.hd ent (len _ _ _ _ hsp) vals entered
  refine wpAny_mono (ht.nox.run [] s1 _ H _ I0 hq) (fun fl s' g => ?_) fun _ _ g => g
  match fl, g with
  | .ret u, ⟨z, σ', H', J, rz, qz⟩ => exact ⟨z, H', J.os, J.bare, J.base, J.hok, rz, qz⟩
  | .next, ⟨σ', H', J, qz⟩ => exact ⟨V.non, H', J.os, J.bare, J.base, J.hok, rfl, qz⟩
  | .brk, ⟨_, _, _, qz⟩ => exact qz.elim
  | .cont, ⟨_, _, _, qz⟩ => exact qz.elim
end Rf

/-! Rf: a try in a def's own suite; defs that raise. -/
namespace Rf
open PySem L2 PySem.Spec PyProof.Rows
/-- what a def's frame knows beside -/
structure GdT (G : Cfg) (cl : Cl) (k : Nat) (sc : Scope) (X : Cx) : Prop where
  g : GdS G cl k sc X
  hk : 2 ≤ k
  fr : ∀ (i : Nat) (p : Str × Nat), G.fns[i]? = some p → ∃ f fd ps, X.mg p.1 = some (.ref f) ∧ PySem.W.keepIn X.K (.ref f) = true ∧ Binds X.K fd ps [] ∧ ps.length = p.2 ∧ FnR X.prog X.w X.K X.mg X.base k f fd ps (spR X.K X.mg G.xc cl i)
  ft : ∀ c e, G.xc.lookup c = some e → ∃ C, XFt X.K X.mg G.xn c e C
  cv : ∀ y ∈ G.xn, ∃ v c, CV X.mg y v c
  xnd : (G.xc.map (·.1)).Nodup
  st : X.stack = X.env :: X.outer
  fm : X.env.frame = some X.env.locals
theorem CV.uniq {mg : Str → Option Value} {y : Str} {v v' : V} {c c' : Value} (h : CV mg y v c) (h' : CV mg y v' c') : c = c' := by
  rcases h with ⟨B, h1, _, rfl⟩ | ⟨h1, _, t, h2, _, rfl⟩ <;> rcases h' with ⟨B', g1, _, rfl⟩ | ⟨g1, _, t', g2, _, rfl⟩
  · rw [h1] at g1; cases g1; rfl
  · rw [h1] at g1; cases g1
  · rw [h1] at g1; cases g1
  · rw [h2] at g2; cases g2; rfl
section
variable {G : Cfg} {cl : Cl} {k F : Nat} {sc : Scope} {X : Cx}
theorem GdT.x (g : GdT G cl k sc X) {W : WX} {pn : List (Addr × Obj)} {xe : Value → Shared → Prop} (tk : Takes (X.tr pn xe) W) (hp : PassesOwn (model X.prog X.w) X.A X.env xe) : GdX G cl k sc (X.tr pn xe) W := by
  have gd := g.g.gd
  refine ⟨⟨⟨gd.N, gd.nd, gd.sc, gd.calm, gd.room, gd.gu, gd.bl, gd.fns, gd.cs, gd.dc⟩, hp, g.g.fn, g.g.bk⟩, tk, g.fr, fun c e he hg hpn => ?_⟩
  obtain ⟨C, Ft⟩ := g.ft c e he
  exact ⟨mk_ok (X := X.tr pn xe) Ft.cl gd.room g.hk (show Gl X c from gl_of gd hg) hpn, C, Ft.cl.mC⟩
def TTs (K : PySem.W.Frag) (q : Bool) (c : Cl) (F : Nat) (s : Sts) : TS := fun E σ H => ∃ r S al fl r' S', RelE K H al r σ ∧ SRel K H al S ∧ evT q c F s r S = some (fl, r', S') ∧ EndOk K al H fl r' S' E
theorem relE_hide {K : PySem.W.Frag} {H : Hp} {al : Al} {r : Sl} {σ : L2.St} (hr : RelE K H al r σ) (i : Nat) (w : Option V) : RelE K H al (r.set i none) (σ.set i w) := by
  refine ⟨by simp [hr.len], fun j d hj => ?_⟩
  by_cases h : i = j
  · subst h
    rw [List.getElem?_set] at hj
    simp at hj
  · rw [List.getElem?_set_ne h] at hj ⊢
    exact hr.ok j d hj
theorem names_of {y : Str} {v : V} {c : Value} (g : GdT G cl k sc X) (hy : isCls G sc y = true) (h : CV X.mg y v c) : Names X y c := by
  unfold isCls at hy
  simp only [Bool.and_eq_true] at hy
  refine ⟨gl_of g.g.gd hy.1, (nm_of hy.2.1).1, ?_⟩
  rcases h with ⟨B, h1, _, rfl⟩ | ⟨h1, h3, t, h2, _, rfl⟩
  · exact .inl h1
  · exact .inr ⟨h1, h2, h3⟩
theorem hnd_eq {cs : List Str} {nm : Option Nat} {h : Hss} {x : D} {r r2 : Sl} (e : hnd cs nm h x r = some r2) : ∃ c ds r1, x = excD c ds ∧ cs.contains c = true ∧ okN nm r = true ∧ hSs c ds h (unN nm r) = some r1 ∧ r2 = unN nm r1 := by
  unfold hnd at e
  split at e
  · split at e
    · rename_i hc
      simp only [Option.map_eq_some_iff] at e
      obtain ⟨r1, h1, rfl⟩ := e
      exact ⟨_, _, r1, rfl, hc.1, hc.2, h1, rfl⟩
    · cases e
  · cases e
/-- what of an exception the clause wishes -/
theorem exm_of {H : Hp} {al : Al} {c y : Str} {ds : List D} {cls cv : Value} {d : Option Addr} {v : V} (g : GdT G cl k sc X) (hy : isCls G sc y = true) (hcv : CV X.mg y v cv) (xr : XR X.K X.mg G.xc H al (excD c ds) cls d) (hc : (isaOf G.xc y).contains c = true) : PySem.W.exmOne X.K cls cv = some true := by
  obtain ⟨c', ds', e, C, dd, fs, h1, h2, h3, h4, h5, h6, h7, h8⟩ := xr
  obtain ⟨rfl, rfl⟩ := excD_inj h1
  obtain ⟨C', Ft⟩ := g.ft c e h2
  have := Ft.cl.mC
  rw [h3] at this
  cases this
  unfold isCls at hy
  simp only [Bool.and_eq_true] at hy
  obtain ⟨v', cv', g1, _, g3⟩ := Ft.is y (by simpa using hy.2.2)
  rw [hcv.uniq g1, h4, g3, ← isaOf_mem g.xnd h2, hc]
theorem ps_tryT {n : Nat} {s : Stmt} {xs : Sts} {cs : List Str} {nm : Option Nat} {hh : Hss} (g : GdT G cl k sc X) (h : trS G n sc s = some (.tri xs cs nm hh)) : PS X s (fun D σ H => TSs X.K cl F xs D σ H ∨ ∃ r S al x r1 S1 r2, RelE X.K H al r σ ∧ SRel X.K H al S ∧ xSs cl F xs r S = some (x, r1, S1) ∧ hnd cs nm hh x r1 = some r2 ∧ ∀ σ' H', OutS X.K al H r2 S1 σ' H' → D.nx σ' H') := by
  cases n with
  | zero => simp [trS] at h
  | succ n =>
  have hno : ∀ {A B : Prop}, False → A := fun z => z.elim
  cases s with
  | Try body hs o f pos =>
    obtain ⟨y, p, en, b0, suite, p2, ys, h0, rfl, rfl, rfl, hy, hb, hn⟩ := tr_tryE h
    obtain ⟨v, cv, hcv⟩ := g.cv y (by unfold isCls at hy; simp only [Bool.and_eq_true] at hy; simpa using hy.2.2)
    have hN := names_of g hy hcv
    have body_ok : ∀ (W : WX) (pn : List (Addr × Obj)) (xe : Value → Shared → Prop), Takes (X.tr pn xe) W → PassesOwn (model X.prog X.w) X.A X.env xe → PSs (X.tr pn xe) body (fun D σ H => TSs X.K cl F ys D σ H ∨ TXs X.K X.mg G.xc cl F W ys D σ H) := fun W pn xe tk hp => by
      have gx := g.x tk hp
      exact PSs.pick fun D σ H hh => hh.elim (fun z => ⟨_, (sndS G cl k F n).2 gx.g hb, z⟩) fun z => ⟨_, (sndXS G cl k F W n).2 gx hb, z⟩
    have gd := g.g.gd
    rcases hn with ⟨m, i, rfl, hm, hi, hk, e⟩ | ⟨rfl, hk, e⟩
    · cases e
      have hNi : X.N[i]? = some m := by rw [gd.N]; exact idx_get hi
      have gh : ∀ {a oe cls d}, Zc cls d oe → (∃ vs, oe.data = .fields vs) → GdH G sc X a oe cls d (some m) (some i) := fun {a oe cls d} hz hf => ⟨gd.N, gd.nd, gd.sc, gd.bl, g.ft, hz, hf, fun m' hm' => by
        cases hm'
        exact ⟨i, rfl, hNi, hm.1, (nm_of hm.2).1, (nm_of hm.2).2.1⟩, fun i' hi' => by cases hi'; exact ⟨m, rfl, hNi⟩⟩
      refine PS.pick fun D σ H hq => ⟨_, ps_try_as (Wout := fun _ _ _ _ => False) g.st g.fm gd.nd hNi (by show X.env.scope.names.lookup m = _; rw [gd.sc]; exact hm.1) hN takes0 body_ok (fun a oe cls d pn hz hf => (sndK (pn := pn) (gh hz hf) g.xnd n).2 hk), ?_⟩
      rcases hq with hq | ⟨r, S, al, x, r1, S1, r2, hr, R, hx, hh, q⟩
      · exact .inl hq
      · refine .inr ⟨r, S, al, x, r1, S1, hr, R, hx, fun cls d σ' H' ⟨al', e', R', hr', xr⟩ => ?_⟩
        obtain ⟨c, ds, r3, rfl, hc, hok, h3, rfl⟩ := hnd_eq hh
        refine ⟨true, exm_of g hy hcv xr hc, fun _ a ha => ?_, fun z => by cases z⟩
        have hlt : i < σ'.length := by
          rw [← hr'.len]
          exact of_decide_eq_true hok
        refine ⟨r1.set i none, S1, al', c, ds, r3, relE_hide hr' i _, R', xr, fun j hj => ?_, h3, fun σ2 H2 al2 e2 R2 hr2 _ => q _ H2 ⟨al2, e'.trans R' e2, R2, hr2.clr i⟩⟩
        cases hj
        rw [List.getElem?_set_self hlt]
    · cases e
      have gh : ∀ {a oe cls d}, Zc cls d oe → (∃ vs, oe.data = .fields vs) → GdH G sc X a oe cls d none none := fun {a oe cls d} hz hf => ⟨gd.N, gd.nd, gd.sc, gd.bl, g.ft, hz, hf, fun m' hm' => (by cases hm'), fun i' hi' => (by cases hi')⟩
      refine PS.pick fun D σ H hq => ⟨_, ps_try_only (Wout := fun _ _ _ _ => False) g.st g.fm hN takes0 body_ok (fun a oe cls d pn hz hf => (sndK (pn := pn) (gh hz hf) g.xnd n).2 hk), ?_⟩
      rcases hq with hq | ⟨r, S, al, x, r1, S1, r2, hr, R, hx, hh, q⟩
      · exact .inl hq
      · refine .inr ⟨r, S, al, x, r1, S1, hr, R, hx, fun cls d σ' H' ⟨al', e', R', hr', xr⟩ => ?_⟩
        obtain ⟨c, ds, r3, rfl, hc, hok, h3, rfl⟩ := hnd_eq hh
        exact ⟨true, exm_of g hy hcv xr hc, fun _ a ha => ⟨r1, S1, al', c, ds, _, hr', R', xr, fun j hj => by (cases hj), h3, fun σ2 H2 al2 e2 R2 hr2 _ => q _ H2 ⟨al2, e'.trans R' e2, R2, hr2⟩⟩, fun z => by cases z⟩
  | Raise a b pos =>
    obtain ⟨c, xs, e⟩ := tr_raise h
    cases e
  | Assign ts v pos =>
    simp only [trS] at h
    repeat' split at h
    all_goals first | (cases h; done) | (simp at h; done)
  | Expr e pos =>
    simp only [trS] at h
    repeat' split at h
    all_goals first | (cases h; done) | (simp at h; done)
  | Return e pos =>
    simp only [trS] at h
    repeat' split at h
    all_goals first | (cases h; done) | (simp at h; done)
  | If c a b pos =>
    simp only [trS] at h
    repeat' split at h
    all_goals first | (cases h; done) | (simp at h; done)
  | For tg iter b els pos =>
    simp only [trS] at h
    repeat' split at h
    all_goals first | (cases h; done) | (simp at h; done)
  | While c b els pos =>
    simp only [trS] at h
    repeat' split at h
    all_goals first | (cases h; done) | (simp at h; done)
  | Pass pos => simp [trS] at h
  | Break pos => simp [trS] at h
  | Continue pos => simp [trS] at h
  | _ => simp [trS] at h
theorem evT_cons {q : Bool} {s : St} {ss : Sts} {r : Sl} {S : Store} (hs : ∀ b cs nm h, s ≠ .tri b cs nm h) : evT q cl F (.cons s ss) r S = match evS cl F s r S with
    | some (.nx, r1, S1) => evT q cl F ss r1 S1
    | z => z := by
  cases s <;> first | rfl | exact absurd rfl (hs _ _ _ _)
theorem sndT {q : Bool} (g : GdS G cl k sc X) (gt : q = true → GdT G cl k sc X) : ∀ n {ss : List Stmt} {xs : Sts}, trSs G n sc ss = some xs → PSs X ss (TTs X.K q cl F xs)
  | 0, ss, xs, h => by simp [trSs] at h
  | n + 1, [], xs, h => by
    simp only [trSs, Option.some.injEq] at h
    subst h
    refine PSs.pick fun E σ H ⟨r, S, al, fl, r', S', hr, R, h, q⟩ => ?_
    simp only [evT, Option.some.injEq, Prod.mk.injEq] at h
    obtain ⟨rfl, rfl, rfl⟩ := h
    exact ⟨_, pss_nil, q _ _ ⟨al, Ext.refl, R, hr⟩⟩
  | n + 1, s :: ss, xs, h => by
    simp only [trSs] at h
    have plain : ∀ {x : St} {ys : Sts}, (∀ b cs nm h, x ≠ .tri b cs nm h) → PS X s (TSt X.K cl F x) → trSs G n sc ss = some ys → PSs X (s :: ss) (TTs X.K q cl F (.cons x ys)) := fun {x ys} hx h1 h2 => PSs.pick fun E σ H ⟨r, S, al, fl, r', S', hr, R, h, q⟩ => by
      rw [evT_cons hx] at h
      refine ⟨_, pss_cons h1 (sndT g gt n h2), ?_⟩
      split at h
      · rename_i r1 S1 hx
        exact ⟨r, S, al, .nx, r1, S1, hr, R, hx, fun σ1 H1 ⟨al1, e1, R1, hr1⟩ => ⟨r1, S1, al1, fl, r', S', hr1, R1, h, q.of e1 R1⟩⟩
      · rename_i hx
        refine ⟨r, S, al, fl, r', S', hr, R, h, ?_⟩
        cases fl with
        | nx => exact absurd h (hx _ _)
        | rt d => exact q
        | bk => exact q
        | ct => exact q
    split at h
    · rename_i x ys h1 h2
      cases h
      by_cases ht : ∃ b cs nm hh, x = .tri b cs nm hh
      · obtain ⟨b, cs, nm, hh, rfl⟩ := ht
        refine PSs.pick fun E σ H ⟨r, S, al, fl, r', S', hr, R, h, qq⟩ => ?_
        simp only [evT] at h
        split at h
        · cases h
        rename_i hq
        have hq : q = true := by simpa using hq
        refine ⟨_, pss_cons (ps_tryT (F := F) (gt hq) h1) (sndT g gt n h2), ?_⟩
        split at h
        · rename_i r1 S1 hb
          exact .inl ⟨r, S, al, .nx, r1, S1, hr, R, hb, fun σ1 H1 ⟨al1, e1, R1, hr1⟩ => ⟨r1, S1, al1, fl, r', S', hr1, R1, h, qq.of e1 R1⟩⟩
        · rename_i z hz hb
          cases h
          refine .inl ⟨r, S, al, fl, r', S', hr, R, hb, ?_⟩
          cases fl with
          | nx => exact absurd rfl (hz _ _)
          | rt d => exact qq
          | bk => exact qq
          | ct => exact qq
        · rename_i hb
          split at h
          · rename_i x r1 S1 hx
            split at h
            · rename_i r2 hh2
              exact .inr ⟨r, S, al, x, r1, S1, r2, hr, R, hx, hh2, fun σ1 H1 ⟨al1, e1, R1, hr1⟩ => ⟨r2, S1, al1, fl, r', S', hr1, R1, h, qq.of e1 R1⟩⟩
            · cases h
          · cases h
      · exact plain (fun b cs nm hh e => ht ⟨b, cs, nm, hh, e⟩) ((sndS G cl k F n).1 g h1) h2
    · rename_i h1 h2
      cases h
      exact plain (fun _ _ _ _ e => nomatch e) ps_badX h2
    · cases h
end
end Rf

/-! Rf: the text's table; the law's end. -/
namespace Rf
open PySem L2 PySem.Spec PyProof.Rows
structure Row where
  name : Str
  st : Stmt
  N : List Str
  ps : List Str
  fn : Fn
/-- what the kernel looks at, def by def -/
structure Row.Ok (G : Cfg) (r : Row) : Prop where
  sc : FnScope r.N r.ps (defScope r.st)
  tr : trSs { G with N := r.N } 200 (defScope r.st) (defBody r.st) = some r.fn.body
  np : r.fn.np = r.ps.length
  nl : r.fn.nl = r.N.length
/-- what the top has left -/
structure Tops (G : Cfg) (rows : List Row) (K : PySem.W.Frag) (w : World) (mg : Str → Option Value) : Prop where
  fn : ∀ r ∈ rows, ∃ f fd, Fun K r.name r.name r.st f fd ∧ mg r.name = some (.ref f) ∧ Binds K fd r.ps []
  bl : ∀ x ∈ G.bl, mg x = none
  cs : ∀ x d, G.cs.lookup x = some d → ∃ v u, mg x = some u ∧ RelV v u ∧ ∀ H al, DN K H al v d
  dc : ∀ x kvs, G.dc.lookup x = some kvs → ∃ p, mg x = some (.ref p) ∧ KDc K w p kvs
  ft : ∀ c e, G.xc.lookup c = some e → ∃ C, XFt K mg G.xn c e C
  cv : ∀ y ∈ G.xn, ∃ v c, CV mg y v c
/-- the end of a call that raised -/
theorem finX_ok {K : PySem.W.Frag} {mg : Str → Option Value} {xc : XC} {H H1 : Hp} {al al1 : Al} {S S1 : Store} {x : D} {cls : Value} {d : Option Addr} (e : Ext al H al1 H1) (R0 : SRel K H al S) (R1 : SRel K H1 al1 S1) (hx : XR K mg xc H1 al1 x cls d) : OutX K mg xc al H (fin S x S1).2 (fin S x S1).1 cls d H1 := by
  have ht := e.take
  have plain : OutX K mg xc al H S1 x cls d H1 := ⟨al1, e, R1, hx⟩
  obtain ⟨c, ds, en, C, dd, fs, rfl, h2, h3, h4, h5, h6, h7, h8⟩ := hx
  unfold fin
  split
  · rename_i hk
    simp only [excD]
    split
    · rename_i hu
      refine ⟨al, e.same, SRel.keep e R0 R1 hk, c, ds, en, C, dd, fs, rfl, h2, h3, h4, h5, h6, h7, fun j f dj a b => ?_⟩
      obtain ⟨v, g1, g2⟩ := h8 j f dj a b
      have hd : D.under S.length dj = true := by
        simp only [D.under, D.unders, Bool.and_eq_true, Bool.true_and, Bool.and_true] at hu
        have all : ∀ (l : List D), D.unders S.length l = true → ∀ y ∈ l, D.under S.length y = true := by
          intro l
          induction l with
          | nil => intro _ y hy; simp at hy
          | cons z l ih =>
            intro h y hy
            simp only [D.unders, Bool.and_eq_true] at h
            rcases List.mem_cons.mp hy with rfl | hy
            · exact h.1
            · exact ih h.2 y hy
        exact all ds hu dj (List.mem_of_getElem? b)
      have := DN.cut g2 hd
      rw [← R0.len, ht] at this
      exact ⟨v, g1, this⟩
    · exact plain
  · exact plain
/-- a def of the text that raises -/
theorem fnR_of {P : Program} {w : World} {K : PySem.W.Frag} {mg : Str → Option Value} {base : Heap} {k : Nat} {x qual : Str} {st : Stmt} {f : Addr} {fd : FuncData} {N ps : List Str} {sp : Sp} (D : Fun K x qual st f fd) (S : FnScope N ps (defScope st))
    (len : ∀ vs H Q E, sp vs H Q E → vs.length = ps.length)
    (walk : ∀ (cdv : Value) (A : Around) (outer : List Env) (s : Shared) (H : Hp) (vs : List V) (Q : VK) (E : XK), Room k (A.deeper (PyProof.Rows.envOfC qual (defScope st) s.heap.objs.size f cdv)) → A.guards = some [] → sp vs H Q E →
      ∃ t, PSs (cxOf (L2.CX P w) P w K mg base N qual (defScope st) f cdv A outer s H E) (defBody st) t ∧ t ⟨fun _ H' => Q .non H', Q, fun _ _ => False, fun _ _ => False⟩ (start N vs) H) : FnR P w K mg base (k + 1) f fd ps sp := by
  obtain ⟨oc, od, kV, doc, pm, an, cdv, ct, osl, rfl, lk, hcd⟩ := D.ex
  refine ⟨len, fun A outer s H args us vs Q E room gu ent bind vals hsp => ?_⟩
  have stay : ∀ b o, base.get? b = some o → s.heap.get? b = some o := fun b o z => (ent.bs b o z).1
  have inK := ent.mod.kin.keeps stay
  have names : ∀ y ∈ ps.zip us, (defScope st).names.lookup y.1 = some .local ∨
      ((defScope st).names.lookup y.1 = some .cell ∧ ((cellsFrom (s.heap.objs.size + 1) (defScope st).names []).lookup y.1).isSome = true) := by
    rintro ⟨y, u⟩ hy
    have hm := (List.of_mem_zip hy).1
    rcases S.par y hm with g | g
    · exact Or.inl g
    · exact Or.inr ⟨g, PySem.W.cellsFrom_some _ _ _ (Or.inl g)⟩
  refine codeAny_call_function room.depth (inK _ _ lk) rfl S.co
    S.gen rfl (PySem.W.codeRec_of inK hcd) (bind _ _ _ _ ?_)
  refine wpAny_newFunctionEnv_cells S.kind names ?_
  rintro env rfl s1 entered
  refine ⟨(ent.mod.nolimit.keeps stay).keeps entered.toInCall.keep, codeAny_func ?_⟩
  obtain ⟨t, ht, hq⟩ := walk cdv A outer s H vs Q E (room.deeper _) gu hsp
  have I0 := inv_start (CX := L2.CX P w) (E := E) S room.hd ent (len _ _ _ _ hsp) vals entered
  refine wpAny_mono (ht.run [] s1 _ H _ I0 hq) (fun fl s' g => ?_) fun _ _ g => g
  match fl, g with
  | .ret u, ⟨z, σ', H', J, rz, qz⟩ => exact ⟨z, H', J.os, J.bare, J.base, J.hok, rz, qz⟩
  | .next, ⟨σ', H', J, qz⟩ => exact ⟨V.non, H', J.os, J.bare, J.base, J.hok, rfl, qz⟩
  | .brk, ⟨_, _, _, qz⟩ => exact qz.elim
  | .cont, ⟨_, _, _, qz⟩ => exact qz.elim
section
variable {G : Cfg} {rows : List Row} {K : PySem.W.Frag} {mg : Str → Option Value} {F : Nat}
theorem relE_start {H : Hp} {al : Al} {vs : List V} {ds : List D} {N : List Str} {m : Nat} (l : DNL K H al vs ds) (h : m = N.length - vs.length) : RelE K H al (ds.map some ++ List.replicate m none) (L2.start N vs) := by
  subst h
  unfold L2.start
  refine ⟨by simp [l.length], fun i d hi => ?_⟩
  by_cases hl : i < ds.length
  · rw [List.getElem?_append_left (by simpa using hl), List.getElem?_map] at hi
    rw [List.getElem?_eq_getElem hl] at hi
    simp only [Option.map_some, Option.some.injEq] at hi
    subst hi
    obtain ⟨v, h1, h2⟩ := l.get (List.getElem?_eq_getElem hl)
    refine ⟨v, ?_, h2⟩
    rw [List.getElem?_append_left (by simpa [l.length] using hl), List.getElem?_map, h1]
    rfl
  · rw [List.getElem?_append_right (by simpa using hl), List.getElem?_replicate] at hi
    split at hi <;> cases hi
theorem spF_len {c : Cl} {i n : Nat} (h : ∀ ds S z, c i ds S = some z → ds.length = n) : ∀ vs H Q E, spF K c i vs H Q E → vs.length = n := fun vs H Q E ⟨ds, S, al, d, S', l, _, hc, _⟩ => by rw [l.length]; exact h ds S _ hc
theorem run_len {fns : List Fn} {k i : Nat} {fn : Fn} (hf : fns[i]? = some fn) : ∀ ds S z, run fns F k i ds S = some z → ds.length = fn.np := fun ds S z h => by
  cases k with
  | zero => simp [run] at h
  | succ k =>
    simp only [run, hf] at h
    split at h
    · assumption
    · cases h
theorem rows_fn {i : Nat} {r : Row} (h : rows[i]? = some r) : (rows.map (·.fn))[i]? = some r.fn := by rw [List.getElem?_map, h]; rfl
theorem spR_len {xc : XC} {c : Cl} {i n : Nat} (h : ∀ ds S z, c (i + BIG) ds S = some z → ds.length = n) : ∀ vs H Q E, spR K mg xc c i vs H Q E → vs.length = n := fun vs H Q E ⟨ds, S, al, d, S', l, _, hc, _⟩ => by rw [l.length]; exact h ds S _ hc
theorem run_big {fns : List Fn} {k i : Nat} {fn : Fn} (hf : fns[i]? = some fn) (hB : fns.length ≤ BIG) (ds : List D) (S : Store) : run fns F (k + 1) (i + BIG) ds S = if 2 ≤ k ∧ ds.length = fn.np then match xSs (run fns F k) F fn.body (ds.map some ++ List.replicate (fn.nl - fn.np) none) S with
      | some (x, _, S1) => some (fin S x S1)
      | none => none
    else none := by
  have h1 : fns[i + BIG]? = none := List.getElem?_eq_none (by omega)
  have h2 : i + BIG - BIG = i := by omega
  have h3 : BIG ≤ i + BIG := by omega
  simp only [run, h1, h2, hf, h3, true_and]
  first | done | rfl
theorem tab_all {P : Program} {w : World} {base : Heap} (hG : G.fns = rows.map fun r => (r.name, r.ps.length)) (ok : ∀ r ∈ rows, r.Ok G) (T : Tops G rows K w mg) (hB : rows.length ≤ BIG) (hX : (G.xc.map (·.1)).Nodup) :
    ∀ (k i : Nat) (r : Row) (f : Addr) (fd : FuncData), rows[i]? = some r → Fun K r.name r.name r.st f fd → FnG P w K mg base k f fd r.ps (spF K (run (rows.map (·.fn)) F k) i) ∧ FnR P w K mg base k f fd r.ps (spR K mg G.xc (run (rows.map (·.fn)) F k) i)
  | 0, i, r, f, fd, hi, _ => ⟨⟨fun vs H Q E ⟨ds, S, al, d, S', l, _, hc, _⟩ => by simp [run] at hc, fun A outer s H args us vs Q E _ _ _ _ _ ⟨ds, S, al, d, S', l, _, hc, _⟩ => by simp [run] at hc⟩,
      ⟨fun vs H Q E ⟨ds, S, al, d, S', l, _, hc, _⟩ => by simp [run] at hc, fun A outer s H args us vs Q E _ _ _ _ _ ⟨ds, S, al, d, S', l, _, hc, _⟩ => by simp [run] at hc⟩⟩
  | k + 1, i, r, f, fd, hi, D => by
    have hr := ok r (List.mem_of_getElem? hi)
    have hfn := rows_fn hi
    have hBf : (rows.map (·.fn)).length ≤ BIG := by rw [List.length_map]; exact hB
    have ih := tab_all (P := P) (base := base) hG ok T hB hX k
    have both : ∀ (j : Nat) (p : Str × Nat), G.fns[j]? = some p → ∃ f2 fd2 ps, mg p.1 = some (.ref f2) ∧ PySem.W.keepIn K (.ref f2) = true ∧ Binds K fd2 ps [] ∧ ps.length = p.2 ∧ FnG P w K mg base k f2 fd2 ps (spF K (run (rows.map (·.fn)) F k) j) ∧ FnR P w K mg base k f2 fd2 ps (spR K mg G.xc (run (rows.map (·.fn)) F k) j) := fun j p hj => by
      have hj' : (rows.map fun r => (r.name, r.ps.length))[j]? = some p := by rw [← hG]; exact hj
      rw [List.getElem?_map] at hj'
      cases hq : rows[j]? with
      | none => rw [hq] at hj'; cases hj'
      | some r2 =>
        rw [hq] at hj'
        cases hj'
        obtain ⟨f2, fd2, D2, m2, b2⟩ := T.fn r2 (List.mem_of_getElem? hq)
        obtain ⟨g1, g2⟩ := ih j r2 f2 fd2 hq D2
        exact ⟨f2, fd2, r2.ps, m2, D2.kp, b2, rfl, g1, g2⟩
    have fG : ∀ (j : Nat) (p : Str × Nat), G.fns[j]? = some p → ∃ f2 fd2 ps, mg p.1 = some (.ref f2) ∧ PySem.W.keepIn K (.ref f2) = true ∧ Binds K fd2 ps [] ∧ ps.length = p.2 ∧ FnG P w K mg base k f2 fd2 ps (spF K (run (rows.map (·.fn)) F k) j) := fun j p hj => by
      obtain ⟨a, b, c, d, e, f, g, h, _⟩ := both j p hj
      exact ⟨a, b, c, d, e, f, g, h⟩
    have fR : ∀ (j : Nat) (p : Str × Nat), G.fns[j]? = some p → ∃ f2 fd2 ps, mg p.1 = some (.ref f2) ∧ PySem.W.keepIn K (.ref f2) = true ∧ Binds K fd2 ps [] ∧ ps.length = p.2 ∧ FnR P w K mg base k f2 fd2 ps (spR K mg G.xc (run (rows.map (·.fn)) F k) j) := fun j p hj => by
      obtain ⟨a, b, c, d, e, f, g, _, h⟩ := both j p hj
      exact ⟨a, b, c, d, e, f, g, h⟩
    have blk : (if (defScope r.st).kind.isAnnotationScope then ScopeKind.function else (defScope r.st).kind) = .function := by rw [hr.sc.kind]; rfl
    refine ⟨fnG_of D hr.sc (spF_len fun ds S z h => by rw [run_len hfn ds S z h]; exact hr.np) fun cdv A outer s H vs Q E room gu h => ?_, fnR_of D hr.sc (spR_len fun ds S z h => ?_) fun cdv A outer s H vs Q E room gu h => ?_⟩
    · obtain ⟨ds, S, al, d, S', l, R, hc, q⟩ := h
      have g : GdS { G with N := r.N } (run (rows.map (·.fn)) F k) k (defScope r.st) (cxOf CX0 P w K mg base r.N r.name (defScope r.st) f cdv A outer s H E).nox :=
        ⟨⟨rfl, hr.sc.nd, rfl, rfl, room, gu, T.bl, fG, T.cs, T.dc⟩, PassesOwn.never, fun _ => rfl, blk⟩
      refine ⟨_, sndT (q := decide (2 ≤ k)) (F := F) g (fun hq => ⟨g, of_decide_eq_true hq, fR, T.ft, T.cv, hX, rfl, rfl⟩) 200 hr.tr, ?_⟩
      simp only [run, hfn] at hc
      split at hc
      · rename_i hlen
        have hst : RelE K H al (ds.map some ++ List.replicate (r.fn.nl - r.fn.np) none) (L2.start r.N vs) := relE_start l (by rw [hr.nl, ← hlen, l.length])
        split at hc
        · rename_i d0 r1 S1 hev
          simp only [Option.some.injEq] at hc
          refine ⟨_, S, al, .rt d0, r1, S1, hst, R, hev, fun v H' ⟨al1, e1, R1, hv⟩ => q v H' ?_⟩
          have := fin_ok e1 R R1 hv
          rw [hc] at this
          exact this
        · rename_i r1 S1 hev
          simp only [Option.some.injEq] at hc
          refine ⟨_, S, al, .nx, r1, S1, hst, R, hev, fun σ' H' ⟨al1, e1, R1, _⟩ => q .non H' ?_⟩
          have := fin_ok e1 R R1 (v := .non) (d := .non) (.inl .non)
          rw [hc] at this
          exact this
        · cases hc
      · cases hc
    · rw [run_big hfn hBf] at h
      split at h
      · rename_i hl
        rw [hl.2]; exact hr.np
      · cases h
    · obtain ⟨ds, S, al, x, S', l, R, hc, q⟩ := h
      rw [run_big hfn hBf] at hc
      split at hc
      · rename_i hlen
        split at hc
        · rename_i x0 r1 S1 hev
          simp only [Option.some.injEq] at hc
          have hst : RelE K H al (ds.map some ++ List.replicate (r.fn.nl - r.fn.np) none) (L2.start r.N vs) := relE_start l (by rw [hr.nl, ← hlen.2, l.length])
          have g : GdS { G with N := r.N } (run (rows.map (·.fn)) F k) k (defScope r.st) (cxOf (L2.CX P w) P w K mg base r.N r.name (defScope r.st) f cdv A outer s H E) :=
            ⟨⟨rfl, hr.sc.nd, rfl, rfl, room, gu, T.bl, fG, T.cs, T.dc⟩, passes_of rfl, fun _ => rfl, blk⟩
          have gx : GdX { G with N := r.N } (run (rows.map (·.fn)) F k) k (defScope r.st) (cxOf (L2.CX P w) P w K mg base r.N r.name (defScope r.st) f cdv A outer s H E) (fun cls d _ H' => E cls d H') :=
            ⟨g, takes_of rfl rfl rfl rfl, fR, fun c e he hg hpn => by
              obtain ⟨C, Ft⟩ := T.ft c e he
              exact ⟨mk_ok Ft.cl room hlen.1 (gl_of g.gd hg) hpn, C, Ft.cl.mC⟩⟩
          refine ⟨_, (sndXS { G with N := r.N } _ k F _ 200).2 gx hr.tr, _, S, al, x0, r1, S1, hst, R, hev, fun cls d σ' H' ⟨al1, e1, R1, _, xr⟩ => q cls d H' ?_⟩
          have := finX_ok e1 R R1 xr
          rw [hc] at this
          exact this
        · cases hc
      · cases hc
end

/-! ### the law -/
section
variable {P : Program} {w : World} {K : PySem.W.Frag} {mg mb : Str → Option Value} {k : Nat} {fa a : Addr} {fd : FuncData} {x : Str} {sp : Sp} {s1 : Shared} {vs : List Value} {ns : List Int}
/-- from an abstract heap that knows the script at most -/
theorem law_from {H : Hp} (inK : K.In s1.heap) (glob : s1.heap.Ns mainGlobals mg) (blt : s1.heap.Ns builtinsNs mb) (boot : ∀ y : Str, y ≠ "__name__" → mb y = bootBuiltins y) (lim : s1.heap.NoLimit) (gens : s1.gens = #[])
    (script : s1.heap.get? a = some { cls := .type "list", data := .seq vs.toArray }) (room : Room k callerA)
    (F : ∀ base : Heap, K.In base → base.Ns mainGlobals mg → FnG P w K mg base k fa fd [x] sp) (bind : ∀ u : Value, BindsTo s1 fd ⟨[u], []⟩ [(x, u)])
    (only : L2.Only H) (hok : HOk P w H s1.heap) (one : ∀ b, H b ≠ none → b = a) (apart : H a ≠ none → K.lookup a = none)
    (say : sp [.ref a] H (fun v _ => v = .bl true) fun _ _ _ => False) :
    codeAny (model P w) callerA (.call (.ref fa) ⟨[.ref a], []⟩) (fun r s' => r = .ok (.ret (.bool true)) ∧ OldK s1.heap s'.heap ∧ s'.os = s1.os ∧ AllBare s'.gens) s1 := by
  -- a dict is not the script
  have free : ∀ {b : Addr} {o : Obj} {es : Array DictEntry} {n : Nat}, s1.heap.get? b = some o → o.data = .dict es n → H b = none := by
    intro b o es n hb hd
    refine Classical.byContradiction fun hne => ?_
    have hba := one b hne
    rw [hba, script] at hb
    cases hb
    exact nomatch hd
  have nsOf : ∀ {b : Addr} {m : Str → Option Value}, s1.heap.Ns b m → (hidT s1.heap H).Ns b m := by
    rintro b m ⟨o, es, n, h1, h2, h3⟩
    exact ⟨o, es, n, hidT_get h1 (free h1 h2), h2, h3⟩
  have kOf : K.In (hidT s1.heap H) := by
    intro b o hb
    refine hidT_get (inK b o hb) (Classical.byContradiction fun hne => ?_)
    have hba := one b hne
    subst hba
    rw [apart hne] at hb
    cases hb
  have ent : Env0 P w K mg (hidT s1.heap H) callerA [] s1 H := by
    refine ⟨rfl, ⟨kOf, nsOf glob, ⟨mb, nsOf blt, boot⟩, ?_⟩, fun b o hb => of_hidT hb, Nat.le_of_eq (hidT_size _ _), trivial, ?_, hok, .of_eq gens⟩
    · obtain ⟨mc, l1, l2⟩ := lim
      exact ⟨mc, nsOf l1, l2⟩
    · intro b hb
      have hb' : b ∈ ([] : List Addr) := hb
      simp at hb'
  have call := (F _ kOf (nsOf glob)).run callerA [] s1 H ⟨[.ref a], []⟩ [.ref a] [.ref a] _ _ room rfl ent (bind _) (.cons rfl .nil) say
  refine codeAny_mono call fun r s' h => ?_
  match r, h with
  | .error _, h => exact False.elim h
  | .ok .next, h => exact False.elim h
  | .ok .brk, h => exact False.elim h
  | .ok .cont, h => exact False.elim h
  | .ok (.ret u), ⟨v, H', os, bare, un, hok', rv, qv⟩ =>
    have qv' : v = .bl true := qv
    subst qv'
    have eu : u = Value.bool true := rv
    subst eu
    refine ⟨rfl, OldK.of_keep fun b o hb => ?_, os, bare⟩
    rcases only b with z | ⟨ob, xs, z⟩
    · refine un.keep b o hb z (fun m => ?_) (by simp)
      have m' : b ∈ ([] : List Addr) := m
      simp at m'
    · have g1 := (hok b _ z).1
      have g2 := (hok' b _ (un.frzs b ob _ z)).1
      rw [hb] at g1
      cases g1
      exact g2
/-- the law's call, whatever the script is to the text -/
theorem law_G (inK : K.In s1.heap) (glob : s1.heap.Ns mainGlobals mg) (blt : s1.heap.Ns builtinsNs mb) (boot : ∀ y : Str, y ≠ "__name__" → mb y = bootBuiltins y) (lim : s1.heap.NoLimit) (gens : s1.gens = #[])
    (script : s1.heap.get? a = some { cls := .type "list", data := .seq vs.toArray }) (hi : IntsAre vs ns) (hl : ns.length ≤ sizeLine) (room : Room k callerA)
    (F : ∀ base : Heap, K.In base → base.Ns mainGlobals mg → FnG P w K mg base k fa fd [x] sp) (bind : ∀ u : Value, BindsTo s1 fd ⟨[u], []⟩ [(x, u)])
    (say : ∀ H : Hp, SqR K H a (ns.map V.int) → sp [.ref a] H (fun v _ => v = .bl true) fun _ _ _ => False) :
    codeAny (model P w) callerA (.call (.ref fa) ⟨[.ref a], []⟩) (fun r s' => r = .ok (.ret (.bool true)) ∧ OldK s1.heap s'.heap ∧ s'.os = s1.os ∧ AllBare s'.gens) s1 := by
  have rv := vals_ints hi
  by_cases hk : ∃ o, K.lookup a = some o
  · obtain ⟨o, hk⟩ := hk
    have ho := inK a o hk
    rw [script] at ho
    cases ho
    have lenV := hi.length
    refine law_from (H := fun _ => none) inK glob blt boot lim gens script room F bind (fun _ => .inl rfl) (fun b u z => by cases (show (none : Option HO) = some u from z)) (fun b z => absurd rfl z) (fun z => absurd rfl z) (say _ (.inr ⟨_, vs.toArray, _, hk, rfl, rfl, rfl, ?_, by simpa using rv⟩))
    rw [List.size_toArray, lenV]
    exact hl
  · have hk' : K.lookup a = none := by
      cases e : K.lookup a with
      | none => rfl
      | some o => exact absurd ⟨o, e⟩ hk
    let ob : Obj := { cls := .type "list", data := .seq vs.toArray }
    let H : Hp := upd (fun _ => none) a (.frz ob (.lst (ns.map V.int)))
    have hHa : H a = some (.frz ob (.lst (ns.map V.int))) := upd_same
    have hHn : ∀ b, b ≠ a → H b = none := fun b hb => upd_ne hb
    refine law_from (H := H) inK glob blt boot lim gens script room F bind (fun b => ?_) (fun b u z => ?_) (fun b z => ?_) (fun _ => hk') (say H (.inl ⟨ob, hHa⟩))
    · by_cases hb : b = a
      · exact .inr ⟨ob, _, by rw [hb]; exact hHa⟩
      · exact .inl (hHn b hb)
    · by_cases hb : b = a
      · subst hb
        rw [hHa] at z
        cases z
        exact ⟨script, by rw [List.length_map]; exact hl, vs, _, rv, script⟩
      · rw [hHn b hb] at z
        cases z
    · by_cases hb : b = a
      · exact hb
      · exact absurd (hHn b hb) z
end
end Rf

/-! Rf: a law from its run. -/
namespace Rf
open PySem L2 PySem.Spec PyProof.Rows
/-- a def stands at the top -/
def Tf (K : PySem.W.Frag) (mg : Str → Option Value) (r : Row) : Prop := ∃ f fd, Fun K r.name r.name r.st f fd ∧ mg r.name = some (.ref f) ∧ Binds K fd r.ps []
section
variable {K : PySem.W.Frag} {h : Heap} {mg : Str → Option Value}
theorem tf_mk (X : K.In h) (G : h.Ns mainGlobals mg) {r : Row} {f : Addr} {oc : Value} {od an : Option Addr} {osl : Array (Option Value)} {kV doc pm cdv ct : Value}
    (hb : ∀ (kV doc pm : Value) (an : Option Addr) (cdv ct : Value) (us : List Value), us.length = r.ps.length → bindArgs (PySem.W.fnOf r.name r.name (defArgs r.st) (defBody r.st) (defScope r.st) .none kV doc pm an cdv ct) ⟨us, []⟩ = pure (r.ps.zip us))
    (a : PySem.W.nsIn K mainGlobals r.name = some (some (.ref f))) (l : K.lookup f = some ⟨oc, od, .func (PySem.W.fnOf r.name r.name (defArgs r.st) (defBody r.st) (defScope r.st) .none kV doc pm an cdv ct), osl⟩)
    (c : PySem.W.codeIn K cdv r.name = true) (k : PySem.W.keepIn K (.ref f) = true) : Tf K mg r :=
  have F := fun_mk l c k
  ⟨f, _, F, PySem.W.mg_of X G a, F.binds hb⟩
end
theorem all_nil {α : Type} {p : α → Prop} : ∀ x ∈ ([] : List α), p x := fun _ h => nomatch h
theorem all_cons {α : Type} {p : α → Prop} {a : α} {r : List α} (h : p a) (t : ∀ x ∈ r, p x) : ∀ x ∈ a :: r, p x := fun x hx => by
  cases hx with
  | head => exact h
  | tail _ hx => exact t x hx
theorem dnl_ints {K : PySem.W.Frag} {H : Hp} {al : Al} : ∀ ns : List Int, DNL K H al (ns.map V.int) (ns.map D.int)
  | [] => .nil
  | n :: r => .cons (.int n) (dnl_ints r)
/-! ### the text's constants -/
def CsOk (K : PySem.W.Frag) (mg : Str → Option Value) (p : Str × D) : Prop := ∃ v u, mg p.1 = some u ∧ RelV v u ∧ ∀ H al, DN K H al v p.2
theorem cs_of {K : PySem.W.Frag} {mg : Str → Option Value} : ∀ {cs : List (Str × D)}, (∀ p ∈ cs, CsOk K mg p) → ∀ x d, cs.lookup x = some d → ∃ v u, mg x = some u ∧ RelV v u ∧ ∀ H al, DN K H al v d
  | [], _, _, _, h => by cases h
  | (y, e) :: cs, h, x, d, hl => by
    rw [List.lookup_cons] at hl
    split at hl
    · rename_i hb
      cases hl
      have := eq_of_beq hb
      subst this
      exact h _ List.mem_cons_self
    · exact cs_of (fun p hp => h p (List.mem_cons_of_mem _ hp)) x d hl
section
variable {K : PySem.W.Frag} {h : Heap} {mg : Str → Option Value} {x : Str}
theorem cs_int (X : K.In h) (G : h.Ns mainGlobals mg) {i : Int} {t : Tok} (a : PySem.W.nsIn K mainGlobals x = some (some (.int i t))) : CsOk K mg (x, .int i) := ⟨.int i, _, PySem.W.mg_of X G a, ⟨t, rfl⟩, fun _ _ => .int i⟩
theorem cs_str (X : K.In h) (G : h.Ns mainGlobals mg) {i : Str} {t : Tok} (a : PySem.W.nsIn K mainGlobals x = some (some (.str i t))) : CsOk K mg (x, .str i) := ⟨.str i, _, PySem.W.mg_of X G a, ⟨t, rfl⟩, fun _ _ => .str i⟩
theorem cs_ref (X : K.In h) (G : h.Ns mainGlobals mg) {p : Addr} {d : D} (a : PySem.W.nsIn K mainGlobals x = some (some (.ref p))) (hd : ∀ H al, DN K H al (.ref p) d) : CsOk K mg (x, d) := ⟨.ref p, _, PySem.W.mg_of X G a, rfl, hd⟩
theorem dn_ktup {p : Addr} {its : Array Value} {n : Nat} {osl : Array (Option Value)} {vs : List V} {ds : List D} (hl : K.lookup p = some ⟨.type "tuple", none, .seq its n, osl⟩) (hz : its.size ≤ 1000) (hv : Vals vs its.toList) (hd : ∀ H al, DNL K H al vs ds) : ∀ H al, DN K H al (.ref p) (.tup ds) :=
  fun H al => .tup ⟨.inr ⟨_, its, n, hl, rfl, rfl, by rw [sizeLine_eq]; omega, hv⟩, .inl (.inr ⟨_, hl, rfl⟩)⟩ (hd H al)
end
/-! ### the text's dicts -/
def DcOk (K : PySem.W.Frag) (w : World) (mg : Str → Option Value) (p : Str × List (Str × Int)) : Prop := ∃ a, mg p.1 = some (.ref a) ∧ KDc K w a p.2
theorem dc_of {K : PySem.W.Frag} {w : World} {mg : Str → Option Value} : ∀ {cs : List (Str × List (Str × Int))}, (∀ p ∈ cs, DcOk K w mg p) → ∀ x d, cs.lookup x = some d → ∃ a, mg x = some (.ref a) ∧ KDc K w a d
  | [], _, _, _, h => by cases h
  | (y, e) :: cs, h, x, d, hl => by
    rw [List.lookup_cons] at hl
    split at hl
    · rename_i hb
      cases hl
      have := eq_of_beq hb
      subst this
      exact h _ List.mem_cons_self
    · exact dc_of (fun p hp => h p (List.mem_cons_of_mem _ hp)) x d hl
theorem dc_mk {K : PySem.W.Frag} {w : World} {h : Heap} {mg : Str → Option Value} {x : Str} {p : Addr} {es : Array DictEntry} {n : Nat} {kvs : List (Str × Int)} (X : K.In h) (G : h.Ns mainGlobals mg) (a : PySem.W.nsIn K mainGlobals x = some (some (.ref p)))
    (l : K.lookup p = some ⟨.type "dict", none, .dict es n, #[]⟩) (hk : PySem.W.KeysLit w.params es.toList) (hs : (p == sysModules) = false)
    (hp : Paired (fun (kv : Str × Int) (e : DictEntry) => ∃ t u, e.key = .str kv.1 t ∧ e.val = .int kv.2 u) kvs es.toList) : DcOk K w mg (x, kvs) := ⟨p, PySem.W.mg_of X G a, ⟨es, n, l, hk, hs, hp⟩⟩
theorem walk_G {l : PySem.W.OpenLaw} {F k j : Nat} {q : Program} {loose : List Str} {XP : (Str → Option Value) → Heap → Prop} {YP : World → Heap → Prop} {d : DefRec} {K : Params → PySem.W.Frag} {G : Cfg} {rows : List Row} {r : Row} {x : Str}
    (hn : l.most = some 63) (hdf : d.params.defaults = []) (hr : Room k callerA)
    (hG : G.fns = rows.map fun r => (r.name, r.ps.length)) (ok : ∀ r ∈ rows, r.Ok G) (hj : rows[j]? = some r) (hps : r.ps = [x]) (hd : r.name = d.name)
    (hB : rows.length ≤ BIG) (hX : (G.xc.map (·.1)).Nodup) (say : ∀ ns : List Int, ns.length ≤ 63 → ∃ S', run (rows.map (·.fn)) F k j [.ref 0] [.ro (ns.map .int)] = some (.bl true, S'))
    (hY : ∀ (w : World) (h : Heap), YP w h → (K w.params).In h)
    (T : ∀ (w : World) (mg : Str → Option Value) (h : Heap), (K w.params).In h → h.Ns mainGlobals mg → Tops G rows (K w.params) w mg) :
    PySem.W.WalkO q loose XP YP l.row.toRowW d [] (fun f vs => PySem.call f vs) := by
  refine Att.attach_call hn hdf fun w s₀ s₁ mg mb fa o pm cd doc a vs ns G0 Y ho hd' hcd hmg hobj hints hlen hg => ?_
  have KX := hY w _ Y
  have TT := T w mg _ KX G0.T.g
  obtain ⟨f, fd, D, hf, hb⟩ := TT.fn r (List.mem_of_getElem? hj)
  rw [hd, hmg] at hf
  cases hf
  rw [hps] at hb
  refine law_G (x := x) (sp := spF (K w.params) (run (rows.map (·.fn)) F k) j) KX G0.T.g G0.T.b G0.T.builtins G0.T.nolimit hg hobj hints (Nat.le_trans hlen (by decide)) hr (fun base _ _ => ?_) (fun u => hb s₁ [u] KX rfl) fun H hS => ?_
  · have := (tab_all (P := l.prog) (w := w) (base := base) (F := F) hG ok TT hB hX k j r fa fd hj D).1
    rw [hps] at this
    exact this
  · obtain ⟨S', h⟩ := say ns hlen
    refine ⟨[.ref 0], [.ro (ns.map .int)], [(false, a)], .bl true, S', .cons (.ref rfl) .nil, ?_, h, ?_⟩
    · refine ⟨rfl, fun n o b c hS' hA => ?_, fun m n c hm _ => ?_⟩
      · cases n with
        | zero =>
          cases hS'
          cases hA
          exact ⟨rfl, _, hS, dnl_ints ns⟩
        | succ n => cases hS'
      · cases m with
        | zero => cases hm
        | succ m => cases hm
    · rintro v H' ⟨al', _, _, hv | ⟨_, _, _, _, e, _⟩⟩
      · cases hv; rfl
      · cases e
end Rf

/-! Rf: the exception classes of a text. -/
namespace Rf
open PySem L2 PySem.Spec PyProof.Rows
/-- what a class's text says -/
def XSt (fl : List Str) (q : Str) (st : Stmt) : Prop := ∃ (p1 p2 p3 p4 p5 p6 : Pos) (j : Nat) (m : Str) (rest : List Stmt),
  (∀ (kV doc pm : Value) (an : Option Addr) (cdv ct : Value) (us : List Value), us.length = (("self" : Str) :: fl).length → bindArgs (PySem.W.fnOf "__init__" q (defArgs st) (defBody st) (defScope st) .none kV doc pm an cdv ct) ⟨us, []⟩ = pure ((("self" : Str) :: fl).zip us)) ∧
  FnScope ("self" :: fl) ("self" :: fl) (defScope st) ∧ (defScope st).names.lookup ("KindError" : Str) = some NameKind.globalImplicit ∧
  defBody st = .Expr (.Call (.Attribute (.Name "KindError" p1) "__init__" p2) [.Name "self" p3, .Constant (.str m) j p4] [] p5) p6 :: rest ∧ Sets fl rest ∧ KCall p1 p2 p3 p4 p5 j m ∧
  (∀ f ∈ fl, plainName f = true) ∧ fl ≠ [] ∧ fl.Nodup ∧ fl.length ≤ 10
section
variable {K : PySem.W.Frag} {h : Heap} {mg : Str → Option Value}
theorem xcl_mk (X : K.In h) (N : h.Ns mainGlobals mg) {c q : Str} {fl : List Str} {C fI B Nn : Addr} {st : Stmt} {nm0 q0 : Str} {bs bm sub : List Value} {sn : List Str} {ab : Bool} {col : Option Bool} {dd : Option Addr} {k0 k1 k2 k3 k5 : Option Value}
    {oc : Value} {od an : Option Addr} {osl : Array (Option Value)} {kV doc pm cdv ct : Value} (stat : XSt fl q st)
    (a : PySem.W.nsIn K mainGlobals c = some (some (.ref C))) (o : K.lookup C = some (excClassObj nm0 q0 C Nn bs bm true sn sub ab col dd k0 k1 k2 k3 k5 "ValueError.__new__")) (rv : PySem.HandSPX.refsVE bm = true)
    (sa : PySem.W.findIn K (.ref C) "__setattr__" = some (some (.builtin "object.__setattr__"))) (ex : PySem.W.subIn K (.ref C) (.type "BaseException") = some true) (ty : PySem.W.typeIn K (.ref C) = some (.type "type")) (kp : PySem.W.keepIn K (.ref C) = true)
    (iC : PySem.W.findIn K (.ref C) "__init__" = some (some (.ref fI))) (tI : PySem.W.typeIn K (.ref fI) = some (.type "function"))
    (l : K.lookup fI = some ⟨oc, od, .func (PySem.W.fnOf "__init__" q (defArgs st) (defBody st) (defScope st) .none kV doc pm an cdv ct), osl⟩) (cd : PySem.W.codeIn K cdv q = true) (kf : PySem.W.keepIn K (.ref fI) = true)
    (aB : PySem.W.nsIn K mainGlobals "KindError" = some (some (.ref B))) (sg : PySem.W.specialIn K (.ref B) "__getattribute__" = some (some (.builtin "type.__getattribute__"))) (tB : PySem.W.typeIn K (.ref B) = some (.type "type"))
    (rd : PySem.W.readsIn K B (.type "type") = true) (fi : PySem.W.findCls K (.ref B) (.type "type") "__init__" = some (.val (.builtin "ValueError.__init__")))
    (nof : ∀ f ∈ fl, PySem.W.findIn K (.ref C) f = some none) : XCl K mg c fl C := by
  obtain ⟨p1, p2, p3, p4, p5, p6, j, m, rest, hb, S, hK, hbody, hs, hkc, h1, h2, h3, h4⟩ := stat
  have F := fun_mk l cd kf
  exact ⟨PySem.W.mg_of X N a, ⟨⟨_, _, _, _, _, _, _, _, _, _, _, _, _, _, _, o, rv⟩, sa, ex, ty, kp⟩, ⟨fI, B, _, st, q, p1, p2, p3, p4, p5, p6, j, m, rest, iC, tI, F, F.binds hb, S, PySem.W.mg_of X N aB, ⟨sg, tB, rd, fi⟩, hK, hbody, hs, hkc⟩, nof, h1, h2, h3, h4⟩
/-- a class is one of these -/
def XIs (K : PySem.W.Frag) (mg : Str → Option Value) (C : Addr) (isa : List Str) (y : Str) : Prop := ∃ v cv, CV mg y v cv ∧ PySem.W.kitOne K (.ref C) cv = some (isa.contains y) ∧ PySem.W.exmOne K (.ref C) cv = some (isa.contains y)
theorem xis_own (X : K.In h) (N : h.Ns mainGlobals mg) {C B : Addr} {isa : List Str} {y : Str} {b : Bool} (cc : PySem.W.subIn K (.ref C) (.ref C) = some true) (a : PySem.W.nsIn K mainGlobals y = some (some (.ref B))) (hd : PySem.W.hasDictIn K B = true) (ty : PySem.W.typeIn K (.ref B) = some (.type "type")) (ex : PySem.W.subIn K (.ref B) (.type "BaseException") = some true)
    (sb : PySem.W.subIn K (.ref C) (.ref B) = some b) (hb : isa.contains y = b) : XIs K mg C isa y := by
  have e := PySem.W.exm_ref ex hd ty sb
  refine ⟨.ref B, .ref B, .inl ⟨B, PySem.W.mg_of X N a, rfl, rfl⟩, ?_, by rw [hb]; exact e⟩
  unfold PySem.W.kitOne
  split
  · rename_i q
    have : C = B := Value.ref.inj (beq_iff_eq.mp q)
    subst this
    rw [cc] at sb
    cases sb
    rw [hb]
  · unfold PySem.W.exmOne at e
    rw [ex] at e
    rw [hb]
    simpa using e
theorem xis_blt (X : K.In h) (N : h.Ns mainGlobals mg) {C : Addr} {isa : List Str} {y : Str} {t : String} {b : Bool} (a : PySem.W.nsIn K mainGlobals y = some none) (hy : y ≠ "__name__") (hbo : bootBuiltins y = some (.type t)) (km : PySem.W.kitMeta t = true) (ex : PySem.W.subIn K (.type t) (.type "BaseException") = some true)
    (sb : PySem.W.subIn K (.ref C) (.type t) = some b) (hb : isa.contains y = b) : XIs K mg C isa y := by
  have e : PySem.W.kitCls K (.ref C) (.type t) = some b := by
    show (if PySem.W.kitMeta t = true then PySem.W.subIn K (.ref C) (.type t) else none) = some b
    rw [if_pos km]; exact sb
  refine ⟨.ty t, .type t, .inr ⟨PySem.W.mg_none_of X N a, hy, t, hbo, rfl, rfl⟩, ?_, ?_⟩
  · unfold PySem.W.kitOne
    rw [if_neg (by simp), hb]; exact e
  · unfold PySem.W.exmOne
    rw [ex, hb]
    simpa using e
theorem xft_mk {C : Addr} {c : Str} {e : List Str × List Str} {xn : List Str} (cl : XCl K mg c e.1 C) (ga : PySem.W.findIn K (.ref C) "__getattribute__" = some (some (.builtin "BaseException.__getattribute__"))) (gg : PySem.W.findIn K (.ref C) "__getattr__" = some none) (hd : PySem.W.hasDictIn K C = true)
    (ha : PySem.W.findIn K (.ref C) "__class__" = some (some (.builtin "object.__class__"))) (hn : PySem.W.specialIn K (.builtin "object.__class__") "__get__" = some (some (.builtin "getset_descriptor.__get__"))) (ht : PySem.W.takesIn K (.builtin "object.__class__") = some true) (hm : PySem.W.mroIn K C (.type "object") = some true)
    (is : ∀ y ∈ xn, XIs K mg C e.2 y) : XFt K mg xn c e C :=
  ⟨cl, by obtain ⟨cd, hc, _⟩ := PySem.W.any_some hd; rw [hc]; rfl, ⟨ga, gg, cl.T.exC, hd⟩, ha, hn, ht, hm, is⟩
/-- the table, class by class -/
theorem ft_cons {xn : List Str} {c : Str} {e : List Str × List Str} {xc : XC} (h1 : ∃ C, XFt K mg xn c e C) (h2 : ∀ c e, xc.lookup c = some e → ∃ C, XFt K mg xn c e C) : ∀ c' e', ((c, e) :: xc).lookup c' = some e' → ∃ C, XFt K mg xn c' e' C := by
  intro c' e' hl
  rw [List.lookup_cons] at hl
  split at hl
  · rename_i hb
    cases hl
    have := eq_of_beq hb
    subst this
    exact h1
  · exact h2 c' e' hl
theorem ft_nil {xn : List Str} : ∀ c e, ([] : XC).lookup c = some e → ∃ C, XFt K mg xn c e C := fun c e h => by cases h
theorem cv_of {xn : List Str} {C : Addr} {isa : List Str} (h : ∀ y ∈ xn, XIs K mg C isa y) : ∀ y ∈ xn, ∃ v c, CV mg y v c := fun y hy => by
  obtain ⟨v, c, h, _⟩ := h y hy
  exact ⟨v, c, h⟩
end
end Rf

/-! Rf: plain facts on the evaluator. -/
namespace Rf
open PySem
/-! ### flat data -/
mutual
def pd : D → PyData
  | .non => .none
  | .bl b => .bool b
  | .int i => .int i
  | .str x => .str x
  | .tup ds => .tuple (pds ds)
  | .lst ds => .list (pds ds)
  | .ref _ => .none
def pds : List D → List PyData
  | [] => []
  | d :: r => pd d :: pds r
end
mutual
/-- no cell within, not too deep -/
def fl : D → Nat → Bool
  | .non, _ => true
  | .bl _, _ => true
  | .int _, _ => true
  | .str x, _ => PyData.strOk x
  | .tup ds, n => match n with
    | 0 => false
    | n + 1 => fls ds n
  | .lst ds, n => match n with
    | 0 => false
    | n + 1 => fls ds n
  | .ref _, _ => false
def fls : List D → Nat → Bool
  | [], _ => true
  | d :: r, n => fl d n && fls r n
end
mutual
def wD : D → Nat
  | .non => 0
  | .bl _ => 0
  | .int i => if i.natAbs < 10 ^ 12 then 41 else 2 ^ 21
  | .str x => x.cps.size
  | .tup ds => wDs ds
  | .lst ds => wDs ds
  | .ref _ => 0
def wDs : List D → Nat
  | [] => 0
  | d :: r => wD d + 1 + wDs r
end
theorem pds_map : ∀ ds : List D, pds ds = ds.map pd
  | [] => rfl
  | d :: r => by simp only [pds, List.map_cons, pds_map r]
theorem fls_iff {n : Nat} : ∀ {ds : List D}, fls ds n = true ↔ ∀ d ∈ ds, fl d n = true
  | [] => by simp [fls]
  | d :: r => by simp only [fls, Bool.and_eq_true, List.mem_cons, forall_eq_or_imp, fls_iff (ds := r)]
mutual
theorem fl_up : ∀ {d : D} {n m : Nat}, n ≤ m → fl d n = true → fl d m = true
  | .non, _, _, _, _ => rfl
  | .bl _, _, _, _, _ => rfl
  | .int _, _, _, _, _ => rfl
  | .str _, _, _, _, h => h
  | .tup ds, n, m, l, h => by
    cases n with
    | zero => simp [fl] at h
    | succ n =>
      cases m with
      | zero => omega
      | succ m =>
        simp only [fl] at h ⊢
        exact fls_up (by omega) h
  | .lst ds, n, m, l, h => by
    cases n with
    | zero => simp [fl] at h
    | succ n =>
      cases m with
      | zero => omega
      | succ m =>
        simp only [fl] at h ⊢
        exact fls_up (by omega) h
  | .ref _, _, _, _, h => by simp [fl] at h
theorem fls_up : ∀ {ds : List D} {n m : Nat}, n ≤ m → fls ds n = true → fls ds m = true
  | [], _, _, _, _ => rfl
  | d :: r, n, m, l, h => by
    simp only [fls, Bool.and_eq_true] at h ⊢
    exact ⟨fl_up l h.1, fls_up l h.2⟩
end
mutual
theorem dat_fl (S : Store) : ∀ {d : D} {n : Nat}, fl d n = true → dat S n d = some (pd d)
  | .non, n, _ => by cases n <;> rfl
  | .bl _, n, _ => by cases n <;> rfl
  | .int _, n, _ => by cases n <;> rfl
  | .str _, n, _ => by cases n <;> rfl
  | .tup ds, n, h => by
    cases n with
    | zero => simp [fl] at h
    | succ n =>
      simp only [fl] at h
      simp only [dat, dats_fl S h, pd, Option.map_some]
  | .lst ds, n, h => by
    cases n with
    | zero => simp [fl] at h
    | succ n =>
      simp only [fl] at h
      simp only [dat, dats_fl S h, pd, Option.map_some]
  | .ref _, _, h => by simp [fl] at h
theorem dats_fl (S : Store) : ∀ {ds : List D} {n : Nat}, fls ds n = true → mapO (dat S n) ds = some (pds ds)
  | [], _, _ => rfl
  | d :: r, n, h => by
    simp only [fls, Bool.and_eq_true] at h
    simp only [mapO, dat_fl S h.1, dats_fl S h.2, pds]
end
mutual
theorem fl_lay : ∀ {d : D} {n : Nat}, fl d n = true → (pd d).canLay0 = true ∧ (pd d).depth ≤ n
  | .non, n, _ => by simp [pd, PyData.canLay0, PyData.depth]
  | .bl _, n, _ => by simp [pd, PyData.canLay0, PyData.depth]
  | .int _, n, _ => by simp [pd, PyData.canLay0, PyData.depth]
  | .str _, n, h => by simp only [fl] at h; simp [pd, PyData.canLay0, PyData.depth, h]
  | .tup ds, n, h => by
    cases n with
    | zero => simp [fl] at h
    | succ n =>
      simp only [fl] at h
      have := fls_lay h
      simp only [pd, PyData.canLay0, PyData.depth]
      exact ⟨this.1, by omega⟩
  | .lst ds, n, h => by
    cases n with
    | zero => simp [fl] at h
    | succ n =>
      simp only [fl] at h
      have := fls_lay h
      simp only [pd, PyData.canLay0, PyData.depth]
      exact ⟨this.1, by omega⟩
  | .ref _, _, h => by simp [fl] at h
theorem fls_lay : ∀ {ds : List D} {n : Nat}, fls ds n = true → PyData.canLayAll0 (pds ds) = true ∧ PyData.depthAll (pds ds) ≤ n
  | [], n, _ => by simp [pds, PyData.canLayAll0, PyData.depthAll]
  | d :: r, n, h => by
    simp only [fls, Bool.and_eq_true] at h
    have h1 := fl_lay h.1
    have h2 := fls_lay h.2
    simp only [pds, PyData.canLayAll0, PyData.depthAll, Bool.and_eq_true]
    exact ⟨⟨h1.1, h2.1⟩, by omega⟩
end
theorem fl_shaped {d : D} (h : fl d 64 = true) : SeqAt.shaped (pd d) = true := by
  have := fl_lay h
  simp only [SeqAt.shaped, Bool.and_eq_true, decide_eq_true_eq]
  exact this
theorem log2_small {n : Nat} (h : n < 10 ^ 12) : n.log2 < 40 := by
  by_cases h0 : n = 0
  · subst h0; decide
  · rw [Nat.log2_lt h0]; omega
mutual
theorem wD_ok : ∀ {d : D} {n : Nat}, fl d n = true → wD d ≤ 2 ^ 20 → (pd d).weight ≤ wD d ∧ (pd d).intsShort 13 = true ∧ (pd d).showable = true
  | .non, _, _, _ => by simp [pd, PyData.weight, PyData.intsShort, PyData.showable]
  | .bl _, _, _, _ => by simp [pd, PyData.weight, PyData.intsShort, PyData.showable]
  | .int i, _, _, h => by
    simp only [wD] at h ⊢
    split at h
    · rename_i hi
      rw [if_pos hi]
      have hl := log2_small hi
      simp only [pd, PyData.weight, PyData.intsShort, PyData.showable, decide_eq_true_eq]
      refine ⟨?_, PyData.shown_int_le hi, by omega⟩
      split <;> omega
    · omega
  | .str x, _, _, _ => by simp [pd, PyData.weight, PyData.intsShort, PyData.showable, wD]
  | .tup ds, n, h, hw => by
    cases n with
    | zero => simp [fl] at h
    | succ n =>
      simp only [fl] at h
      simp only [wD] at hw ⊢
      simp only [pd, PyData.weight, PyData.intsShort, PyData.showable]
      exact wDs_ok h hw
  | .lst ds, n, h, hw => by
    cases n with
    | zero => simp [fl] at h
    | succ n =>
      simp only [fl] at h
      simp only [wD] at hw ⊢
      simp only [pd, PyData.weight, PyData.intsShort, PyData.showable]
      exact wDs_ok h hw
  | .ref _, _, h, _ => by simp [fl] at h
theorem wDs_ok : ∀ {ds : List D} {n : Nat}, fls ds n = true → wDs ds ≤ 2 ^ 20 → PyData.weightAll (pds ds) ≤ wDs ds ∧ PyData.intsShortAll 13 (pds ds) = true ∧ PyData.showableAll (pds ds) = true
  | [], _, _, _ => by simp [pds, PyData.weightAll, PyData.intsShortAll, PyData.showableAll]
  | d :: r, n, h, hw => by
    simp only [fls, Bool.and_eq_true] at h
    simp only [wDs] at hw ⊢
    have h1 := wD_ok h.1 (by omega)
    have h2 := wDs_ok h.2 (by omega)
    simp only [pds, PyData.weightAll, PyData.intsShortAll, PyData.showableAll, Bool.and_eq_true]
    exact ⟨by omega, ⟨h1.2.1, h2.2.1⟩, h1.2.2, h2.2.2⟩
end
/-- flat, no deeper than n, no heavier than w -/
def Nice (n w : Nat) (d : D) : Prop := fl d n = true ∧ wD d ≤ w
theorem Nice.mono {n m w v : Nat} {d : D} (h : Nice n w d) (h1 : n ≤ m := by omega) (h2 : w ≤ v := by omega) : Nice m v d := ⟨fl_up h1 h.1, Nat.le_trans h.2 h2⟩
theorem Nice.int {n w : Nat} {i : Int} (h : i.natAbs < 10 ^ 12) (hw : 41 ≤ w := by omega) : Nice n w (.int i) := ⟨rfl, by simp only [wD, if_pos h]; exact hw⟩
theorem Nice.int2 {n w : Nat} {i : Int} (h : -1000000000 ≤ i) (h2 : i ≤ 1000000000) (hw : 41 ≤ w := by omega) : Nice n w (.int i) := .int (by omega) hw
theorem Nice.bl {n w : Nat} {b : Bool} : Nice n w (.bl b) := ⟨rfl, Nat.zero_le _⟩
theorem Nice.non {n w : Nat} : Nice n w .non := ⟨rfl, Nat.zero_le _⟩
theorem wDs_le {c : Nat} : ∀ {ds : List D}, (∀ d ∈ ds, wD d ≤ c) → wDs ds ≤ ds.length * (c + 1)
  | [], _ => by simp [wDs]
  | d :: r, h => by
    have h1 := h d (List.mem_cons_self ..)
    have h2 := wDs_le (c := c) (ds := r) fun x hx => h x (List.mem_cons_of_mem _ hx)
    simp only [wDs, List.length_cons, Nat.add_mul]
    omega
theorem Nice.tup {n c m w : Nat} {ds : List D} (h : ∀ d ∈ ds, Nice n c d) (hl : ds.length ≤ m) (hw : m * (c + 1) ≤ w := by omega) : Nice (n + 1) w (.tup ds) := by
  refine ⟨?_, ?_⟩
  · simp only [fl]; exact fls_iff.mpr fun d hd => (h d hd).1
  · simp only [wD]
    exact Nat.le_trans (Nat.le_trans (wDs_le fun d hd => (h d hd).2) (Nat.mul_le_mul_right _ hl)) hw
theorem Nice.lst {n c m w : Nat} {ds : List D} (h : ∀ d ∈ ds, Nice n c d) (hl : ds.length ≤ m) (hw : m * (c + 1) ≤ w := by omega) : Nice (n + 1) w (.lst ds) := by
  refine ⟨?_, ?_⟩
  · simp only [fl]; exact fls_iff.mpr fun d hd => (h d hd).1
  · simp only [wD]
    exact Nat.le_trans (Nat.le_trans (wDs_le fun d hd => (h d hd).2) (Nat.mul_le_mul_right _ hl)) hw
theorem Nice.repr {d : D} (h : Nice 64 (2 ^ 20) d) (S : Store) : biS .repr [d] S = some (.str (pd d).shown, S) := by
  have h70 : fl d deep = true := fl_up (by decide) h.1
  have hw := wD_ok h.1 h.2
  have hl := fl_lay h.1
  have hs := PyData.shown_fits (B := 13) (by decide) (by decide) (PyData.leavesShort_of_canLay0 13 _ hl.1 hw.2.1) (Nat.le_trans hw.1 h.2)
  simp only [biS, dat_fl S h70, reprS, hw.2.2, hs, hl.2, decide_true, Bool.and_self, if_true, Option.map_some]
theorem eqS_fl {a b : D} (ha : fl a 64 = true) (hb : fl b 64 = true) (S : Store) : eqS S a b = some (PyData.eqv (pd a) (pd b)) := by
  have e1 := dat_fl S (fl_up (show 64 ≤ deep by decide) ha)
  have e2 := dat_fl S (fl_up (show 64 ≤ deep by decide) hb)
  have h1 := fl_shaped ha
  have h2 := fl_shaped hb
  cases a <;> cases b <;> simp only [eqS, e1, e2, h1, h2, Bool.and_self, if_true] <;> simp [pd, PyData.eqv]
  all_goals (first | rfl | skip)
end Rf

namespace Rf
open PySem
theorem evT_of {q : Bool} {call : Nat → List D → Store → Rs D} {F : Nat} {z : Fl × Sl × Store} : ∀ {ss : Sts} {r : Sl} {S : Store}, evSs call F ss r S = some z → evT q call F ss r S = some z
  | .nil, r, S, h => by simpa only [evT, evSs] using h
  | .cons s ss, r, S, h => by
    have step : (∀ b cs nm hh, s ≠ .tri b cs nm hh) → evT q call F (.cons s ss) r S = match evS call F s r S with
        | some (.nx, r1, S1) => evT q call F ss r1 S1
        | z => z := by
      intro hs
      cases s <;> first | rfl | exact absurd rfl (hs _ _ _ _)
    by_cases ht : ∃ b cs nm hh, s = .tri b cs nm hh
    · obtain ⟨b, cs, nm, hh, rfl⟩ := ht
      simp [evSs, evS] at h
    · rw [step fun b cs nm hh e => ht ⟨b, cs, nm, hh, e⟩]
      rw [evSs] at h
      rcases e1 : evS call F s r S with _ | ⟨f, r1, S1⟩
      · simp [e1] at h
      · cases f <;> simp only [e1] at h ⊢ <;> first | exact evT_of h | exact h
/-! ### == of flat data without truth values -/
mutual
def nb : D → Bool
  | .non => true
  | .bl _ => false
  | .int _ => true
  | .str _ => true
  | .tup ds => nbs ds
  | .lst ds => nbs ds
  | .ref _ => false
def nbs : List D → Bool
  | [] => true
  | d :: r => nb d && nbs r
end
mutual
theorem eqv_nb : ∀ {a b : D}, nb a = true → nb b = true → PyData.eqv (pd a) (pd b) = decide (a = b)
  | .non, b, _, hb => by cases b <;> simp [pd, PyData.eqv] <;> simp [nb] at hb
  | .bl _, _, h, _ => by simp [nb] at h
  | .int i, b, _, hb => by cases b <;> simp [pd, PyData.eqv] <;> simp [nb] at hb <;> rfl
  | .str i, b, _, hb => by cases b <;> simp [pd, PyData.eqv] <;> simp [nb] at hb <;> rfl
  | .tup xs, b, ha, hb => by
    cases b with
    | tup ys =>
      simp only [nb] at ha hb
      simp only [pd, PyData.eqv, D.tup.injEq]
      exact eqvs_nb ha hb
    | _ => simp [pd, PyData.eqv] <;> simp [nb] at hb
  | .lst xs, b, ha, hb => by
    cases b with
    | lst ys =>
      simp only [nb] at ha hb
      simp only [pd, PyData.eqv, D.lst.injEq]
      exact eqvs_nb ha hb
    | _ => simp [pd, PyData.eqv] <;> simp [nb] at hb
  | .ref _, _, h, _ => by simp [nb] at h
theorem eqvs_nb : ∀ {a b : List D}, nbs a = true → nbs b = true → PyData.eqvAll (pds a) (pds b) = decide (a = b)
  | [], [], _, _ => by simp [pds, PyData.eqvAll]
  | [], _ :: _, _, _ => by simp [pds, PyData.eqvAll]
  | _ :: _, [], _, _ => by simp [pds, PyData.eqvAll]
  | x :: r, y :: t, ha, hb => by
    simp only [nbs, Bool.and_eq_true] at ha hb
    simp only [pds, PyData.eqvAll, eqv_nb ha.1 hb.1, eqvs_nb ha.2 hb.2, List.cons.injEq, Bool.decide_and]
end
theorem nbs_iff : ∀ {ds : List D}, nbs ds = true ↔ ∀ d ∈ ds, nb d = true
  | [] => by simp [nbs]
  | d :: r => by simp only [nbs, Bool.and_eq_true, List.mem_cons, forall_eq_or_imp, nbs_iff (ds := r)]
theorem eqS_nb {a b : D} (ha : fl a 64 = true) (hb : fl b 64 = true) (na : nb a = true) (nb' : nb b = true) (S : Store) : eqS S a b = some (decide (a = b)) := by
  rw [eqS_fl ha hb, eqv_nb na nb']
theorem inS_nb {a b : D} {S : Store} {ds : List D} (hs : seqOf S b = some ds) (ha : fl a 63 = true) (hd : fls ds 63 = true) (na : nb a = true) (nd : nbs ds = true) : inS S a b = some (decide (a ∈ ds)) := by
  have e1 := dat_fl S (fl_up (show 63 ≤ deep by decide) ha)
  have e2 := dats_fl S (fls_up (show 63 ≤ deep by decide) hd)
  have s1 := fl_shaped (fl_up (show 63 ≤ 64 by decide) ha)
  have s2 : SeqAt.shaped (PyData.list (pds ds)) = true := fl_shaped (d := .lst ds) (by simpa only [fl] using hd)
  simp only [inS, hs, e1, e2, s1, s2, Bool.and_self, if_true, Option.some.injEq]
  rw [pds_map, List.any_map]
  rw [Bool.eq_iff_iff, List.any_eq_true, decide_eq_true_eq]
  constructor
  · rintro ⟨x, hx, e⟩
    simp only [Function.comp_apply] at e
    rw [eqv_nb (nbs_iff.mp nd x hx) na, decide_eq_true_eq] at e
    exact e ▸ hx
  · intro h
    refine ⟨a, h, ?_⟩
    simp only [Function.comp_apply]
    rw [eqv_nb na na]
    exact decide_eq_true rfl
theorem fls_ints (ns : List Int) (n : Nat) : fls (ns.map D.int) n = true := fls_iff.mpr fun d hd => by obtain ⟨i, _, rfl⟩ := List.mem_map.mp hd; rfl
theorem nbs_ints (ns : List Int) : nbs (ns.map D.int) = true := nbs_iff.mpr fun d hd => by obtain ⟨i, _, rfl⟩ := List.mem_map.mp hd; rfl
theorem mem_ints {i : Int} {ns : List Int} : D.int i ∈ ns.map D.int ↔ i ∈ ns := by simp
theorem inS_ints {i : Int} {b : D} {S : Store} {ns : List Int} (hs : seqOf S b = some (ns.map D.int)) : inS S (.int i) b = some (decide (i ∈ ns)) := by
  rw [inS_nb hs rfl (fls_ints _ _) rfl (nbs_ints _)]; simp only [mem_ints]
/-! ### sorted -/
mutual
theorem alike_self : ∀ p : PyData, p.canLay0 = true → PySem.W.alike p p = true
  | .none, _ => by simp [PySem.W.alike]
  | .bool _, _ => by simp [PySem.W.alike]
  | .int _, _ => by simp [PySem.W.alike]
  | .str _, _ => by simp [PySem.W.alike]
  | .list xs, h => by simp only [PySem.W.alike]; exact alikes_self xs (by simpa [PyData.canLay0] using h)
  | .tuple xs, h => by simp only [PySem.W.alike]; exact alikes_self xs (by simpa [PyData.canLay0] using h)
  | .dict _, h => by simp [PyData.canLay0] at h
theorem alikes_self : ∀ ps : List PyData, PyData.canLayAll0 ps = true → PySem.W.alikeAll ps ps = true
  | [], _ => by simp [PySem.W.alikeAll]
  | p :: r, h => by
    simp only [PyData.canLayAll0, Bool.and_eq_true] at h
    simp only [PySem.W.alikeAll, Bool.and_eq_true]
    exact ⟨alike_self p h.1, alikes_self r h.2⟩
end
theorem sortS_of {β : Type} {S : Store} {e : β → D} {bs : List β} (hf : ∀ b ∈ bs, fl (e b) 64 = true) (ha : ∀ b ∈ bs, ∀ c ∈ bs, PySem.W.alike (pd (e b)) (pd (e c)) = true)
    (hk : (∀ b ∈ bs, ∃ x r, e b = .tup (x :: r)) ∨ (∀ b ∈ bs, e b ≠ .non ∧ ∀ xs, e b ≠ .tup xs)) :
    sortS S (bs.map e) = some ((bs.mergeSort (PySem.W.dataLe false fun b => pd (e b))).map e) := by
  have e1 : mapO (dat S deep) (bs.map e) = some (bs.map fun b => pd (e b)) := by
    have := dats_fl S (ds := bs.map e) (n := deep) (fls_iff.mpr fun d hd => by obtain ⟨b, hb, rfl⟩ := List.mem_map.mp hd; exact fl_up (by decide) (hf b hb))
    rw [this, pds_map, List.map_map]; rfl
  have e2 : ((bs.map fun b => pd (e b)).all fun p => (bs.map fun b => pd (e b)).all fun q => PySem.W.alike p q) = true := by
    simp only [List.all_map, List.all_eq_true, Function.comp_apply]; exact ha
  have e3 : (bs.map fun b => pd (e b)).all SeqAt.shaped = true := by
    simp only [List.all_map, List.all_eq_true, Function.comp_apply]; exact fun b hb => fl_shaped (hf b hb)
  have e4 : (((bs.map fun b => pd (e b)).all fun p => match p with | .tuple (_ :: _) => true | _ => false) || ((bs.map fun b => pd (e b)).all fun p => match p with | .tuple _ => false | .none => false | _ => true)) = true := by
    rw [Bool.or_eq_true]
    rcases hk with hk | hk
    · left
      simp only [List.all_map, List.all_eq_true, Function.comp_apply]
      intro b hb
      obtain ⟨x, r, h⟩ := hk b hb
      simp only [h, pd, pds]
    · right
      simp only [List.all_map, List.all_eq_true, Function.comp_apply]
      intro b hb
      have h1 := hk b hb
      have h2 := hf b hb
      cases he : e b with
      | non => exact absurd he h1.1
      | tup xs => exact absurd he (h1.2 xs)
      | ref n => rw [he] at h2; simp [fl] at h2
      | _ => simp only [pd]
  have e5 : (bs.map e).zip (bs.map fun b => pd (e b)) = bs.map fun b => (e b, pd (e b)) := by
    clear e1 e2 e3 e4 hf ha hk
    induction bs with
    | nil => rfl
    | cons b r ih => simp only [List.map_cons, List.zip_cons_cons, ih]
  unfold sortS
  rw [e1]
  dsimp only
  rw [if_pos (by rw [e2, e3]; exact (Bool.or_eq_true _ _).mpr (.inl e4)), e5, Option.some.injEq]
  rw [← List.map_mergeSort (r := PySem.W.dataLe false fun b => pd (e b)) (s := dLe) (fun a _ b _ => rfl), List.map_map]
  rfl
theorem alike_fl : ∀ {d : D} {n : Nat}, fl d n = true → PySem.W.alike (pd d) (pd d) = true := by
  intro d n h
  have := (fl_lay h).1
  exact alike_self _ this
theorem sortS_one {S : Store} {d : D} (h : fl d 64 = true) (hn : d ≠ .non) : sortS S [d] = some [d] := by
  have e1 : mapO (dat S deep) [d] = some [pd d] := by simp only [mapO, dat_fl S (fl_up (show 64 ≤ deep by decide) h)]
  have hnn : noneP (pd d) = false := by
    cases d <;> first | rfl | exact absurd rfl hn | simp [fl] at h
  unfold sortS
  rw [e1]
  dsimp only
  rw [if_pos ?_]
  · simp only [List.zip_cons_cons, List.zip_nil_right, List.mergeSort_singleton, List.map_cons, List.map_nil]
  · rw [Bool.and_eq_true, Bool.and_eq_true]
    refine ⟨⟨by simp [alike_fl h], by simp [fl_shaped h]⟩, (Bool.or_eq_true _ _).mpr (.inr (by simp [hnn]))⟩
def leI (a b : Int) : Bool := decide (a ≤ b)
def lePr (p q : Int × Int) : Bool := decide (p.1 < q.1 ∨ (p.1 = q.1 ∧ p.2 ≤ q.2))
def dP (p : Int × Int) : D := .tup [.int p.1, .int p.2]
theorem sortS_ints (S : Store) (ns : List Int) : sortS S (ns.map D.int) = some ((ns.mergeSort leI).map D.int) := by
  rw [sortS_of (fun _ _ => rfl) (fun _ _ _ _ => by simp [pd, PySem.W.alike]) (.inr fun b _ => ⟨by simp, by simp⟩)]
  have : (PySem.W.dataLe false fun b => pd (D.int b)) = leI := PySem.W.dataLe_int fun b => b
  rw [this]
theorem sortS_pairs (S : Store) (ps : List (Int × Int)) : sortS S (ps.map dP) = some ((ps.mergeSort lePr).map dP) := by
  rw [sortS_of (e := dP) (fun _ _ => rfl) (fun _ _ _ _ => by simp [pd, pds, dP, PySem.W.alike, PySem.W.alikeAll]) (.inl fun b _ => ⟨_, _, rfl⟩)]
  have : (PySem.W.dataLe false fun b => pd (dP b)) = lePr := PySem.W.dataLe_ii (fun p : Int × Int => p.1) fun p => p.2
  rw [this]
/-- a rising row is what sorting gives -/
theorem sort_eq {α : Type} {le : α → α → Bool} (as : ∀ a b, le a b = true → le b a = true → a = b) {l m : List α} (hm : m.Pairwise (fun a b => le a b = true)) (hp : l.Perm m)
    (tr : ∀ a b c : α, le a b = true → le b c = true → le a c = true) (tt : ∀ a b : α, (le a b || le b a) = true) : l.mergeSort le = m :=
  List.Perm.eq_of_pairwise (le := fun a b => le a b = true) (fun a b _ _ => as a b) (List.pairwise_mergeSort tr tt l) hm ((List.mergeSort_perm l le).trans hp)
theorem leI_tr : ∀ a b c : Int, leI a b = true → leI b c = true → leI a c = true := by simp only [leI, decide_eq_true_eq]; omega
theorem leI_tt : ∀ a b : Int, (leI a b || leI b a) = true := by simp only [leI, Bool.or_eq_true, decide_eq_true_eq]; omega
theorem leI_as : ∀ a b : Int, leI a b = true → leI b a = true → a = b := by simp only [leI, decide_eq_true_eq]; omega
theorem lePr_tr : ∀ a b c : Int × Int, lePr a b = true → lePr b c = true → lePr a c = true := by simp only [lePr, decide_eq_true_eq]; omega
theorem lePr_tt : ∀ a b : Int × Int, (lePr a b || lePr b a) = true := by simp only [lePr, Bool.or_eq_true, decide_eq_true_eq]; omega
theorem lePr_as : ∀ a b : Int × Int, lePr a b = true → lePr b a = true → a = b := by
  simp only [lePr, decide_eq_true_eq]
  intro a b h1 h2
  exact Prod.ext (by omega) (by omega)
theorem sortI_eq {l m : List Int} (hm : m.Pairwise (fun a b => leI a b = true)) (hp : l.Perm m) : l.mergeSort leI = m := sort_eq leI_as hm hp leI_tr leI_tt
theorem sortP_eq {l m : List (Int × Int)} (hm : m.Pairwise (fun a b => lePr a b = true)) (hp : l.Perm m) : l.mergeSort lePr = m := sort_eq lePr_as hm hp lePr_tr lePr_tt
/-! ### calls -/
theorem run_of {fns : List Fn} {F k i : Nat} {fn : Fn} {ds : List D} {S S1 : Store} {d : D} {r : Sl} (h : fns[i]? = some fn) (hl : ds.length = fn.np) (hb : evSs (run fns F k) F fn.body (ds.map some ++ List.replicate (fn.nl - fn.np) none) S = some (.rt d, r, S1)) :
    run fns F (k + 1) i ds S = some (fin S d S1) := by simp only [run, h, hl, if_true, evT_of hb]
theorem run_nx {fns : List Fn} {F k i : Nat} {fn : Fn} {ds : List D} {S S1 : Store} {r : Sl} (h : fns[i]? = some fn) (hl : ds.length = fn.np) (hb : evSs (run fns F k) F fn.body (ds.map some ++ List.replicate (fn.nl - fn.np) none) S = some (.nx, r, S1)) :
    run fns F (k + 1) i ds S = some (fin S .non S1) := by simp only [run, h, hl, if_true, evT_of hb]
mutual
theorem fl_under : ∀ {d : D} {n m : Nat}, fl d n = true → D.under m d = true
  | .non, _, _, _ => rfl
  | .bl _, _, _, _ => rfl
  | .int _, _, _, _ => rfl
  | .str _, _, _, _ => rfl
  | .tup ds, n, m, h => by
    cases n with
    | zero => simp [fl] at h
    | succ n => simp only [fl] at h; simp only [D.under]; exact fls_under h
  | .lst ds, n, m, h => by
    cases n with
    | zero => simp [fl] at h
    | succ n => simp only [fl] at h; simp only [D.under]; exact fls_under h
  | .ref _, _, _, h => by simp [fl] at h
theorem fls_under : ∀ {ds : List D} {n m : Nat}, fls ds n = true → D.unders m ds = true
  | [], _, _, _ => rfl
  | d :: r, n, m, h => by
    simp only [fls, Bool.and_eq_true] at h
    simp only [D.unders, Bool.and_eq_true]
    exact ⟨fl_under h.1, fls_under h.2⟩
end
theorem keepB_pre (S X : Store) : keepB S (S ++ X) = true := by
  simp only [keepB, List.all_eq_true, List.mem_range, Bool.or_eq_true, decide_eq_true_eq]
  intro i hi
  left
  rw [List.getElem?_append_left hi]
theorem fin_flat {S S1 : Store} {d : D} {n : Nat} (hk : keepB S S1 = true) (hd : fl d n = true) : fin S d S1 = (d, S1.take S.length) := by
  cases d with
  | ref n => simp [fl] at hd
  | _ => simp only [fin, hk, if_true, fl_under hd]
/-- a def that changes nothing that stood -/
theorem fin_pure {S X : Store} {d : D} {n : Nat} (hd : fl d n = true) : fin S d (S ++ X) = (d, S) := by
  rw [fin_flat (keepB_pre S X) hd, List.take_left]
theorem fin_pure0 {S : Store} {d : D} {n : Nat} (hd : fl d n = true) : fin S d S = (d, S) := by
  have := fin_pure (S := S) (X := []) hd
  rwa [List.append_nil] at this
/-- .. that hands back a list of its own -/
theorem fin_list {S S1 : Store} {ds : List D} {m n : Nat} (hk : keepB S S1 = true) (hm : S.length ≤ m) (hg : S1[m]? = some (.lst ds)) (hd : fls ds n = true) : fin S (.ref m) S1 = (.lst ds, S1.take S.length) := by
  simp only [fin, hk, if_true, if_neg (Nat.not_lt.mpr hm), hg, fls_under hd]
/-! ### loops -/
theorem watch_nil (S : Store) : watch S [] = true := rfl
theorem loopL_pure {ws : List (Nat × List D)} {f : D → Store → Rs (Option D)} {g : D → Option D} {S : Store} (hw : watch S ws = true) : ∀ {xs : List D}, (∀ d ∈ xs, f d S = some (g d, S)) → loopL ws f xs S = some (xs.filterMap g, S)
  | [], _ => by simp only [loopL, hw, if_true, List.filterMap_nil]
  | x :: r, h => by
    simp only [loopL, hw, if_true, h x (List.mem_cons_self ..), bnd, loopL_pure hw fun d hd => h d (List.mem_cons_of_mem _ hd)]
    cases hg : g x with
    | none => simp [hg]
    | some y => simp [hg]
theorem loopL_map {ws : List (Nat × List D)} {f : D → Store → Rs (Option D)} {S : Store} {α : Type} {xs : List α} {e g : α → D} (hw : watch S ws = true) (h : ∀ x ∈ xs, f (e x) S = some (some (g x), S)) : loopL ws f (xs.map e) S = some (xs.map g, S) := by
  induction xs with
  | nil => simp only [List.map_nil, loopL, hw, if_true]
  | cons x r ih =>
    simp only [List.map_cons, loopL, hw, if_true, h x (List.mem_cons_self ..), bnd, ih fun y hy => h y (List.mem_cons_of_mem _ hy), Option.toList_some, List.singleton_append]
theorem loopL_filter {ws : List (Nat × List D)} {f : D → Store → Rs (Option D)} {S : Store} {α : Type} {xs : List α} {e g : α → D} {p : α → Bool} (hw : watch S ws = true) (h : ∀ x ∈ xs, f (e x) S = some (if p x then some (g x) else none, S)) :
    loopL ws f (xs.map e) S = some ((xs.filter p).map g, S) := by
  induction xs with
  | nil => simp only [List.map_nil, loopL, hw, if_true, List.filter_nil]
  | cons x r ih =>
    simp only [List.map_cons, loopL, hw, if_true, h x (List.mem_cons_self ..), bnd, ih fun y hy => h y (List.mem_cons_of_mem _ hy)]
    cases hp : p x <;> simp [List.filter_cons, hp]
/-- a for that always goes on: I holds of what is left, the names, the store -/
theorem forL_inv {ws : List (Nat × List D)} {t : Pt} {b : Sl → Store → Rt} (I : List D → Sl → Store → Prop)
    (step : ∀ d r σ S, I (d :: r) σ S → watch S ws = true ∧ ∃ σ1, setPt t d σ = some σ1 ∧ ∃ σ2 S2, (b σ1 S = some (.nx, σ2, S2) ∨ b σ1 S = some (.ct, σ2, S2)) ∧ I r σ2 S2)
    (last : ∀ σ S, I [] σ S → watch S ws = true) : ∀ {xs : List D} {σ : Sl} {S : Store}, I xs σ S → ∃ σ' S', forL ws t b xs σ S = some (.nx, σ', S') ∧ I [] σ' S'
  | [], σ, S, h => ⟨σ, S, by simp only [forL, last σ S h, if_true], h⟩
  | x :: r, σ, S, h => by
    obtain ⟨hw, σ1, e1, σ2, S2, hb, h2⟩ := step x r σ S h
    obtain ⟨σ', S', e, h'⟩ := forL_inv I step last h2
    refine ⟨σ', S', ?_, h'⟩
    rcases hb with hb | hb <;> simp only [forL, hw, if_true, e1, hb, e]
/-- a for that may also return -/
theorem forL_ret {ws : List (Nat × List D)} {t : Pt} {b : Sl → Store → Rt} (I : List D → Sl → Store → Prop) (R : D → Sl → Store → Prop)
    (step : ∀ d r σ S, I (d :: r) σ S → watch S ws = true ∧ ∃ σ1, setPt t d σ = some σ1 ∧ ∃ σ2 S2, ((b σ1 S = some (.nx, σ2, S2) ∨ b σ1 S = some (.ct, σ2, S2)) ∧ I r σ2 S2) ∨ (∃ v, b σ1 S = some (.rt v, σ2, S2) ∧ R v σ2 S2))
    (last : ∀ σ S, I [] σ S → watch S ws = true) : ∀ {xs : List D} {σ : Sl} {S : Store}, I xs σ S → ∃ σ' S', (forL ws t b xs σ S = some (.nx, σ', S') ∧ I [] σ' S') ∨ (∃ v, forL ws t b xs σ S = some (.rt v, σ', S') ∧ R v σ' S')
  | [], σ, S, h => ⟨σ, S, .inl ⟨by simp only [forL, last σ S h, if_true], h⟩⟩
  | x :: r, σ, S, h => by
    obtain ⟨hw, σ1, e1, σ2, S2, ⟨hb, h2⟩ | ⟨v, hb, h2⟩⟩ := step x r σ S h
    · obtain ⟨σ', S', h'⟩ := forL_ret I R step last h2
      refine ⟨σ', S', ?_⟩
      rcases h' with ⟨e, h'⟩ | ⟨v, e, h'⟩
      · left
        refine ⟨?_, h'⟩
        rcases hb with hb | hb <;> simp only [forL, hw, if_true, e1, hb, e]
      · right
        refine ⟨v, ?_, h'⟩
        rcases hb with hb | hb <;> simp only [forL, hw, if_true, e1, hb, e]
    · exact ⟨σ2, S2, .inr ⟨v, by simp only [forL, hw, if_true, e1, hb], h2⟩⟩
/-! ### places -/
theorem atI_some {α : Type} {xs : List α} {i : Int} (h0 : 0 ≤ i) (h1 : i < xs.length) : L2.atI xs i = some (xs[i.toNat]'(by omega)) := by
  unfold L2.atI L2.ixN
  rw [if_pos h0, if_pos h1]
  simp only [Option.bind_some]
  exact List.getElem?_eq_getElem _
theorem ixN_some {n : Nat} {i : Int} (h0 : 0 ≤ i) (h1 : i < n) : L2.ixN n i = some i.toNat := by
  unfold L2.ixN
  rw [if_pos h0, if_pos h1]
end Rf

namespace Rf
open PySem
section
variable {c : Cl} {F : Nat} {r r1 r2 : Sl} {S S1 S2 S3 S4 S5 : Store} {d x y z : D} {ds xs ys : List D} {a b e el cnd lo hi o i : Ex} {as es : Exs}
theorem ev_var {j : Nat} (h : slot r j = some d) : evE c (.var j) r S = some (d, S) := by simp only [evE, h, lift, Option.map_some]
theorem ev_cst : evE c (.cst d) r S = some (d, S) := by simp only [evE]
theorem ev_bin {op : Operator} (h1 : evE c a r S = some (x, S1)) (h2 : evE c b r S1 = some (y, S2)) (h3 : binS S2 op x y = some z) : evE c (.bin op a b) r S = some (z, S2) := by simp only [evE, h1, h2, h3, bnd, lift, Option.map_some]
theorem ev_neg {n : Int} (h1 : evE c a r S = some (.int n, S1)) : evE c (.neg a) r S = some (.int (-n), S1) := by simp only [evE, h1, bnd]
theorem ev_cmp {op : CmpOp} {q : Bool} (h1 : evE c a r S = some (x, S1)) (h2 : evE c b r S1 = some (y, S2)) (h3 : cmpS S2 op x y = some q) : evE c (.cmp op a b) r S = some (.bl q, S2) := by simp only [evE, h1, h2, h3, bnd, lift, Option.map_some]
theorem ev_chn {op op' : CmpOp} {n : Int} {p q : Bool} {e' : Ex} (h1 : evE c a r S = some (x, S1)) (h2 : evE c b r S1 = some (.int n, S2)) (h3 : cmpS S2 op x (.int n) = some p) (h4 : evE c e' r S2 = some (z, S2)) (h5 : cmpS S2 op' (.int n) z = some q) : evE c (.chn op op' a b e') r S = some (.bl (p && q), S2) := by
  cases p <;> simp only [evE, h1, h2, h3, h4, h5, bnd, lift, Option.map_some, Bool.false_and, Bool.true_and]
theorem ev_and {p q : Bool} (h1 : evE c a r S = some (.bl p, S1)) (h2 : p = true → evE c b r S1 = some (.bl q, S1)) : evE c (.and a b) r S = some (.bl (p && q), S1) := by
  cases p
  · simp only [evE, h1, bnd, Bool.false_and]
  · simp only [evE, h1, h2 rfl, bnd, Bool.true_and]
theorem ev_or {p q : Bool} (h1 : evE c a r S = some (.bl p, S1)) (h2 : p = false → evE c b r S1 = some (.bl q, S1)) : evE c (.or a b) r S = some (.bl (p || q), S1) := by
  cases p
  · simp only [evE, h1, h2 rfl, bnd, Bool.false_or]
  · simp only [evE, h1, bnd, Bool.true_or]
theorem ev_not {p : Bool} (h1 : evE c a r S = some (.bl p, S1)) : evE c (.not a) r S = some (.bl (!p), S1) := by simp only [evE, h1, bnd]
theorem ev_ite_t {p : Bool} {X : Rs D} (h1 : evE c cnd r S = some (.bl p, S1)) (hp : p = true) (h2 : evE c a r S1 = X) : evE c (.ite cnd a b) r S = X := by subst hp; simp only [evE, h1, bnd, h2]
theorem ev_ite_f {p : Bool} {X : Rs D} (h1 : evE c cnd r S = some (.bl p, S1)) (hp : p = false) (h2 : evE c b r S1 = X) : evE c (.ite cnd a b) r S = X := by subst hp; simp only [evE, h1, bnd, h2]
theorem ev_tup (h : evM c as r S = some (ds, S1)) : evE c (.tup as) r S = some (.tup ds, S1) := by simp only [evE, h, bnd]
theorem ev_lis (h : evM c as r S = some (ds, S1)) : evE c (.lis as) r S = some (.lst ds, S1) := by simp only [evE, h, bnd]
theorem ev_call {f : Nat} {X : Rs D} (h : evM c as r S = some (ds, S1)) (h2 : c f ds S1 = X) : evE c (.call f as) r S = X := by simp only [evE, h, bnd, h2]
theorem ev_bif {f : Bi} {X : Rs D} (h : evR c as r S = some (ds, S1)) (h2 : biS f ds S1 = X) : evE c (.bif f as) r S = X := by simp only [evE, h, bnd, h2]
theorem ev_rngt {ws : List (Nat × List D)} (h : evR c as r S = some (ds, S1)) (h2 : itemsS .rng ds S1 = some (xs, ws)) : evE c (.rngl true as) r S = some (.tup xs, S1) := by simp only [evE, h, bnd, h2, if_true]
theorem ev_rngl {ws : List (Nat × List D)} (h : evR c as r S = some (ds, S1)) (h2 : itemsS .rng ds S1 = some (xs, ws)) : evE c (.rngl false as) r S = some (.lst xs, S1) := by simp [evE, h, bnd, h2]
theorem isl_seq {S : Store} {x : D} (h : (lstOf S x).isSome = true) : (seqOf S x).isSome = true := by
  cases x with
  | tup ds => rfl
  | _ => simpa [seqOf, lstOf] using h
theorem ev_mth {m : Mt} {X : Rs D} (h : evE c o r S = some (x, S1)) (hl : (lstOf S1 x).isSome = true) (hm : m ≠ .extend) (h2 : evM c as r S1 = some (ds, S2)) (h3 : mtS m x ds S2 = X) : evE c (.mth m o as) r S = X := by simp only [evE, h, bnd, isl_seq hl, if_true, if_neg hm, h2, h3]
theorem ev_ext {X : Rs D} (h : evE c o r S = some (x, S1)) (hl : (lstOf S1 x).isSome = true) (h2 : evR c as r S1 = some (ds, S2)) (h3 : mtS .extend x ds S2 = X) : evE c (.mth .extend o as) r S = X := by simp only [evE, h, bnd, isl_seq hl, if_true, h2, h3]
theorem ev_isi {t k : String} (h : evE c a r S = some (x, S1)) (h2 : tyS S1 x = some t) : evE c (.isi a k) r S = some (.bl (isiS t k), S1) := by simp only [evE, h, bnd, h2]
theorem ev_idx (h : evE c a r S = some (x, S1)) (h2 : evE c i r S1 = some (y, S2)) (h3 : idxS S2 x y = some z) : evE c (.idx a i) r S = some (z, S2) := by simp only [evE, h, h2, h3, bnd, lift, Option.map_some]
/-- a cut's end -/
def ptE (c : Cl) (e : Ex) (r : Sl) (S : Store) : Rs (Option Int) := if isNop e then some (none, S) else bnd (evE c e r S) partS
theorem pt_nop : ptE c .nop r S = some (none, S) := rfl
theorem pt_int {n : Int} (hn : isNop e = false) (h : evE c e r S = some (.int n, S1)) : ptE c e r S = some (some n, S1) := by simp only [ptE, hn, h, bnd, partS]; rfl
theorem ev_slc {p q : Option Int} (h : evE c a r S = some (x, S1)) (h1 : ptE c lo r S1 = some (p, S2)) (h2 : ptE c hi r S2 = some (q, S3)) (h3 : slcS S3 x p q = some z) : evE c (.slc a lo hi) r S = some (z, S3) := by
  have e1 := h1
  have e2 := h2
  unfold ptE at e1 e2
  simp only [evE, h, bnd, lift, Option.map_some]
  simp only [bnd] at e1 e2
  rw [e1]
  simp only []
  rw [e2]
  simp only [h3, Option.map_some]
/-- one turn of a comprehension -/
def lcB (c : Cl) (t : Pt) (own : List Nat) (cnd el : Ex) (r : Sl) (d : D) (S2 : Store) : Rs (Option D) := match setPt t d (wipeS r own) with
        | some r1 => bnd (evE c cnd r1 S2) fun b S3 => match b with
          | .bl true => bnd (evE c el r1 S3) fun y S4 => let m := mat y S4; some (some m.1, m.2)
          | .bl false => some (none, S3)
          | _ => none
        | none => none
theorem lcB_some {t : Pt} {own : List Nat} {p : Bool} (h1 : setPt t d (wipeS r own) = some r1) (h2 : evE c cnd r1 S = some (.bl p, S1)) (hp : p = true) (h3 : evE c el r1 S1 = some (y, S2)) (h4 : mat y S2 = (z, S3)) : lcB c t own cnd el r d S = some (some z, S3) := by
  subst hp; simp only [lcB, h1, h2, h3, h4, bnd]
theorem lcB_none {t : Pt} {own : List Nat} {p : Bool} (h1 : setPt t d (wipeS r own) = some r1) (h2 : evE c cnd r1 S = some (.bl p, S1)) (hp : p = false) : lcB c t own cnd el r d S = some (none, S1) := by
  subst hp; simp only [lcB, h1, h2, bnd]
theorem lcB_if {t : Pt} {own : List Nat} {p : Bool} (h1 : setPt t d (wipeS r own) = some r1) (h2 : evE c cnd r1 S = some (.bl p, S)) (h3 : p = true → evE c el r1 S = some (y, S)) (h4 : mat y S = (y, S)) : lcB c t own cnd el r d S = some (if p then some y else none, S) := by
  cases p
  · simp only [lcB, h1, h2, bnd]; rfl
  · simp only [lcB, h1, h2, h3 rfl, h4, bnd]; rfl
theorem ev_lc {ik : IK} {t : Pt} {own : List Nat} {ws : List (Nat × List D)} (h1 : evR c as r S = some (ds, S1)) (h2 : itemsS ik ds S1 = some (xs, ws)) (h3 : loopL ws (lcB c t own cnd el r) xs S1 = some (ys, S2)) : evE c (.lc ik as t own cnd el) r S = some (.lst ys, S2) := by
  have e : evE c (.lc ik as t own cnd el) r S = bnd (evR c as r S) fun ds S1 => match itemsS ik ds S1 with
      | some (xs, ws) => bnd (loopL ws (lcB c t own cnd el r) xs S1) fun ys S5 => some (.lst ys, S5)
      | none => none := by rw [evE]; rfl
  rw [e, h1, bnd_some, h2]
  simp only [h3, bnd]
theorem ev_lcm {ik : IK} {t : Pt} {own : List Nat} {ws : List (Nat × List D)} {α : Type} {l : List α} {f g : α → D} (h1 : evR c as r S = some (ds, S1)) (h2 : itemsS ik ds S1 = some (l.map f, ws)) (hw : watch S1 ws = true) (h3 : ∀ k ∈ l, lcB c t own cnd el r (f k) S1 = some (some (g k), S1)) : evE c (.lc ik as t own cnd el) r S = some (.lst (l.map g), S1) :=
  ev_lc h1 h2 (loopL_map hw h3)
theorem ev_lcf {ik : IK} {t : Pt} {own : List Nat} {ws : List (Nat × List D)} {α : Type} {l : List α} {f g : α → D} {p : α → Bool} (h1 : evR c as r S = some (ds, S1)) (h2 : itemsS ik ds S1 = some (l.map f, ws)) (hw : watch S1 ws = true) (h3 : ∀ k ∈ l, lcB c t own cnd el r (f k) S1 = some (if p k then some (g k) else none, S1)) : evE c (.lc ik as t own cnd el) r S = some (.lst ((l.filter p).map g), S1) :=
  ev_lc h1 h2 (loopL_filter hw h3)
theorem ev_dsp {ks : List L2.Key} (h : evM c as r S = some (ds, S1)) (hl : ds.length = ks.length) : evE c (.dsp ks as) r S = some (.ref S1.length, S1 ++ [.dic ((ks.zip ds).foldl (fun acc kv => dput acc kv.1 kv.2) [])]) := by simp only [evE, h, bnd, hl, if_true]
theorem er_nil : evR c .nil r S = some ([], S) := by simp only [evR]
theorem er_cons (h : evE c e r S = some (x, S1)) (h2 : evR c es r S1 = some (xs, S2)) : evR c (.cons e es) r S = some (x :: xs, S2) := by simp only [evR, h, h2, bnd]
theorem em_nil : evM c .nil r S = some ([], S) := by simp only [evM]
theorem em_cons (h : evE c e r S = some (x, S1)) (hm : mat x S1 = (y, S2)) (h2 : evM c es r S2 = some (xs, S3)) : evM c (.cons e es) r S = some (y :: xs, S3) := by simp only [evM, h, hm, h2, bnd]
/-! statements -/
variable {s : St} {ss sa sb : Sts} {X : Rt} {v : D}
theorem es_nil : evSs c F .nil r S = some (.nx, r, S) := by simp only [evSs]
theorem es_cons (h : evS c F s r S = some (.nx, r1, S1)) (h2 : evSs c F ss r1 S1 = X) : evSs c F (.cons s ss) r S = X := by simp only [evSs, h, h2]
theorem es_rt (h : evS c F s r S = some (.rt v, r1, S1)) : evSs c F (.cons s ss) r S = some (.rt v, r1, S1) := by simp only [evSs, h]
theorem es_bk (h : evS c F s r S = some (.bk, r1, S1)) : evSs c F (.cons s ss) r S = some (.bk, r1, S1) := by simp only [evSs, h]
theorem es_ct (h : evS c F s r S = some (.ct, r1, S1)) : evSs c F (.cons s ss) r S = some (.ct, r1, S1) := by simp only [evSs, h]
theorem st_asg {t : Pt} (h : evE c e r S = some (x, S1)) (hm : mat x S1 = (y, S2)) (h2 : setPt t y r = some r1) : evS c F (.asg t e) r S = some (.nx, r1, S2) := by simp only [evS, h, bndS, hm, h2]
theorem st_par {is : List Nat} (h : evM c as r S = some (ds, S1)) (hl : ds.length = is.length) : evS c F (.par is as) r S = some (.nx, setAll r is ds, S1) := by simp only [evS, h, bndS, hl, if_true]
theorem st_six (h : evE c e r S = some (x, S1)) (hm : mat x S1 = (v, S2)) (h1 : evE c o r S2 = some (y, S3)) (h2 : evE c i r S3 = some (z, S4)) (h3 : sixS y z v S4 = some S5) : evS c F (.six o i e) r S = some (.nx, r, S5) := by
  have e1 : (mat x S1).1 = v := by rw [hm]
  have e2 : (mat x S1).2 = S2 := by rw [hm]
  simp only [evS, h, bndS, e2, h1, h2, e1, h3]
theorem st_exp (h : evE c e r S = some (x, S1)) : evS c F (.exp e) r S = some (.nx, r, S1) := by simp only [evS, h, bndS]
theorem st_ret (h : evE c e r S = some (x, S1)) : evS c F (.ret e) r S = some (.rt x, r, S1) := by simp only [evS, h, bndS]
theorem st_retn : evS c F .retn r S = some (.rt .non, r, S) := by simp only [evS]
theorem st_if_t {p : Bool} (h1 : evE c cnd r S = some (.bl p, S1)) (hp : p = true) (h2 : evSs c F sa r S1 = X) : evS c F (.ife cnd sa sb) r S = X := by subst hp; simp only [evS, h1, bndS, h2]
theorem st_if_f {p : Bool} (h1 : evE c cnd r S = some (.bl p, S1)) (hp : p = false) (h2 : evSs c F sb r S1 = X) : evS c F (.ife cnd sa sb) r S = X := by subst hp; simp only [evS, h1, bndS, h2]
theorem st_for {ik : IK} {t : Pt} {ws : List (Nat × List D)} (h1 : evR c as r S = some (ds, S1)) (h2 : itemsS ik ds S1 = some (xs, ws)) (h3 : forL ws t (evSs c F sb) xs r S1 = X) : evS c F (.forr ik as t sb) r S = X := by simp only [evS, h1, bndS, h2, h3]
theorem st_whl (h : whlL (evE c cnd) (evSs c F sb) F r S = X) : evS c F (.whl cnd sb) r S = X := by simp only [evS, h]
theorem st_pas : evS c F .pas r S = some (.nx, r, S) := by simp only [evS]
theorem st_brk : evS c F .brk r S = some (.bk, r, S) := by simp only [evS]
theorem st_cnt : evS c F .cnt r S = some (.ct, r, S) := by simp only [evS]
theorem es_asg {t : Pt} (h : evE c e r S = some (x, S1)) (hm : mat x S1 = (y, S2)) (h2 : setPt t y r = some r1) (h3 : evSs c F ss r1 S2 = X) : evSs c F (.cons (.asg t e) ss) r S = X := es_cons (st_asg h hm h2) h3
theorem es_six (h : evE c e r S = some (x, S1)) (hm : mat x S1 = (v, S2)) (h1 : evE c o r S2 = some (y, S3)) (h2 : evE c i r S3 = some (z, S4)) (h3 : sixS y z v S4 = some S5) (h4 : evSs c F ss r S5 = X) : evSs c F (.cons (.six o i e) ss) r S = X := es_cons (st_six h hm h1 h2 h3) h4
theorem es_exp (h : evE c e r S = some (x, S1)) (h2 : evSs c F ss r S1 = X) : evSs c F (.cons (.exp e) ss) r S = X := es_cons (st_exp h) h2
theorem es_ret (h : evE c e r S = some (x, S1)) : evSs c F (.cons (.ret e) ss) r S = some (.rt x, r, S1) := es_rt (st_ret h)
theorem es_retn : evSs c F (.cons .retn ss) r S = some (.rt .non, r, S) := es_rt st_retn
theorem es_ift {p : Bool} (h1 : evE c cnd r S = some (.bl p, S1)) (hp : p = true) (h2 : evSs c F sa r S1 = some (.nx, r1, S2)) (h3 : evSs c F ss r1 S2 = X) : evSs c F (.cons (.ife cnd sa sb) ss) r S = X := es_cons (st_if_t h1 hp h2) h3
theorem es_iff {p : Bool} (h1 : evE c cnd r S = some (.bl p, S1)) (hp : p = false) (h2 : evSs c F sb r S1 = some (.nx, r1, S2)) (h3 : evSs c F ss r1 S2 = X) : evSs c F (.cons (.ife cnd sa sb) ss) r S = X := es_cons (st_if_f h1 hp h2) h3
theorem es_iftr {p : Bool} (h1 : evE c cnd r S = some (.bl p, S1)) (hp : p = true) (h2 : evSs c F sa r S1 = some (.rt v, r1, S2)) : evSs c F (.cons (.ife cnd sa sb) ss) r S = some (.rt v, r1, S2) := es_rt (st_if_t h1 hp h2)
theorem es_iffr {p : Bool} (h1 : evE c cnd r S = some (.bl p, S1)) (hp : p = false) (h2 : evSs c F sb r S1 = some (.rt v, r1, S2)) : evSs c F (.cons (.ife cnd sa sb) ss) r S = some (.rt v, r1, S2) := es_rt (st_if_f h1 hp h2)
theorem es_for {ik : IK} {t : Pt} {ws : List (Nat × List D)} (h1 : evR c as r S = some (ds, S1)) (h2 : itemsS ik ds S1 = some (xs, ws)) (h3 : forL ws t (evSs c F sb) xs r S1 = some (.nx, r1, S2)) (h4 : evSs c F ss r1 S2 = X) : evSs c F (.cons (.forr ik as t sb) ss) r S = X := es_cons (st_for h1 h2 h3) h4
theorem es_pas (h : evSs c F ss r S = X) : evSs c F (.cons .pas ss) r S = X := es_cons st_pas h
end
/-! operations -/
section
variable {S : Store} {i j : Int} {a b d : D} {ds : List D}
theorem op_add : binS S .Add (.int i) (.int j) = some (.int (i + j)) := rfl
theorem op_sub : binS S .Sub (.int i) (.int j) = some (.int (i - j)) := rfl
theorem op_mul (h : -(2 ^ 64) < j ∧ j < 2 ^ 64) : binS S .Mult (.int i) (.int j) = some (.int (i * j)) := by
  have : small j = true := by simp only [small, Bool.and_eq_true, decide_eq_true_eq]; exact h
  simp only [binS, this, Bool.or_true, if_true]
theorem op_mul' (h : -(2 ^ 64) < i ∧ i < 2 ^ 64) : binS S .Mult (.int i) (.int j) = some (.int (i * j)) := by
  have : small i = true := by simp only [small, Bool.and_eq_true, decide_eq_true_eq]; exact h
  simp only [binS, this, Bool.true_or, if_true]
theorem op_divW (h : 0 < j ∧ j < 2 ^ 1000) : binS S .FloorDiv (.int i) (.int j) = some (.int (i / j)) := by simp only [binS, h, and_self, if_true]
theorem op_div (h : 0 < j ∧ j < 1073741824) : binS S .FloorDiv (.int i) (.int j) = some (.int (i / j)) := op_divW ⟨h.1, by omega⟩
theorem op_mod (h : 0 < j) : binS S .Mod (.int i) (.int j) = some (.int (i % j)) := by simp only [binS, h, if_true]
theorem op_pow {n : Nat} (h2 : n ≤ 1000000) (h3 : i.natAbs < 2 ^ 64) : binS S .Pow (.int i) (.int (n : Int)) = some (.int (i ^ n)) := by
  simp only [binS]
  rw [if_pos ⟨by omega, by omega, h3⟩, Int.toNat_natCast]
theorem op_addt {xs ys : List D} (h : xs.length + ys.length ≤ sizeLine) : binS S .Add (.tup xs) (.tup ys) = some (.tup (xs ++ ys)) := by simp only [binS, h, if_true]
theorem cm_gt : cmpS S .Gt (.int i) (.int j) = some (decide (j < i)) := rfl
theorem cm_ge : cmpS S .GtE (.int i) (.int j) = some (decide (j ≤ i)) := rfl
theorem cm_lt : cmpS S .Lt (.int i) (.int j) = some (decide (i < j)) := rfl
theorem cm_le : cmpS S .LtE (.int i) (.int j) = some (decide (i ≤ j)) := rfl
theorem cm_eq : cmpS S .Eq (.int i) (.int j) = some (decide (i = j)) := rfl
theorem cm_ne : cmpS S .NotEq (.int i) (.int j) = some (!decide (i = j)) := rfl
theorem cm_eqs {x y : Str} : cmpS S .Eq (.str x) (.str y) = some (decide (x = y)) := rfl
theorem cm_nes {x y : Str} : cmpS S .NotEq (.str x) (.str y) = some (!decide (x = y)) := rfl
theorem it_tup : itemsS .seq [.tup ds] S = some (ds, []) := rfl
theorem it_lst : itemsS .seq [.lst ds] S = some (ds, []) := rfl
theorem it_ref {n : Nat} (h : cellL S n = some ds) : itemsS .seq [.ref n] S = some (ds, [(n, ds)]) := by simp only [itemsS, h, Option.map_some]
theorem it_rng {n : Nat} (h : n ≤ 16777216) : itemsS .rng [.int (n : Int)] S = some ((List.range n).map fun (i : Nat) => .int (i : Int), []) := by
  simp only [itemsS]
  rw [if_pos (by omega), Int.toNat_natCast]
theorem watch_one {n : Nat} (h : cellL S n = some ds) : watch S [(n, ds)] = true := by simp [watch, h]
theorem bi_len (h : seqOf S a = some ds) : biS .len [a] S = some (.int ds.length, S) := by
  cases a with
  | tup xs => cases h; rfl
  | lst xs => cases h; rfl
  | ref n => simp only [seqOf] at h; simp only [biS, seqOf, h]
  | _ => cases h
theorem bi_tuple (h : seqOf S a = some ds) : biS .tuple [a] S = some (.tup ds, S) := by simp only [biS, h]
theorem bi_list (h : seqOf S a = some ds) : biS .list [a] S = some (.lst ds, S) := by simp only [biS, h]
theorem seq_lst {S : Store} {a : D} {ds : List D} (h : lstOf S a = some ds) : seqOf S a = some ds := by
  cases a <;> first | exact h | cases h
theorem bi_sorted {xs : List D} (h : lstOf S a = some ds) (h2 : sortS S ds = some xs) : biS .sorted [a] S = some (.lst xs, S) := by simp only [biS, seq_lst h, h2, Option.map_some]
theorem bi_sortedT {xs : List D} (h2 : sortS S ds = some xs) : biS .sorted [.tup ds] S = some (.lst xs, S) := by simp only [biS, seqOf, h2, Option.map_some]
theorem mt_append {n : Nat} (h : S[n]? = some (.lst ds)) (hl : ds.length < sizeLine) : mtS .append (.ref n) [d] S = some (.non, S.set n (.lst (ds ++ [d]))) := by simp only [mtS, h, hl, if_true]
theorem mt_pop {n : Nat} (h : S[n]? = some (.lst ds)) (h0 : 0 ≤ i) (h1 : i < ds.length) (h2 : i < 2 ^ 63) : mtS .pop (.ref n) [.int i] S = some (ds[i.toNat]'(by omega), S.set n (.lst (ds.eraseIdx i.toNat))) := by
  simp only [mtS, h]
  rw [if_pos ⟨by omega, h2⟩, ixN_some h0 h1]
  have hg : ds[i.toNat]? = some (ds[i.toNat]'(by omega)) := List.getElem?_eq_getElem _
  simp only [hg]
theorem mt_insert {n : Nat} (h : S[n]? = some (.lst ds)) (hl : ds.length < sizeLine) (h0 : 0 ≤ i) (h2 : i < 2 ^ 63) : mtS .insert (.ref n) [.int i, d] S = some (.non, S.set n (.lst (ds.take i.toNat ++ [d] ++ ds.drop i.toNat))) := by
  simp only [mtS, h]
  rw [if_pos ⟨hl, h0, h2⟩]
theorem ix_seq (h : seqOf S a = some ds) (h2 : L2.atI ds i = some d) : idxS S a (.int i) = some d := by simp only [idxS, h, h2]
end
/-! ### what an evaluation ends in -/
def Wp (x : Rt) (Q : Fl → Sl → Store → Prop) : Prop := ∃ f σ S', x = some (f, σ, S') ∧ Q f σ S'
def WpE {α : Type} (x : Rs α) (Q : α → Store → Prop) : Prop := ∃ d S', x = some (d, S') ∧ Q d S'
theorem Wp.of {x : Rt} {Q : Fl → Sl → Store → Prop} {f : Fl} {σ : Sl} {S' : Store} (h : x = some (f, σ, S')) (q : Q f σ S') : Wp x Q := ⟨f, σ, S', h, q⟩
theorem WpE.of {α : Type} {x : Rs α} {Q : α → Store → Prop} {d : α} {S' : Store} (h : x = some (d, S')) (q : Q d S') : WpE x Q := ⟨d, S', h, q⟩
theorem Wp.mono {x : Rt} {Q Q' : Fl → Sl → Store → Prop} (h : Wp x Q) (m : ∀ f σ S, Q f σ S → Q' f σ S) : Wp x Q' := by
  obtain ⟨f, σ, S, e, q⟩ := h
  exact ⟨f, σ, S, e, m _ _ _ q⟩
theorem WpE.mono {α : Type} {x : Rs α} {Q Q' : α → Store → Prop} (h : WpE x Q) (m : ∀ d S, Q d S → Q' d S) : WpE x Q' := by
  obtain ⟨d, S, e, q⟩ := h
  exact ⟨d, S, e, m _ _ q⟩
section
variable {c : Cl} {F : Nat} {r r1 r2 : Sl} {S S1 S2 S3 S4 S5 : Store} {d x y z : D} {ds xs ys : List D} {a b e el cnd lo hi o i : Ex} {as es : Exs} {Q : D → Store → Prop} {QL : List D → Store → Prop}
theorem w_bin {op : Operator} (h : WpE (evE c a r S) fun x S1 => WpE (evE c b r S1) fun y S2 => ∃ z, binS S2 op x y = some z ∧ Q z S2) : WpE (evE c (.bin op a b) r S) Q := by
  obtain ⟨x, S1, h1, y, S2, h2, z, h3, q⟩ := h
  exact ⟨z, S2, ev_bin h1 h2 h3, q⟩
theorem w_cmp {op : CmpOp} (h : WpE (evE c a r S) fun x S1 => WpE (evE c b r S1) fun y S2 => ∃ z, cmpS S2 op x y = some z ∧ Q (.bl z) S2) : WpE (evE c (.cmp op a b) r S) Q := by
  obtain ⟨x, S1, h1, y, S2, h2, z, h3, q⟩ := h
  exact ⟨_, S2, ev_cmp h1 h2 h3, q⟩
theorem w_and (h : WpE (evE c a r S) fun x S1 => ∃ p, x = .bl p ∧ (p = false → Q (.bl false) S1) ∧ (p = true → WpE (evE c b r S1) Q)) : WpE (evE c (.and a b) r S) Q := by
  obtain ⟨x, S1, h1, p, rfl, h2, h3⟩ := h
  cases p
  · exact ⟨.bl false, S1, by simp only [evE, h1, bnd], h2 rfl⟩
  · obtain ⟨y, S2, h4, q⟩ := h3 rfl
    exact ⟨y, S2, by simp only [evE, h1, bnd, h4], q⟩
theorem w_or (h : WpE (evE c a r S) fun x S1 => ∃ p, x = .bl p ∧ (p = true → Q (.bl true) S1) ∧ (p = false → WpE (evE c b r S1) Q)) : WpE (evE c (.or a b) r S) Q := by
  obtain ⟨x, S1, h1, p, rfl, h2, h3⟩ := h
  cases p
  · obtain ⟨y, S2, h4, q⟩ := h3 rfl
    exact ⟨y, S2, by simp only [evE, h1, bnd, h4], q⟩
  · exact ⟨.bl true, S1, by simp only [evE, h1, bnd], h2 rfl⟩
theorem w_not (h : WpE (evE c a r S) fun x S1 => ∃ p, x = .bl p ∧ Q (.bl (!p)) S1) : WpE (evE c (.not a) r S) Q := by
  obtain ⟨x, S1, h1, p, rfl, q⟩ := h
  exact ⟨_, S1, ev_not h1, q⟩
theorem w_ite (h : WpE (evE c cnd r S) fun x S1 => ∃ p, x = .bl p ∧ (p = true → WpE (evE c a r S1) Q) ∧ (p = false → WpE (evE c b r S1) Q)) : WpE (evE c (.ite cnd a b) r S) Q := by
  obtain ⟨x, S1, h1, p, rfl, h2, h3⟩ := h
  cases p
  · obtain ⟨y, S2, h4, q⟩ := h3 rfl
    exact ⟨y, S2, ev_ite_f h1 rfl h4, q⟩
  · obtain ⟨y, S2, h4, q⟩ := h2 rfl
    exact ⟨y, S2, ev_ite_t h1 rfl h4, q⟩
theorem w_tup (h : WpE (evM c as r S) fun ds S1 => Q (.tup ds) S1) : WpE (evE c (.tup as) r S) Q := by
  obtain ⟨ds, S1, h1, q⟩ := h
  exact ⟨_, S1, ev_tup h1, q⟩
theorem w_lis (h : WpE (evM c as r S) fun ds S1 => Q (.lst ds) S1) : WpE (evE c (.lis as) r S) Q := by
  obtain ⟨ds, S1, h1, q⟩ := h
  exact ⟨_, S1, ev_lis h1, q⟩
theorem w_call {f : Nat} (h : WpE (evM c as r S) fun ds S1 => WpE (c f ds S1) Q) : WpE (evE c (.call f as) r S) Q := by
  obtain ⟨ds, S1, h1, x, S2, h2, q⟩ := h
  exact ⟨x, S2, ev_call h1 h2, q⟩
theorem w_bif {f : Bi} (h : WpE (evR c as r S) fun ds S1 => WpE (biS f ds S1) Q) : WpE (evE c (.bif f as) r S) Q := by
  obtain ⟨ds, S1, h1, x, S2, h2, q⟩ := h
  exact ⟨x, S2, ev_bif h1 h2, q⟩
theorem w_idx (h : WpE (evE c a r S) fun x S1 => WpE (evE c i r S1) fun y S2 => ∃ z, idxS S2 x y = some z ∧ Q z S2) : WpE (evE c (.idx a i) r S) Q := by
  obtain ⟨x, S1, h1, y, S2, h2, z, h3, q⟩ := h
  exact ⟨z, S2, ev_idx h1 h2 h3, q⟩
theorem w_mth {m : Mt} (hm : m ≠ .extend) (h : WpE (evE c o r S) fun x S1 => (lstOf S1 x).isSome = true ∧ WpE (evM c as r S1) fun ds S2 => WpE (mtS m x ds S2) Q) : WpE (evE c (.mth m o as) r S) Q := by
  obtain ⟨x, S1, h1, hl, ds, S2, h2, y, S3, h3, q⟩ := h
  exact ⟨y, S3, ev_mth h1 hl hm h2 h3, q⟩
theorem w_lc {ik : IK} {t : Pt} {own : List Nat} (h : WpE (evR c as r S) fun ds S1 => ∃ xs ws, itemsS ik ds S1 = some (xs, ws) ∧ WpE (loopL ws (lcB c t own cnd el r) xs S1) fun ys S2 => Q (.lst ys) S2) : WpE (evE c (.lc ik as t own cnd el) r S) Q := by
  obtain ⟨ds, S1, h1, xs, ws, h2, ys, S2, h3, q⟩ := h
  exact ⟨_, S2, ev_lc h1 h2 h3, q⟩
theorem w_rnil (q : QL [] S) : WpE (evR c .nil r S) QL := ⟨_, _, er_nil, q⟩
theorem w_rcons (h : WpE (evE c e r S) fun x S1 => WpE (evR c es r S1) fun xs S2 => QL (x :: xs) S2) : WpE (evR c (.cons e es) r S) QL := by
  obtain ⟨x, S1, h1, xs, S2, h2, q⟩ := h
  exact ⟨_, S2, er_cons h1 h2, q⟩
theorem w_mnil (q : QL [] S) : WpE (evM c .nil r S) QL := ⟨_, _, em_nil, q⟩
theorem w_mcons (h : WpE (evE c e r S) fun x S1 => ∃ y S2, mat x S1 = (y, S2) ∧ WpE (evM c es r S2) fun xs S3 => QL (y :: xs) S3) : WpE (evM c (.cons e es) r S) QL := by
  obtain ⟨x, S1, h1, y, S2, hm, xs, S3, h2, q⟩ := h
  exact ⟨_, S3, em_cons h1 hm h2, q⟩
theorem w_var {j : Nat} (h : slot r j = some d) (q : Q d S) : WpE (evE c (.var j) r S) Q := ⟨_, _, ev_var h, q⟩
theorem w_cst (q : Q d S) : WpE (evE c (.cst d) r S) Q := ⟨_, _, ev_cst, q⟩
/-- a comprehension's turns, one by one -/
theorem loopL_inv {ws : List (Nat × List D)} {f : D → Store → Rs (Option D)} (I : List D → List D → Store → Prop)
    (step : ∀ d rest acc S, I (d :: rest) acc S → watch S ws = true ∧ WpE (f d S) fun o S1 => I rest (acc ++ o.toList) S1) (last : ∀ acc S, I [] acc S → watch S ws = true) :
    ∀ {xs acc : List D} {S : Store}, I xs acc S → WpE (loopL ws f xs S) fun ys S1 => I [] (acc ++ ys) S1
  | [], acc, S, h => ⟨[], S, by simp only [loopL, last acc S h, if_true], by show I [] (acc ++ []) S; rw [List.append_nil]; exact h⟩
  | d :: rest, acc, S, h => by
    obtain ⟨hw, o, S1, h1, h2⟩ := step d rest acc S h
    obtain ⟨ys, S2, h3, h4⟩ := loopL_inv I step last h2
    refine ⟨o.toList ++ ys, S2, ?_, by show I [] (acc ++ (o.toList ++ ys)) S2; rw [← List.append_assoc]; exact h4⟩
    simp only [loopL, hw, if_true, h1, bnd, h3]
variable {s : St} {ss sa sb : Sts} {X : Rt} {v : D} {T : Fl → Sl → Store → Prop}
theorem w_nil (q : T .nx r S) : Wp (evSs c F .nil r S) T := ⟨_, _, _, es_nil, q⟩
theorem w_cons (h : Wp (evS c F s r S) fun f r1 S1 => (f = .nx ∧ Wp (evSs c F ss r1 S1) T) ∨ (f ≠ .nx ∧ T f r1 S1)) : Wp (evSs c F (.cons s ss) r S) T := by
  obtain ⟨f, r1, S1, h1, ⟨rfl, g, r2, S2, h2, q⟩ | ⟨hf, q⟩⟩ := h
  · exact ⟨g, r2, S2, es_cons h1 h2, q⟩
  · refine ⟨f, r1, S1, ?_, q⟩
    cases f with
    | nx => exact absurd rfl hf
    | rt v => exact es_rt h1
    | bk => exact es_bk h1
    | ct => exact es_ct h1
theorem w_asg {t : Pt} (h : WpE (evE c e r S) fun x S1 => ∃ y S2 r1, mat x S1 = (y, S2) ∧ setPt t y r = some r1 ∧ Wp (evSs c F ss r1 S2) T) : Wp (evSs c F (.cons (.asg t e) ss) r S) T := by
  obtain ⟨x, S1, h1, y, S2, r1, hm, h2, f, σ, S', h3, q⟩ := h
  exact ⟨f, σ, S', es_asg h1 hm h2 h3, q⟩
theorem w_exp (h : WpE (evE c e r S) fun x S1 => Wp (evSs c F ss r S1) T) : Wp (evSs c F (.cons (.exp e) ss) r S) T := by
  obtain ⟨x, S1, h1, f, σ, S', h3, q⟩ := h
  exact ⟨f, σ, S', es_exp h1 h3, q⟩
theorem w_ret (h : WpE (evE c e r S) fun x S1 => T (.rt x) r S1) : Wp (evSs c F (.cons (.ret e) ss) r S) T := by
  obtain ⟨x, S1, h1, q⟩ := h
  exact ⟨_, _, _, es_ret h1, q⟩
/-- an if whose branches both end the def's run of statements by a return, or go on -/
theorem w_if (h : WpE (evE c cnd r S) fun x S1 => ∃ p, x = .bl p ∧ (p = true → Wp (evSs c F sa r S1) fun f r1 S2 => (f = .nx ∧ Wp (evSs c F ss r1 S2) T) ∨ (f ≠ .nx ∧ T f r1 S2)) ∧ (p = false → Wp (evSs c F sb r S1) fun f r1 S2 => (f = .nx ∧ Wp (evSs c F ss r1 S2) T) ∨ (f ≠ .nx ∧ T f r1 S2))) : Wp (evSs c F (.cons (.ife cnd sa sb) ss) r S) T := by
  obtain ⟨x, S1, h1, p, rfl, h2, h3⟩ := h
  refine w_cons ?_
  cases p
  · obtain ⟨f, σ, S', e, q⟩ := h3 rfl
    exact ⟨f, σ, S', st_if_f h1 rfl e, q⟩
  · obtain ⟨f, σ, S', e, q⟩ := h2 rfl
    exact ⟨f, σ, S', st_if_t h1 rfl e, q⟩
theorem w_for {ik : IK} {t : Pt} (h : WpE (evR c as r S) fun ds S1 => ∃ xs ws, itemsS ik ds S1 = some (xs, ws) ∧ Wp (forL ws t (evSs c F sb) xs r S1) fun f r1 S2 => (f = .nx ∧ Wp (evSs c F ss r1 S2) T) ∨ (f ≠ .nx ∧ T f r1 S2)) : Wp (evSs c F (.cons (.forr ik as t sb) ss) r S) T := by
  obtain ⟨ds, S1, h1, xs, ws, h2, f, r1, S2, h3, q⟩ := h
  exact w_cons ⟨f, r1, S2, st_for h1 h2 h3, q⟩
/-- a for's turns -/
theorem forL_wp {ws : List (Nat × List D)} {t : Pt} {b : Sl → Store → Rt} (I : List D → Sl → Store → Prop) {Z : Fl → Sl → Store → Prop}
    (step : ∀ d rest σ S, I (d :: rest) σ S → watch S ws = true ∧ ∃ σ1, setPt t d σ = some σ1 ∧ Wp (b σ1 S) fun f σ2 S2 => match f with
      | .nx => I rest σ2 S2
      | .ct => I rest σ2 S2
      | .bk => Z .nx σ2 S2
      | .rt v => Z (.rt v) σ2 S2)
    (last : ∀ σ S, I [] σ S → watch S ws = true ∧ Z .nx σ S) : ∀ {xs : List D} {σ : Sl} {S : Store}, I xs σ S → Wp (forL ws t b xs σ S) Z
  | [], σ, S, h => ⟨.nx, σ, S, by simp only [forL, (last σ S h).1, if_true], (last σ S h).2⟩
  | x :: rest, σ, S, h => by
    obtain ⟨hw, σ1, e1, f, σ2, S2, hb, h2⟩ := step x rest σ S h
    cases f with
    | nx =>
      obtain ⟨g, σ', S', e, q⟩ := forL_wp I step last (xs := rest) h2
      exact ⟨g, σ', S', by simp only [forL, hw, if_true, e1, hb, e], q⟩
    | ct =>
      obtain ⟨g, σ', S', e, q⟩ := forL_wp I step last (xs := rest) h2
      exact ⟨g, σ', S', by simp only [forL, hw, if_true, e1, hb, e], q⟩
    | bk => exact ⟨_, _, _, by simp only [forL, hw, if_true, e1, hb], h2⟩
    | rt v => exact ⟨_, _, _, by simp only [forL, hw, if_true, e1, hb], h2⟩
end
/-- a def's call from its body -/
theorem w_run {fns : List Fn} {F k i : Nat} {fn : Fn} {ds : List D} {S : Store} {Q : D → Store → Prop} (h : fns[i]? = some fn) (hl : ds.length = fn.np)
    (hb : Wp (evSs (run fns F k) F fn.body (ds.map some ++ List.replicate (fn.nl - fn.np) none) S) fun f _ S1 => match f with
      | .rt d => Q (fin S d S1).1 (fin S d S1).2
      | .nx => Q (fin S .non S1).1 (fin S .non S1).2
      | _ => False) : WpE (run fns F (k + 1) i ds S) Q := by
  obtain ⟨f, σ, S1, e, q⟩ := hb
  cases f with
  | rt d => exact ⟨_, _, run_of h hl e, q⟩
  | nx => exact ⟨_, _, run_nx h hl e, q⟩
  | bk => exact q.elim
  | ct => exact q.elim
end Rf

/-! Rf: symbolic runs by simp: the steps as equations, continuations kept shut. -/
namespace Rf
open PySem
theorem ofS_inj {a b : String} : (Str.ofString a = Str.ofString b) = (a = b) := by
  refine propext ⟨fun h => ?_, fun h => by rw [h]⟩
  rw [Str.ofString_eq_toList, Str.ofString_eq_toList] at h
  have h2 : (a.toList.map Char.toNat) = (b.toList.map Char.toNat) := by
    have := congrArg (fun s : Str => s.cps.toList) h
    simpa using this
  have inj : ∀ (l m : List Char), l.map Char.toNat = m.map Char.toNat → l = m := by
    intro l
    induction l with
    | nil => intro m h; cases m with
      | nil => rfl
      | cons _ _ => cases h
    | cons c l ih => intro m h; cases m with
      | nil => cases h
      | cons d m =>
        simp only [List.map_cons, List.cons.injEq] at h
        rw [ih m h.2, show c = d from Char.ext (UInt32.toNat_inj.mp h.1)]
  have := inj _ _ h2
  exact String.toList_inj.mp this
/-! ### what it ends in, by steps: continuations are names, nothing is looked at ahead of its time -/
theorem p_some {α : Type} {d : α} {S : Store} {Q : α → Store → Prop} : WpE (some (d, S)) Q = Q d S := by
  refine propext ⟨?_, fun h => ⟨d, S, rfl, h⟩⟩
  rintro ⟨_, _, h, q⟩
  cases h
  exact q
theorem p_someS {f : Fl} {r : Sl} {S : Store} {Q : Fl → Sl → Store → Prop} : Wp (some (f, r, S)) Q = Q f r S := by
  refine propext ⟨?_, fun h => ⟨f, r, S, rfl, h⟩⟩
  rintro ⟨_, _, _, h, q⟩
  cases h
  exact q
theorem p_bnd {α β : Type} {x : Rs α} {f : α → Store → Rs β} {Q : β → Store → Prop} : WpE (bnd x f) Q = WpE x fun a S => WpE (f a S) Q := by
  refine propext ⟨?_, ?_⟩
  · rintro ⟨b, S, h, q⟩
    obtain ⟨a, T, h1, h2⟩ := bnd_eq h
    exact ⟨a, T, h1, b, S, h2, q⟩
  · rintro ⟨a, T, h1, b, S, h2, q⟩
    exact ⟨b, S, by rw [h1]; exact h2, q⟩
theorem p_bndS {α : Type} {x : Rs α} {f : α → Store → Rt} {Q : Fl → Sl → Store → Prop} : Wp (bndS x f) Q = WpE x fun a S => Wp (f a S) Q := by
  refine propext ⟨?_, ?_⟩
  · rintro ⟨b, r, S, h, q⟩
    cases x with
    | none => cases h
    | some p => exact ⟨p.1, p.2, rfl, b, r, S, h, q⟩
  · rintro ⟨a, T, rfl, b, r, S, h2, q⟩
    exact ⟨b, r, S, h2, q⟩
theorem p_none {α : Type} {Q : α → Store → Prop} : WpE (none : Rs α) Q = False := by
  refine propext ⟨?_, False.elim⟩
  rintro ⟨_, _, h, _⟩
  cases h
theorem p_noneS {Q : Fl → Sl → Store → Prop} : Wp none Q = False := by
  refine propext ⟨?_, False.elim⟩
  rintro ⟨_, _, _, h, _⟩
  cases h
abbrev Kx := D → Store → Prop
abbrev Kt := Fl → Sl → Store → Prop
/-- an option's value -/
def wO (o : Option D) (S : Store) (Q : Kx) : Prop := WpE (lift o S) Q
theorem wO_some {d : D} {S : Store} {Q : Kx} : wO (some d) S Q = Q d S := p_some
def wB (o : Option Bool) (S : Store) (Q : Kx) : Prop := WpE (lift (o.map .bl) S) Q
theorem wB_some {b : Bool} {S : Store} {Q : Kx} : wB (some b) S Q = Q (.bl b) S := p_some
/-- a choice -/
def wC (x : D) (A B : Store → Prop) (S : Store) : Prop := match x with
  | .bl true => A S
  | .bl false => B S
  | _ => False
theorem wC_t {A B : Store → Prop} {S : Store} : wC (.bl true) A B S = A S := rfl
theorem wC_f {A B : Store → Prop} {S : Store} : wC (.bl false) A B S = B S := rfl
theorem wC_y {A B : Store → Prop} {S : Store} {p : Prop} [Decidable p] (h : p) : wC (.bl (decide p)) A B S = A S := by rw [decide_eq_true h]; rfl
theorem wC_n {A B : Store → Prop} {S : Store} {p : Prop} [Decidable p] (h : ¬p) : wC (.bl (decide p)) A B S = B S := by rw [decide_eq_false h]; rfl
theorem wC_no {A B : Store → Prop} {S : Store} {b : Bool} : wC (.bl (!b)) A B S = wC (.bl b) B A S := by cases b <;> rfl
theorem wC_by {A B : Store → Prop} {S : Store} {p : Prop} [Decidable p] (h1 : p → A S) (h2 : ¬p → B S) : wC (.bl (decide p)) A B S := by
  by_cases h : p
  · rw [wC_y h]; exact h1 h
  · rw [wC_n h]; exact h2 h
theorem wC_bb {A B : Store → Prop} {S : Store} {b : Bool} (h1 : b = true → A S) (h2 : b = false → B S) : wC (.bl b) A B S := by
  cases b
  · exact h2 rfl
  · exact h1 rfl
def kE (c : Cl) (e : Ex) (r : Sl) (Q : Kx) (S : Store) : Prop := WpE (evE c e r S) Q
def kV (d : D) (Q : Kx) (S : Store) : Prop := Q d S
def kSs (c : Cl) (F : Nat) (ss : Sts) (r : Sl) (T : Kt) (S : Store) : Prop := Wp (evSs c F ss r S) T
theorem kE_eq {c : Cl} {e : Ex} {r : Sl} {Q : Kx} {S : Store} : kE c e r Q S = WpE (evE c e r S) Q := rfl
theorem kV_eq {d : D} {Q : Kx} {S : Store} : kV d Q S = Q d S := rfl
theorem kSs_eq {c : Cl} {F : Nat} {ss : Sts} {r : Sl} {T : Kt} {S : Store} : kSs c F ss r T S = Wp (evSs c F ss r S) T := rfl
/-- items -/
def wI (o : Option (List D × List (Nat × List D))) (K : List D → List (Nat × List D) → Store → Prop) (S : Store) : Prop := match o with
  | some (xs, ws) => K xs ws S
  | none => False
theorem wI_some {xs : List D} {ws : List (Nat × List D)} {K : List D → List (Nat × List D) → Store → Prop} {S : Store} : wI (some (xs, ws)) K S = K xs ws S := rfl
def kbin2 (op : Operator) (x : D) (Q : Kx) : Kx := fun y S => wO (binS S op x y) S Q
def kbin1 (c : Cl) (op : Operator) (b : Ex) (r : Sl) (Q : Kx) : Kx := fun x S => WpE (evE c b r S) (kbin2 op x Q)
def kneg (Q : Kx) : Kx := fun x S => match x with
  | .int i => Q (.int (-i)) S
  | _ => False
def kcmp2 (op : CmpOp) (x : D) (Q : Kx) : Kx := fun y S => wB (cmpS S op x y) S Q
def kcmp1 (c : Cl) (op : CmpOp) (b : Ex) (r : Sl) (Q : Kx) : Kx := fun x S => WpE (evE c b r S) (kcmp2 op x Q)
def kchn3 (op' : CmpOp) (y : D) (Q : Kx) : Kx := fun z S => wB (cmpS S op' y z) S Q
def kchn2 (c : Cl) (op op' : CmpOp) (x : D) (e : Ex) (r : Sl) (Q : Kx) : Kx := fun y S => match y with
  | .int j => wB (cmpS S op x (.int j)) S fun q S1 => wC q (kE c e r (kchn3 op' (.int j) Q)) (kV (.bl false) Q) S1
  | _ => False
def kchn1 (c : Cl) (op op' : CmpOp) (b e : Ex) (r : Sl) (Q : Kx) : Kx := fun x S => WpE (evE c b r S) (kchn2 c op op' x e r Q)
def kand (c : Cl) (b : Ex) (r : Sl) (Q : Kx) : Kx := fun x S => wC x (kE c b r Q) (kV (.bl false) Q) S
def kor (c : Cl) (b : Ex) (r : Sl) (Q : Kx) : Kx := fun x S => wC x (kV (.bl true) Q) (kE c b r Q) S
def knot (Q : Kx) : Kx := fun x S => match x with
  | .bl b => Q (.bl (!b)) S
  | _ => False
def kite (c : Cl) (a b : Ex) (r : Sl) (Q : Kx) : Kx := fun x S => wC x (kE c a r Q) (kE c b r Q) S
def ktup (Q : Kx) : List D → Store → Prop := fun ds S => Q (.tup ds) S
def klis (Q : Kx) : List D → Store → Prop := fun ds S => Q (.lst ds) S
def kcall (c : Cl) (f : Nat) (Q : Kx) : List D → Store → Prop := fun ds S => WpE (c f ds S) Q
def kbif (f : Bi) (Q : Kx) : List D → Store → Prop := fun ds S => WpE (biS f ds S) Q
def krng2 (t : Bool) (Q : Kx) : List D → List (Nat × List D) → Store → Prop := fun xs _ S => Q (if t then .tup xs else .lst xs) S
def krng (t : Bool) (Q : Kx) : List D → Store → Prop := fun ds S => wI (itemsS .rng ds S) (krng2 t Q) S
def kmth3 (m : Mt) (x : D) (Q : Kx) : List D → Store → Prop := fun ds S => WpE (mtS m x ds S) Q
def wL (o : Option (List D)) (A : Store → Prop) (S : Store) : Prop := match o with
  | some _ => A S
  | none => False
def kMs (c : Cl) (as : Exs) (r : Sl) (Q : List D → Store → Prop) (S : Store) : Prop := WpE (evM c as r S) Q
def kRs (c : Cl) (as : Exs) (r : Sl) (Q : List D → Store → Prop) (S : Store) : Prop := WpE (evR c as r S) Q
def kmth (c : Cl) (m : Mt) (as : Exs) (r : Sl) (Q : Kx) : Kx := fun x S => wL (seqOf S x) (kMs c as r (kmth3 m x Q)) S
def kmthx (c : Cl) (as : Exs) (r : Sl) (Q : Kx) : Kx := fun x S => wL (seqOf S x) (kRs c as r (kmth3 .extend x Q)) S
def wT (o : Option String) (k : String) (Q : Kx) (S : Store) : Prop := match o with
  | some t => Q (.bl (isiS t k)) S
  | none => False
def kisi (k : String) (Q : Kx) : Kx := fun x S => wT (tyS S x) k Q S
def kidx2 (x : D) (Q : Kx) : Kx := fun y S => wO (idxS S x y) S Q
def kidx1 (c : Cl) (i : Ex) (r : Sl) (Q : Kx) : Kx := fun x S => WpE (evE c i r S) (kidx2 x Q)
def kslc3 (x : D) (p : Option Int) (Q : Kx) : Option Int → Store → Prop := fun q S => wO (slcS S x p q) S Q
def kslc2 (c : Cl) (x : D) (hi : Ex) (r : Sl) (Q : Kx) : Option Int → Store → Prop := fun p S => WpE (ptE c hi r S) (kslc3 x p Q)
def kslc1 (c : Cl) (lo hi : Ex) (r : Sl) (Q : Kx) : Kx := fun x S => WpE (ptE c lo r S) (kslc2 c x hi r Q)
def kpt (Q : Option Int → Store → Prop) : Kx := fun x S => match x with
  | .int i => Q (some i) S
  | _ => False
def wR (o : Option (List D)) (Q : Kx) (S : Store) : Prop := match o with
  | some ds => Q (.lst ds.reverse) S
  | none => False
def krev (Q : Kx) : Kx := fun x S => WpE (revO S x) Q
def klc2 (c : Cl) (t : Pt) (own : List Nat) (cnd el : Ex) (r : Sl) (Q : Kx) : List D → List (Nat × List D) → Store → Prop := fun xs ws S => WpE (loopL ws (lcB c t own cnd el r) xs S) (klis Q)
def klc (c : Cl) (ik : IK) (t : Pt) (own : List Nat) (cnd el : Ex) (r : Sl) (Q : Kx) : List D → Store → Prop := fun ds S => wI (itemsS ik ds S) (klc2 c t own cnd el r Q) S
def kdsp (ks : List L2.Key) (Q : Kx) : List D → Store → Prop := fun ds S => ds.length = ks.length ∧ Q (.ref S.length) (S ++ [.dic ((ks.zip ds).foldl (fun acc kv => dput acc kv.1 kv.2) [])])
def kR2 (x : D) (Q : List D → Store → Prop) : List D → Store → Prop := fun xs S => Q (x :: xs) S
def kR1 (c : Cl) (es : Exs) (r : Sl) (Q : List D → Store → Prop) : Kx := fun x S => WpE (evR c es r S) (kR2 x Q)
def kM1 (c : Cl) (es : Exs) (r : Sl) (Q : List D → Store → Prop) : Kx := fun x S => WpE (evM c es r (mat x S).2) (kR2 (mat x S).1 Q)
section
variable {c : Cl} {F : Nat} {r : Sl} {S S1 : Store} {d x y z : D} {ds xs ys : List D} {a b e el cnd lo hi o i : Ex} {as es : Exs} {s : St} {ss sa sb : Sts} {Q : Kx} {QL : List D → Store → Prop} {T : Kt}
theorem wL_some {A : Store → Prop} : wL (some ds) A S = A S := rfl
theorem wT_some {k t : String} : wT (some t) k Q S = Q (.bl (isiS t k)) S := rfl
theorem wR_some : wR (some ds) Q S = Q (.lst ds.reverse) S := rfl
theorem kMs_eq : kMs c as r QL S = WpE (evM c as r S) QL := rfl
theorem kRs_eq : kRs c as r QL S = WpE (evR c as r S) QL := rfl
theorem kbin2_eq {op : Operator} : kbin2 op x Q y S = wO (binS S op x y) S Q := rfl
theorem kbin1_eq {op : Operator} : kbin1 c op b r Q x S = WpE (evE c b r S) (kbin2 op x Q) := rfl
theorem kneg_eq {n : Int} : kneg Q (.int n) S = Q (.int (-n)) S := rfl
theorem kcmp2_eq {op : CmpOp} : kcmp2 op x Q y S = wB (cmpS S op x y) S Q := rfl
theorem kcmp1_eq {op : CmpOp} : kcmp1 c op b r Q x S = WpE (evE c b r S) (kcmp2 op x Q) := rfl
theorem kchn3_eq {op : CmpOp} : kchn3 op y Q z S = wB (cmpS S op y z) S Q := rfl
def kchnC (c : Cl) (op' : CmpOp) (j : Int) (e : Ex) (r : Sl) (Q : Kx) : Kx := fun q S1 => wC q (kE c e r (kchn3 op' (.int j) Q)) (kV (.bl false) Q) S1
theorem kchnC_eq {op : CmpOp} {j : Int} : kchnC c op j e r Q x S = wC x (kE c e r (kchn3 op (.int j) Q)) (kV (.bl false) Q) S := rfl
theorem kchn2_eq {op op' : CmpOp} {j : Int} : kchn2 c op op' x e r Q (.int j) S = wB (cmpS S op x (.int j)) S (kchnC c op' j e r Q) := rfl
theorem kchn1_eq {op op' : CmpOp} : kchn1 c op op' b e r Q x S = WpE (evE c b r S) (kchn2 c op op' x e r Q) := rfl
theorem kand_eq : kand c b r Q x S = wC x (kE c b r Q) (kV (.bl false) Q) S := rfl
theorem kor_eq : kor c b r Q x S = wC x (kV (.bl true) Q) (kE c b r Q) S := rfl
theorem knot_eq {p : Bool} : knot Q (.bl p) S = Q (.bl (!p)) S := rfl
theorem kite_eq : kite c a b r Q x S = wC x (kE c a r Q) (kE c b r Q) S := rfl
theorem ktup_eq : ktup Q ds S = Q (.tup ds) S := rfl
theorem klis_eq : klis Q ds S = Q (.lst ds) S := rfl
theorem kcall_eq {f : Nat} : kcall c f Q ds S = WpE (c f ds S) Q := rfl
theorem kbif_eq {f : Bi} : kbif f Q ds S = WpE (biS f ds S) Q := rfl
theorem krng2_t {ws : List (Nat × List D)} : krng2 true Q xs ws S = Q (.tup xs) S := rfl
theorem krng2_f {ws : List (Nat × List D)} : krng2 false Q xs ws S = Q (.lst xs) S := rfl
theorem krng_eq {t : Bool} : krng t Q ds S = wI (itemsS .rng ds S) (krng2 t Q) S := rfl
theorem kmth3_eq {m : Mt} : kmth3 m x Q ds S = WpE (mtS m x ds S) Q := rfl
theorem kmth_eq {m : Mt} : kmth c m as r Q x S = wL (seqOf S x) (kMs c as r (kmth3 m x Q)) S := rfl
theorem kmthx_eq : kmthx c as r Q x S = wL (seqOf S x) (kRs c as r (kmth3 .extend x Q)) S := rfl
theorem kisi_eq {k : String} : kisi k Q x S = wT (tyS S x) k Q S := rfl
theorem kidx2_eq : kidx2 x Q y S = wO (idxS S x y) S Q := rfl
theorem kidx1_eq : kidx1 c i r Q x S = WpE (evE c i r S) (kidx2 x Q) := rfl
theorem kslc3_eq {p q : Option Int} : kslc3 x p Q q S = wO (slcS S x p q) S Q := rfl
theorem kslc2_eq {p : Option Int} : kslc2 c x hi r Q p S = WpE (ptE c hi r S) (kslc3 x p Q) := rfl
theorem kslc1_eq : kslc1 c lo hi r Q x S = WpE (ptE c lo r S) (kslc2 c x hi r Q) := rfl
theorem kpt_eq {n : Int} {Q : Option Int → Store → Prop} : kpt Q (.int n) S = Q (some n) S := rfl
theorem klc2_eq {t : Pt} {own : List Nat} {ws : List (Nat × List D)} : klc2 c t own cnd el r Q xs ws S = WpE (loopL ws (lcB c t own cnd el r) xs S) (klis Q) := rfl
theorem klc_eq {ik : IK} {t : Pt} {own : List Nat} : klc c ik t own cnd el r Q ds S = wI (itemsS ik ds S) (klc2 c t own cnd el r Q) S := rfl
theorem kdsp_eq {ks : List L2.Key} : kdsp ks Q ds S = (ds.length = ks.length ∧ Q (.ref S.length) (S ++ [.dic ((ks.zip ds).foldl (fun acc kv => dput acc kv.1 kv.2) [])])) := rfl
theorem kR2_eq : kR2 x QL xs S = QL (x :: xs) S := rfl
theorem kR1_eq : kR1 c es r QL x S = WpE (evR c es r S) (kR2 x QL) := rfl
theorem kM1_eq : kM1 c es r QL x S = WpE (evM c es r (mat x S).2) (kR2 (mat x S).1 QL) := rfl
theorem wB_eq {o : Option Bool} : WpE (lift (o.map .bl) S) Q = wB o S Q := rfl
theorem wO_eq {o : Option D} : WpE (lift o S) Q = wO o S Q := rfl
/-! expressions -/
theorem x_var {j : Nat} : WpE (evE c (.var j) r S) Q = wO (slot r j) S Q := by simp only [evE]; rfl
theorem x_cst : WpE (evE c (.cst d) r S) Q = Q d S := by simp only [evE]; exact p_some
theorem x_bin {op : Operator} : WpE (evE c (.bin op a b) r S) Q = WpE (evE c a r S) (kbin1 c op b r Q) := by simp only [evE, p_bnd]; rfl
theorem x_neg : WpE (evE c (.neg a) r S) Q = WpE (evE c a r S) (kneg Q) := by
  rw [evE, p_bnd]
  congr 1
  funext x S1
  cases x <;> first | exact p_some | exact p_none
theorem x_cmp {op : CmpOp} : WpE (evE c (.cmp op a b) r S) Q = WpE (evE c a r S) (kcmp1 c op b r Q) := by simp only [evE, p_bnd]; rfl
theorem x_chn {op op' : CmpOp} {e' : Ex} : WpE (evE c (.chn op op' a b e') r S) Q = WpE (evE c a r S) (kchn1 c op op' b e' r Q) := by
  rw [evE, p_bnd]
  congr 1
  funext x S1
  rw [p_bnd]
  show WpE _ _ = WpE _ _
  congr 1
  funext y S2
  cases y with
  | int j =>
    show WpE (match cmpS S2 op x (.int j) with | some true => _ | some false => _ | none => none) Q = _
    cases h : cmpS S2 op x (.int j) with
    | none => rw [p_none, kchn2_eq, h]; symm; exact p_none
    | some q =>
      rw [kchn2_eq, h, wB_some, kchnC_eq]
      cases q with
      | true => rw [wC_t]; simp only [p_bnd]; rfl
      | false => rw [wC_f]; exact p_some
  | _ => exact p_none
theorem wp_ifD {α : Type} {x y : Rs α} {Q : α → Store → Prop} {S : Store} {v : D} {A B : Store → Prop} (h1 : WpE x Q = A S) (h2 : WpE y Q = B S) : WpE (match v with | .bl true => x | .bl false => y | _ => none) Q = wC v A B S := by
  cases v with
  | bl p => cases p with
    | true => exact h1
    | false => exact h2
  | _ => exact p_none
theorem x_and : WpE (evE c (.and a b) r S) Q = WpE (evE c a r S) (kand c b r Q) := by
  rw [evE, p_bnd]
  congr 1
  funext x S1
  exact wp_ifD rfl p_some
theorem x_or : WpE (evE c (.or a b) r S) Q = WpE (evE c a r S) (kor c b r Q) := by
  rw [evE, p_bnd]
  congr 1
  funext x S1
  exact wp_ifD p_some rfl
theorem x_not : WpE (evE c (.not a) r S) Q = WpE (evE c a r S) (knot Q) := by
  rw [evE, p_bnd]
  congr 1
  funext x S1
  cases x <;> first | exact p_some | exact p_none
theorem x_ite : WpE (evE c (.ite cnd a b) r S) Q = WpE (evE c cnd r S) (kite c a b r Q) := by
  rw [evE, p_bnd]
  congr 1
  funext x S1
  exact wp_ifD rfl rfl
theorem x_tup : WpE (evE c (.tup as) r S) Q = WpE (evM c as r S) (ktup Q) := by
  simp only [evE, p_bnd, p_some]; rfl
theorem x_lis : WpE (evE c (.lis as) r S) Q = WpE (evM c as r S) (klis Q) := by
  simp only [evE, p_bnd, p_some]; rfl
theorem x_call {f : Nat} : WpE (evE c (.call f as) r S) Q = WpE (evM c as r S) (kcall c f Q) := by simp only [evE, p_bnd]; rfl
theorem x_bif {f : Bi} : WpE (evE c (.bif f as) r S) Q = WpE (evR c as r S) (kbif f Q) := by simp only [evE, p_bnd]; rfl
theorem x_rngl {t : Bool} : WpE (evE c (.rngl t as) r S) Q = WpE (evR c as r S) (krng t Q) := by
  rw [evE, p_bnd]
  congr 1
  funext ds S1
  show WpE (match itemsS .rng ds S1 with | some (xs, _) => _ | none => none) Q = wI (itemsS .rng ds S1) (krng2 t Q) S1
  cases itemsS .rng ds S1 with
  | none => exact p_none
  | some p => exact p_some
theorem wp_isL {α : Type} {o : Option (List D)} {x : Rs α} {Q : α → Store → Prop} {A : Store → Prop} (h : WpE x Q = A S) : WpE (if o.isSome = true then x else none) Q = wL o A S := by
  cases o with
  | none => exact p_none
  | some l => exact h
theorem x_mth {m : Mt} (hm : m ≠ .extend) : WpE (evE c (.mth m o as) r S) Q = WpE (evE c o r S) (kmth c m as r Q) := by
  rw [evE, p_bnd]
  simp only [if_neg hm]
  congr 1
  funext x S1
  refine wp_isL ?_
  rw [p_bnd]; rfl
theorem x_ext : WpE (evE c (.mth .extend o as) r S) Q = WpE (evE c o r S) (kmthx c as r Q) := by
  rw [evE, p_bnd]
  congr 1
  funext x S1
  refine wp_isL ?_
  rw [if_pos rfl, p_bnd]; rfl
theorem x_mapd : WpE (evE c (.mth .append o as) r S) Q = WpE (evE c o r S) (kmth c .append as r Q) := x_mth (by decide)
theorem x_mpop : WpE (evE c (.mth .pop o as) r S) Q = WpE (evE c o r S) (kmth c .pop as r Q) := x_mth (by decide)
theorem x_mins : WpE (evE c (.mth .insert o as) r S) Q = WpE (evE c o r S) (kmth c .insert as r Q) := x_mth (by decide)
theorem x_mrev : WpE (evE c (.mth .reverse o as) r S) Q = WpE (evE c o r S) (kmth c .reverse as r Q) := x_mth (by decide)
theorem x_mclr : WpE (evE c (.mth .clear o as) r S) Q = WpE (evE c o r S) (kmth c .clear as r Q) := x_mth (by decide)
theorem x_mcnt : WpE (evE c (.mth .count o as) r S) Q = WpE (evE c o r S) (kmth c .count as r Q) := x_mth (by decide)
theorem x_isi {k : String} : WpE (evE c (.isi a k) r S) Q = WpE (evE c a r S) (kisi k Q) := by
  rw [evE, p_bnd]
  congr 1
  funext x S1
  show WpE (match tyS S1 x with | some t => _ | none => none) Q = wT (tyS S1 x) k Q S1
  cases tyS S1 x with
  | none => exact p_none
  | some t => exact p_some
theorem x_idx : WpE (evE c (.idx a i) r S) Q = WpE (evE c a r S) (kidx1 c i r Q) := by simp only [evE, p_bnd]; rfl
theorem x_slc : WpE (evE c (.slc a lo hi) r S) Q = WpE (evE c a r S) (kslc1 c lo hi r Q) := by
  rw [evE, p_bnd]
  congr 1
  funext x S1
  rw [p_bnd]
  show WpE (ptE c lo r S1) _ = WpE (ptE c lo r S1) _
  congr 1
  funext p S2
  rw [p_bnd]
  rfl
theorem x_nop {Q : Option Int → Store → Prop} : WpE (ptE c .nop r S) Q = Q none S := p_some
theorem x_pt {Q : Option Int → Store → Prop} (h : isNop e = false) : WpE (ptE c e r S) Q = WpE (evE c e r S) (kpt Q) := by
  simp only [ptE, h, Bool.false_eq_true, if_false]
  rw [p_bnd]
  congr 1
  funext x S1
  cases x <;> first | exact p_some | exact p_none
theorem x_ptv {Q : Option Int → Store → Prop} {j : Nat} : WpE (ptE c (.var j) r S) Q = WpE (evE c (.var j) r S) (kpt Q) := x_pt rfl
theorem x_ptc {Q : Option Int → Store → Prop} : WpE (ptE c (.cst d) r S) Q = WpE (evE c (.cst d) r S) (kpt Q) := x_pt rfl
theorem x_ptb {Q : Option Int → Store → Prop} {op : Operator} : WpE (ptE c (.bin op a b) r S) Q = WpE (evE c (.bin op a b) r S) (kpt Q) := x_pt rfl
theorem x_ptn {Q : Option Int → Store → Prop} : WpE (ptE c (.neg a) r S) Q = WpE (evE c (.neg a) r S) (kpt Q) := x_pt rfl
theorem x_ptf {Q : Option Int → Store → Prop} {f : Nat} : WpE (ptE c (.call f as) r S) Q = WpE (evE c (.call f as) r S) (kpt Q) := x_pt rfl
theorem x_rev : WpE (evE c (.rev a) r S) Q = WpE (evE c a r S) (krev Q) := by simp only [evE, p_bnd]; rfl
theorem krev_eq : krev Q (.lst ds) S = Q (.lst ds.reverse) S := p_some
theorem krev_t : krev Q (.tup ds) S = Q (.tup ds.reverse) S := p_some
theorem krev_r {n : Nat} : krev Q (.ref n) S = wR (lstOf S (.ref n)) Q S := by
  show WpE (match lstOf S (.ref n) with | some ds => _ | none => none) Q = wR (lstOf S (.ref n)) Q S
  cases lstOf S (.ref n) with
  | none => exact p_none
  | some t => exact p_some
theorem x_lc {ik : IK} {t : Pt} {own : List Nat} : WpE (evE c (.lc ik as t own cnd el) r S) Q = WpE (evR c as r S) (klc c ik t own cnd el r Q) := by
  rw [evE, p_bnd]
  congr 1
  funext ds S1
  show WpE (match itemsS ik ds S1 with | some (xs, ws) => _ | none => none) Q = wI (itemsS ik ds S1) (klc2 c t own cnd el r Q) S1
  cases itemsS ik ds S1 with
  | none => exact p_none
  | some p =>
    show WpE (bnd _ _) Q = _
    rw [p_bnd]
    simp only [p_some]
    rfl
theorem x_dsp {ks : List L2.Key} : WpE (evE c (.dsp ks as) r S) Q = WpE (evM c as r S) (kdsp ks Q) := by
  rw [evE, p_bnd]
  congr 1
  funext ds S1
  show WpE (if ds.length = ks.length then _ else none) Q = _
  by_cases h : ds.length = ks.length
  · rw [if_pos h, p_some]; exact propext ⟨fun q => ⟨h, q⟩, fun q => q.2⟩
  · rw [if_neg h, p_none]; exact propext ⟨False.elim, fun q => h q.1⟩
theorem x_rnil : WpE (evR c .nil r S) QL = QL [] S := by simp only [evR]; exact p_some
theorem x_rcons : WpE (evR c (.cons e es) r S) QL = WpE (evE c e r S) (kR1 c es r QL) := by simp only [evR, p_bnd, p_some]; rfl
theorem x_mnil : WpE (evM c .nil r S) QL = QL [] S := by simp only [evM]; exact p_some
theorem x_mcons : WpE (evM c (.cons e es) r S) QL = WpE (evE c e r S) (kM1 c es r QL) := by simp only [evM, p_bnd, p_some]; rfl
/-! statements -/
def kseq (c : Cl) (F : Nat) (ss : Sts) (T : Kt) : Kt := fun f r S => match f with
  | .nx => Wp (evSs c F ss r S) T
  | f => T f r S
theorem kseq_nx : kseq c F ss T .nx r S = Wp (evSs c F ss r S) T := rfl
theorem kseq_rt : kseq c F ss T (.rt d) r S = T (.rt d) r S := rfl
theorem kseq_bk : kseq c F ss T .bk r S = T .bk r S := rfl
theorem kseq_ct : kseq c F ss T .ct r S = T .ct r S := rfl
def kasg (t : Pt) (r : Sl) (T : Kt) : Kx := fun x S => match setPt t (mat x S).1 r with
  | some r1 => T .nx r1 (mat x S).2
  | none => False
theorem kasg_nm {j : Nat} : kasg (.nm j) r T x S = T .nx (r.set j (some (mat x S).1)) (mat x S).2 := rfl
theorem kasg_tp {is : List Nat} (h : ds.length = is.length) : kasg (.tp is) r T (.tup ds) S = T .nx (setAll r is ds) S := by simp only [kasg, mat, setPt, h, if_true]
def kpar (is : List Nat) (r : Sl) (T : Kt) : List D → Store → Prop := fun ds S => ds.length = is.length ∧ T .nx (setAll r is ds) S
theorem kpar_eq {is : List Nat} (h : ds.length = is.length) : kpar is r T ds S = T .nx (setAll r is ds) S := propext ⟨fun q => q.2, fun q => ⟨h, q⟩⟩
def ksix3 (r : Sl) (v y : D) (T : Kt) : Kx := fun z S => match sixS y z v S with
  | some S4 => T .nx r S4
  | none => False
def wS (o : Option Store) (r : Sl) (T : Kt) : Prop := match o with
  | some S4 => T .nx r S4
  | none => False
theorem wS_some : wS (some S) r T = T .nx r S := rfl
theorem ksix3_eq {v : D} : ksix3 r v y T z S = wS (sixS y z v S) r T := rfl
def ksix2 (c : Cl) (i : Ex) (r : Sl) (v : D) (T : Kt) : Kx := fun y S => WpE (evE c i r S) (ksix3 r v y T)
theorem ksix2_eq {v : D} : ksix2 c i r v T y S = WpE (evE c i r S) (ksix3 r v y T) := rfl
def ksix1 (c : Cl) (o i : Ex) (r : Sl) (T : Kt) : Kx := fun x S => WpE (evE c o r (mat x S).2) (ksix2 c i r (mat x S).1 T)
theorem ksix1_eq : ksix1 c o i r T x S = WpE (evE c o r (mat x S).2) (ksix2 c i r (mat x S).1 T) := rfl
def kexp (r : Sl) (T : Kt) : Kx := fun _ S => T .nx r S
theorem kexp_eq : kexp r T x S = T .nx r S := rfl
def kret (r : Sl) (T : Kt) : Kx := fun x S => T (.rt x) r S
theorem kret_eq : kret r T x S = T (.rt x) r S := rfl
def kif (c : Cl) (F : Nat) (sa sb : Sts) (r : Sl) (T : Kt) : Kx := fun x S => wC x (kSs c F sa r T) (kSs c F sb r T) S
theorem kif_eq : kif c F sa sb r T x S = wC x (kSs c F sa r T) (kSs c F sb r T) S := rfl
def kfor2 (c : Cl) (F : Nat) (t : Pt) (sb : Sts) (r : Sl) (T : Kt) : List D → List (Nat × List D) → Store → Prop := fun xs ws S => Wp (forL ws t (evSs c F sb) xs r S) T
theorem kfor2_eq {t : Pt} {ws : List (Nat × List D)} : kfor2 c F t sb r T xs ws S = Wp (forL ws t (evSs c F sb) xs r S) T := rfl
def kfor (c : Cl) (F : Nat) (ik : IK) (t : Pt) (sb : Sts) (r : Sl) (T : Kt) : List D → Store → Prop := fun ds S => wI (itemsS ik ds S) (kfor2 c F t sb r T) S
theorem kfor_eq {ik : IK} {t : Pt} : kfor c F ik t sb r T ds S = wI (itemsS ik ds S) (kfor2 c F t sb r T) S := rfl
theorem x_nil : Wp (evSs c F .nil r S) T = T .nx r S := by simp only [evSs]; exact p_someS
theorem x_cons : Wp (evSs c F (.cons s ss) r S) T = Wp (evS c F s r S) (kseq c F ss T) := by
  rw [evSs]
  cases h : evS c F s r S with
  | none => rw [p_noneS, p_noneS]
  | some p =>
    obtain ⟨f, r1, S1⟩ := p
    cases f with
    | nx => rw [p_someS]; rfl
    | rt d => rw [p_someS, p_someS]; rfl
    | bk => rw [p_someS, p_someS]; rfl
    | ct => rw [p_someS, p_someS]; rfl
theorem wp_six {o : Option Store} : Wp (match o with | some S4 => some (.nx, r, S4) | none => none) T = wS o r T := by
  cases o with
  | none => exact p_noneS
  | some S => exact p_someS
theorem x_asg {t : Pt} : Wp (evS c F (.asg t e) r S) T = WpE (evE c e r S) (kasg t r T) := by
  rw [evS, p_bndS]
  congr 1
  funext x S1
  show Wp (match setPt t (mat x S1).1 r with | some r1 => _ | none => none) T = (match setPt t (mat x S1).1 r with | some r1 => T .nx r1 (mat x S1).2 | none => False)
  cases setPt t (mat x S1).1 r with
  | none => exact p_noneS
  | some r1 => exact p_someS
theorem x_par {is : List Nat} : Wp (evS c F (.par is as) r S) T = WpE (evM c as r S) (kpar is r T) := by
  rw [evS, p_bndS]
  congr 1
  funext ds S1
  show Wp (if ds.length = is.length then _ else none) T = _
  by_cases h : ds.length = is.length
  · rw [if_pos h, p_someS]; exact propext ⟨fun q => ⟨h, q⟩, fun q => q.2⟩
  · rw [if_neg h, p_noneS]; exact propext ⟨False.elim, fun q => h q.1⟩
theorem x_six : Wp (evS c F (.six o i e) r S) T = WpE (evE c e r S) (ksix1 c o i r T) := by
  rw [evS, p_bndS]
  congr 1
  funext x S1
  rw [p_bndS]
  show WpE _ _ = WpE _ _
  congr 1
  funext y S2
  rw [p_bndS]
  show WpE _ _ = WpE _ _
  congr 1
  funext z S3
  exact wp_six
theorem x_exp : Wp (evS c F (.exp e) r S) T = WpE (evE c e r S) (kexp r T) := by simp only [evS, p_bndS, p_someS]; rfl
theorem x_ret : Wp (evS c F (.ret e) r S) T = WpE (evE c e r S) (kret r T) := by simp only [evS, p_bndS, p_someS]; rfl
theorem x_retn : Wp (evS c F .retn r S) T = T (.rt .non) r S := by simp only [evS]; exact p_someS
theorem wp_ifS {x y : Rt} {v : D} {A B : Store → Prop} (h1 : Wp x T = A S) (h2 : Wp y T = B S) : Wp (match v with | .bl true => x | .bl false => y | _ => none) T = wC v A B S := by
  cases v with
  | bl p => cases p with
    | true => exact h1
    | false => exact h2
  | _ => exact p_noneS
theorem x_ife : Wp (evS c F (.ife cnd sa sb) r S) T = WpE (evE c cnd r S) (kif c F sa sb r T) := by
  rw [evS, p_bndS]
  congr 1
  funext x S1
  exact wp_ifS rfl rfl
theorem x_for {ik : IK} {t : Pt} : Wp (evS c F (.forr ik as t sb) r S) T = WpE (evR c as r S) (kfor c F ik t sb r T) := by
  rw [evS, p_bndS]
  congr 1
  funext ds S1
  show Wp (match itemsS ik ds S1 with | some (xs, ws) => _ | none => none) T = wI (itemsS ik ds S1) (kfor2 c F t sb r T) S1
  cases itemsS ik ds S1 with
  | none => exact p_noneS
  | some p => rfl
theorem x_whl : Wp (evS c F (.whl cnd sb) r S) T = Wp (whlL (evE c cnd) (evSs c F sb) F r S) T := by simp only [evS]
theorem x_pas : Wp (evS c F .pas r S) T = T .nx r S := by simp only [evS]; exact p_someS
theorem x_brk : Wp (evS c F .brk r S) T = T .bk r S := by simp only [evS]; exact p_someS
theorem x_cnt : Wp (evS c F .cnt r S) T = T .ct r S := by simp only [evS]; exact p_someS
end
def finK (p : D × Store) (Q : Kx) : Prop := Q p.1 p.2
theorem finK_mk {d : D} {S : Store} {Q : Kx} : finK (d, S) Q = Q d S := rfl
def finQ (S0 : Store) (Q : Kx) : Kt := fun f _ S1 => match f with
    | .rt d => finK (fin S0 d S1) Q
    | .nx => finK (fin S0 .non S1) Q
    | _ => False
theorem finQ_rt {S0 S1 : Store} {Q : Kx} {d : D} {r : Sl} : finQ S0 Q (.rt d) r S1 = finK (fin S0 d S1) Q := rfl
theorem finQ_nx {S0 S1 : Store} {Q : Kx} {r : Sl} : finQ S0 Q .nx r S1 = finK (fin S0 .non S1) Q := rfl
/-- a call, from its body -/
theorem x_run {fns : List Fn} {F k i : Nat} {fn : Fn} {ds : List D} {S : Store} {Q : Kx} (h : fns[i]? = some fn) (hl : ds.length = fn.np) (hn : noTri fn.body = true) :
    WpE (run fns F (k + 1) i ds S) Q = Wp (evSs (run fns F k) F fn.body (ds.map some ++ List.replicate (fn.nl - fn.np) none) S) (finQ S Q) := by
  simp only [run, h, hl, if_true, evT_eq hn]
  generalize evSs (run fns F k) F fn.body (ds.map some ++ List.replicate (fn.nl - fn.np) none) S = x
  match x with
  | none => rw [p_noneS]; exact p_none
  | some (.nx, r1, S1) => rw [p_someS]; exact p_some
  | some (.rt d, r1, S1) => rw [p_someS]; exact p_some
  | some (.bk, r1, S1) => rw [p_someS]; exact p_none
  | some (.ct, r1, S1) => rw [p_someS]; exact p_none
def isR (d : D) (S : Store) : Kx := fun d' S' => d' = d ∧ S' = S
theorem isR_eq {d d' : D} {S S' : Store} : isR d S d' S' = (d' = d ∧ S' = S) := rfl
theorem of_isR {x : Rs D} {d : D} {S : Store} (h : WpE x (isR d S)) : x = some (d, S) := by
  obtain ⟨_, _, h, rfl, rfl⟩ := h
  exact h
theorem to_isR {x : Rs D} {d : D} {S : Store} (h : x = some (d, S)) {Q : Kx} : WpE x Q = Q d S := by rw [h]; exact p_some
/-! ### no cell within -/
mutual
theorem under_mono {n m : Nat} (h : n ≤ m) : ∀ {d : D}, D.under n d = true → D.under m d = true
  | .non, _ => rfl
  | .bl _, _ => rfl
  | .int _, _ => rfl
  | .str _, _ => rfl
  | .tup ds, g => by simp only [D.under] at g ⊢; exact unders_mono h g
  | .lst ds, g => by simp only [D.under] at g ⊢; exact unders_mono h g
  | .ref k, g => by simp only [D.under, decide_eq_true_eq] at g ⊢; omega
theorem unders_mono {n m : Nat} (h : n ≤ m) : ∀ {ds : List D}, D.unders n ds = true → D.unders m ds = true
  | [], _ => rfl
  | d :: r, g => by
    simp only [D.unders, Bool.and_eq_true] at g ⊢
    exact ⟨under_mono h g.1, unders_mono h g.2⟩
end
theorem fin_u {S0 S1 : Store} {d : D} (hk : keepB S0 S1 = true) (hd : D.under 0 d = true) : fin S0 d S1 = (d, S1.take S0.length) := by
  have h : D.under S0.length d = true := under_mono (Nat.zero_le _) hd
  cases d with
  | ref n => simp [D.under] at hd
  | _ => simp only [fin, hk, h, if_true]
theorem fin_x {S X : Store} {d : D} (hd : D.under 0 d = true) : fin S d (S ++ X) = (d, S) := by
  rw [fin_u (keepB_pre S X) hd]; simp
theorem fin_x0 {S : Store} {d : D} (hd : D.under 0 d = true) : fin S d S = (d, S) := by
  have := fin_x (S := S) (X := []) hd
  rwa [List.append_nil] at this
theorem fin_xl {S X : Store} {ds : List D} {n : Nat} (hg : X[n]? = some (.lst ds)) (hd : D.unders 0 ds = true) : fin S (.ref (S.length + n)) (S ++ X) = (.lst ds, S) := by
  have h2 : (S ++ X)[S.length + n]? = some (.lst ds) := by rw [List.getElem?_append_right (by omega)]; simpa using hg
  simp only [fin, keepB_pre, if_true, h2, unders_mono (Nat.zero_le S.length) hd]
  rw [if_neg (by omega)]
  simp
theorem fin_xl0 {S X : Store} {ds : List D} (hd : D.unders 0 ds = true) : fin S (.ref S.length) (S ++ .lst ds :: X) = (.lst ds, S) := fin_xl (n := 0) rfl hd
/-! ### cells behind a store -/
theorem g_at {S T : Store} {n : Nat} : (S ++ T)[S.length + n]? = T[n]? := by rw [List.getElem?_append_right (by omega)]; simp
theorem g_at0 {S T : Store} : (S ++ T)[S.length]? = T[0]? := g_at (n := 0)
theorem g_set {S T : Store} {n : Nat} {o : O} : (S ++ T).set (S.length + n) o = S ++ T.set n o := by rw [List.set_append_right _ _ (by omega)]; simp
theorem g_set0 {S T : Store} {o : O} : (S ++ T).set S.length o = S ++ T.set 0 o := g_set (n := 0)
/-! ### operations by their form -/
theorem m_non {S : Store} : mat .non S = (.non, S) := rfl
theorem m_bl {S : Store} {b : Bool} : mat (.bl b) S = (.bl b, S) := rfl
theorem m_int {S : Store} {b : Int} : mat (.int b) S = (.int b, S) := rfl
theorem m_str {S : Store} {b : Str} : mat (.str b) S = (.str b, S) := rfl
theorem m_tup {S : Store} {b : List D} : mat (.tup b) S = (.tup b, S) := rfl
theorem m_ref {S : Store} {b : Nat} : mat (.ref b) S = (.ref b, S) := rfl
theorem m_lst {S : Store} {b : List D} : mat (.lst b) S = (.ref S.length, S ++ [.lst b]) := rfl
theorem at0 {α : Type} {x : α} {xs : List α} : L2.atI (x :: xs) 0 = some x := by simp [L2.atI, L2.ixN]
theorem at1 {α : Type} {x y : α} {xs : List α} : L2.atI (x :: y :: xs) 1 = some y := by
  unfold L2.atI L2.ixN; rw [if_pos (by omega), if_pos (by simp only [List.length_cons]; omega)]; rfl
theorem at2 {α : Type} {x y z : α} {xs : List α} : L2.atI (x :: y :: z :: xs) 2 = some z := by
  unfold L2.atI L2.ixN; rw [if_pos (by omega), if_pos (by simp only [List.length_cons]; omega)]; rfl
theorem at3 {α : Type} {x y z w : α} {xs : List α} : L2.atI (x :: y :: z :: w :: xs) 3 = some w := by
  unfold L2.atI L2.ixN; rw [if_pos (by omega), if_pos (by simp only [List.length_cons]; omega)]; rfl
theorem at4 {α : Type} {x y z w v : α} {xs : List α} : L2.atI (x :: y :: z :: w :: v :: xs) 4 = some v := by
  unfold L2.atI L2.ixN; rw [if_pos (by omega), if_pos (by simp only [List.length_cons]; omega)]; rfl
theorem at5 {α : Type} {x y z w v u : α} {xs : List α} : L2.atI (x :: y :: z :: w :: v :: u :: xs) 5 = some u := by
  unfold L2.atI L2.ixN; rw [if_pos (by omega), if_pos (by simp only [List.length_cons]; omega)]; rfl
theorem i_tup {S : Store} {ds : List D} {i : Int} : idxS S (.tup ds) (.int i) = L2.atI ds i := by simp only [idxS, seqOf]
theorem i_lst {S : Store} {ds : List D} {i : Int} : idxS S (.lst ds) (.int i) = L2.atI ds i := by simp only [idxS, seqOf]
theorem i_ref {S : Store} {n : Nat} {ds : List D} {i : Int} (h : cellL S n = some ds) : idxS S (.ref n) (.int i) = L2.atI ds i := by simp only [idxS, seqOf, h]
theorem cutD {α : Type} (xs : List α) (n : Nat) : cut xs (some (n : Int)) none = xs.drop n := by
  unfold cut
  rw [show HT.sIx xs.length 0 (some (n : Int)) = min n xs.length from HT.sIx_nat _ _ _, show HT.sIx xs.length xs.length none = xs.length from rfl]
  rw [List.take_of_length_le (by simp only [List.length_drop]; omega)]
  by_cases h : n ≤ xs.length
  · rw [Nat.min_eq_left h]
  · rw [Nat.min_eq_right (by omega), List.drop_length, List.drop_of_length_le (by omega)]
theorem cut1 {α : Type} {x : α} {xs : List α} : cut (x :: xs) (some 1) none = xs := cutD (x :: xs) 1
theorem sl_tup {S : Store} {ds : List D} {lo hi : Option Int} : slcS S (.tup ds) lo hi = some (.tup (cut ds lo hi)) := rfl
theorem sl_lst {S : Store} {ds : List D} {lo hi : Option Int} : slcS S (.lst ds) lo hi = some (.lst (cut ds lo hi)) := rfl
theorem sl_ref {S : Store} {n : Nat} {ds : List D} {lo hi : Option Int} (h : cellL S n = some ds) : slcS S (.ref n) lo hi = some (.lst (cut ds lo hi)) := by simp only [slcS, lstOf, h]
theorem q_tup {S : Store} {ds : List D} : seqOf S (.tup ds) = some ds := rfl
theorem q_lst {S : Store} {ds : List D} : seqOf S (.lst ds) = some ds := rfl
theorem q_ref {S : Store} {n : Nat} : seqOf S (.ref n) = cellL S n := rfl
theorem l_lst {S : Store} {ds : List D} : lstOf S (.lst ds) = some ds := rfl
theorem l_ref {S : Store} {n : Nat} : lstOf S (.ref n) = cellL S n := rfl
theorem cell_of {S : Store} {n : Nat} {ds : List D} (h : S[n]? = some (.lst ds)) : cellL S n = some ds := by simp only [cellL, h]
def cellO : Option O → Option (List D)
  | some (.lst ds) => some ds
  | some (.ro ds) => some ds
  | _ => none
theorem cell_eq {S : Store} {n : Nat} : cellL S n = cellO S[n]? := by
  unfold cellL cellO
  cases S[n]? with
  | none => rfl
  | some o => cases o <;> rfl
theorem cellO_l {ds : List D} : cellO (some (.lst ds)) = some ds := rfl
theorem bi_lenT {S : Store} {ds : List D} : biS .len [.tup ds] S = some (.int ds.length, S) := rfl
theorem bi_lenL {S : Store} {ds : List D} : biS .len [.lst ds] S = some (.int ds.length, S) := rfl
theorem bi_lenR {S : Store} {n : Nat} {ds : List D} (h : cellL S n = some ds) : biS .len [.ref n] S = some (.int ds.length, S) := by simp only [biS, seqOf, h]
theorem bi_tupL {S : Store} {ds : List D} : biS .tuple [.lst ds] S = some (.tup ds, S) := rfl
theorem bi_tupT {S : Store} {ds : List D} : biS .tuple [.tup ds] S = some (.tup ds, S) := rfl
theorem bi_tupR {S : Store} {n : Nat} {ds : List D} (h : cellL S n = some ds) : biS .tuple [.ref n] S = some (.tup ds, S) := by simp only [biS, seqOf, h]
theorem bi_lisT {S : Store} {ds : List D} : biS .list [.tup ds] S = some (.lst ds, S) := rfl
theorem bi_lisL {S : Store} {ds : List D} : biS .list [.lst ds] S = some (.lst ds, S) := rfl
theorem c_not {S : Store} {a b : D} {p : Bool} (h : cmpS S .In a b = some p) : cmpS S .NotIn a b = some (!p) := by
  simp only [cmpS] at h ⊢; rw [h]; rfl
theorem c_in {S : Store} {a : D} {ds : List D} (ha : fl a 63 = true) (hd : fls ds 63 = true) (na : nb a = true) (nd : nbs ds = true) : cmpS S .In a (.tup ds) = some (decide (a ∈ ds)) := inS_nb (b := .tup ds) (S := S) rfl ha hd na nd
theorem c_nin {S : Store} {a : D} {ds : List D} (ha : fl a 63 = true) (hd : fls ds 63 = true) (na : nb a = true) (nd : nbs ds = true) : cmpS S .NotIn a (.tup ds) = some (!decide (a ∈ ds)) := c_not (c_in ha hd na nd)
theorem c_inI {S : Store} {b : D} {i : Int} {ns : List Int} (hs : seqOf S b = some (ns.map D.int)) : cmpS S .In (.int i) b = some (decide (i ∈ ns)) := inS_ints hs
theorem c_ninI {S : Store} {b : D} {i : Int} {ns : List Int} (hs : seqOf S b = some (ns.map D.int)) : cmpS S .NotIn (.int i) b = some (!decide (i ∈ ns)) := c_not (c_inI hs)
theorem k_apd {S : Store} {n : Nat} {ds : List D} {d : D} (h : S[n]? = some (.lst ds)) (hl : ds.length < 16777216) : mtS .append (.ref n) [d] S = some (.non, S.set n (.lst (ds ++ [d]))) := mt_append h (by rw [PySem.sizeLine_eq]; omega)
theorem u_non {n : Nat} : D.under n .non = true := by simp only [D.under]
theorem u_bl {n : Nat} {b : Bool} : D.under n (.bl b) = true := by simp only [D.under]
theorem u_int {n : Nat} {b : Int} : D.under n (.int b) = true := by simp only [D.under]
theorem u_str {n : Nat} {b : Str} : D.under n (.str b) = true := by simp only [D.under]
theorem u_tup {n : Nat} {ds : List D} : D.under n (.tup ds) = D.unders n ds := by simp only [D.under]
theorem u_lst {n : Nat} {ds : List D} : D.under n (.lst ds) = D.unders n ds := by simp only [D.under]
theorem us_nil {n : Nat} : D.unders n [] = true := by simp only [D.unders]
theorem us_cons {n : Nat} {d : D} {ds : List D} : D.unders n (d :: ds) = (D.under n d && D.unders n ds) := by simp only [D.unders]
theorem us_app {n : Nat} : ∀ {ds es : List D}, D.unders n (ds ++ es) = (D.unders n ds && D.unders n es)
  | [], es => by simp only [List.nil_append, us_nil, Bool.true_and]
  | d :: ds, es => by simp only [List.cons_append, us_cons, us_app (ds := ds), Bool.and_assoc]
theorem us_map {n : Nat} {α : Type} {f : α → D} (h : ∀ x, D.under n (f x) = true) : ∀ {l : List α}, D.unders n (l.map f) = true
  | [] => us_nil
  | x :: l => by simp only [List.map_cons, us_cons, h, us_map h (l := l), Bool.and_self]
theorem us_ints {n : Nat} {l : List Int} : D.unders n (l.map D.int) = true := us_map fun _ => u_int
theorem slot0 {x : D} {r : Sl} : slot (some x :: r) 0 = some x := rfl
theorem slotS {x : Option D} {r : Sl} {n : Nat} : slot (x :: r) (n + 1) = slot r n := rfl
end Rf

namespace Rf
open PySem
local macro_rules | `(tactic| walk_at "cond") => `(tactic| first | rfl | assumption | (simp only [decide_eq_true_eq, decide_eq_false_iff_not, Bool.not_eq_true', Bool.not_eq_false', Bool.and_eq_true, Bool.not_true, Bool.not_false]; first | assumption | omega) | (simp [*]; done))
local macro_rules | `(tactic| walk_at "op") => `(tactic| first | exact op_add | exact op_sub | exact op_div ⟨by omega, by omega⟩ | exact op_mod (by omega) | exact cm_gt | exact cm_ge | exact cm_lt | exact cm_le | exact cm_eq | exact cm_ne | exact cm_eqs | exact cm_nes | exact it_tup | exact it_lst | exact bi_len rfl | exact bi_tuple rfl | exact bi_list rfl | rfl | assumption)
local macro_rules | `(tactic| walk_at "ev") => `(tactic| repeat' (first | walk_at "my" | exact ev_var rfl | exact ev_cst | exact em_nil | exact er_nil | exact es_nil | exact pt_nop | apply ev_bin | apply ev_neg | apply ev_cmp | apply ev_chn | apply ev_tup | apply ev_lis | apply ev_call | apply ev_bif | apply ev_rngt | apply ev_rngl | apply ev_mth _ _ (by decide) | apply ev_isi | apply ev_idx | apply ev_slc | apply pt_int rfl | apply er_cons | apply em_cons | apply ev_not | (apply ev_ite_t; (focus walk_at "ev1"); (focus walk_at "cond1")) | (apply ev_ite_f; (focus walk_at "ev1"); (focus walk_at "cond1")) | apply es_asg | apply es_six | apply es_exp | apply es_ret | exact es_retn | (apply es_ift; (focus walk_at "ev1"); (focus walk_at "cond1"); (focus walk_at "ev1")) | (apply es_iff; (focus walk_at "ev1"); (focus walk_at "cond1"); (focus walk_at "ev1")) | (apply es_iftr; (focus walk_at "ev1"); (focus walk_at "cond1"); (focus walk_at "ev1")) | (apply es_iffr; (focus walk_at "ev1"); (focus walk_at "cond1"); (focus walk_at "ev1")) | walk_at "op"))
local macro_rules | `(tactic| walk_at "ev1") => `(tactic| (walk_at "ev"; done))
local macro_rules | `(tactic| walk_at "cond1") => `(tactic| (walk_at "cond"; done))
/-! ### the tape -/
structure Tp where
  a : Int
  l : Int
  t : Int
def tO (tp : Tp) : O := .dic [(Sum.inr (Str.ofString "cells"), .ref 1), (Sum.inr (Str.ofString "at"), .int tp.a), (Sum.inr (Str.ofString "left"), .int tp.l), (Sum.inr (Str.ofString "turn"), .int tp.t)]
/-- the store under a law: the script, the tape's cells, the tape, the rest -/
def St3 (s : List Int) (tp : Tp) (R : Store) : Store := .ro (s.map .int) :: .lst (s.map .int) :: tO tp :: R
section
variable {s : List Int} {tp tp' : Tp} {R X : Store}
theorem kk1 : (Str.ofString "cells" = Str.ofString "at") = False := eq_false (by decide +kernel)
theorem kk2 : (Str.ofString "cells" = Str.ofString "left") = False := eq_false (by decide +kernel)
theorem kk3 : (Str.ofString "cells" = Str.ofString "turn") = False := eq_false (by decide +kernel)
theorem kk4 : (Str.ofString "at" = Str.ofString "left") = False := eq_false (by decide +kernel)
theorem kk5 : (Str.ofString "at" = Str.ofString "turn") = False := eq_false (by decide +kernel)
theorem kk6 : (Str.ofString "left" = Str.ofString "turn") = False := eq_false (by decide +kernel)
theorem kk1' : (Str.ofString "at" = Str.ofString "cells") = False := eq_false (by decide +kernel)
theorem kk2' : (Str.ofString "left" = Str.ofString "cells") = False := eq_false (by decide +kernel)
theorem kk3' : (Str.ofString "turn" = Str.ofString "cells") = False := eq_false (by decide +kernel)
theorem kk4' : (Str.ofString "left" = Str.ofString "at") = False := eq_false (by decide +kernel)
theorem kk5' : (Str.ofString "turn" = Str.ofString "at") = False := eq_false (by decide +kernel)
theorem kk6' : (Str.ofString "turn" = Str.ofString "left") = False := eq_false (by decide +kernel)
theorem six_ok {k : Str} {v : D} {kvs kvs2 : List (L2.Key × D)} (h : dput kvs (Sum.inr k) v = kvs2) (hl : kvs.length < sizeLine) (x y : O) : sixS (.ref 2) (.str k) v (x :: y :: .dic kvs :: R) = some (x :: y :: .dic kvs2 :: R) := by
  simp only [sixS, List.getElem?_cons_succ, List.getElem?_cons_zero, keyOf, hl, if_true, List.set_cons_succ, List.set_cons_zero, h]
theorem t_idx_turn : idxS (St3 s tp R) (.ref 2) (.str (Str.ofString "turn")) = some (.int tp.t) := by simp [idxS, St3, tO, List.find?_cons, kk3, kk5, kk6]
theorem t_idx_left : idxS (St3 s tp R) (.ref 2) (.str (Str.ofString "left")) = some (.int tp.l) := by simp [idxS, St3, tO, List.find?_cons, kk2, kk4]
theorem t_idx_at : idxS (St3 s tp R) (.ref 2) (.str (Str.ofString "at")) = some (.int tp.a) := by simp [idxS, St3, tO, List.find?_cons, kk1]
theorem t_idx_cells : idxS (St3 s tp R) (.ref 2) (.str (Str.ofString "cells")) = some (.ref 1) := by simp [idxS, St3, tO, List.find?_cons]
theorem t_six_turn {v : Int} : sixS (.ref 2) (.str (Str.ofString "turn")) (.int v) (St3 s tp R) = some (St3 s { tp with t := v } R) := by
  refine six_ok ?_ (Nat.lt_of_lt_of_le (show 4 < 5 by decide) (by decide)) _ _
  simp [dput, kk3, kk5, kk6]
theorem t_six_left {v : Int} : sixS (.ref 2) (.str (Str.ofString "left")) (.int v) (St3 s tp R) = some (St3 s { tp with l := v } R) := by
  refine six_ok ?_ (Nat.lt_of_lt_of_le (show 4 < 5 by decide) (by decide)) _ _
  simp [dput, kk2, kk4, kk6']
theorem t_six_at {v : Int} : sixS (.ref 2) (.str (Str.ofString "at")) (.int v) (St3 s tp R) = some (St3 s { tp with a := v } R) := by
  refine six_ok ?_ (Nat.lt_of_lt_of_le (show 4 < 5 by decide) (by decide)) _ _
  simp [dput, kk1, kk4', kk5']
theorem t_cells : cellL (St3 s tp R) 1 = some (s.map .int) := rfl
theorem t_eq_cells : eqS (St3 s tp R) (.ref 1) (.lst []) = some (decide (s = [])) := by
  have e1 : dat (St3 s tp R) deep (.ref 1) = some (.list (pds (s.map .int))) := by
    show dat (St3 s tp R) (69 + 1) (.ref 1) = _
    simp only [dat, t_cells, dats_fl _ (fls_ints s _), Option.map_some]
  have e2 : dat (St3 s tp R) deep (.lst []) = some (.list []) := rfl
  have h1 : SeqAt.shaped (PyData.list (pds (s.map .int))) = true := fl_shaped (d := .lst (s.map .int)) (by simp only [fl]; exact fls_ints s _)
  have h2 : SeqAt.shaped (PyData.list []) = true := by decide
  simp only [eqS, e1, e2, h1, h2, Bool.and_self, if_true, PyData.eqv]
  cases s <;> simp [pds, PyData.eqvAll]
theorem keepB_St3 : keepB (St3 s tp R) (St3 s tp' (R ++ X)) = true := by
  simp only [keepB, List.all_eq_true, List.mem_range, Bool.or_eq_true, decide_eq_true_eq]
  intro i hi
  match i with
  | 0 => left; rfl
  | 1 => left; rfl
  | 2 => right; simp [St3, tO, O.under, D.unders, D.under]
  | i + 3 =>
    left
    simp only [St3, List.length_cons] at hi
    simp only [St3, List.getElem?_cons_succ]
    rw [List.getElem?_append_left (by omega)]
theorem take_St3 : (St3 s tp' (R ++ X)).take (St3 s tp R).length = St3 s tp' R := by
  simp only [St3, List.length_cons, List.take_succ_cons, List.take_left]
theorem fin_St3 {d : D} {n : Nat} (hd : fl d n = true) : fin (St3 s tp R) d (St3 s tp' (R ++ X)) = (d, St3 s tp' R) := by
  rw [fin_flat keepB_St3 hd, take_St3]
theorem fin_St30 {d : D} {n : Nat} (hd : fl d n = true) : fin (St3 s tp R) d (St3 s tp' R) = (d, St3 s tp' R) := by
  have := fin_St3 (s := s) (tp := tp) (tp' := tp') (R := R) (X := []) hd
  rwa [List.append_nil] at this
theorem len_St3 : (St3 s tp R).length = 3 + R.length := by simp only [St3, List.length_cons]; omega
theorem app_St3 : St3 s tp R ++ X = St3 s tp (R ++ X) := rfl
theorem get_St3 {j : Nat} : (St3 s tp R)[3 + j]? = R[j]? := by rw [Nat.add_comm]; rfl
theorem set_St3 {j : Nat} {o : O} : (St3 s tp R).set (3 + j) o = St3 s tp (R.set j o) := by rw [Nat.add_comm]; rfl
end
/-- made by the law's first step -/
def bTape : Sts := .cons (.ret (.dsp [(Sum.inr (Str.ofString "cells")), (Sum.inr (Str.ofString "at")), (Sum.inr (Str.ofString "left")), (Sum.inr (Str.ofString "turn"))] (.cons (.bif .list (.cons (.slc (.var 0) .nop (.cst (.int 63))) .nil)) (.cons (.cst (.int 0)) (.cons (.cst (.int 0)) (.cons (.cst (.int 0)) .nil)))))) .nil
theorem cut_all {α : Type} {xs : List α} (h : xs.length ≤ 63) : cut xs none (some 63) = xs := by
  unfold cut
  have e1 : HT.sIx xs.length 0 none = 0 := rfl
  have e2 : HT.sIx xs.length xs.length (some 63) = min 63 xs.length := HT.sIx_nat _ _ 63
  rw [e1, e2, List.drop_zero, List.take_of_length_le (by omega)]
theorem tape_ev {c : Cl} {F : Nat} {s : List Int} (h : s.length ≤ 63) : evSs c F bTape [some (.ref 0)] [.ro (s.map .int)] = some (.rt (.ref 2), [some (.ref 0)], St3 s ⟨0, 0, 0⟩ []) := by
  have hc : cut (s.map D.int) none (some 63) = s.map D.int := cut_all (by rw [List.length_map]; exact h)
  have hd : [((Sum.inr (Str.ofString "cells") : L2.Key), D.ref 1), (Sum.inr (Str.ofString "at"), D.int 0), (Sum.inr (Str.ofString "left"), D.int 0), (Sum.inr (Str.ofString "turn"), D.int 0)].foldl (fun acc kv => dput acc kv.1 kv.2) [] = [((Sum.inr (Str.ofString "cells") : L2.Key), D.ref 1), (Sum.inr (Str.ofString "at"), D.int 0), (Sum.inr (Str.ofString "left"), D.int 0), (Sum.inr (Str.ofString "turn"), D.int 0)] := by
    simp [dput, kk1, kk2, kk3, kk4, kk5, kk6]
  unfold bTape
  refine es_rt (st_ret ?_)
  have := ev_dsp (c := c) (r := [some (.ref 0)]) (S := [.ro (s.map .int)]) (ks := [(Sum.inr (Str.ofString "cells")), (Sum.inr (Str.ofString "at")), (Sum.inr (Str.ofString "left")), (Sum.inr (Str.ofString "turn"))])
    (as := .cons (.bif .list (.cons (.slc (.var 0) .nop (.cst (.int 63))) .nil)) (.cons (.cst (.int 0)) (.cons (.cst (.int 0)) (.cons (.cst (.int 0)) .nil))))
    (ds := [.ref 1, .int 0, .int 0, .int 0]) (S1 := [.ro (s.map .int), .lst (cut (s.map D.int) none (some 63))]) (by walk_at "ev") rfl
  rw [hc] at this
  rw [this]
  simp only [List.zip_cons_cons, List.zip_nil_right]
  rw [hd]
  rfl
theorem tape_fin {s : List Int} : fin [.ro (s.map .int)] (.ref 2) (St3 s ⟨0, 0, 0⟩ []) = (.ref 2, St3 s ⟨0, 0, 0⟩ []) := by
  have hk : keepB [.ro (s.map .int)] (St3 s ⟨0, 0, 0⟩ []) = true := keepB_pre [.ro (s.map .int)] [.lst (s.map .int), tO ⟨0, 0, 0⟩]
  unfold fin
  rw [if_pos hk]
  rfl
theorem tape_run {fns : List Fn} {F k i : Nat} {s : List Int} (h : fns[i]? = some ⟨1, 1, bTape⟩) (hs : s.length ≤ 63) : run fns F (k + 1) i [.ref 0] [.ro (s.map .int)] = some (.ref 2, St3 s ⟨0, 0, 0⟩ []) := by
  rw [run_of h rfl (tape_ev hs), tape_fin]
def bDraw : Sts :=
    (.cons (.asg (.nm 2) (.bin .Add (.idx (.var 0) (.cst (.str (Str.ofString "turn")))) (.cst (.int 1))))
    (.cons (.six (.var 0) (.cst (.str (Str.ofString "turn"))) (.var 2))
    (.cons (.ife (.cmp .Gt (.idx (.var 0) (.cst (.str (Str.ofString "left")))) (.cst (.int 0))) (.cons (.asg (.nm 3) (.bin .Mod (.idx (.var 0) (.cst (.str (Str.ofString "left")))) (.var 1)))
    (.cons (.six (.var 0) (.cst (.str (Str.ofString "left"))) (.bin .FloorDiv (.idx (.var 0) (.cst (.str (Str.ofString "left")))) (.var 1)))
    (.cons (.ret (.var 3))
    .nil))) .nil)
    (.cons (.asg (.nm 4) (.idx (.var 0) (.cst (.str (Str.ofString "cells")))))
    (.cons (.asg (.nm 5) (.ite (.cmp .NotEq (.var 4) (.lis .nil)) (.idx (.var 4) (.bin .Mod (.idx (.var 0) (.cst (.str (Str.ofString "at")))) (.bif .len (.cons (.var 4) .nil)))) (.cst (.int 0))))
    (.cons (.six (.var 0) (.cst (.str (Str.ofString "at"))) (.bin .Add (.idx (.var 0) (.cst (.str (Str.ofString "at")))) (.cst (.int 1))))
    (.cons (.ife (.and (.cmp .GtE (.var 5) (.bin .Pow (.cst (.int 10)) (.cst (.int 18)))) (.cmp .LtE (.idx (.var 0) (.cst (.str (Str.ofString "at")))) (.bif .len (.cons (.var 4) .nil)))) (.cons (.six (.var 0) (.cst (.str (Str.ofString "left"))) (.bin .FloorDiv (.var 5) (.var 1)))
    (.cons (.ret (.bin .Mod (.var 5) (.var 1)))
    .nil)) .nil)
    (.cons (.asg (.nm 6) (.bin .Mod (.bin .Pow (.bin .Add (.bin .Mod (.var 5) (.cst (.int 2147483647))) (.bin .Mult (.cst (.int 7919)) (.var 2))) (.cst (.int 5))) (.cst (.int 2147483647))))
    (.cons (.asg (.nm 6) (.bin .Mod (.bin .Pow (.bin .Add (.bin .Mult (.var 6) (.bin .Add (.bin .Mult (.cst (.int 2)) (.var 2)) (.cst (.int 1)))) (.var 2)) (.cst (.int 3))) (.cst (.int 2147483629))))
    (.cons (.ret (.bin .Mod (.bin .FloorDiv (.var 6) (.cst (.int 64))) (.var 1)))
    .nil))))))))))
local macro_rules | `(tactic| walk_at "my") => `(tactic| first | exact t_idx_turn | exact t_idx_left | exact t_idx_at | exact t_idx_cells | exact t_six_turn | exact t_six_left | exact t_six_at)
theorem t_ne_cells {s : List Int} {tp : Tp} {R : Store} : cmpS (St3 s tp R) .NotEq (.ref 1) (.lst []) = some (!decide (s = [])) := by
  show (eqS (St3 s tp R) (.ref 1) (.lst [])).map (!·) = _
  rw [t_eq_cells]; rfl
theorem t_len_cells {s : List Int} {tp : Tp} {R : Store} : biS .len [.ref 1] (St3 s tp R) = some (.int (s.length : Int), St3 s tp R) := by
  rw [bi_len (a := .ref 1) (S := St3 s tp R) (ds := s.map .int) rfl, List.length_map]
theorem nat_mod {a b : Int} (h : 0 < b) : 0 ≤ a % b ∧ a % b < b := ⟨Int.emod_nonneg _ (by omega), Int.emod_lt_of_pos _ h⟩
/-- what a draw tells -/
def Drawn (s : List Int) (R : Store) (m t : Int) (f : Fl) (S' : Store) : Prop := ∃ n tp', f = .rt (.int n) ∧ S' = St3 s tp' R ∧ 0 ≤ n ∧ n < m ∧ tp'.t = t ∧ 0 ≤ tp'.a
theorem draw_tail {c : Cl} {F : Nat} {s : List Int} {tp : Tp} {R : Store} {m cell t : Int} {y3 y6 : Option D} (hm : 0 < m) (hm2 : m < 1073741824) (ht : 0 ≤ t) (ht2 : t ≤ 1073741824) (htt : tp.t = t) (ha : 0 ≤ tp.a) :
    Wp (evSs c F (.cons (.asg (.nm 6) (.bin .Mod (.bin .Pow (.bin .Add (.bin .Mod (.var 5) (.cst (.int 2147483647))) (.bin .Mult (.cst (.int 7919)) (.var 2))) (.cst (.int 5))) (.cst (.int 2147483647))))
    (.cons (.asg (.nm 6) (.bin .Mod (.bin .Pow (.bin .Add (.bin .Mult (.var 6) (.bin .Add (.bin .Mult (.cst (.int 2)) (.var 2)) (.cst (.int 1)))) (.var 2)) (.cst (.int 3))) (.cst (.int 2147483629))))
    (.cons (.ret (.bin .Mod (.bin .FloorDiv (.var 6) (.cst (.int 64))) (.var 1)))
    .nil))) [some (.ref 2), some (.int m), some (.int t), y3, some (.ref 1), some (.int cell), y6] (St3 s tp R)) fun f _ S' => Drawn s R m t f S' := by
  have h1 := nat_mod (a := cell) (b := 2147483647) (by omega)
  have p1 : ∀ S : Store, binS S .Pow (.int (cell % 2147483647 + 7919 * t)) (.int 5) = some (.int ((cell % 2147483647 + 7919 * t) ^ 5)) := fun S => op_pow (n := 5) (by omega) (by omega)
  have h2 := nat_mod (a := (cell % 2147483647 + 7919 * t) ^ 5) (b := 2147483647) (by omega)
  have hx : 0 ≤ (cell % 2147483647 + 7919 * t) ^ 5 % 2147483647 * (2 * t + 1) := Int.mul_nonneg h2.1 (by omega)
  have hy : (cell % 2147483647 + 7919 * t) ^ 5 % 2147483647 * (2 * t + 1) ≤ 2147483647 * 2147483649 := Int.mul_le_mul (by omega) (by omega) (by omega) (by omega)
  have p2 : ∀ S : Store, binS S .Pow (.int ((cell % 2147483647 + 7919 * t) ^ 5 % 2147483647 * (2 * t + 1) + t)) (.int 3) = some (.int (((cell % 2147483647 + 7919 * t) ^ 5 % 2147483647 * (2 * t + 1) + t) ^ 3)) := fun S => op_pow (n := 3) (by omega) (by omega)
  have q1 : ∀ S : Store, binS S .Mult (.int 7919) (.int t) = some (.int (7919 * t)) := fun S => op_mul ⟨by omega, by omega⟩
  have q2 : ∀ S : Store, binS S .Mult (.int 2) (.int t) = some (.int (2 * t)) := fun S => op_mul ⟨by omega, by omega⟩
  have q3 : ∀ S : Store, binS S .Mult (.int ((cell % 2147483647 + 7919 * t) ^ 5 % 2147483647)) (.int (2 * t + 1)) = some (.int ((cell % 2147483647 + 7919 * t) ^ 5 % 2147483647 * (2 * t + 1))) := fun S => op_mul ⟨by omega, by omega⟩
  exact Wp.of (es_asg (ev_bin (ev_bin (ev_bin (ev_bin (ev_var rfl) ev_cst (op_mod (by omega))) (ev_bin ev_cst (ev_var rfl) (q1 _)) op_add) ev_cst (p1 _)) ev_cst (op_mod (by omega))) rfl rfl <|
    es_asg (ev_bin (ev_bin (ev_bin (ev_bin (ev_var rfl) (ev_bin (ev_bin ev_cst (ev_var rfl) (q2 _)) ev_cst op_add) (q3 _)) (ev_var rfl) op_add) ev_cst (p2 _)) ev_cst (op_mod (by omega))) rfl rfl <|
    es_ret (ev_bin (ev_bin (ev_var rfl) ev_cst (op_div ⟨by omega, by omega⟩)) (ev_var rfl) (op_mod hm))) ⟨_, tp, rfl, rfl, (nat_mod hm).1, (nat_mod hm).2, htt, ha⟩
theorem draw_mid {c : Cl} {F : Nat} {s : List Int} {tp : Tp} {R : Store} {m cell t : Int} {y3 y6 : Option D} (hm : 0 < m) (hm2 : m < 1073741824) (ht : 0 ≤ t) (ht2 : t ≤ 1073741824) (htt : tp.t = t) (ha : 0 ≤ tp.a) :
    Wp (evSs c F (.cons (.six (.var 0) (.cst (.str (Str.ofString "at"))) (.bin .Add (.idx (.var 0) (.cst (.str (Str.ofString "at")))) (.cst (.int 1))))
    (.cons (.ife (.and (.cmp .GtE (.var 5) (.bin .Pow (.cst (.int 10)) (.cst (.int 18)))) (.cmp .LtE (.idx (.var 0) (.cst (.str (Str.ofString "at")))) (.bif .len (.cons (.var 4) .nil)))) (.cons (.six (.var 0) (.cst (.str (Str.ofString "left"))) (.bin .FloorDiv (.var 5) (.var 1)))
    (.cons (.ret (.bin .Mod (.var 5) (.var 1)))
    .nil)) .nil)
    (.cons (.asg (.nm 6) (.bin .Mod (.bin .Pow (.bin .Add (.bin .Mod (.var 5) (.cst (.int 2147483647))) (.bin .Mult (.cst (.int 7919)) (.var 2))) (.cst (.int 5))) (.cst (.int 2147483647))))
    (.cons (.asg (.nm 6) (.bin .Mod (.bin .Pow (.bin .Add (.bin .Mult (.var 6) (.bin .Add (.bin .Mult (.cst (.int 2)) (.var 2)) (.cst (.int 1)))) (.var 2)) (.cst (.int 3))) (.cst (.int 2147483629))))
    (.cons (.ret (.bin .Mod (.bin .FloorDiv (.var 6) (.cst (.int 64))) (.var 1)))
    .nil))))) [some (.ref 2), some (.int m), some (.int t), y3, some (.ref 1), some (.int cell), y6] (St3 s tp R)) fun f _ S' => Drawn s R m t f S' := by
  have hp : ∀ S : Store, binS S .Pow (.int 10) (.int 18) = some (.int (10 ^ 18)) := fun S => op_pow (n := 18) (i := 10) (by omega) (by omega)
  have hc : evE c (.and (.cmp .GtE (.var 5) (.bin .Pow (.cst (.int 10)) (.cst (.int 18)))) (.cmp .LtE (.idx (.var 0) (.cst (.str (Str.ofString "at")))) (.bif .len (.cons (.var 4) .nil)))) [some (.ref 2), some (.int m), some (.int t), y3, some (.ref 1), some (.int cell), y6] (St3 s { tp with a := tp.a + 1 } R) = some (.bl (decide ((10 : Int) ^ 18 ≤ cell) && decide (tp.a + 1 ≤ (s.length : Int))), St3 s { tp with a := tp.a + 1 } R) :=
    ev_and (ev_cmp (ev_var rfl) (ev_bin ev_cst ev_cst (hp _)) cm_ge) fun _ => ev_cmp (ev_idx (ev_var rfl) ev_cst t_idx_at) (ev_bif (er_cons (ev_var rfl) er_nil) t_len_cells) cm_le
  by_cases hb : (decide ((10 : Int) ^ 18 ≤ cell) && decide (tp.a + 1 ≤ (s.length : Int))) = true
  · exact Wp.of (es_six (ev_bin (ev_idx (ev_var rfl) ev_cst t_idx_at) ev_cst op_add) rfl (ev_var rfl) ev_cst t_six_at <|
      es_iftr hc hb <|
      es_six (ev_bin (ev_var rfl) (ev_var rfl) (op_div ⟨hm, hm2⟩)) rfl (ev_var rfl) ev_cst t_six_left <|
      es_ret (ev_bin (ev_var rfl) (ev_var rfl) (op_mod hm))) ⟨_, _, rfl, rfl, (nat_mod hm).1, (nat_mod hm).2, htt, show 0 ≤ tp.a + 1 by omega⟩
  · obtain ⟨f, σ, S', h, q⟩ := draw_tail (c := c) (F := F) (s := s) (tp := { tp with a := tp.a + 1 }) (R := R) (m := m) (cell := cell) (t := t) (y3 := y3) (y6 := y6) hm hm2 ht ht2 htt (show 0 ≤ tp.a + 1 by omega)
    exact Wp.of (es_six (ev_bin (ev_idx (ev_var rfl) ev_cst t_idx_at) ev_cst op_add) rfl (ev_var rfl) ev_cst t_six_at <|
      es_iff hc (Bool.eq_false_iff.mpr hb) es_nil h) q
theorem draw_ev {c : Cl} {F : Nat} {s : List Int} {tp : Tp} {R : Store} {m : Int} (hm : 0 < m) (hm2 : m < 1073741824) (ht : 0 ≤ tp.t) (ht2 : tp.t < 1073741824) (ha : 0 ≤ tp.a) :
    Wp (evSs c F bDraw [some (.ref 2), some (.int m), none, none, none, none, none] (St3 s tp R)) fun f _ S' => Drawn s R m (tp.t + 1) f S' := by
  unfold bDraw
  have hleft : evE c (.cmp .Gt (.idx (.var 0) (.cst (.str (Str.ofString "left")))) (.cst (.int 0))) [some (.ref 2), some (.int m), some (.int (tp.t + 1)), none, none, none, none] (St3 s { tp with t := tp.t + 1 } R) = some (.bl (decide (0 < tp.l)), St3 s { tp with t := tp.t + 1 } R) :=
    ev_cmp (ev_idx (ev_var rfl) ev_cst t_idx_left) ev_cst cm_gt
  by_cases hl : 0 < tp.l
  · exact Wp.of (es_asg (ev_bin (ev_idx (ev_var rfl) ev_cst t_idx_turn) ev_cst op_add) rfl rfl <|
      es_six (ev_var rfl) rfl (ev_var rfl) ev_cst t_six_turn <|
      es_iftr hleft (decide_eq_true hl) <|
      es_asg (ev_bin (ev_idx (ev_var rfl) ev_cst t_idx_left) (ev_var rfl) (op_mod hm)) rfl rfl <|
      es_six (ev_bin (ev_idx (ev_var rfl) ev_cst t_idx_left) (ev_var rfl) (op_div ⟨hm, hm2⟩)) rfl (ev_var rfl) ev_cst t_six_left <|
      es_ret (ev_var rfl)) ⟨_, _, rfl, rfl, (nat_mod hm).1, (nat_mod hm).2, rfl, ha⟩
  · have cell : ∃ x : Int, evE c (.ite (.cmp .NotEq (.var 4) (.lis .nil)) (.idx (.var 4) (.bin .Mod (.idx (.var 0) (.cst (.str (Str.ofString "at")))) (.bif .len (.cons (.var 4) .nil)))) (.cst (.int 0))) [some (.ref 2), some (.int m), some (.int (tp.t + 1)), none, some (.ref 1), none, none] (St3 s { tp with t := tp.t + 1 } R) = some (.int x, St3 s { tp with t := tp.t + 1 } R) := by
      by_cases hs : s = []
      · exact ⟨0, ev_ite_f (ev_cmp (ev_var rfl) (ev_lis em_nil) t_ne_cells) (by simp [hs]) ev_cst⟩
      · have hlen : 0 < (s.length : Int) := by have := List.length_pos_iff.mpr hs; omega
        have hr := nat_mod (a := tp.a) hlen
        have hat : L2.atI (s.map D.int) (tp.a % (s.length : Int)) = some (.int (s[(tp.a % (s.length : Int)).toNat]'(by omega))) := by
          rw [atI_some hr.1 (by rw [List.length_map]; exact hr.2), List.getElem_map]
        exact ⟨_, ev_ite_t (ev_cmp (ev_var rfl) (ev_lis em_nil) t_ne_cells) (by simp [hs]) (ev_idx (ev_var rfl) (ev_bin (ev_idx (ev_var rfl) ev_cst t_idx_at) (ev_bif (er_cons (ev_var rfl) er_nil) t_len_cells) (op_mod hlen)) (ix_seq (ds := s.map .int) rfl hat))⟩
    obtain ⟨x, hx⟩ := cell
    obtain ⟨f, σ, S', h, q⟩ := draw_mid (c := c) (F := F) (s := s) (tp := { tp with t := tp.t + 1 }) (R := R) (m := m) (cell := x) (t := tp.t + 1) (y3 := none) (y6 := none) hm hm2 (by omega) (by omega) rfl ha
    exact Wp.of (es_asg (ev_bin (ev_idx (ev_var rfl) ev_cst t_idx_turn) ev_cst op_add) rfl rfl <|
      es_six (ev_var rfl) rfl (ev_var rfl) ev_cst t_six_turn <|
      es_iff hleft (decide_eq_false hl) es_nil <|
      es_asg (ev_idx (ev_var rfl) ev_cst t_idx_cells) rfl rfl <|
      es_asg hx rfl rfl h) q
/-- a draw, called -/
theorem w_draw {fns : List Fn} {F k i : Nat} {s : List Int} {tp : Tp} {R : Store} {m : Int} {Q : D → Store → Prop} (h : fns[i]? = some ⟨2, 7, bDraw⟩) (hm : 0 < m) (hm2 : m < 1073741824) (ht : 0 ≤ tp.t) (ht2 : tp.t < 1073741824) (ha : 0 ≤ tp.a)
    (q : ∀ n tp', 0 ≤ n → n < m → tp'.t = tp.t + 1 → 0 ≤ tp'.a → Q (.int n) (St3 s tp' R)) : WpE (run fns F (k + 1) i [.ref 2, .int m] (St3 s tp R)) Q := by
  refine w_run h rfl ((draw_ev hm hm2 ht ht2 ha).mono fun f _ S' hD => ?_)
  obtain ⟨n, tp', rfl, rfl, h0, h1, h2, h3⟩ := hD
  simp only [fin_St30 (d := .int n) (n := 0) rfl]
  exact q n tp' h0 h1 h2 h3
end Rf

namespace Rf
open PySem
/-! ### sorting by hand -/
section
variable {α : Type} {le : α → α → Bool}
def insA (le : α → α → Bool) (x : α) (l : List α) : List α := l.take (l.filter fun y => !le x y).length ++ [x] ++ l.drop (l.filter fun y => !le x y).length
def isA (le : α → α → Bool) : List α → List α → List α
  | acc, [] => acc
  | acc, x :: r => isA le (insA le x acc) r
theorem insA_perm (x : α) (l : List α) : (insA le x l).Perm (x :: l) := by
  unfold insA
  refine (List.perm_append_comm.append_right _).trans ?_
  rw [List.append_assoc, List.take_append_drop]
  exact .refl _
theorem cut_rising (tr : ∀ a b c : α, le a b = true → le b c = true → le a c = true) (x : α) : ∀ l : List α, l.Pairwise (fun a b => le a b = true) →
    (∀ y ∈ l.take (l.filter fun y => !le x y).length, le x y = false) ∧ (∀ y ∈ l.drop (l.filter fun y => !le x y).length, le x y = true)
  | [], _ => by simp
  | a :: t, h => by
    obtain ⟨h1, h2⟩ := List.pairwise_cons.mp h
    have ih := cut_rising tr x t h2
    by_cases hx : le x a = true
    · have e : t.filter (fun y => !le x y) = [] := by
        rw [List.filter_eq_nil_iff]
        intro b hb
        simp [tr x a b hx (h1 b hb)]
      simp only [List.filter_cons, hx, e, Bool.not_true]
      refine ⟨by simp, ?_⟩
      intro y hy
      have hy' : y ∈ a :: t := by simpa using hy
      cases hy' with
      | head => exact hx
      | tail _ hy' => exact tr x a y hx (h1 y hy')
    · have hx' : le x a = false := Bool.eq_false_iff.mpr hx
      simp only [List.filter_cons, hx', Bool.not_false, if_true, List.length_cons, List.take_succ_cons, List.drop_succ_cons]
      refine ⟨?_, ih.2⟩
      intro y hy
      cases hy with
      | head => exact hx'
      | tail _ hy' => exact ih.1 y hy'
theorem insA_rising (tr : ∀ a b c : α, le a b = true → le b c = true → le a c = true) (tt : ∀ a b : α, (le a b || le b a) = true) (x : α) {l : List α} (h : l.Pairwise (fun a b => le a b = true)) : (insA le x l).Pairwise (fun a b => le a b = true) := by
  obtain ⟨h1, h2⟩ := cut_rising tr x l h
  have hl : ∀ y ∈ l.take (l.filter fun y => !le x y).length, le y x = true := fun y hy => by
    have := tt x y
    rw [h1 y hy] at this
    simpa using this
  unfold insA
  rw [List.append_assoc, List.pairwise_append]
  refine ⟨h.sublist (List.take_sublist _ _), ?_, ?_⟩
  · rw [List.singleton_append, List.pairwise_cons]
    exact ⟨h2, h.sublist (List.drop_sublist _ _)⟩
  · intro a ha b hb
    rw [List.singleton_append] at hb
    cases hb with
    | head => exact hl a ha
    | tail _ hb => exact tr a x b (hl a ha) (h2 b hb)
theorem isA_perm : ∀ (l acc : List α), (isA le acc l).Perm (acc ++ l)
  | [], acc => by simp [isA]
  | x :: r, acc => by
    simp only [isA]
    refine (isA_perm r _).trans ?_
    refine ((insA_perm x acc).append_right r).trans ?_
    rw [List.cons_append]
    exact List.perm_middle.symm
theorem isA_rising (tr : ∀ a b c : α, le a b = true → le b c = true → le a c = true) (tt : ∀ a b : α, (le a b || le b a) = true) : ∀ (l acc : List α), acc.Pairwise (fun a b => le a b = true) → (isA le acc l).Pairwise (fun a b => le a b = true)
  | [], _, h => h
  | x :: r, acc, h => isA_rising tr tt r _ (insA_rising tr tt x h)
theorem isA_sort (as : ∀ a b, le a b = true → le b a = true → a = b) (tr : ∀ a b c : α, le a b = true → le b c = true → le a c = true) (tt : ∀ a b : α, (le a b || le b a) = true) (l : List α) : l.mergeSort le = isA le [] l :=
  sort_eq as (isA_rising tr tt l [] .nil) (by have := isA_perm (le := le) l []; rw [List.nil_append] at this; exact this.symm) tr tt
/-- the law's own sorting -/
def bSorted : Sts :=
    (.cons (.asg (.nm 1) (.lis .nil))
    (.cons (.forr .seq (.cons (.var 0) .nil) (.nm 2) (.cons (.asg (.nm 3) (.bif .len (.cons (.lc .seq (.cons (.var 1) .nil) (.nm 4) [4] (.cmp .Lt (.var 4) (.var 2)) (.var 4)) .nil)))
    (.cons (.exp (.mth .insert (.var 1) (.cons (.var 3) (.cons (.var 2) .nil))))
    .nil)))
    (.cons (.ret (.bif .tuple (.cons (.var 1) .nil)))
    .nil)))
theorem cell_app {S : Store} {o : O} {X : Store} : (S ++ o :: X)[S.length]? = some o := by simp
theorem cell_pre {S X : Store} {n : Nat} {ds : List D} (h : cellL S n = some ds) : cellL (S ++ X) n = some ds := by
  unfold cellL at h ⊢
  cases hs : S[n]? with
  | none => rw [hs] at h; cases h
  | some o =>
    rw [List.getElem?_append_left (List.getElem?_eq_some_iff.mp hs).1, hs]
    rw [hs] at h
    exact h
theorem bSorted_ev {c : Cl} {F : Nat} {S : Store} {n : Nat} {e : α → D} {xs : List α} (hc : cellL S n = some (xs.map e)) (hlen : xs.length ≤ 1000000)
    (hlt : ∀ (S : Store) a b, cmpS S .Lt (e a) (e b) = some (!le b a)) (hm : ∀ S a, mat (e a) S = (e a, S)) :
    Wp (evSs c F bSorted [some (.ref n), none, none, none, none] S) fun f _ S' => f = .rt (.tup ((isA le [] xs).map e)) ∧ ∃ X, S' = S ++ X := by
  unfold bSorted
  have hlt' : n < S.length := by
    unfold cellL at hc
    cases hs : S[n]? with
    | none => rw [hs] at hc; cases hc
    | some o => exact (List.getElem?_eq_some_iff.mp hs).1
  refine w_asg (.of (ev_lis em_nil) ⟨_, _, _, rfl, rfl, ?_⟩)
  refine w_for (.of (er_cons (ev_var rfl) er_nil) ⟨_, _, it_ref (cell_pre hc), ?_⟩)
  refine forL_wp (fun rest σ S' => ∃ done todo y2 y3, rest = todo.map e ∧ S' = S ++ [.lst ((isA le [] done).map e)] ∧ σ = [some (.ref n), some (.ref S.length), y2, y3, none] ∧ xs = done ++ todo) ?_ ?_ ⟨[], xs, none, none, rfl, rfl, rfl, rfl⟩
  · rintro d rest σ S' ⟨done, todo, y2, y3, h1, rfl, rfl, h4⟩
    cases todo with
    | nil => cases h1
    | cons x todo =>
      cases h1
      refine ⟨watch_one (cell_pre hc), _, rfl, ?_⟩
      have hcell : (S ++ [O.lst ((isA le [] done).map e)])[S.length]? = some (.lst ((isA le [] done).map e)) := cell_app
      have hcl : cellL (S ++ [O.lst ((isA le [] done).map e)]) S.length = some ((isA le [] done).map e) := by unfold cellL; rw [hcell]
      have hL : (isA le [] done).length ≤ 1000000 := by
        have := (isA_perm (le := le) done []).length_eq
        rw [this, List.nil_append]
        rw [h4, List.length_append] at hlen
        omega
      refine Wp.of (es_asg (ev_bif (er_cons (ev_lcf (g := e) (p := fun y => !le x y) (er_cons (ev_var rfl) er_nil) (it_ref hcl) (watch_one hcl) (fun y _ => lcB_if rfl (ev_cmp (ev_var rfl) (ev_var rfl) (hlt _ _ _)) (fun _ => ev_var rfl) (hm _ _))) er_nil) (bi_len rfl)) rfl rfl <|
        es_exp (ev_mth (ev_var rfl) (by simp only [lstOf, hcl, Option.isSome_some]) (by decide) (em_cons (ev_var rfl) rfl (em_cons (ev_var rfl) (hm _ _) em_nil)) (mt_insert hcell (by rw [List.length_map]; exact Nat.lt_of_le_of_lt hL (by decide)) (by omega) ?_)) es_nil) ?_
      · have : (List.filter (fun y => !le x y) (isA le [] done)).length ≤ (isA le [] done).length := List.length_filter_le _ _
        rw [List.length_map]
        omega
      · refine ⟨done ++ [x], todo, some (e x), _, rfl, ?_, rfl, by rw [h4, List.append_assoc]; rfl⟩
        have e2 : isA le [] (done ++ [x]) = insA le x (isA le [] done) := by
          have : ∀ acc : List α, isA le acc (done ++ [x]) = insA le x (isA le acc done) := by
            clear h4 hL hcl hcell
            induction done with
            | nil => intro acc; rfl
            | cons a t ih => intro acc; exact ih _
          exact this []
        rw [e2, List.set_append_right _ _ (Nat.le_refl _), Nat.sub_self, List.set_cons_zero, List.length_map, Int.toNat_natCast]
        unfold insA
        rw [List.map_append, List.map_append, List.map_take, List.map_drop]
        rfl
  · rintro σ S' ⟨done, todo, y2, y3, h1, rfl, rfl, h4⟩
    have ht : todo = [] := by cases todo with | nil => rfl | cons _ _ => cases h1
    subst ht
    rw [List.append_nil] at h4
    subst h4
    refine ⟨watch_one (cell_pre hc), .inl ⟨rfl, ?_⟩⟩
    have hcl : seqOf (S ++ [O.lst ((isA le [] xs).map e)]) (.ref S.length) = some ((isA le [] xs).map e) := by simp only [seqOf, cellL, cell_app]
    exact Wp.of (es_ret (ev_bif (er_cons (ev_var rfl) er_nil) (bi_tuple hcl))) ⟨rfl, _, rfl⟩
end
end Rf

namespace Rf
open PySem
section
variable {s : List Int} {tp : Tp} {R X : Store} {ds : List D} {o : O}
theorem mat_St3 : mat (.lst ds) (St3 s tp R) = (.ref (3 + R.length), St3 s tp (R ++ [.lst ds])) := by
  show (D.ref (St3 s tp R).length, St3 s tp R ++ [O.lst ds]) = _
  rw [len_St3, app_St3]
theorem get_R : (St3 s tp (R ++ o :: X))[3 + R.length]? = some o := by rw [get_St3, cell_app]
theorem cell_R : cellL (St3 s tp (R ++ .lst ds :: X)) (3 + R.length) = some ds := by unfold cellL; rw [get_R]
theorem seq_R : seqOf (St3 s tp (R ++ .lst ds :: X)) (.ref (3 + R.length)) = some ds := cell_R
theorem set_R {o' : O} : (St3 s tp (R ++ o :: X)).set (3 + R.length) o' = St3 s tp (R ++ o' :: X) := by rw [set_St3]; simp
theorem islst_R : (lstOf (St3 s tp (R ++ .lst ds :: X)) (.ref (3 + R.length))).isSome = true := by simp only [lstOf, cell_R, Option.isSome_some]
end
theorem map_erase {α β : Type} {f : α → β} : ∀ {l : List α} {n : Nat}, (l.map f).eraseIdx n = (l.eraseIdx n).map f
  | [], n => by simp
  | a :: t, 0 => by simp
  | a :: t, n + 1 => by simp only [List.map_cons, List.eraseIdx_cons_succ, map_erase]
theorem pop_R {s : List Int} {tp : Tp} {R X : Store} {left : List Int} {n : Int} (n0 : 0 ≤ n) (n1 : n < left.length) (n2 : n < 2 ^ 63) :
    mtS .pop (.ref (3 + R.length)) [.int n] (St3 s tp (R ++ .lst (left.map D.int) :: X)) = some (.int (left[n.toNat]'(by omega)), St3 s tp (R ++ .lst ((left.eraseIdx n.toNat).map D.int) :: X)) := by
  rw [mt_pop get_R n0 (by rw [List.length_map]; exact n1) n2, set_R, List.getElem_map, map_erase]
theorem filter_ne_len {α : Type} [DecidableEq α] (x : α) : ∀ {l : List α}, l.Nodup → l.length ≤ (l.filter fun y => !decide (y = x)).length + 1
  | [], _ => by simp
  | a :: t, h => by
    obtain ⟨h1, h2⟩ := List.nodup_cons.mp h
    by_cases hx : a = x
    · subst hx
      have : t.filter (fun y => !decide (y = a)) = t := by
        rw [List.filter_eq_self]
        intro b hb
        have : b ≠ a := fun e => h1 (e ▸ hb)
        simp [this]
      simp [List.filter_cons, this]
    · have := filter_ne_len x h2
      simp only [List.filter_cons, hx, decide_false, Bool.not_false, if_true, List.length_cons]
      omega
theorem free_len (found : List Int) (n : Nat) : n ≤ ((List.range n).filter fun i : Nat => !decide ((i : Int) ∈ found)).length + found.length := by
  induction found with
  | nil => rw [List.filter_eq_self.mpr (fun _ _ => by simp)]; simp
  | cons x t ih =>
    have hnd : ((List.range n).filter fun i : Nat => !decide ((i : Int) ∈ t)).Nodup := List.nodup_range.sublist List.filter_sublist
    by_cases hx : 0 ≤ x
    · have h := filter_ne_len x.toNat hnd
      have e : ((List.range n).filter fun i : Nat => !decide ((i : Int) ∈ x :: t)) = ((List.range n).filter fun i : Nat => !decide ((i : Int) ∈ t)).filter (fun y => !decide (y = x.toNat)) := by
        rw [List.filter_filter]
        refine List.filter_congr fun i _ => ?_
        have : ((i : Int) = x) = (i = x.toNat) := propext ⟨fun h => by omega, fun h => by omega⟩
        simp only [List.mem_cons, this, Bool.decide_or, Bool.not_or]
      rw [e, List.length_cons]
      omega
    · have e : ((List.range n).filter fun i : Nat => !decide ((i : Int) ∈ x :: t)) = ((List.range n).filter fun i : Nat => !decide ((i : Int) ∈ t)) := by
        refine List.filter_congr fun i _ => ?_
        have : ¬ ((i : Int) = x) := by omega
        simp only [List.mem_cons, this, false_or]
      rw [e, List.length_cons]
      omega
/-- names by draws -/
def bNames (i : Nat) : Sts :=
    (.cons (.asg (.nm 2) (.lis .nil))
    (.cons (.forr .rng (.cons (.var 1) .nil) (.nm 3) (.cons (.asg (.nm 4) (.lc .rng (.cons (.cst (.int 100)) .nil) (.nm 5) [5] (.cmp .NotIn (.var 5) (.var 2)) (.var 5)))
    (.cons (.exp (.mth .append (.var 2) (.cons (.idx (.var 4) (.call i (.cons (.var 0) (.cons (.bif .len (.cons (.var 4) .nil)) .nil)))) .nil)))
    .nil)))
    (.cons (.ret (.bif .tuple (.cons (.bif .sorted (.cons (.var 2) .nil)) .nil)))
    .nil)))
theorem rise_of {l : List Int} (h : l.Nodup) : (l.mergeSort leI).Pairwise (· < ·) := by
  have h1 := List.pairwise_mergeSort leI_tr leI_tt l
  have h2 : (l.mergeSort leI).Nodup := (List.mergeSort_perm l leI).symm.nodup h
  refine (h1.and h2).imp fun {a b} h => ?_
  have := h.1
  simp only [leI, decide_eq_true_eq] at this
  have := h.2
  omega
theorem names_wp {fns : List Fn} {F k i : Nat} {s : List Int} {tp : Tp} {R : Store} {many : Nat} (hd : fns[i]? = some ⟨2, 7, bDraw⟩) (hm : many ≤ 100) (ht : 0 ≤ tp.t) (ht2 : tp.t < 1000000) (ha : 0 ≤ tp.a) :
    Wp (evSs (run fns F (k + 1)) F (bNames i) [some (.ref 2), some (.int (many : Int)), none, none, none, none] (St3 s tp R)) fun f _ S' => ∃ (l : List Int) (tp' : Tp) (X : Store), f = .rt (.tup (l.map D.int)) ∧ S' = St3 s tp' (R ++ X) ∧ l.Pairwise (· < ·) ∧ (∀ x ∈ l, 0 ≤ x ∧ x ≤ 99) ∧ l.length = many ∧ tp'.t = tp.t + many ∧ 0 ≤ tp'.a := by
  unfold bNames
  refine w_asg (.of (ev_lis em_nil) ⟨_, _, _, mat_St3, rfl, ?_⟩)
  refine w_for (.of (er_cons (ev_var rfl) er_nil) ⟨_, _, it_rng (by omega), ?_⟩)
  refine forL_wp (fun rest σ S' => ∃ (found : List Int) (tp' : Tp) (X : Store) (y3 y4 : Option D), σ = [some (.ref 2), some (.int (many : Int)), some (.ref (3 + R.length)), y3, y4, none] ∧ S' = St3 s tp' (R ++ .lst (found.map D.int) :: X) ∧ found.Nodup ∧ (∀ x ∈ found, 0 ≤ x ∧ x ≤ 99) ∧ found.length + rest.length = many ∧ tp'.t = tp.t + found.length ∧ 0 ≤ tp'.a) ?_ ?_
    ⟨[], tp, [], none, none, rfl, rfl, .nil, by simp, by simp, by simp, ha⟩
  · rintro d rest σ S' ⟨found, tp', X, y3, y4, rfl, rfl, nd, rg, ln, tt, ta⟩
    refine ⟨rfl, _, rfl, ?_⟩
    rw [List.length_cons] at ln
    -- the free ones
    have hfr := free_len found 100
    have hpos : 0 < ((List.range 100).filter fun i : Nat => !decide ((i : Int) ∈ found)).length := by omega
    have hle : ((List.range 100).filter fun i : Nat => !decide ((i : Int) ∈ found)).length ≤ 100 := by
      have := List.length_filter_le (fun i : Nat => !decide ((i : Int) ∈ found)) (List.range 100)
      rw [List.length_range] at this
      exact this
    refine w_asg (.of (ev_lcf (l := List.range 100) (f := fun i : Nat => .int (i : Int)) (g := fun i : Nat => .int (i : Int)) (p := fun i : Nat => !decide ((i : Int) ∈ found)) (er_cons ev_cst er_nil) (it_rng (n := 100) (by omega)) rfl
      (fun j _ => lcB_if rfl (ev_cmp (ev_var rfl) (ev_var rfl) (show (inS _ _ _).map (!·) = _ by rw [inS_ints (ns := found) seq_R]; rfl)) (fun _ => ev_var rfl) rfl)) ⟨_, _, _, mat_St3, rfl, ?_⟩)
    generalize hfree : ((List.range 100).filter fun i : Nat => !decide ((i : Int) ∈ found)) = free at hpos hle ⊢
    refine w_exp (w_mth (by decide) (.of (ev_var rfl) ⟨by rw [List.append_assoc, List.cons_append]; exact islst_R, ?_⟩))
    refine w_mcons (w_idx (.of (ev_var rfl) (w_call (.of (em_cons (ev_var rfl) rfl (em_cons (ev_bif (er_cons (ev_var rfl) er_nil) (bi_len seq_R)) rfl em_nil)) ?_))))
    refine w_draw hd (by rw [List.length_map]; omega) (by rw [List.length_map]; omega) (by omega) (by omega) ta fun n tp2 n0 n1 t2 a2 => ?_
    rw [List.length_map] at n1
    have hn : n.toNat < free.length := by omega
    refine ⟨.int (free[n.toNat] : Int), ix_seq seq_R (by rw [atI_some n0 (by rw [List.length_map]; exact n1), List.getElem_map]), _, _, rfl, w_mnil ?_⟩
    rw [List.append_assoc, List.cons_append]
    refine .of (mt_append get_R (by rw [List.length_map]; exact Nat.lt_of_le_of_lt (show found.length ≤ 100 by omega) (by decide))) (w_nil ?_)
    have hmem : free[n.toNat] ∈ free := List.getElem_mem _
    generalize free[n.toNat] = v at hmem
    rw [← hfree, List.mem_filter, List.mem_range] at hmem
    have hv : ¬ ((v : Int) ∈ found) := by simpa using hmem.2
    refine ⟨found ++ [(v : Int)], tp2, X ++ [.lst (free.map fun i : Nat => .int (i : Int))], _, _, rfl, ?_, ?_, ?_, ?_, ?_, a2⟩
    · rw [set_R, List.map_append]; rfl
    · rw [List.nodup_append]
      exact ⟨nd, by simp, fun a ha b hb => by simp at hb; subst hb; exact fun e => hv (e ▸ ha)⟩
    · intro x hx
      rw [List.mem_append] at hx
      rcases hx with hx | hx
      · exact rg x hx
      · simp at hx; omega
    · rw [List.length_append, List.length_singleton]; omega
    · rw [t2, tt, List.length_append, List.length_singleton]; omega
  · rintro σ S' ⟨found, tp', X, y3, y4, rfl, rfl, nd, rg, ln, tt, ta⟩
    refine ⟨rfl, .inl ⟨rfl, ?_⟩⟩
    have hl : lstOf (St3 s tp' (R ++ .lst (found.map D.int) :: X)) (.ref (3 + R.length)) = some (found.map D.int) := cell_R
    refine Wp.of (es_ret (ev_bif (er_cons (ev_bif (er_cons (ev_var rfl) er_nil) (bi_sorted hl (sortS_ints _ _))) er_nil) (bi_tuple rfl))) ⟨found.mergeSort leI, tp', _, rfl, rfl, rise_of nd, ?_, ?_, ?_, ta⟩
    · intro x hx
      rw [List.mem_mergeSort] at hx
      exact rg x hx
    · rw [List.length_mergeSort]; simpa using ln
    · have : found.length = many := by simpa using ln
      rw [tt, this]
end Rf

/-! Rf: runs upon a tape. -/
namespace Rf
open PySem
section
variable {s : List Int} {tp tp' : Tp} {R T X : Store} {d : D} {ds : List D} {o : O} {n : Nat}
structure TpB (tp : Tp) (n : Nat) : Prop where
  t0 : 0 ≤ tp.t
  t1 : tp.t ≤ n
  a0 : 0 ≤ tp.a
theorem TpB.up {m : Nat} (h : TpB tp n) (g : n ≤ m := by omega) : TpB tp m := ⟨h.t0, by have := h.t1; omega, h.a0⟩
theorem TpB.start : TpB ⟨0, 0, 0⟩ 0 := ⟨by decide, by decide, by decide⟩
/-- a draw -/
theorem d_draw {fns : List Fn} {F k i : Nat} {m : Int} {Q : Kx} (ok : TpB tp n) (hn : n < 1000000000) (hm : 0 < m) (hm2 : m < 1073741824) (h : fns[i]? = some ⟨2, 7, bDraw⟩)
    (q : ∀ v tp', 0 ≤ v → v < m → TpB tp' (n + 1) → Q (.int v) (St3 s tp' R)) : WpE (run fns F (k + 1) i [.ref 2, .int m] (St3 s tp R)) Q := by
  have := ok.t1
  refine w_draw h hm hm2 ok.t0 (by omega) ok.a0 fun v tp' v0 v1 ht ha => q v tp' v0 v1 ⟨?_, ?_, ha⟩
  · have := ok.t0; omega
  · push_cast; omega
theorem t_len : (St3 s tp R).length = 3 + R.length := len_St3
theorem t_app : St3 s tp R ++ X = St3 s tp (R ++ X) := rfl
theorem t_at : (St3 s tp (R ++ T))[3 + (R.length + n)]? = T[n]? := by rw [get_St3, g_at]
theorem t_at0 : (St3 s tp (R ++ T))[3 + R.length]? = T[0]? := t_at (n := 0)
theorem t_set : (St3 s tp (R ++ T)).set (3 + (R.length + n)) o = St3 s tp (R ++ T.set n o) := by rw [set_St3, g_set]
theorem t_set0 : (St3 s tp (R ++ T)).set (3 + R.length) o = St3 s tp (R ++ T.set 0 o) := t_set (n := 0)
theorem t_fin (hd : D.under 0 d = true) : fin (St3 s tp R) d (St3 s tp' (R ++ X)) = (d, St3 s tp' R) := by
  rw [fin_u keepB_St3 hd, take_St3]
theorem t_fin0 (hd : D.under 0 d = true) : fin (St3 s tp R) d (St3 s tp' R) = (d, St3 s tp' R) := by
  have := t_fin (s := s) (tp := tp) (tp' := tp') (R := R) (X := []) hd
  rwa [List.append_nil] at this
theorem t_finl (hg : X[n]? = some (.lst ds)) (hd : D.unders 0 ds = true) : fin (St3 s tp R) (.ref (3 + (R.length + n))) (St3 s tp' (R ++ X)) = (.lst ds, St3 s tp' R) := by
  have h2 : (St3 s tp' (R ++ X))[3 + (R.length + n)]? = some (.lst ds) := by rw [t_at]; exact hg
  have h3 : ¬ 3 + (R.length + n) < (St3 s tp R).length := by rw [t_len]; omega
  simp only [fin, keepB_St3, if_true, h2, unders_mono (Nat.zero_le _) hd, if_neg h3, take_St3]
theorem t_finl0 (hd : D.unders 0 ds = true) : fin (St3 s tp R) (.ref (3 + R.length)) (St3 s tp' (R ++ .lst ds :: X)) = (.lst ds, St3 s tp' R) := t_finl (n := 0) rfl hd
end
end Rf

/-! Rf: loops by steps. -/
namespace Rf
open PySem
section
variable {c : Cl} {F : Nat} {r : Sl} {S S1 : Store} {d x y z : D} {ds xs ys : List D} {a b e el cnd lo hi o i : Ex} {as es : Exs} {s : St} {ss sa sb : Sts} {Q : Kx} {QL : List D → Store → Prop} {T : Kt}
/-! ### sorted(set(xs)) -/
def ksset (Q : Kx) : Kx := fun x S => WpE (ssetS S x) Q
theorem x_sset : WpE (evE c (.sset a) r S) Q = WpE (evE c a r S) (ksset Q) := by simp only [evE, p_bnd]; rfl
theorem mapO_ints : ∀ ns : List Int, mapO asI (ns.map D.int) = some ns
  | [] => rfl
  | n :: ns => by simp only [List.map_cons, mapO, asI, mapO_ints ns]
theorem ksset_lst {ns : List Int} (h1 : (sdd ns).length < 64) (h2 : ns.length ≤ 4000) : ksset Q (.lst (ns.map D.int)) S = Q (.lst ((sdd ns).map D.int)) S := by
  simp only [ksset, ssetS, lstOf, mapO_ints, h1, h2, and_self, if_true, p_some]
/-! ### max(xs, default=k) -/
def mxd (k : Int) : List Int → Int
  | [] => k
  | n :: r => maxI n r
def kmaxd (k : Int) (Q : Kx) : Kx := fun x S => WpE (maxdS k S x) Q
theorem x_maxd {k : Int} : WpE (evE c (.maxd k a) r S) Q = WpE (evE c a r S) (kmaxd k Q) := by simp only [evE, p_bnd]; rfl
theorem kmaxd_lst {k : Int} {ns : List Int} : kmaxd k Q (.lst (ns.map D.int)) S = Q (.int (mxd k ns)) S := by
  cases ns with
  | nil => simp only [kmaxd, maxdS, lstOf, List.map_nil, mapO, mxd, p_some]
  | cons n r =>
    have := mapO_ints (n :: r)
    simp only [kmaxd, maxdS, lstOf, this, mxd, p_some]
theorem kmaxd_nil {k : Int} : kmaxd k Q (.lst []) S = Q (.int k) S := kmaxd_lst (ns := [])
/-! ### while -/
def kwB (b : Sl → Store → Rt) (T : Kt) (r : Sl) (S : Store) : Prop := Wp (b r S) T
def kwN (r : Sl) (T : Kt) (S : Store) : Prop := T .nx r S
def kwb (I : Nat → Sl → Store → Prop) (n : Nat) (T : Kt) : Kt := fun f r S => match f with
  | .nx => ∃ m, m < n ∧ I m r S
  | .ct => ∃ m, m < n ∧ I m r S
  | .bk => T .nx r S
  | .rt v => T (.rt v) r S
def kw (b : Sl → Store → Rt) (I : Nat → Sl → Store → Prop) (n : Nat) (r : Sl) (T : Kt) : Kx := fun x S => wC x (kwB b (kwb I n T) r) (kwN r T) S
theorem kw_eq {b : Sl → Store → Rt} {I : Nat → Sl → Store → Prop} {n : Nat} : kw b I n r T x S = wC x (kwB b (kwb I n T) r) (kwN r T) S := rfl
theorem kwB_eq {b : Sl → Store → Rt} : kwB b T r S = Wp (b r S) T := rfl
theorem kwN_eq : kwN r T S = T .nx r S := rfl
theorem kwb_nx {I : Nat → Sl → Store → Prop} {n : Nat} : kwb I n T .nx r S = ∃ m, m < n ∧ I m r S := rfl
theorem kwb_ct {I : Nat → Sl → Store → Prop} {n : Nat} : kwb I n T .ct r S = ∃ m, m < n ∧ I m r S := rfl
theorem kwb_bk {I : Nat → Sl → Store → Prop} {n : Nat} : kwb I n T .bk r S = T .nx r S := rfl
theorem kwb_rt {I : Nat → Sl → Store → Prop} {n : Nat} : kwb I n T (.rt d) r S = T (.rt d) r S := rfl
theorem whl_by {cn : Sl → Store → Rs D} {b : Sl → Store → Rt} (I : Nat → Sl → Store → Prop) (step : ∀ n r S, I n r S → WpE (cn r S) (kw b I n r T)) : ∀ (F n : Nat) (r : Sl) (S : Store), n < F → I n r S → Wp (whlL cn b F r S) T
  | 0, _, _, _, h, _ => absurd h (Nat.not_lt_zero _)
  | F + 1, n, r, S, h, hI => by
    obtain ⟨x, S1, h1, h2⟩ := step n r S hI
    rw [kw_eq] at h2
    unfold whlL
    rw [h1]
    match x, h2 with
    | .bl true, h2 =>
      rw [wC_t, kwB_eq] at h2
      obtain ⟨f, r2, S2, e, q⟩ := h2
      simp only [e]
      cases f with
      | nx => obtain ⟨m, hm, q⟩ := q; exact whl_by I step F m r2 S2 (by omega) q
      | ct => obtain ⟨m, hm, q⟩ := q; exact whl_by I step F m r2 S2 (by omega) q
      | bk => exact ⟨_, _, _, rfl, q⟩
      | rt v => exact ⟨_, _, _, rfl, q⟩
    | .bl false, h2 => exact ⟨_, _, _, rfl, h2⟩
/-! ### for -/
def kfl (t : Pt) (b : Sl → Store → Rt) (ds : List D) (T : Kt) : Kt := fun f r S => match f with
  | .nx => Wp (forL [] t b ds r S) T
  | .ct => Wp (forL [] t b ds r S) T
  | .bk => T .nx r S
  | .rt v => T (.rt v) r S
theorem kfl_nx {t : Pt} {b : Sl → Store → Rt} : kfl t b ds T .nx r S = Wp (forL [] t b ds r S) T := rfl
theorem kfl_ct {t : Pt} {b : Sl → Store → Rt} : kfl t b ds T .ct r S = Wp (forL [] t b ds r S) T := rfl
theorem kfl_bk {t : Pt} {b : Sl → Store → Rt} : kfl t b ds T .bk r S = T .nx r S := rfl
theorem kfl_rt {t : Pt} {b : Sl → Store → Rt} : kfl t b ds T (.rt d) r S = T (.rt d) r S := rfl
theorem f_nil {t : Pt} {b : Sl → Store → Rt} : Wp (forL [] t b [] r S) T = T .nx r S := by simp only [forL, watch_nil, if_true]; exact p_someS
theorem f_step {t : Pt} {b : Sl → Store → Rt} {r1 : Sl} (h : setPt t d r = some r1) : Wp (forL [] t b (d :: ds) r S) T = Wp (b r1 S) (kfl t b ds T) := by
  simp only [forL, watch_nil, if_true, h]
  cases hb : b r1 S with
  | none => rw [p_noneS, p_noneS]
  | some p =>
    obtain ⟨f, r2, S2⟩ := p
    cases f with
    | nx => rw [p_someS]; rfl
    | ct => rw [p_someS]; rfl
    | bk => rw [p_someS, p_someS]; rfl
    | rt v => rw [p_someS, p_someS]; rfl
theorem f_cons {j : Nat} {b : Sl → Store → Rt} : Wp (forL [] (.nm j) b (d :: ds) r S) T = Wp (b (r.set j (some d)) S) (kfl (.nm j) b ds T) := f_step rfl
theorem f_consT {is : List Nat} {b : Sl → Store → Rt} (h : xs.length = is.length) : Wp (forL [] (.tp is) b (.tup xs :: ds) r S) T = Wp (b (setAll r is xs) S) (kfl (.tp is) b ds T) := f_step (by simp only [setPt, h, if_true])
theorem f_consL {is : List Nat} {b : Sl → Store → Rt} (h : xs.length = is.length) : Wp (forL [] (.tp is) b (.lst xs :: ds) r S) T = Wp (b (setAll r is xs) S) (kfl (.tp is) b ds T) := f_step (by simp only [setPt, h, if_true])
/-- by an invariant over the items that are left -/
theorem for_by {t : Pt} {b : Sl → Store → Rt} {ws : List (Nat × List D)} (I : List D → Sl → Store → Prop) (hw : ∀ l r S, I l r S → watch S ws = true)
    (step : ∀ d l r S, I (d :: l) r S → ∃ r1, setPt t d r = some r1 ∧ Wp (b r1 S) fun f r2 S2 => match f with
      | .nx => I l r2 S2
      | .ct => I l r2 S2
      | .bk => T .nx r2 S2
      | .rt v => T (.rt v) r2 S2)
    (last : ∀ r S, I [] r S → T .nx r S) : ∀ {l : List D} {r : Sl} {S : Store}, I l r S → Wp (forL ws t b l r S) T := by
  intro l r S h
  refine forL_wp I (fun d rest σ S h => ⟨hw _ _ _ h, ?_⟩) (fun σ S h => ⟨hw _ _ _ h, last σ S h⟩) h
  obtain ⟨r1, h1, h2⟩ := step d rest σ S h
  exact ⟨r1, h1, h2⟩
/-! ### comprehensions -/
abbrev Ko := Option D → Store → Prop
def klcV (Q : Ko) : Kx := fun y S => Q (some (mat y S).1) (mat y S).2
def kN (Q : Ko) (S : Store) : Prop := Q none S
def klcB (c : Cl) (el : Ex) (r : Sl) (Q : Ko) : Kx := fun x S => wC x (kE c el r (klcV Q)) (kN Q) S
theorem klcV_eq {Q : Ko} : klcV Q y S = Q (some (mat y S).1) (mat y S).2 := rfl
theorem kN_eq {Q : Ko} : kN Q S = Q none S := rfl
theorem klcB_eq {Q : Ko} : klcB c el r Q x S = wC x (kE c el r (klcV Q)) (kN Q) S := rfl
theorem lc_step {t : Pt} {own : List Nat} {Q : Ko} {r1 : Sl} (h : setPt t d (wipeS r own) = some r1) : WpE (lcB c t own cnd el r d S) Q = WpE (evE c cnd r1 S) (klcB c el r1 Q) := by
  simp only [lcB, h]
  rw [p_bnd]
  congr 1
  funext x S1
  refine wp_ifD ?_ p_some
  rw [p_bnd]
  simp only [p_some]
  rfl
theorem x_lcB {j : Nat} {own : List Nat} {Q : Ko} : WpE (lcB c (.nm j) own cnd el r d S) Q = WpE (evE c cnd ((wipeS r own).set j (some d)) S) (klcB c el ((wipeS r own).set j (some d)) Q) := lc_step rfl
theorem x_lcBT {is : List Nat} {own : List Nat} {Q : Ko} (h : xs.length = is.length) : WpE (lcB c (.tp is) own cnd el r (.tup xs) S) Q = WpE (evE c cnd (setAll (wipeS r own) is xs) S) (klcB c el (setAll (wipeS r own) is xs) Q) := lc_step (by simp only [setPt, h, if_true])
theorem x_lcBL {is : List Nat} {own : List Nat} {Q : Ko} (h : xs.length = is.length) : WpE (lcB c (.tp is) own cnd el r (.lst xs) S) Q = WpE (evE c cnd (setAll (wipeS r own) is xs) S) (klcB c el (setAll (wipeS r own) is xs) Q) := lc_step (by simp only [setPt, h, if_true])
def isO (o : Option D) (S : Store) : Ko := fun o' S' => o' = o ∧ S' = S
theorem isO_eq {o o' : Option D} {S' : Store} : isO o S o' S' = (o' = o ∧ S' = S) := rfl
theorem of_isO {x : Rs (Option D)} {o : Option D} (h : WpE x (isO o S)) : x = some (o, S) := by
  obtain ⟨_, _, h, rfl, rfl⟩ := h
  exact h
theorem l_map {α : Type} {l : List α} {f g : α → D} {ws : List (Nat × List D)} {h : D → Store → Rs (Option D)} (hw : watch S ws = true) (he : ∀ x ∈ l, WpE (h (f x) S) (isO (some (g x)) S)) : WpE (loopL ws h (l.map f) S) QL = QL (l.map g) S := by
  rw [loopL_map hw fun x hx => of_isO (he x hx)]; exact p_some
theorem l_filter {α : Type} {l : List α} {f g : α → D} {p : α → Bool} {ws : List (Nat × List D)} {h : D → Store → Rs (Option D)} (hw : watch S ws = true) (he : ∀ x ∈ l, WpE (h (f x) S) (isO (if p x then some (g x) else none) S)) : WpE (loopL ws h (l.map f) S) QL = QL ((l.filter p).map g) S := by
  rw [loopL_filter hw fun x hx => of_isO (he x hx)]; exact p_some
/-- the turns one by one -/
def kl2 (o : Option D) (QL : List D → Store → Prop) : List D → Store → Prop := fun ys S => QL (o.toList ++ ys) S
def kl1 (f : D → Store → Rs (Option D)) (l : List D) (QL : List D → Store → Prop) : Ko := fun o S => WpE (loopL [] f l S) (kl2 o QL)
theorem kl2_some : kl2 (some d) QL ys S = QL (d :: ys) S := rfl
theorem kl2_none : kl2 none QL ys S = QL ys S := rfl
theorem kl1_eq {f : D → Store → Rs (Option D)} {l : List D} {o : Option D} : kl1 f l QL o S = WpE (loopL [] f l S) (kl2 o QL) := rfl
theorem l_nil {f : D → Store → Rs (Option D)} : WpE (loopL [] f [] S) QL = QL [] S := by simp only [loopL, watch_nil, if_true]; exact p_some
theorem l_cons {f : D → Store → Rs (Option D)} {l : List D} : WpE (loopL [] f (d :: l) S) QL = WpE (f d S) (kl1 f l QL) := by
  simp only [loopL, watch_nil, if_true, p_bnd, p_some]
  rfl
end
/-! ### more operations -/
section
variable {S : Store} {n m : Nat} {ds xs ys : List D} {d : D} {Q : Kx}
theorem ml_ref (h : S[n]? = some (.lst xs)) : mlOf S (.ref n) = some xs := by simp only [mlOf, h]
theorem ml_lst : mlOf S (.lst xs) = some xs := rfl
theorem o_addRL (h : S[n]? = some (.lst xs)) (hz : xs.length + ys.length ≤ 16777216) : binS S .Add (.ref n) (.lst ys) = some (.lst (xs ++ ys)) := by
  simp only [binS, ml_ref h, ml_lst, PySem.sizeLine_eq, hz, if_true]
theorem o_addLL (hz : xs.length + ys.length ≤ 16777216) : binS S .Add (.lst xs) (.lst ys) = some (.lst (xs ++ ys)) := by
  simp only [binS, mlOf, PySem.sizeLine_eq, hz, if_true]
theorem o_addRR (h : S[n]? = some (.lst xs)) (h2 : S[m]? = some (.lst ys)) (hz : xs.length + ys.length ≤ 16777216) : binS S .Add (.ref n) (.ref m) = some (.lst (xs ++ ys)) := by
  simp only [binS, ml_ref h, ml_ref h2, PySem.sizeLine_eq, hz, if_true]
theorem o_addLR (h2 : S[m]? = some (.lst ys)) (hz : xs.length + ys.length ≤ 16777216) : binS S .Add (.lst xs) (.ref m) = some (.lst (xs ++ ys)) := by
  simp only [binS, ml_ref h2, ml_lst, PySem.sizeLine_eq, hz, if_true]
theorem o_addTT (hz : xs.length + ys.length ≤ 16777216) : binS S .Add (.tup xs) (.tup ys) = some (.tup (xs ++ ys)) := op_addt (by rw [PySem.sizeLine_eq]; exact hz)
theorem k_ext (h : S[n]? = some (.lst ds)) (hl : ds.length + ys.length ≤ 16777216) : mtS .extend (.ref n) [.lst ys] S = some (.non, S.set n (.lst (ds ++ ys))) := by
  simp only [mtS, h, mlOf, PySem.sizeLine_eq, hl, if_true]
theorem k_pop (h : S[n]? = some (.lst (ds ++ [d]))) : mtS .pop (.ref n) [] S = some (d, S.set n (.lst ds)) := by
  simp [mtS, h]
theorem k_rev (h : S[n]? = some (.lst ds)) : mtS .reverse (.ref n) [] S = some (.non, S.set n (.lst ds.reverse)) := by simp only [mtS, h]
theorem k_clr (h : S[n]? = some (.lst ds)) : mtS .clear (.ref n) [] S = some (.non, S.set n (.lst [])) := by simp only [mtS, h]
theorem c_nePile (h : S[n]? = some (.lst ds)) (hf : fls ds 63 = true) : cmpS S .NotEq (.ref n) (.lst []) = some (!decide (ds = [])) := by
  have e1 : dat S deep (.ref n) = some (.list (pds ds)) := by
    show (match cellL S n with | some ds => (mapO (dat S 69) ds).map PyData.list | none => none) = _
    rw [cell_of h]
    simp only [dats_fl S (fls_up (by omega : 63 ≤ 69) hf), Option.map_some]
  have e2 : dat S deep (.lst []) = some (.list []) := rfl
  have sh : SeqAt.shaped (.list (pds ds)) = true := fl_shaped (d := .lst ds) (by simp only [fl]; exact hf)
  have s2 : SeqAt.shaped (.list []) = true := fl_shaped (d := .lst []) rfl
  simp only [cmpS, eqS, e1, e2, sh, s2, Bool.and_self, if_true, Option.map_some]
  cases ds with
  | nil => rfl
  | cons a r =>
    rw [show PyData.eqv (.list (pds (a :: r))) (.list []) = false from by simp [pds, PyData.eqv, PyData.eqvAll]]
    simp
theorem c_nsd {x y : Str} {p : Bool} : cmpS S .NotEq (.str x) (.str x) = some false := by rw [cm_nes]; simp
theorem it_r1 : itemsS .rng [.int 1] S = some ([.int 0], []) := rfl
theorem it_r2 : itemsS .rng [.int 2] S = some ([.int 0, .int 1], []) := rfl
theorem it_r3 : itemsS .rng [.int 3] S = some ([.int 0, .int 1, .int 2], []) := rfl
theorem it_r4 : itemsS .rng [.int 4] S = some ([.int 0, .int 1, .int 2, .int 3], []) := rfl
theorem it_r5 : itemsS .rng [.int 5] S = some ([.int 0, .int 1, .int 2, .int 3, .int 4], []) := rfl
theorem it_r6 : itemsS .rng [.int 6] S = some ([.int 0, .int 1, .int 2, .int 3, .int 4, .int 5], []) := rfl
theorem it_rn {n : Int} (h0 : 0 ≤ n) (h : n ≤ 16777216) : itemsS .rng [.int n] S = some ((List.range n.toNat).map fun (i : Nat) => .int (i : Int), []) := by
  obtain ⟨k, rfl⟩ := Int.eq_ofNat_of_zero_le h0
  exact it_rng (by omega)
theorem c_isi1 : isiS "tuple" "tuple" = true := by decide +kernel
theorem c_isi2 : isiS "int" "tuple" = false := by decide +kernel
theorem c_isi3 : isiS "str" "tuple" = false := by decide +kernel
theorem ty_tup : tyS S (.tup ds) = some "tuple" := rfl
theorem ty_int {n : Int} : tyS S (.int n) = some "int" := rfl
theorem ty_str {x : Str} : tyS S (.str x) = some "str" := rfl
theorem ty_lst : tyS S (.lst ds) = some "list" := rfl
theorem ty_bl {b : Bool} : tyS S (.bl b) = some "bool" := rfl
theorem ty_non : tyS S .non = some "NoneType" := rfl
end
end Rf
namespace Rf
open PySem
/-! ### operations upon cells, by what the cell holds -/
section
variable {S : Store} {n m : Nat} {ds xs ys : List D} {d e : D} {kvs : List (L2.Key × D)} {i : Int} {lo hi : Option Int} {Q : Kx} {QL : List D → Store → Prop}
def ixR (o : Option O) (i : Int) : Option D := match o with
  | some (.lst ds) => L2.atI ds i
  | some (.ro ds) => L2.atI ds i
  | some (.dic kvs) => (kvs.find? fun kv => decide (kv.1 = Sum.inl i)).map (·.2)
  | none => none
theorem r_idx : idxS S (.ref n) (.int i) = ixR S[n]? i := by
  rcases h : S[n]? with _ | (q | q | q) <;> simp only [ixR, idxS, seqOf, cellL, h]
theorem ixR_l : ixR (some (.lst ds)) i = L2.atI ds i := rfl
theorem ixR_d : ixR (some (.dic kvs)) i = (kvs.find? fun kv => decide (kv.1 = Sum.inl i)).map (·.2) := rfl
def lenR (o : Option O) (S : Store) : Rs D := match o with
  | some (.lst ds) => some (.int ds.length, S)
  | some (.ro ds) => some (.int ds.length, S)
  | some (.dic kvs) => some (.int kvs.length, S)
  | none => none
theorem r_len : biS .len [.ref n] S = lenR S[n]? S := by
  rcases h : S[n]? with _ | (q | q | q) <;> simp only [biS, seqOf, cellL, dicOf, h, lenR]
theorem lenR_mk : lenR (some (.lst ds)) S = some (.int ds.length, S) := rfl
theorem lenR_ro : lenR (some (.ro ds)) S = some (.int ds.length, S) := rfl
theorem lenR_d : lenR (some (.dic kvs)) S = some (.int kvs.length, S) := rfl
/-! dicts of ints -/
def dK (P : List (Int × Int)) : List (L2.Key × D) := P.map fun p => (Sum.inl p.1, .int p.2)
def getK (P : List (Int × Int)) (i : Int) : Option Int := (P.find? fun p => decide (p.1 = i)).map (·.2)
theorem dK_find (i : Int) : ∀ P : List (Int × Int), ((dK P).find? fun kv => decide (kv.1 = Sum.inl i)).map (·.2) = (getK P i).map D.int
  | [] => rfl
  | p :: P => by
    have ih := dK_find i P
    unfold dK getK at ih ⊢
    rw [List.map_cons, List.find?_cons, List.find?_cons]
    by_cases h : p.1 = i
    · simp [h]
    · have h2 : ¬ ((Sum.inl p.1 : L2.Key) = Sum.inl i) := fun z => h (by cases z; rfl)
      simp only [h, h2, decide_false]
      exact ih
theorem in_dK {P : List (Int × Int)} (h : S[n]? = some (.dic (dK P))) : cmpS S .In (.int i) (.ref n) = some (getK P i).isSome := by
  have := dK_find i P
  simp only [cmpS, inS, seqOf, cellL, h, inK, dicOf, keyOf, this, Option.isSome_map]
theorem nin_dK {P : List (Int × Int)} (h : S[n]? = some (.dic (dK P))) : cmpS S .NotIn (.int i) (.ref n) = some (!(getK P i).isSome) := by
  have := dK_find i P
  simp only [cmpS, inS, seqOf, cellL, h, inK, dicOf, keyOf, this, Option.isSome_map, Option.map_some]
theorem ix_dK {P : List (Int × Int)} {v : Int} (h : S[n]? = some (.dic (dK P))) (hv : getK P i = some v) : idxS S (.ref n) (.int i) = some (.int v) := by
  rw [r_idx, h, ixR_d, dK_find, hv]; rfl
def tupR (o : Option (List D)) (S : Store) : Rs D := match o with
  | some ds => some (.tup ds, S)
  | none => none
theorem r_tup : biS .tuple [.ref n] S = tupR (cellL S n) S := by cases h : cellL S n <;> simp only [biS, seqOf, h, tupR]
theorem tupR_mk : tupR (some ds) S = some (.tup ds, S) := rfl
def lisR (o : Option (List D)) (S : Store) : Rs D := match o with
  | some ds => some (.lst ds, S)
  | none => none
theorem r_lis : biS .list [.ref n] S = lisR (cellL S n) S := by cases h : cellL S n <;> simp only [biS, seqOf, h, lisR]
theorem lisR_mk : lisR (some ds) S = some (.lst ds, S) := rfl
def slR (o : Option (List D)) (lo hi : Option Int) : Option D := match o with
  | some ds => some (.lst (cut ds lo hi))
  | none => none
theorem r_slc : slcS S (.ref n) lo hi = slR (cellL S n) lo hi := by cases h : cellL S n <;> simp only [slcS, lstOf, h, slR]
theorem slR_mk : slR (some ds) lo hi = some (.lst (cut ds lo hi)) := rfl
def apdR (o : Option O) (d : D) (n : Nat) (S : Store) : Rs D := match o with
  | some (.lst ds) => if ds.length < sizeLine then some (.non, S.set n (.lst (ds ++ [d]))) else none
  | _ => none
theorem r_apd : mtS .append (.ref n) [d] S = apdR S[n]? d n S := by
  rcases h : S[n]? with _ | (q | q | q) <;> simp only [mtS, apdR, h]
theorem apdR_mk (h : ds.length < 16777216) : apdR (some (.lst ds)) d n S = some (.non, S.set n (.lst (ds ++ [d]))) := by simp only [apdR, PySem.sizeLine_eq, h, if_true]
def extR (o : Option O) (e : Option (List D)) (n : Nat) (S : Store) : Rs D := match o with
  | some (.lst ds) => match e with
    | some ys => if ds.length + ys.length ≤ sizeLine then some (.non, S.set n (.lst (ds ++ ys))) else none
    | none => none
  | _ => none
theorem r_ext : mtS .extend (.ref n) [e] S = extR S[n]? (mlOf S e) n S := by
  cases g : mlOf S e <;> rcases h : S[n]? with _ | (q | q | q) <;> simp only [mtS, extR, h, g]
theorem extR_mk (h : ds.length + ys.length ≤ 16777216) : extR (some (.lst ds)) (some ys) n S = some (.non, S.set n (.lst (ds ++ ys))) := by simp only [extR, PySem.sizeLine_eq, h, if_true]
def mlO (o : Option O) : Option (List D) := match o with
  | some (.lst ds) => some ds
  | _ => none
theorem r_ml : mlOf S (.ref n) = mlO S[n]? := by
  rcases h : S[n]? with _ | (q | q | q) <;> simp only [mlO, mlOf, h]
theorem mlO_mk : mlO (some (.lst ds)) = some ds := rfl
def revR (o : Option O) (n : Nat) (S : Store) : Rs D := match o with
  | some (.lst ds) => some (.non, S.set n (.lst ds.reverse))
  | _ => none
theorem r_rev : mtS .reverse (.ref n) [] S = revR S[n]? n S := by
  rcases h : S[n]? with _ | (q | q | q) <;> simp only [mtS, revR, h]
theorem revR_mk : revR (some (.lst ds)) n S = some (.non, S.set n (.lst ds.reverse)) := rfl
def clrR (o : Option O) (n : Nat) (S : Store) : Rs D := match o with
  | some (.lst ds) => some (.non, S.set n (.lst []))
  | _ => none
theorem r_clr : mtS .clear (.ref n) [] S = clrR S[n]? n S := by
  rcases h : S[n]? with _ | (q | q | q) <;> simp only [mtS, clrR, h]
theorem clrR_mk : clrR (some (.lst ds)) n S = some (.non, S.set n (.lst [])) := rfl
def addR (a b : Option (List D)) : Option D := match a, b with
  | some x, some y => if x.length + y.length ≤ sizeLine then some (.lst (x ++ y)) else none
  | _, _ => none
theorem r_addRL : binS S .Add (.ref n) (.lst ys) = addR (mlO S[n]?) (some ys) := by simp only [binS, r_ml, ml_lst]; rfl
theorem r_addRR : binS S .Add (.ref n) (.ref m) = addR (mlO S[n]?) (mlO S[m]?) := by simp only [binS, r_ml]; rfl
theorem r_addLR : binS S .Add (.lst xs) (.ref m) = addR (some xs) (mlO S[m]?) := by simp only [binS, r_ml, ml_lst]; rfl
theorem addR_mk (h : xs.length + ys.length ≤ 16777216) : addR (some xs) (some ys) = some (.lst (xs ++ ys)) := by simp only [addR, PySem.sizeLine_eq, h, if_true]
theorem it_r : itemsS .seq [.ref n] S = (cellL S n).map fun ds => (ds, [(n, ds)]) := rfl
end
end Rf
namespace Rf
open PySem
section
variable {S X R : Store} {n m : Nat} {ds : List D} {s : List Int} {tp tp' : Tp}
def finO (o : Option O) (m : Nat) (S T : Store) (X : Store) : D × Store := match o with
  | some (.lst ds) => if D.unders S.length ds then (.lst ds, T) else (.ref m, X)
  | _ => (.ref m, X)
theorem finO_mk {T : Store} (h : D.unders 0 ds = true) : finO (some (.lst ds)) m S T X = (.lst ds, T) := by simp only [finO, unders_mono (Nat.zero_le S.length) h, if_true]
theorem r_fin : fin S (.ref (S.length + n)) (S ++ X) = finO X[n]? (S.length + n) S S (S ++ X) := by
  have hlt : ¬ S.length + n < S.length := by omega
  rcases h : X[n]? with _ | (q | q | q) <;> simp only [finO, fin, keepB_pre, if_true, g_at, h, if_neg hlt, List.take_left]
theorem r_fin0 : fin S (.ref S.length) (S ++ X) = finO X[0]? S.length S S (S ++ X) := r_fin (n := 0)
theorem rt_fin : fin (St3 s tp R) (.ref (3 + (R.length + n))) (St3 s tp' (R ++ X)) = finO X[n]? (3 + (R.length + n)) (St3 s tp R) (St3 s tp' R) (St3 s tp' (R ++ X)) := by
  have hlt : ¬ 3 + (R.length + n) < (St3 s tp R).length := by rw [t_len]; omega
  rcases h : X[n]? with _ | (q | q | q) <;> simp only [finO, fin, keepB_St3, if_true, t_at, take_St3, h, if_neg hlt]
theorem rt_fin0 : fin (St3 s tp R) (.ref (3 + R.length)) (St3 s tp' (R ++ X)) = finO X[0]? (3 + R.length) (St3 s tp R) (St3 s tp' R) (St3 s tp' (R ++ X)) := rt_fin (n := 0)
end
end Rf
namespace Rf
open PySem
section
variable {S : Store} {n : Nat} {ds : List D} {ns : List Int}
theorem s_ints : biS .sorted [.lst (ns.map D.int)] S = some (.lst ((ns.mergeSort leI).map D.int), S) := by
  simp only [biS, seqOf, sortS_ints, Option.map_some]
theorem repr_ref (h : S[n]? = some (.lst ds)) (hn : Nice 64 (2 ^ 20) (.lst ds)) : biS .repr [.ref n] S = some (.str (pd (.lst ds)).shown, S) := by
  have e : dat S deep (.ref n) = dat S deep (.lst ds) := by
    show (match cellL S n with | some ds => (mapO (dat S 69) ds).map PyData.list | none => none) = _
    rw [cell_of h]; rfl
  have := hn.repr S
  simp only [biS] at this ⊢
  rw [e]; exact this
/-- numbers that rise within bounds are few -/
theorem rise_len {a b : Int} : ∀ {l : List Int}, l.Pairwise (· < ·) → (∀ x ∈ l, a ≤ x ∧ x < b) → a ≤ b → (l.length : Int) ≤ b - a
  | [], _, _, h => by simp; omega
  | x :: l, hp, hb, h => by
    obtain ⟨h1, h2⟩ := List.pairwise_cons.mp hp
    have hx := hb x List.mem_cons_self
    have := rise_len (a := x + 1) (b := b) h2 (fun y hy => ⟨by have := h1 y hy; omega, (hb y (List.mem_cons_of_mem _ hy)).2⟩) (by omega)
    rw [List.length_cons]; push_cast; omega
theorem nice_ints' {w : Nat} (h : ∀ x ∈ ns, 0 ≤ x ∧ x < 1000000) (hl : ns.length ≤ w) (hw : w ≤ 10000) : Nice 64 (2 ^ 20) (.tup (ns.map D.int)) :=
  Nice.tup (n := 63) (c := 41) (m := 10000) (fun d hd => by
    obtain ⟨x, hx, rfl⟩ := List.mem_map.mp hd
    have := h x hx
    exact Nice.int (by omega)) (by rw [List.length_map]; omega)
end
end Rf
namespace Rf
open PySem
def isB (b : Bool) : Kx := fun d _ => d = .bl b
theorem isB_fin {b : Bool} {S0 S1 : Store} : finK (fin S0 (.bl b) S1) (isB b) := by
  show (fin S0 (.bl b) S1).1 = .bl b
  simp only [fin]
  split <;> rfl
end Rf
namespace Rf
open PySem
theorem t_lit {s : List Int} {tp : Tp} {R : Store} {j : Nat} : (St3 s tp R)[j + 3]? = R[j]? := rfl
theorem t_lits {s : List Int} {tp : Tp} {R : Store} {j : Nat} {o : O} : (St3 s tp R).set (j + 3) o = St3 s tp (R.set j o) := rfl
end Rf
namespace Rf
open PySem
section
variable {c : Cl} {F : Nat} {r : Sl} {S S1 : Store} {d x y z : D} {ds xs ys : List D} {a b e o i kx f : Ex} {as es : Exs} {Q : Kx} {QL : List D → Store → Prop} {T : Kt} {kvs : List (Str × Int)}
def kdcin (kvs : List (Str × Int)) (Q : Kx) : Kx := fun x S => WpE (dcinS kvs x S) Q
theorem x_dcin : WpE (evE c (.dcin kvs a) r S) Q = WpE (evE c a r S) (kdcin kvs Q) := by simp only [evE, p_bnd]; rfl
theorem kdcin_s {w : Str} : kdcin kvs Q (.str w) S = Q (.bl (kvs.lookup w).isSome) S := p_some
def kdcix (kvs : List (Str × Int)) (Q : Kx) : Kx := fun x S => WpE (dcixS kvs x S) Q
theorem x_dcix : WpE (evE c (.dcix kvs a) r S) Q = WpE (evE c a r S) (kdcix kvs Q) := by simp only [evE, p_bnd]; rfl
def wDI (o : Option Int) (Q : Kx) (S : Store) : Prop := match o with
  | some i => Q (.int i) S
  | none => False
theorem kdcix_s {w : Str} : kdcix kvs Q (.str w) S = wDI (kvs.lookup w) Q S := by
  simp only [kdcix, dcixS]
  cases kvs.lookup w with
  | none => exact p_none
  | some i => exact p_some
theorem wDI_some {n : Int} : wDI (some n) Q S = Q (.int n) S := rfl
theorem lk_cons {u w : String} {n : Int} {l : List (Str × Int)} : List.lookup (Str.ofString u) ((Str.ofString w, n) :: l) = if u = w then some n else List.lookup (Str.ofString u) l := by
  rw [List.lookup_cons]
  by_cases h : u = w
  · subst h; simp
  · rw [if_neg h]
    have : (Str.ofString u == Str.ofString w) = false := beq_eq_false_iff_ne.mpr fun e => h (by rw [ofS_inj] at e; exact e)
    rw [this]
theorem lk_nil {u : Str} : List.lookup u ([] : List (Str × Int)) = none := rfl
/-! d.get(k, f) -/
def kdg3 (x y : D) (Q : Kx) : Kx := fun z S => wO (dgetS S x y z) S Q
def kdg2 (c : Cl) (f : Ex) (r : Sl) (x : D) (Q : Kx) : Kx := fun y S => WpE (evE c f r S) (kdg3 x y Q)
def wDg (o : Option O) (A : Store → Prop) (S : Store) : Prop := match o with
  | some (.dic _) => A S
  | _ => False
def kdg1 (c : Cl) (kx f : Ex) (r : Sl) (Q : Kx) : Kx := fun x S => if isDic S x then WpE (evE c kx r S) (kdg2 c f r x Q) else False
theorem x_dget : WpE (evE c (.dget o kx f) r S) Q = WpE (evE c o r S) (kdg1 c kx f r Q) := by
  rw [evE, p_bnd]
  congr 1
  funext x S1
  show WpE (if isDic S1 x then _ else none) Q = if isDic S1 x then _ else False
  by_cases h : isDic S1 x = true
  · rw [if_pos h, if_pos h]; simp only [p_bnd]; rfl
  · rw [if_neg h, if_neg h]; exact p_none
theorem kdg1_r {n : Nat} : kdg1 c kx f r Q (.ref n) S = wDg S[n]? (kE c kx r (kdg2 c f r (.ref n) Q)) S := by
  have key : ∀ o : Option O, S[n]? = o → isDic S (.ref n) = (match o with | some (.dic _) => true | _ => false) := fun o h => by
    subst h; rfl
  unfold kdg1
  cases h : S[n]? with
  | none => rw [key _ h]; simp [wDg]
  | some o => cases o <;> (rw [key _ h]; simp [wDg, kE])
theorem wDg_mk {l : List (L2.Key × D)} {A : Store → Prop} : wDg (some (.dic l)) A S = A S := rfl
theorem kdg2_eq : kdg2 c f r x Q y S = WpE (evE c f r S) (kdg3 x y Q) := rfl
def wDq (o : Option O) (ky : L2.Key) (z : D) (Q : Kx) (S : Store) : Prop := match o with
  | some (.dic l) => Q (((l.find? fun kv => decide (kv.1 = ky)).map (·.2)).getD z) S
  | _ => False
theorem kdg3_s {n : Nat} {w : Str} : kdg3 (.ref n) (.str w) Q z S = wDq S[n]? (Sum.inr w) z Q S := by
  simp only [kdg3, dgetS, keyOf]
  rcases h : S[n]? with _ | (q | q | q) <;> simp only [wDq] <;> first | exact p_none | exact p_some
def fnd (l : List (L2.Key × D)) (w : Str) (z : D) : D := ((l.find? fun kv => decide (kv.1 = Sum.inr w)).map (·.2)).getD z
theorem wDq_mk {l : List (L2.Key × D)} {w : Str} : wDq (some (.dic l)) (Sum.inr w) z Q S = Q (fnd l w z) S := rfl
theorem fnd_cons {l : List (L2.Key × D)} {u w : String} : fnd ((Sum.inr (Str.ofString u), d) :: l) (Str.ofString w) z = if u = w then d else fnd l (Str.ofString w) z := by
  unfold fnd
  rw [List.find?_cons]
  by_cases h : u = w
  · subst h; simp
  · have : ¬ ((Sum.inr (Str.ofString u) : L2.Key) = Sum.inr (Str.ofString w)) := fun e => h (by have := Sum.inr.inj e; rw [ofS_inj] at this; exact this)
    simp [this, h]
theorem fnd_nil {w : Str} : fnd [] w z = z := rfl
/-! displays of dicts -/
def dspL (ks : List L2.Key) (ds : List D) : List (L2.Key × D) := (ks.zip ds).foldl (fun acc kv => dput acc kv.1 kv.2) []
theorem kdsp_mk {ks : List L2.Key} (h : ds.length = ks.length) : kdsp ks Q ds S = Q (.ref S.length) (S ++ [.dic (dspL ks ds)]) := propext ⟨fun q => q.2, fun q => ⟨h, q⟩⟩
/-! names = a list's items -/
def wU (o : Option (List D)) (is : List Nat) (r : Sl) (T : Kt) (S : Store) : Prop := match o with
  | some ds => ds.length = is.length ∧ T .nx (setAll r is ds) S
  | none => False
def kunl (is : List Nat) (r : Sl) (T : Kt) : Kx := fun x S => wU (lstOf S x) is r T S
theorem x_unl {is : List Nat} : Wp (evS c F (.unl is e) r S) T = WpE (evE c e r S) (kunl is r T) := by
  rw [evS, p_bndS]
  congr 1
  funext x S1
  show Wp (match lstOf S1 x with | some ds => _ | none => none) T = wU (lstOf S1 x) is r T S1
  cases lstOf S1 x with
  | none => exact p_noneS
  | some ds =>
    show Wp (if ds.length = is.length then _ else none) T = (ds.length = is.length ∧ _)
    by_cases h : ds.length = is.length
    · rw [if_pos h, p_someS]; exact propext ⟨fun q => ⟨h, q⟩, fun q => q.2⟩
    · rw [if_neg h, p_noneS]; exact propext ⟨False.elim, fun q => h q.1⟩
theorem kunl_eq {is : List Nat} : kunl is r T x S = wU (lstOf S x) is r T S := rfl
theorem wU_mk {is : List Nat} (h : ds.length = is.length) : wU (some ds) is r T S = T .nx (setAll r is ds) S := propext ⟨fun q => q.2, fun q => ⟨h, q⟩⟩
/-! zip -/
theorem it_zipT (h : xs.length ≤ 1000) (h2 : xs.any isPr = false) : itemsS .zip [.tup xs, .tup ys] S = some (zipD xs ys, []) := by simp only [itemsS, h, h2, and_self, if_true]
theorem zipD_cons : zipD (x :: xs) (y :: ys) = .lst [x, y] :: zipD xs ys := rfl
theorem zipD_nil : zipD [] ys = [] := rfl
theorem sA2 {i j : Nat} : setAll r [i, j] [x, y] = (r.set i (some x)).set j (some y) := rfl
end
end Rf
namespace Rf
open PySem
section
variable {S : Store} {n : Nat} {i j : Int} {w : Str} {d v : D} {l : List (L2.Key × D)} {xs : List D}
theorem bi_min2 : biS .min [.int i, .int j] S = some (.int (min i j), S) := by
  have e : (if j < i then j else i) = min i j := by omega
  rw [← e]; rfl
theorem bi_max2 : biS .max [.int i, .int j] S = some (.int (max i j), S) := by
  have e : (if j > i then j else i) = max i j := by omega
  rw [← e]; rfl
def fndO (l : List (L2.Key × D)) (w : Str) : Option D := (l.find? fun kv => decide (kv.1 = Sum.inr w)).map (·.2)
def ixS (o : Option O) (w : Str) : Option D := match o with
  | some (.dic l) => fndO l w
  | _ => none
theorem r_idxs : idxS S (.ref n) (.str w) = ixS S[n]? w := by
  rcases h : S[n]? with _ | (q | q | q) <;> simp only [ixS, idxS, h, fndO]
theorem ixS_mk : ixS (some (.dic l)) w = fndO l w := rfl
theorem fndO_cons {u w : String} : fndO ((Sum.inr (Str.ofString u), d) :: l) (Str.ofString w) = if u = w then some d else fndO l (Str.ofString w) := by
  unfold fndO
  rw [List.find?_cons]
  by_cases h : u = w
  · subst h; simp
  · have : ¬ ((Sum.inr (Str.ofString u) : L2.Key) = Sum.inr (Str.ofString w)) := fun e => h (by have := Sum.inr.inj e; rw [ofS_inj] at this; exact this)
    simp [this, h]
theorem fndO_nil : fndO [] w = none := rfl
def sixR (o : Option O) (w : Str) (v : D) (n : Nat) (S : Store) : Option Store := match o with
  | some (.dic l) => if l.length < sizeLine then some (S.set n (.dic (dput l (Sum.inr w) v))) else none
  | _ => none
theorem r_sixs : sixS (.ref n) (.str w) v S = sixR S[n]? w v n S := by
  rcases h : S[n]? with _ | (q | q | q) <;> simp only [sixR, sixS, h, keyOf]
theorem sixR_mk (h : l.length < 16777216) : sixR (some (.dic l)) w v n S = some (S.set n (.dic (dput l (Sum.inr w) v))) := by simp only [sixR, PySem.sizeLine_eq, h, if_true]
/-- put into a dict with texts for keys -/
theorem dput_nil {k : L2.Key} : dput [] k v = [(k, v)] := rfl
theorem dput_cons {u w : String} : dput ((Sum.inr (Str.ofString u), d) :: l) (Sum.inr (Str.ofString w)) v = if u = w then (Sum.inr (Str.ofString u), v) :: (l.map fun kv => if kv.1 = Sum.inr (Str.ofString w) then (kv.1, v) else kv) else (Sum.inr (Str.ofString u), d) :: dput l (Sum.inr (Str.ofString w)) v := by
  unfold dput
  by_cases h : u = w
  · subst h; simp
  · have : ¬ ((Sum.inr (Str.ofString u) : L2.Key) = Sum.inr (Str.ofString w)) := fun e => h (by have := Sum.inr.inj e; rw [ofS_inj] at this; exact this)
    simp only [List.any_cons, this, decide_false, Bool.false_or, List.map_cons, if_false, h]
    split <;> rfl
theorem dspL_eq {ks : List L2.Key} {ds : List D} : dspL ks ds = (ks.zip ds).foldl (fun acc kv => dput acc kv.1 kv.2) [] := rfl
theorem atL {α : Type} {f : α → D} {l : List α} {a : α} (h0 : 0 ≤ i) (h : l[i.toNat]? = some a) : L2.atI (l.map f) i = some (f a) := by
  have hl := (List.getElem?_eq_some_iff.mp h).1
  rw [atI_some h0 (by rw [List.length_map]; omega)]
  rw [List.getElem_map]
  obtain ⟨_, e⟩ := List.getElem?_eq_some_iff.mp h
  rw [e]
theorem at_m1a {α : Type} {x : α} : L2.atI [x] (-1) = some x := rfl
theorem at_m1b {α : Type} {x y : α} : L2.atI [x, y] (-1) = some y := rfl
def eqR (o : Option O) (S : Store) : Option Bool := match o with
  | some (.lst ds) => if fls ds 63 then some (decide (ds = [])) else none
  | _ => none
theorem c_eq0 {ds : List D} (h : S[n]? = some (.lst ds)) (hf : fls ds 63 = true) : cmpS S .Eq (.ref n) (.lst []) = some (decide (ds = [])) := by
  have e := c_nePile h hf
  simp only [cmpS, Option.map_eq_some_iff] at e ⊢
  obtain ⟨b, e1, e2⟩ := e
  rw [e1]
  cases b <;> simp_all
theorem c_eq00 : cmpS S .Eq (.lst []) (.lst []) = some true := by
  simp only [cmpS]
  rw [eqS_fl rfl rfl]
  rfl
theorem c_eqL {ds : List D} (hf : fls ds 63 = true) : cmpS S .Eq (.lst ds) (.lst []) = some (decide (ds = [])) := by
  simp only [cmpS]
  rw [eqS_fl (by simp only [fl]; exact hf) rfl]
  cases ds with
  | nil => rfl
  | cons a r => simp [pd, pds, PyData.eqv, PyData.eqvAll]
end
end Rf
namespace Rf
open PySem
section
variable {S : Store} {n : Int} {u w : String} {d v z : D} {l : List (L2.Key × D)} {m : List (Str × Int)}
theorem lk_y : List.lookup (Str.ofString u) ((Str.ofString u, n) :: m) = some n := by rw [lk_cons, if_pos rfl]
theorem lk_n (h : (u = w) = False) : List.lookup (Str.ofString u) ((Str.ofString w, n) :: m) = List.lookup (Str.ofString u) m := by rw [lk_cons, if_neg (of_eq_false h)]
theorem fnd_y : fnd ((Sum.inr (Str.ofString u), d) :: l) (Str.ofString u) z = d := by rw [fnd_cons, if_pos rfl]
theorem fnd_n (h : (u = w) = False) : fnd ((Sum.inr (Str.ofString u), d) :: l) (Str.ofString w) z = fnd l (Str.ofString w) z := by rw [fnd_cons, if_neg (of_eq_false h)]
theorem fndO_y : fndO ((Sum.inr (Str.ofString u), d) :: l) (Str.ofString u) = some d := by rw [fndO_cons, if_pos rfl]
theorem fndO_n (h : (u = w) = False) : fndO ((Sum.inr (Str.ofString u), d) :: l) (Str.ofString w) = fndO l (Str.ofString w) := by rw [fndO_cons, if_neg (of_eq_false h)]
theorem dput_n (h : (u = w) = False) : dput ((Sum.inr (Str.ofString u), d) :: l) (Sum.inr (Str.ofString w)) v = (Sum.inr (Str.ofString u), d) :: dput l (Sum.inr (Str.ofString w)) v := by rw [dput_cons, if_neg (of_eq_false h)]
end
end Rf
namespace Rf
open PySem
theorem mapO_bls : ∀ bs : List Bool, mapO asB (bs.map D.bl) = some bs
  | [] => rfl
  | b :: bs => by simp only [List.map_cons, mapO, asB, mapO_bls bs]
theorem s_all {bs : List Bool} {S : Store} : biS .all [.lst (bs.map D.bl)] S = some (.bl (bs.all id), S) := by
  simp only [biS, lstOf, mapO_bls, Option.map_some]
end Rf
namespace Rf
open PySem
section
variable {c : Cl} {F : Nat} {r : Sl} {S S1 : Store} {d x y z : D} {ds xs ys : List D} {T : Kt} {ws us : List (Nat × List D)} {n m : Nat}
theorem watch_cons {w : Nat × List D} : watch S (w :: ws) = (decide (cellL S w.1 = some w.2) && watch S ws) := rfl
theorem watch_n : watch S [] = true := rfl
def kfw (ws : List (Nat × List D)) (t : Pt) (b : Sl → Store → Rt) (ds : List D) (T : Kt) : Kt := fun f r S => match f with
  | .nx => Wp (forL ws t b ds r S) T
  | .ct => Wp (forL ws t b ds r S) T
  | .bk => T .nx r S
  | .rt v => T (.rt v) r S
theorem kfw_nx {t : Pt} {b : Sl → Store → Rt} : kfw ws t b ds T .nx r S = Wp (forL ws t b ds r S) T := rfl
theorem kfw_ct {t : Pt} {b : Sl → Store → Rt} : kfw ws t b ds T .ct r S = Wp (forL ws t b ds r S) T := rfl
theorem kfw_bk {t : Pt} {b : Sl → Store → Rt} : kfw ws t b ds T .bk r S = T .nx r S := rfl
theorem kfw_rt {t : Pt} {b : Sl → Store → Rt} : kfw ws t b ds T (.rt d) r S = T (.rt d) r S := rfl
theorem fw_nil {t : Pt} {b : Sl → Store → Rt} (h : watch S ws = true) : Wp (forL ws t b [] r S) T = T .nx r S := by simp only [forL, h, if_true]; exact p_someS
theorem fw_step {t : Pt} {b : Sl → Store → Rt} {r1 : Sl} (hw : watch S ws = true) (h : setPt t d r = some r1) : Wp (forL ws t b (d :: ds) r S) T = Wp (b r1 S) (kfw ws t b ds T) := by
  simp only [forL, hw, if_true, h]
  cases hb : b r1 S with
  | none => rw [p_noneS, p_noneS]
  | some p =>
    obtain ⟨f, r2, S2⟩ := p
    cases f with
    | nx => rw [p_someS]; rfl
    | ct => rw [p_someS]; rfl
    | bk => rw [p_someS, p_someS]; rfl
    | rt v => rw [p_someS, p_someS]; rfl
theorem fw_cons {j : Nat} {b : Sl → Store → Rt} (hw : watch S ws = true) : Wp (forL ws (.nm j) b (d :: ds) r S) T = Wp (b (r.set j (some d)) S) (kfw ws (.nm j) b ds T) := fw_step hw rfl
theorem fw_consT {is : List Nat} {b : Sl → Store → Rt} (hw : watch S ws = true) (h : xs.length = is.length) : Wp (forL ws (.tp is) b (.tup xs :: ds) r S) T = Wp (b (setAll r is xs) S) (kfw ws (.tp is) b ds T) := fw_step hw (by simp only [setPt, h, if_true])
theorem fw_consL {is : List Nat} {b : Sl → Store → Rt} (hw : watch S ws = true) (h : xs.length = is.length) : Wp (forL ws (.tp is) b (.lst xs :: ds) r S) T = Wp (b (setAll r is xs) S) (kfw ws (.tp is) b ds T) := fw_step hw (by simp only [setPt, h, if_true])
def zpO (a b : Option (List D × List (Nat × List D))) : Option (List D × List (Nat × List D)) := match a, b with
  | some (xs, ws), some (ys, us) => if xs.length ≤ 1000 ∧ xs.any isPr = false then some (zipD xs ys, ws ++ us) else none
  | _, _ => none
theorem it_zipRR : itemsS .zip [.ref n, .ref m] S = zpO (seqW S (.ref n)) (seqW S (.ref m)) := by
  cases h1 : seqW S (.ref n) <;> cases h2 : seqW S (.ref m) <;> simp only [itemsS, zpO, h1, h2]
theorem seqW_r : seqW S (.ref n) = (cellL S n).map fun ds => (ds, [(n, ds)]) := rfl
theorem zpO_mk (h : xs.length ≤ 1000) (h2 : xs.any isPr = false) : zpO (some (xs, ws)) (some (ys, us)) = some (zipD xs ys, ws ++ us) := by simp only [zpO, h, h2, and_self, if_true]
end
end Rf
namespace Rf
open PySem
section
variable {S : Store} {d : D} {ws : List (Nat × List D)} {QL : List D → Store → Prop}
def klw (ws : List (Nat × List D)) (f : D → Store → Rs (Option D)) (l : List D) (QL : List D → Store → Prop) : Ko := fun o S => WpE (loopL ws f l S) (kl2 o QL)
theorem klw_eq {f : D → Store → Rs (Option D)} {l : List D} {o : Option D} : klw ws f l QL o S = WpE (loopL ws f l S) (kl2 o QL) := rfl
theorem lw_nil {f : D → Store → Rs (Option D)} (h : watch S ws = true) : WpE (loopL ws f [] S) QL = QL [] S := by simp only [loopL, h, if_true]; exact p_some
theorem lw_cons {f : D → Store → Rs (Option D)} {l : List D} (h : watch S ws = true) : WpE (loopL ws f (d :: l) S) QL = WpE (f d S) (klw ws f l QL) := by
  simp only [loopL, h, if_true, p_bnd, p_some]
  rfl
end
end Rf

/-! Rf: runs with a try, runs that raise -/
namespace Rf
open PySem
theorem x_runT {fns : List Fn} {F k i : Nat} {fn : Fn} {ds : List D} {S : Store} {Q : Kx} (h : fns[i]? = some fn) (hl : ds.length = fn.np) :
    WpE (run fns F (k + 1) i ds S) Q = Wp (evT (decide (2 ≤ k)) (run fns F k) F fn.body (ds.map some ++ List.replicate (fn.nl - fn.np) none) S) (finQ S Q) := by
  simp only [run, h, hl, if_true]
  generalize evT (decide (2 ≤ k)) (run fns F k) F fn.body (ds.map some ++ List.replicate (fn.nl - fn.np) none) S = x
  match x with
  | none => rw [p_noneS]; exact p_none
  | some (.nx, r1, S1) => rw [p_someS]; exact p_some
  | some (.rt d, r1, S1) => rw [p_someS]; exact p_some
  | some (.bk, r1, S1) => rw [p_someS]; exact p_none
  | some (.ct, r1, S1) => rw [p_someS]; exact p_none
theorem gx_of {fns : List Fn} {F k i : Nat} {fn : Fn} {ds : List D} {S S1 : Store} {x : D} {r1 : Sl} (h : fns[i]? = some fn) (hB : fns.length ≤ BIG) (hl : ds.length = fn.np) (hk : 2 ≤ k) (hx : xSs (run fns F k) F fn.body (ds.map some ++ List.replicate (fn.nl - fn.np) none) S = some (x, r1, S1)) (hf : fin S x S1 = (x, S)) : run fns F (k + 1) (i + BIG) ds S = some (x, S) := by
  rw [run_big h hB, if_pos ⟨hk, hl⟩, hx]
  simp only [hf]
/-- none, by steps -/
def anyQ : Kx := fun _ _ => True
def anyT : Kt := fun _ _ _ => True
theorem none_of {x : Rs D} (h : WpE x anyQ = False) : x = none := by
  match x, h with
  | none, _ => rfl
  | some (d, S), h => exact (h.mp ⟨d, S, rfl, trivial⟩).elim
theorem noneS_of {x : Rt} (h : Wp x anyT = False) : x = none := by
  match x, h with
  | none, _ => rfl
  | some (f, r, S), h => exact (h.mp ⟨f, r, S, rfl, trivial⟩).elim
def isS (f : Fl) (r : Sl) (S : Store) : Kt := fun f' r' S' => f' = f ∧ r' = r ∧ S' = S
theorem isS_eq {f f' : Fl} {r r' : Sl} {S S' : Store} : isS f r S f' r' S' = (f' = f ∧ r' = r ∧ S' = S) := rfl
theorem of_isS {x : Rt} {f : Fl} {r : Sl} {S : Store} (h : Wp x (isS f r S)) : x = some (f, r, S) := by
  obtain ⟨f', r', S', e, rfl, rfl, rfl⟩ := h
  exact e
def isE (d : D) (S : Store) : Kx := fun d' S' => d' = d ∧ S' = S
theorem isE_eq {d d' : D} {S S' : Store} : isE d S d' S' = (d' = d ∧ S' = S) := rfl
theorem of_isE {x : Rs D} {d : D} {S : Store} (h : WpE x (isE d S)) : x = some (d, S) := by
  obtain ⟨d', S', e, rfl, rfl⟩ := h
  exact e
section
variable {c : Cl} {F : Nat} {r r1 r2 : Sl} {S S1 S2 : Store} {s : St} {ss a b : Sts} {q : Ex} {x : D} {z : D × Sl × Store}
theorem x_rse {cn : Str} {as : Exs} {T : Kt} : Wp (evS c F (.rse cn as) r S) T = False := by simp only [evS]; exact p_noneS
theorem xs_next (h : evS c F s r S = some (.nx, r1, S1)) : xSs c F (.cons s ss) r S = xSs c F ss r1 S1 := by simp only [xSs, h]
theorem xs_here (h : evS c F s r S = none) : xSs c F (.cons s ss) r S = xS c F s r S := by simp only [xSs, h]
theorem xs_if_t (h : evE c q r S = some (.bl true, S1)) : xS c F (.ife q a b) r S = xSs c F a r S1 := by simp only [xS, h]
theorem xs_if_f (h : evE c q r S = some (.bl false, S1)) : xS c F (.ife q a b) r S = xSs c F b r S1 := by simp only [xS, h]
theorem xs_rse {cn : Str} {as : Exs} {ds : List D} (h : evM c as r S = some (ds, S1)) : xS c F (.rse cn as) r S = some (excD cn ds, r, S1) := by simp only [xS, h]
theorem xs_rse1 {cn : Str} {as : Exs} {ds : List D} (h : evM c as r S = some (ds, S1)) : xSs c F (.cons (.rse cn as) ss) r S = some (excD cn ds, r, S1) := by
  rw [xs_here (by simp only [evS]), xs_rse h]
theorem xs_asg {t : Pt} {e : Ex} (h : xE c e r S = some (x, S1)) (hn : isLcE e = false := by rfl) : xS c F (.asg t e) r S = some (x, r, S1) := by simp only [xS, hn, slE, h, Option.map_some]; rfl
theorem xs_ret {e : Ex} (h : xE c e r S = some (x, S1)) : xS c F (.ret e) r S = some (x, r, S1) := by simp only [xS, slE, h, Option.map_some]
theorem xe_bif {f : Bi} {as : Exs} : xE c (.bif f as) r S = xM c as r S := by simp only [xE]
theorem xe_lc {as : Exs} {t : Pt} {own : List Nat} {q e : Ex} : xE c (.lc .seq as t own q e) r S = xM c as r S := by simp only [xE]
theorem xe_ite_t {q a e : Ex} (h : evE c q r S = some (.bl true, S1)) : xE c (.ite q a e) r S = xE c a r S1 := by simp only [xE, h]
theorem xe_ite_f {q a e : Ex} (h : evE c q r S = some (.bl false, S1)) : xE c (.ite q a e) r S = xE c e r S1 := by simp only [xE, h]
theorem xe_call {f : Nat} {as : Exs} {ds : List D} (h : evM c as r S = some (ds, S1)) : xE c (.call f as) r S = c (f + BIG) ds S1 := by simp only [xE, h]
theorem xe_tup {as : Exs} : xE c (.tup as) r S = xM c as r S := by simp only [xE]
theorem xm_next {e : Ex} {es : Exs} (h : evE c e r S = some (x, S1)) : xM c (.cons e es) r S = xM c es r (mat x S1).2 := by simp only [xM, h]
theorem xm_here {e : Ex} {es : Exs} (h : evE c e r S = none) : xM c (.cons e es) r S = xE c e r S := by simp only [xM, h]
theorem xe_is {e e' : Ex} (h : evE c e r S = none) : xE c (.cmp .Is e e') r S = xE c e r S := by simp only [xE, h]
/-- a try's end -/
theorem tr_nx {cs : List Str} {nm : Option Nat} {h : Hss} (hn : noTri ss = true) (e : evSs c F b r S = some (.nx, r1, S1)) : evT true c F (.cons (.tri b cs nm h) ss) r S = evSs c F ss r1 S1 := by
  simp only [evT, e, evT_eq hn]
  rfl
theorem tr_x {cs : List Str} {nm : Option Nat} {h : Hss} (hn : noTri ss = true) (e : evSs c F b r S = none) (hx : xSs c F b r S = some (x, r1, S1)) (hh : hnd cs nm h x r1 = some r2) : evT true c F (.cons (.tri b cs nm h) ss) r S = evSs c F ss r2 S1 := by
  simp only [evT, e, hx, hh, evT_eq hn]
  rfl
def kc3d (l : Int) (Q : Kx) : Kx := fun w S => match w with
  | .int m => Q (.bl (decide (l ≤ m))) S
  | _ => False
def kc3c (c : Cl) (j : Int) (e : Ex) (r : Sl) (Q : Kx) : Kx := fun z S => match z with
  | .int l => wC (.bl (decide (j ≤ l))) (kE c e r (kc3d l Q)) (kV (.bl false) Q) S
  | _ => False
def kc3b (c : Cl) (x : D) (d e : Ex) (r : Sl) (Q : Kx) : Kx := fun y S => match x, y with
  | .int i, .int j => wC (.bl (decide (i ≤ j))) (kE c d r (kc3c c j e r Q)) (kV (.bl false) Q) S
  | _, _ => False
def kc3a (c : Cl) (b d e : Ex) (r : Sl) (Q : Kx) : Kx := fun x S => WpE (evE c b r S) (kc3b c x d e r Q)
theorem kc3a_eq {b d e : Ex} {Q : Kx} : kc3a c b d e r Q x S = WpE (evE c b r S) (kc3b c x d e r Q) := rfl
theorem kc3b_eq {d e : Ex} {Q : Kx} {i j : Int} : kc3b c (.int i) d e r Q (.int j) S = wC (.bl (decide (i ≤ j))) (kE c d r (kc3c c j e r Q)) (kV (.bl false) Q) S := rfl
theorem kc3c_eq {e : Ex} {Q : Kx} {l j : Int} : kc3c c j e r Q (.int l) S = wC (.bl (decide (j ≤ l))) (kE c e r (kc3d l Q)) (kV (.bl false) Q) S := rfl
theorem kc3d_eq {Q : Kx} {l m : Int} : kc3d l Q (.int m) S = Q (.bl (decide (l ≤ m))) S := rfl
theorem x_ch3 {a b d e : Ex} {Q : Kx} : WpE (evE c (.ch3 a b d e) r S) Q = WpE (evE c a r S) (kc3a c b d e r Q) := by
  rw [evE, p_bnd]
  congr 1
  funext x S1
  rw [p_bnd]
  show WpE _ _ = WpE _ _
  congr 1
  funext y S2
  cases x with
  | int i =>
    cases y with
    | int j =>
      show WpE (if i ≤ j then _ else _) Q = _
      rw [kc3b_eq]
      by_cases h : i ≤ j
      · rw [if_pos h, wC_y h, kE_eq, p_bnd]
        congr 1
        funext z S3
        cases z with
        | int l =>
          show WpE (if j ≤ l then _ else _) Q = _
          rw [kc3c_eq]
          by_cases h2 : j ≤ l
          · rw [if_pos h2, wC_y h2, kE_eq, p_bnd]
            congr 1
            funext w S4
            cases w with
            | int m => exact p_some
            | _ => exact p_none
          · rw [if_neg h2, wC_n h2]; exact p_some
        | _ => exact p_none
      · rw [if_neg h, wC_n h]; exact p_some
    | _ => exact p_none
  | _ => cases y <;> exact p_none
end
end Rf

/-! kinds -/
namespace Rf
open PySem
inductive Kd where
  | bare (i : Fin 6) | pr (i : Fin 3) (a b : Kd) | point (a : Kd) | hole (a : Kd) | sized (a : Kd) (lo hi : Int) | rule (n : Int)
deriving DecidableEq
def bareW : Fin 6 → Str
  | 0 => Str.ofString "void" | 1 => Str.ofString "unit" | 2 => Str.ofString "one" | 3 => Str.ofString "set" | 4 => Str.ofString "row" | 5 => Str.ofString "round"
def prW : Fin 3 → Str
  | 0 => Str.ofString "this" | 1 => Str.ofString "both" | 2 => Str.ofString "in"
def Kd.enc : Kd → D
  | .bare i => .tup [.str (bareW i)]
  | .pr i a b => .tup [.str (prW i), a.enc, b.enc]
  | .point a => .tup [.str (Str.ofString "point"), a.enc]
  | .hole a => .tup [.str (Str.ofString "hole"), a.enc]
  | .sized a lo hi => .tup [.str (Str.ofString "sized"), a.enc, .int lo, .int hi]
  | .rule n => .tup [.str (Str.ofString "rule"), .int n]
def Kd.inner : Kd → List Kd
  | .pr _ a b => [a, b]
  | .point a => [a]
  | .hole a => [a]
  | .sized a _ _ => [a]
  | _ => []
def Kd.size : Kd → Nat
  | .pr _ a b => a.size + b.size + 1
  | .point a => a.size + 1
  | .hole a => a.size + 1
  | .sized a _ _ => a.size + 1
  | _ => 1
def Kd.dp : Kd → Nat
  | .pr _ a b => max a.dp b.dp + 1
  | .point a => a.dp + 1
  | .hole a => a.dp + 1
  | .sized a _ _ => a.dp + 1
  | _ => 1
/-- numbers within, rules below m -/
def Kd.ok (m : Int) : Kd → Bool
  | .bare _ => true
  | .pr _ a b => a.ok m && b.ok m
  | .point a => a.ok m
  | .hole a => a.ok m
  | .sized a lo hi => a.ok m && decide (0 ≤ lo) && decide (lo ≤ hi) && decide (hi ≤ 20)
  | .rule n => decide (0 ≤ n) && decide (n < m)
theorem Kd.ok_up {m m' : Int} (h : m ≤ m') : ∀ {kd : Kd}, kd.ok m = true → kd.ok m' = true
  | .bare _, _ => rfl
  | .pr _ a b, g => by simp only [Kd.ok, Bool.and_eq_true] at g ⊢; exact ⟨ok_up h g.1, ok_up h g.2⟩
  | .point a, g => by simp only [Kd.ok] at g ⊢; exact ok_up h g
  | .hole a, g => by simp only [Kd.ok] at g ⊢; exact ok_up h g
  | .sized a _ _, g => by simp only [Kd.ok, Bool.and_eq_true] at g ⊢; exact ⟨⟨⟨ok_up h g.1.1.1, g.1.1.2⟩, g.1.2⟩, g.2⟩
  | .rule n, g => by simp only [Kd.ok, Bool.and_eq_true, decide_eq_true_eq] at g ⊢; exact ⟨g.1, by omega⟩
theorem mat_enc (kd : Kd) (S : Store) : mat kd.enc S = (kd.enc, S) := by cases kd <;> rfl
theorem und_enc : ∀ kd : Kd, D.under 0 kd.enc = true
  | .bare i => rfl
  | .pr i a b => by simp [Kd.enc, D.under, D.unders, und_enc a, und_enc b]
  | .point a => by simp [Kd.enc, D.under, D.unders, und_enc a]
  | .hole a => by simp [Kd.enc, D.under, D.unders, und_enc a]
  | .sized a lo hi => by simp [Kd.enc, D.under, D.unders, und_enc a]
  | .rule n => rfl
theorem und_encs {l : List Kd} : D.unders 0 (l.map Kd.enc) = true := us_map und_enc
theorem tup_enc (kd : Kd) (S : Store) : tyS S kd.enc = some "tuple" := by cases kd <;> rfl
theorem strOkW (i : Fin 6) : PyData.strOk (bareW i) = true ∧ (bareW i).cps.size ≤ 5 := by
  match i with
  | 0 => decide +kernel
  | 1 => decide +kernel
  | 2 => decide +kernel
  | 3 => decide +kernel
  | 4 => decide +kernel
  | 5 => decide +kernel
theorem strOkP (i : Fin 3) : PyData.strOk (prW i) = true ∧ (prW i).cps.size ≤ 5 := by
  match i with
  | 0 => decide +kernel
  | 1 => decide +kernel
  | 2 => decide +kernel
theorem fl_enc : ∀ kd : Kd, fl kd.enc kd.dp = true
  | .bare i => by simp [Kd.enc, Kd.dp, fl, fls, strOkW]
  | .pr i a b => by
    simp only [Kd.enc, Kd.dp, fl, fls, strOkP, Bool.true_and, Bool.and_true, Bool.and_eq_true]
    exact ⟨fl_up (by omega) (fl_enc a), fl_up (by omega) (fl_enc b)⟩
  | .point a => by simp only [Kd.enc, Kd.dp, fl, fls, fl_enc a, show PyData.strOk (Str.ofString "point") = true from by decide +kernel]; rfl
  | .hole a => by simp only [Kd.enc, Kd.dp, fl, fls, fl_enc a, show PyData.strOk (Str.ofString "hole") = true from by decide +kernel]; rfl
  | .sized a lo hi => by simp only [Kd.enc, Kd.dp, fl, fls, fl_enc a, show PyData.strOk (Str.ofString "sized") = true from by decide +kernel]; rfl
  | .rule n => by simp only [Kd.enc, Kd.dp, fl, fls, show PyData.strOk (Str.ofString "rule") = true from by decide +kernel]; rfl
theorem small_abs {n : Int} (h : 0 ≤ n) (h2 : n < 100) : n.natAbs < 10 ^ 12 := by omega
theorem wD_enc {m : Int} (hm : m ≤ 50) : ∀ {kd : Kd}, kd.ok m = true → wD kd.enc ≤ 100 * kd.size
  | .bare i, _ => by simp only [Kd.enc, wD, wDs, Kd.size]; have := (strOkW i).2; omega
  | .pr i a b, g => by
    simp only [Kd.ok, Bool.and_eq_true] at g
    have h1 := wD_enc hm g.1
    have h2 := wD_enc hm g.2
    have := (strOkP i).2
    simp only [Kd.enc, wD, wDs, Kd.size]; omega
  | .point a, g => by
    have h1 := wD_enc hm (kd := a) g
    have : (Str.ofString "point").cps.size = 5 := by decide +kernel
    simp only [Kd.enc, wD, wDs, Kd.size]; omega
  | .hole a, g => by
    have h1 := wD_enc hm (kd := a) g
    have : (Str.ofString "hole").cps.size = 4 := by decide +kernel
    simp only [Kd.enc, wD, wDs, Kd.size]; omega
  | .sized a lo hi, g => by
    simp only [Kd.ok, Bool.and_eq_true, decide_eq_true_eq] at g
    have h1 := wD_enc hm g.1.1.1
    have : (Str.ofString "sized").cps.size = 5 := by decide +kernel
    simp only [Kd.enc, wD, wDs, Kd.size]
    rw [if_pos (small_abs g.1.1.2 (by omega)), if_pos (small_abs (by omega) (by omega))]
    omega
  | .rule n, g => by
    simp only [Kd.ok, Bool.and_eq_true, decide_eq_true_eq] at g
    have : (Str.ofString "rule").cps.size = 4 := by decide +kernel
    simp only [Kd.enc, wD, wDs, Kd.size]
    rw [if_pos (small_abs g.1 (by omega))]
    omega
def Kd.all : Kd → List Kd
  | .bare i => [.bare i]
  | .pr i a b => .pr i a b :: (a.all ++ b.all)
  | .point a => .point a :: a.all
  | .hole a => .hole a :: a.all
  | .sized a lo hi => .sized a lo hi :: a.all
  | .rule n => [.rule n]
theorem all_eq (x : Kd) : x.all = x :: x.inner.flatMap Kd.all := by cases x <;> simp [Kd.all, Kd.inner]
theorem size_inner (x : Kd) : (x.inner.map Kd.size).sum + 1 = x.size := by cases x <;> simp [Kd.inner, Kd.size]
theorem dp_inner (x : Kd) : ∀ z ∈ x.inner, z.dp < x.dp := by
  cases x with
  | bare i => simp [Kd.inner]
  | rule n => simp [Kd.inner]
  | pr i a b => simp only [Kd.inner, Kd.dp, List.mem_cons, List.not_mem_nil, or_false]; rintro z (rfl | rfl) <;> omega
  | point a => simp [Kd.inner, Kd.dp]
  | hole a => simp [Kd.inner, Kd.dp]
  | sized a _ _ => simp [Kd.inner, Kd.dp]
theorem size_pos (kd : Kd) : 0 < kd.size := by cases kd <;> simp [Kd.size]
theorem len_le : ∀ l : List Kd, l.length ≤ (l.map Kd.size).sum
  | [] => by simp
  | x :: l => by simp only [List.length_cons, List.map_cons, List.sum_cons]; have := len_le l; have := size_pos x; omega
theorem all_len : ∀ x : Kd, x.all.length = x.size
  | .bare i => rfl
  | .pr i a b => by simp only [Kd.all, List.length_cons, List.length_append, all_len a, all_len b, Kd.size]
  | .point a => by simp only [Kd.all, List.length_cons, all_len a, Kd.size]
  | .hole a => by simp only [Kd.all, List.length_cons, all_len a, Kd.size]
  | .sized a _ _ => by simp only [Kd.all, List.length_cons, all_len a, Kd.size]
  | .rule n => rfl
theorem dp_pos (kd : Kd) : 0 < kd.dp := by cases kd <;> simp [Kd.dp]
end Rf
namespace Rf
open PySem
theorem all_sub {m : Int} : ∀ (kd : Kd) (x : Kd), x ∈ kd.all → x.dp ≤ kd.dp ∧ x.size ≤ kd.size ∧ (kd.ok m = true → x.ok m = true)
  | .bare i, x, h => by simp only [Kd.all, List.mem_singleton] at h; subst h; exact ⟨Nat.le_refl _, Nat.le_refl _, id⟩
  | .rule n, x, h => by simp only [Kd.all, List.mem_singleton] at h; subst h; exact ⟨Nat.le_refl _, Nat.le_refl _, id⟩
  | .pr i a b, x, h => by
    simp only [Kd.all, List.mem_cons, List.mem_append] at h
    rcases h with rfl | h | h
    · exact ⟨Nat.le_refl _, Nat.le_refl _, id⟩
    · have := all_sub (m := m) a x h
      refine ⟨by simp only [Kd.dp]; omega, by simp only [Kd.size]; omega, fun g => this.2.2 ?_⟩
      simp only [Kd.ok, Bool.and_eq_true] at g; exact g.1
    · have := all_sub (m := m) b x h
      refine ⟨by simp only [Kd.dp]; omega, by simp only [Kd.size]; omega, fun g => this.2.2 ?_⟩
      simp only [Kd.ok, Bool.and_eq_true] at g; exact g.2
  | .point a, x, h => by
    simp only [Kd.all, List.mem_cons] at h
    rcases h with rfl | h
    · exact ⟨Nat.le_refl _, Nat.le_refl _, id⟩
    · have := all_sub (m := m) a x h
      exact ⟨by simp only [Kd.dp]; omega, by simp only [Kd.size]; omega, fun g => this.2.2 g⟩
  | .hole a, x, h => by
    simp only [Kd.all, List.mem_cons] at h
    rcases h with rfl | h
    · exact ⟨Nat.le_refl _, Nat.le_refl _, id⟩
    · have := all_sub (m := m) a x h
      exact ⟨by simp only [Kd.dp]; omega, by simp only [Kd.size]; omega, fun g => this.2.2 g⟩
  | .sized a _ _, x, h => by
    simp only [Kd.all, List.mem_cons] at h
    rcases h with rfl | h
    · exact ⟨Nat.le_refl _, Nat.le_refl _, id⟩
    · have := all_sub (m := m) a x h
      refine ⟨by simp only [Kd.dp]; omega, by simp only [Kd.size]; omega, fun g => this.2.2 ?_⟩
      simp only [Kd.ok, Bool.and_eq_true] at g; exact g.1.1.1
theorem nice_enc {m : Int} (hm : m ≤ 50) {kd : Kd} (h : kd.ok m = true) (hd : kd.dp ≤ 63) {w : Nat} (hs : 100 * kd.size ≤ w) : Nice 63 w kd.enc := ⟨fl_up hd (fl_enc kd), Nat.le_trans (wD_enc hm h) hs⟩
theorem nice_all {m : Int} (hm : m ≤ 50) {kd : Kd} (h : kd.ok m = true) (hd : kd.dp ≤ 63) (hs : kd.size ≤ 100) : Nice 64 (2 ^ 20) (.lst (kd.all.map Kd.enc)) :=
  Nice.lst (n := 63) (c := 10000) (m := 100) (fun d hx => by
    obtain ⟨x, hy, rfl⟩ := List.mem_map.mp hx
    obtain ⟨h1, h2, h3⟩ := all_sub (m := m) kd x hy
    exact nice_enc hm (h3 h) (by omega) (by omega)) (by rw [List.length_map, all_len]; exact hs)
end Rf

/-! lows of kinds -/
namespace Rf
open PySem
def bareLow : Fin 6 → Int
  | 0 => 20 | 1 => 0 | 2 => 1 | 3 => 0 | 4 => 0 | 5 => 1
def low (L : List Int) : Kd → Int
  | .bare i => bareLow i
  | .pr i a b => match i with
    | 0 => min 20 (min (low L a) (low L b))
    | 1 => min 20 (low L a + low L b)
    | 2 => min 20 (low L a * low L b)
  | .point a => min 20 (max 1 (low L a))
  | .hole a => min 20 (max 0 (low L a - 1))
  | .sized a lo hi => min 20 (if hi < low L a then 20 else max lo (low L a))
  | .rule n => L.getD n.toNat 0
/-- lows within -/
def LOk (L : List Int) : Prop := ∀ x ∈ L, 0 ≤ x ∧ x ≤ 20
theorem LOk.at {L : List Int} (h : LOk L) (n : Nat) : 0 ≤ L.getD n 0 ∧ L.getD n 0 ≤ 20 := by
  rw [List.getD_eq_getElem?_getD]
  cases e : L[n]? with
  | none => exact ⟨by decide, by decide⟩
  | some x => exact h x (List.mem_of_getElem? e)
theorem low_in {L : List Int} (h : LOk L) {m : Int} : ∀ {kd : Kd}, kd.ok m = true → 0 ≤ low L kd ∧ low L kd ≤ 20
  | .bare i, _ => by
    have : ∀ i : Fin 6, 0 ≤ bareLow i ∧ bareLow i ≤ 20 := by decide
    exact this i
  | .pr i a b, g => by
    simp only [Kd.ok, Bool.and_eq_true] at g
    have ha := low_in h g.1
    have hb := low_in h g.2
    match i with
    | 0 => simp only [low]; omega
    | 1 => simp only [low]; omega
    | 2 =>
      have := Int.mul_nonneg ha.1 hb.1
      simp only [low]; omega
  | .point a, g => by have ha := low_in h (kd := a) g; simp only [low]; omega
  | .hole a, g => by have ha := low_in h (kd := a) g; simp only [low]; omega
  | .sized a lo hi, g => by
    simp only [Kd.ok, Bool.and_eq_true, decide_eq_true_eq] at g
    have ha := low_in h g.1.1.1
    simp only [low]
    split <;> omega
  | .rule n, g => h.at _
def needs (L : List Int) : Kd → List Int
  | .bare _ => []
  | .pr i a b => match i with
    | 0 => needs L a ++ needs L b
    | 1 => (if low L b = 0 then needs L a else []) ++ (if low L a = 0 then needs L b else [])
    | 2 => (if low L b < 2 ∨ low L a = 0 then needs L a else []) ++ (if low L a < 2 then needs L b else [])
  | .point a => needs L a
  | .hole _ => []
  | .sized a _ _ => needs L a
  | .rule n => [n]
def stands (L : List Int) : Kd → Bool
  | .bare _ => true
  | .pr i a b => match i with
    | 2 => decide (0 < low L b) && stands L a && stands L b
    | _ => stands L a && stands L b
  | .point a => stands L a
  | .hole a => stands L a
  | .sized a _ _ => stands L a
  | .rule _ => true
theorem needs_len (L : List Int) : ∀ kd : Kd, (needs L kd).length ≤ kd.size
  | .bare _ => by simp [needs]
  | .pr i a b => by
    have ha := needs_len L a
    have hb := needs_len L b
    match i with
    | 0 => simp only [needs, Kd.size, List.length_append]; omega
    | 1 => simp only [needs, Kd.size, List.length_append]; split <;> split <;> (try simp only [List.length_nil]) <;> omega
    | 2 => simp only [needs, Kd.size, List.length_append]; split <;> split <;> (try simp only [List.length_nil]) <;> omega
  | .point a => by have := needs_len L a; simp only [needs, Kd.size]; omega
  | .hole _ => by simp [needs]
  | .sized a _ _ => by have := needs_len L a; simp only [needs, Kd.size]; omega
  | .rule n => by simp [needs, Kd.size]
theorem needs_in {L : List Int} {m : Int} : ∀ {kd : Kd}, kd.ok m = true → ∀ x ∈ needs L kd, 0 ≤ x ∧ x < m
  | .bare _, _, x, hx => by simp [needs] at hx
  | .pr i a b, g, x, hx => by
    simp only [Kd.ok, Bool.and_eq_true] at g
    have ha := needs_in (L := L) g.1 x
    have hb := needs_in (L := L) g.2 x
    match i with
    | 0 => simp only [needs, List.mem_append] at hx; exact hx.elim ha hb
    | 1 =>
      simp only [needs, List.mem_append] at hx
      rcases hx with hx | hx
      · split at hx
        · exact ha hx
        · simp at hx
      · split at hx
        · exact hb hx
        · simp at hx
    | 2 =>
      simp only [needs, List.mem_append] at hx
      rcases hx with hx | hx
      · split at hx
        · exact ha hx
        · simp at hx
      · split at hx
        · exact hb hx
        · simp at hx
  | .point a, g, x, hx => needs_in (kd := a) g x hx
  | .hole _, _, x, hx => by simp [needs] at hx
  | .sized a _ _, g, x, hx => by simp only [Kd.ok, Bool.and_eq_true] at g; exact needs_in g.1.1.1 x hx
  | .rule n, g, x, hx => by
    simp only [needs, List.mem_singleton] at hx
    subst hx
    simpa only [Kd.ok, Bool.and_eq_true, decide_eq_true_eq] using g
end Rf

/-! greatest lows; what needs what: ranks -/
namespace Rf
open PySem
/-! ### greatest lows -/
def stepL (Rs : List Kd) (L : List Int) : List Int := List.zipWith (fun x kd => min x (low L kd)) L Rs
def itr (Rs : List Kd) : Nat → List Int → List Int
  | 0, L => L
  | n + 1, L => if stepL Rs L = L then L else itr Rs n (stepL Rs L)
def RsOk (Rs : List Kd) : Prop := ∀ kd ∈ Rs, kd.ok Rs.length = true
theorem step_len {Rs : List Kd} {L : List Int} (h : L.length = Rs.length) : (stepL Rs L).length = Rs.length := by
  simp [stepL, h]
theorem step_ok {Rs : List Kd} {L : List Int} (hR : RsOk Rs) (hL : LOk L) : LOk (stepL Rs L) := by
  intro x hx
  unfold stepL at hx
  rw [List.mem_iff_getElem] at hx
  obtain ⟨i, hi, rfl⟩ := hx
  simp only [List.getElem_zipWith]
  simp only [List.length_zipWith] at hi
  have h1 := hL _ (List.getElem_mem (l := L) (n := i) (by omega))
  have h2 := low_in hL (hR _ (List.getElem_mem (l := Rs) (n := i) (by omega)))
  omega
theorem sum_zip (f : Int → Kd → Int) (hf : ∀ x k, f x k ≤ x) : ∀ (L : List Int) (Rs : List Kd), L.length = Rs.length → (List.zipWith f L Rs).sum ≤ L.sum ∧ (List.zipWith f L Rs ≠ L → (List.zipWith f L Rs).sum < L.sum)
  | [], [], _ => by simp
  | [], _ :: _, h => by simp at h
  | _ :: _, [], h => by simp at h
  | x :: L, k :: Rs, h => by
    obtain ⟨h1, h2⟩ := sum_zip f hf L Rs (by simpa using h)
    have h3 := hf x k
    simp only [List.zipWith_cons_cons, List.sum_cons]
    refine ⟨by omega, fun hne => ?_⟩
    by_cases e : f x k = x
    · have : List.zipWith f L Rs ≠ L := fun z => hne (by rw [e, z])
      have := h2 this
      omega
    · omega
theorem step_sum {Rs : List Kd} {L : List Int} (h : L.length = Rs.length) : (stepL Rs L ≠ L → (stepL Rs L).sum < L.sum) :=
  (sum_zip (fun x kd => min x (low L kd)) (fun x k => by omega) L Rs h).2
theorem sum_nn : ∀ {L : List Int}, LOk L → 0 ≤ L.sum
  | [], _ => by simp
  | x :: L, h => by
    have h1 := h x List.mem_cons_self
    have h2 := sum_nn (L := L) fun y hy => h y (List.mem_cons_of_mem _ hy)
    rw [List.sum_cons]; omega
theorem itr_fix {Rs : List Kd} (hR : RsOk Rs) : ∀ (n : Nat) (L : List Int), L.length = Rs.length → LOk L → L.sum < n → stepL Rs (itr Rs n L) = itr Rs n L ∧ LOk (itr Rs n L) ∧ (itr Rs n L).length = Rs.length ∧ itr Rs (n + 1) L = itr Rs n L
  | 0, L, _, hL, hs => by have := sum_nn hL; omega
  | n + 1, L, hl, hL, hs => by
    by_cases e : stepL Rs L = L
    · simp only [itr, e, if_true, hL, hl, and_self]
    · have h1 := step_sum hl e
      obtain ⟨g1, g2, g3, g4⟩ := itr_fix hR n (stepL Rs L) (step_len hl) (step_ok hR hL) (by omega)
      have e1 : ∀ m, itr Rs (m + 1) L = itr Rs m (stepL Rs L) := fun m => by rw [itr, if_neg e]
      rw [e1, e1 (n + 1)]
      exact ⟨g1, g2, g3, g4⟩
def great (Rs : List Kd) : List Int := itr Rs 81 (List.replicate Rs.length 20)
theorem rep_ok (n : Nat) : LOk (List.replicate n 20) := fun x hx => by rw [(List.mem_replicate.mp hx).2]; omega
theorem rep_sum (n : Nat) : (List.replicate n (20 : Int)).sum = 20 * n := by
  induction n with
  | zero => rfl
  | succ n ih => rw [List.replicate_succ, List.sum_cons, ih]; omega
theorem great_fix {Rs : List Kd} (hR : RsOk Rs) (hn : Rs.length ≤ 4) : stepL Rs (great Rs) = great Rs ∧ LOk (great Rs) ∧ (great Rs).length = Rs.length := by
  obtain ⟨h1, h2, h3, _⟩ := itr_fix hR 81 (List.replicate Rs.length 20) (by simp) (rep_ok _) (by rw [rep_sum]; omega)
  exact ⟨h1, h2, h3⟩
end Rf

/-! ranks by what needs what -/
namespace Rf
open PySem
theorem maxI_ge : ∀ (r : List Int) (m : Int), m ≤ maxI m r ∧ (∀ y ∈ r, y ≤ maxI m r) ∧ (maxI m r = m ∨ maxI m r ∈ r)
  | [], m => ⟨Int.le_refl _, by simp, .inl rfl⟩
  | x :: r, m => by
    obtain ⟨h1, h2, h3⟩ := maxI_ge r (if m < x then x else m)
    rw [maxI]
    have h0 : m ≤ (if m < x then x else m) ∧ x ≤ (if m < x then x else m) := by split <;> omega
    refine ⟨by omega, fun y hy => ?_, ?_⟩
    · rcases List.mem_cons.mp hy with rfl | hy
      · omega
      · exact h2 y hy
    · rcases h3 with h3 | h3
      · rw [h3]; split
        · exact .inr List.mem_cons_self
        · exact .inl rfl
      · exact .inr (List.mem_cons_of_mem _ h3)
theorem mxd_ge {l : List Int} {k : Int} : (∀ y ∈ l, y ≤ mxd k l) ∧ (l ≠ [] → mxd k l ∈ l) := by
  cases l with
  | nil => simp
  | cons x r =>
    obtain ⟨h1, h2, h3⟩ := maxI_ge r x
    refine ⟨fun y hy => ?_, fun _ => ?_⟩
    · rcases List.mem_cons.mp hy with rfl | hy
      · exact h1
      · exact h2 y hy
    · show maxI x r ∈ _
      rcases h3 with h3 | h3
      · rw [h3]; exact List.mem_cons_self
      · exact List.mem_cons_of_mem _ h3
theorem mxd_ext {l l' : List Int} {k : Int} (h : ∀ x, x ∈ l ↔ x ∈ l') : mxd k l = mxd k l' := by
  by_cases e : l = []
  · subst e
    have : l' = [] := List.eq_nil_iff_forall_not_mem.mpr fun x hx => by simpa using (h x).mpr hx
    rw [this]
  · have e' : l' ≠ [] := fun z => e (List.eq_nil_iff_forall_not_mem.mpr fun x hx => by
      have := (h x).mp hx; rw [z] at this; simp at this)
    have h1 := (mxd_ge (l := l) (k := k)).2 e
    have h2 := (mxd_ge (l := l') (k := k)).2 e'
    have h3 := (mxd_ge (l := l') (k := k)).1 _ ((h _).mp h1)
    have h4 := (mxd_ge (l := l) (k := k)).1 _ ((h _).mpr h2)
    omega
theorem mxd_bd {l : List Int} {a b : Int} (h : ∀ x ∈ l, a ≤ x ∧ x ≤ b) (h0 : a ≤ 0) (h1 : 0 ≤ b) : a ≤ mxd 0 l ∧ mxd 0 l ≤ b := by
  by_cases e : l = []
  · subst e; exact ⟨h0, h1⟩
  · exact h _ ((mxd_ge (l := l) (k := 0)).2 e)
def fil (P : List (Int × Int)) (i : Int) : Bool := (getK P i).isSome
def gk (P : List (Int × Int)) (i : Int) : Int := (getK P i).getD 0
theorem getK_app (P : List (Int × Int)) (i v j : Int) : getK (P ++ [(i, v)]) j = if fil P j then getK P j else if i = j then some v else none := by
  unfold fil getK
  rw [List.find?_append]
  cases h : P.find? fun p => decide (p.1 = j) with
  | some p => simp
  | none =>
    by_cases e : i = j
    · simp [e]
    · simp [e]
theorem fil_app {P : List (Int × Int)} {i v j : Int} : fil (P ++ [(i, v)]) j = (fil P j || decide (i = j)) := by
  unfold fil
  rw [getK_app]
  unfold fil
  by_cases h : (getK P j).isSome = true
  · simp [h]
  · by_cases e : i = j <;> simp [h, e]
def kstep (N : Nat → List Int) (P : List (Int × Int)) (i : Nat) : List (Int × Int) :=
  if (!fil P i && (N i).all (fil P)) = true then P ++ [((i : Int), mxd 0 ((N i).map fun j => gk P j + 1))] else P
theorem cnt_one (p : Nat → Bool) (i : Nat) (hp : p i = false) : ∀ n : Nat, (List.range n).countP (fun j => p j || decide (i = j)) = (List.range n).countP p + if i < n then 1 else 0
  | 0 => by simp
  | n + 1 => by
    rw [List.range_succ, List.countP_append, List.countP_append, cnt_one p i hp n]
    by_cases e : i = n
    · subst e; simp [hp]
    · have : decide (i = n) = false := by simp [e]
      simp only [List.countP_cons, List.countP_nil, this, Bool.or_false]
      split <;> split <;> split <;> omega
structure KInv (n : Nat) (N : Nat → List Int) (P : List (Int × Int)) : Prop where
  cnt : P.length = (List.range n).countP fun i : Nat => fil P i
  at' : ∀ i v, getK P i = some v → 0 ≤ i ∧ i < n ∧ 0 ≤ v ∧ v < P.length ∧ (∀ j ∈ N i.toNat, fil P j = true) ∧ v = mxd 0 ((N i.toNat).map fun j => gk P j + 1)
theorem gk_bd {n : Nat} {N : Nat → List Int} {P : List (Int × Int)} (h : KInv n N P) {j : Int} (hj : fil P j = true) : 0 ≤ gk P j ∧ gk P j < P.length := by
  unfold fil at hj
  unfold gk
  cases e : getK P j with
  | none => rw [e] at hj; cases hj
  | some v => have := h.at' j v e; exact ⟨this.2.2.1, this.2.2.2.1⟩
theorem kstep_inv {n : Nat} {N : Nat → List Int} {P : List (Int × Int)} (h : KInv n N P) {i : Nat} (hi : i < n) : KInv n N (kstep N P i) := by
  unfold kstep
  split
  · rename_i hc
    simp only [Bool.and_eq_true, Bool.not_eq_true', List.all_eq_true] at hc
    have keep : ∀ j w, fil P j = true → getK (P ++ [((i : Int), w)]) j = getK P j := fun j w hj => by rw [getK_app, if_pos hj]
    have keepg : ∀ j w, fil P j = true → gk (P ++ [((i : Int), w)]) j = gk P j := fun j w hj => by unfold gk; rw [keep j w hj]
    have mapg : ∀ (l : List Int) w, (∀ j ∈ l, fil P j = true) → (l.map fun j => gk (P ++ [((i : Int), w)]) j + 1) = l.map fun j => gk P j + 1 := fun l w hl =>
      List.map_congr_left fun j hj => by rw [keepg j w (hl j hj)]
    refine ⟨?_, fun j v e => ?_⟩
    · rw [List.length_append, List.length_singleton, h.cnt]
      have := cnt_one (fun j => fil P (j : Int)) i hc.1 n
      rw [if_pos hi] at this
      rw [← this]
      congr 1
      funext j
      rw [fil_app]
      congr 1
      simp only [Int.natCast_inj]
    · rw [getK_app] at e
      by_cases hf : fil P j = true
      · rw [if_pos hf] at e
        obtain ⟨g1, g2, g3, g4, g5, g6⟩ := h.at' j v e
        refine ⟨g1, g2, g3, by rw [List.length_append]; simp; omega, fun y hy => by rw [fil_app, g5 y hy]; rfl, ?_⟩
        rw [mapg _ _ g5]; exact g6
      · rw [if_neg hf] at e
        split at e
        · rename_i e2
          subst e2
          cases e
          have hb := mxd_bd (l := (N i).map fun j => gk P j + 1) (a := 0) (b := P.length) (fun x hx => by
            obtain ⟨j, hj, rfl⟩ := List.mem_map.mp hx
            have := gk_bd h (hc.2 j hj)
            omega) (Int.le_refl _) (by omega)
          refine ⟨by omega, by omega, hb.1, by rw [List.length_append]; simp; omega, fun y hy => ?_, ?_⟩
          · rw [Int.toNat_natCast] at hy
            rw [fil_app, hc.2 y hy]; rfl
          · rw [Int.toNat_natCast, mapg _ _ hc.2]
        · cases e
  · exact h
theorem fil_nil (j : Int) : fil [] j = false := rfl
theorem kinv_nil {n : Nat} {N : Nat → List Int} : KInv n N [] := by
  refine ⟨?_, fun i v e => by cases e⟩
  symm
  rw [List.countP_eq_zero.mpr fun i _ => by simp [fil_nil]]
  rfl
theorem kstep_up {N : Nat → List Int} {P : List (Int × Int)} {i : Nat} {j : Int} (h : fil P j = true) : fil (kstep N P i) j = true := by
  unfold kstep
  split
  · rw [fil_app, h]; rfl
  · exact h
def kround (n : Nat) (N : Nat → List Int) (P : List (Int × Int)) : List (Int × Int) := (List.range n).foldl (kstep N) P
def kahn (n : Nat) (N : Nat → List Int) : List (Int × Int) := (List.range n).foldl (fun P _ => kround n N P) []
theorem fold_inv {n : Nat} {N : Nat → List Int} : ∀ (l : List Nat) (P : List (Int × Int)), (∀ i ∈ l, i < n) → KInv n N P → KInv n N (l.foldl (kstep N) P) ∧ (∀ j, fil P j = true → fil (l.foldl (kstep N) P) j = true) ∧
    ∀ i ∈ l, (∀ j ∈ N i, fil P j = true) → fil (l.foldl (kstep N) P) i = true
  | [], P, _, h => ⟨h, fun _ hj => hj, by simp⟩
  | x :: l, P, hl, h => by
    obtain ⟨g1, g2, g3⟩ := fold_inv l (kstep N P x) (fun i hi => hl i (List.mem_cons_of_mem _ hi)) (kstep_inv h (hl x List.mem_cons_self))
    refine ⟨g1, fun j hj => g2 j (kstep_up hj), fun i hi hN => ?_⟩
    rcases List.mem_cons.mp hi with rfl | hi
    · refine g2 _ ?_
      by_cases hf : fil P i = true
      · exact kstep_up hf
      · unfold kstep
        have hf : fil P i = false := by simpa using hf
        rw [if_pos (by simp only [Bool.and_eq_true, Bool.not_eq_true', List.all_eq_true]; exact ⟨hf, hN⟩), fil_app]
        simp
    · exact g3 i hi fun j hj => kstep_up (hN j hj)
theorem kround_inv {n : Nat} {N : Nat → List Int} {P : List (Int × Int)} (h : KInv n N P) : KInv n N (kround n N P) ∧ (∀ j, fil P j = true → fil (kround n N P) j = true) ∧ ∀ i < n, (∀ j ∈ N i, fil P j = true) → fil (kround n N P) i = true := by
  obtain ⟨g1, g2, g3⟩ := fold_inv (List.range n) P (fun i hi => List.mem_range.mp hi) h
  exact ⟨g1, g2, fun i hi hN => g3 i (List.mem_range.mpr hi) hN⟩
theorem cnt_le {p q : Nat → Bool} (h : ∀ i, p i = true → q i = true) (n : Nat) : (List.range n).countP p ≤ (List.range n).countP q := List.countP_mono_left fun i _ => h i
theorem cnt_lt {p q : Nat → Bool} (h : ∀ i, p i = true → q i = true) {i : Nat} (hp : p i = false) (hq : q i = true) {n : Nat} (hi : i < n) : (List.range n).countP p < (List.range n).countP q := by
  have h1 := cnt_one p i hp n
  rw [if_pos hi] at h1
  have h2 := cnt_le (p := fun j => p j || decide (i = j)) (q := q) (fun j hj => by
    rcases Bool.or_eq_true _ _ ▸ hj with hj | hj
    · exact h j hj
    · rw [← of_decide_eq_true hj]; exact hq) n
  omega
/-- by strict ranks one more is filled at each round -/
theorem kround_more {n : Nat} {N : Nat → List Int} {P : List (Int × Int)} (h : KInv n N P) (R : Nat → Int) (hN : ∀ i < n, ∀ j ∈ N i, 0 ≤ j ∧ j < n) (hR : ∀ i < n, ∀ j ∈ N i, R j.toNat < R i) (hlt : P.length < n) : P.length < (kround n N P).length := by
  obtain ⟨g1, g2, g3⟩ := kround_inv h
  have find : ∀ l : List Nat, (∃ i ∈ l, fil P (i : Int) = false) → ∃ i ∈ l, fil P (i : Int) = false ∧ ∀ k ∈ l, fil P (k : Int) = false → R i ≤ R k := by
    intro l
    induction l with
    | nil => rintro ⟨i, hi, _⟩; cases hi
    | cons x l ih =>
      rintro ⟨i, hi, hf⟩
      by_cases hex : ∃ i ∈ l, fil P (i : Int) = false
      · obtain ⟨y, hy, hy1, hy2⟩ := ih hex
        by_cases hx : fil P (x : Int) = false ∧ R x < R y
        · refine ⟨x, List.mem_cons_self, hx.1, fun k hk hk1 => ?_⟩
          rcases List.mem_cons.mp hk with rfl | hk
          · exact Int.le_refl _
          · have := hy2 k hk hk1; omega
        · refine ⟨y, List.mem_cons_of_mem _ hy, hy1, fun k hk hk1 => ?_⟩
          rcases List.mem_cons.mp hk with rfl | hk
          · have : ¬ R k < R y := fun z => hx ⟨hk1, z⟩
            omega
          · exact hy2 k hk hk1
      · rcases List.mem_cons.mp hi with rfl | hi
        · refine ⟨i, List.mem_cons_self, hf, fun k hk hk1 => ?_⟩
          rcases List.mem_cons.mp hk with rfl | hk
          · exact Int.le_refl _
          · exact absurd ⟨k, hk, hk1⟩ hex
        · exact absurd ⟨i, hi, hf⟩ hex
  have some1 : ∃ i ∈ List.range n, fil P (i : Int) = false := by
    refine Classical.byContradiction fun hno => ?_
    have : (List.range n).countP (fun i : Nat => fil P i) = (List.range n).length := List.countP_eq_length.mpr fun i hi => by
      cases hf : fil P (i : Int) with
      | true => rfl
      | false => exact absurd ⟨i, hi, hf⟩ hno
    rw [← h.cnt, List.length_range] at this
    omega
  obtain ⟨i, hi, hf, hm⟩ := find _ some1
  have hin := List.mem_range.mp hi
  have all : ∀ j ∈ N i, fil P j = true := fun j hj => by
    obtain ⟨j0, j1⟩ := hN i hin j hj
    have hr := hR i hin j hj
    cases hf2 : fil P j with
    | true => rfl
    | false =>
      have ej : ((j.toNat : Nat) : Int) = j := by omega
      have := hm j.toNat (List.mem_range.mpr (by omega)) (by rw [ej]; exact hf2)
      omega
  have hfi := g3 i hin all
  rw [h.cnt, g1.cnt]
  exact cnt_lt (fun j hj => g2 _ hj) hf hfi hin
theorem kahn_go {n : Nat} {N : Nat → List Int} : ∀ (l : List Nat) (P : List (Int × Int)), KInv n N P → KInv n N (l.foldl (fun P _ => kround n N P) P)
  | [], _, h => h
  | _ :: l, P, h => kahn_go l _ (kround_inv h).1
theorem kahn_inv (n : Nat) (N : Nat → List Int) : KInv n N (kahn n N) := kahn_go _ _ kinv_nil
theorem kahn_len {n : Nat} {N : Nat → List Int} (R : Nat → Int) (hN : ∀ i < n, ∀ j ∈ N i, 0 ≤ j ∧ j < n) (hR : ∀ i < n, ∀ j ∈ N i, R j.toNat < R i) : ∀ (l : List Nat) (P : List (Int × Int)), KInv n N P → min n (P.length + l.length) ≤ (l.foldl (fun P _ => kround n N P) P).length
  | [], P, _ => by simp; omega
  | x :: l, P, h => by
    have ih := kahn_len R hN hR l (kround n N P) (kround_inv h).1
    rw [List.foldl_cons, List.length_cons]
    by_cases hlt : P.length < n
    · have := kround_more h R hN hR hlt
      omega
    · have h1 : P.length ≤ (kround n N P).length := by
        rw [h.cnt, (kround_inv h).1.cnt]
        exact cnt_le (fun j hj => (kround_inv h).2.1 _ hj) n
      omega
theorem kahn_full {n : Nat} {N : Nat → List Int} (R : Nat → Int) (hN : ∀ i < n, ∀ j ∈ N i, 0 ≤ j ∧ j < n) (hR : ∀ i < n, ∀ j ∈ N i, R j.toNat < R i) : ¬ (kahn n N).length < n := by
  have := kahn_len R hN hR (List.range n) [] kinv_nil
  simp only [List.length_nil, List.length_range, Nat.zero_add, Nat.min_self] at this
  unfold kahn
  omega
theorem full_all {n : Nat} {N : Nat → List Int} {P : List (Int × Int)} (h : KInv n N P) (hl : ¬ P.length < n) : ∀ i < n, fil P (i : Nat) = true := by
  intro i hi
  cases hf : fil P (i : Int) with
  | true => rfl
  | false =>
    have := cnt_lt (p := fun j => fil P (j : Int)) (q := fun _ => true) (fun _ _ => rfl) hf rfl hi
    rw [← h.cnt, List.countP_eq_length.mpr (fun _ _ => rfl), List.length_range] at this
    omega
/-! ### ranks by rounds -/
def rkS (n : Nat) (N : Nat → List Int) (r : List Int) : List Int := (List.range n).map fun i => mxd 0 ((N i).map fun j => r.getD j.toNat 0 + 1)
def rkI (n : Nat) (N : Nat → List Int) : Nat → List Int
  | 0 => List.replicate n 0
  | t + 1 => rkS n N (rkI n N t)
theorem rkS_at {n : Nat} {N : Nat → List Int} {r : List Int} {i : Nat} (hi : i < n) : (rkS n N r).getD i 0 = mxd 0 ((N i).map fun j => r.getD j.toNat 0 + 1) := by
  simp [rkS, List.getD_eq_getElem?_getD, hi]
theorem rkI_len {n : Nat} {N : Nat → List Int} : ∀ t, (rkI n N t).length = n
  | 0 => by simp [rkI]
  | t + 1 => by simp [rkI, rkS]
theorem rkI_bd {n : Nat} {N : Nat → List Int} : ∀ (t : Nat) (x : Int), x ∈ rkI n N t → 0 ≤ x ∧ x ≤ t
  | 0, x, h => by simp [rkI] at h; omega
  | t + 1, x, h => by
    simp only [rkI, rkS, List.mem_map] at h
    obtain ⟨i, _, rfl⟩ := h
    refine mxd_bd (fun y hy => ?_) (Int.le_refl _) (by omega)
    obtain ⟨j, _, rfl⟩ := List.mem_map.mp hy
    have : 0 ≤ (rkI n N t).getD j.toNat 0 ∧ (rkI n N t).getD j.toNat 0 ≤ t := by
      rw [List.getD_eq_getElem?_getD]
      cases e : (rkI n N t)[j.toNat]? with
      | none => exact ⟨Int.le_refl _, Int.natCast_nonneg t⟩
      | some z => exact rkI_bd t z (List.mem_of_getElem? e)
    omega
theorem gk_at {n : Nat} {N : Nat → List Int} {P : List (Int × Int)} (h : KInv n N P) {i : Nat} (hf : fil P (i : Int) = true) :
    (∀ j ∈ N i, fil P j = true) ∧ gk P i = mxd 0 ((N i).map fun j => gk P j + 1) := by
  unfold fil at hf
  cases e : getK P (i : Int) with
  | none => rw [e] at hf; cases hf
  | some v =>
    obtain ⟨_, _, _, _, g5, g6⟩ := h.at' _ v e
    rw [Int.toNat_natCast] at g5 g6
    exact ⟨g5, by rw [← g6]; unfold gk; rw [e]; rfl⟩
theorem gk_lt {n : Nat} {N : Nat → List Int} {P : List (Int × Int)} (h : KInv n N P) {i : Nat} (hf : fil P (i : Int) = true) : ∀ j ∈ N i, gk P j < gk P i := fun j hj => by
  have h1 := (gk_at h hf).2
  have h2 := (mxd_ge (l := (N i).map fun j => gk P j + 1) (k := 0)).1 _ (List.mem_map.mpr ⟨j, hj, rfl⟩)
  omega
theorem rk_gk {n : Nat} {N : Nat → List Int} {P : List (Int × Int)} (hN : ∀ i < n, ∀ j ∈ N i, 0 ≤ j ∧ j < n) (h : KInv n N P) (hfull : ∀ i < n, fil P (i : Nat) = true) : ∀ (t : Nat) (i : Nat), i < n → gk P i < t → (rkI n N t).getD i 0 = gk P i
  | 0, i, hi, hg => by have := gk_bd h (hfull i hi); omega
  | t + 1, i, hi, hg => by
    rw [rkI, rkS_at hi, (gk_at h (hfull i hi)).2]
    congr 1
    refine List.map_congr_left fun j hj => ?_
    obtain ⟨j0, j1⟩ := hN i hi j hj
    have ej : ((j.toNat : Nat) : Int) = j := by omega
    have := gk_lt h (hfull i hi) j hj
    have ih := rk_gk hN h hfull t j.toNat (by omega) (by rw [ej]; omega)
    rw [ih, ej]
/-- strict ranks by rounds: just where all are filled -/
def strictR (n : Nat) (N : Nat → List Int) (r : List Int) : Prop := ∀ i < n, ∀ j ∈ N i, r.getD j.toNat 0 < r.getD i 0
theorem due_iff {n : Nat} {N : Nat → List Int} (hN : ∀ i < n, ∀ j ∈ N i, 0 ≤ j ∧ j < n) : strictR n N (rkI n N (n + 1)) ↔ ¬ (kahn n N).length < n := by
  refine ⟨fun h => kahn_full (fun i => (rkI n N (n + 1)).getD i 0) hN h, fun h i hi j hj => ?_⟩
  have hk := kahn_inv n N
  have hfull := full_all hk h
  have hle : (kahn n N).length ≤ n := by
    rw [hk.cnt]; exact Nat.le_trans (List.countP_le_length) (by simp)
  have bd : ∀ i < n, gk (kahn n N) (i : Nat) < (n + 1 : Nat) := fun i hi => by
    have := gk_bd hk (hfull i hi); omega
  obtain ⟨j0, j1⟩ := hN i hi j hj
  have ej : ((j.toNat : Nat) : Int) = j := by omega
  rw [rk_gk hN hk hfull (n + 1) i hi (bd i hi), rk_gk hN hk hfull (n + 1) j.toNat (by omega) (bd _ (by omega)), ej]
  exact gk_lt hk (hfull i hi) j hj
end Rf

/-! found papers: told, judged -/
namespace Rf
open PySem
theorem l_mapR {α : Type} {l : List α} {f : α → D} (g : α → D) {ws : List (Nat × List D)} {h : D → Store → Rs (Option D)} {S : Store} {QL : List D → Store → Prop} (hw : watch S ws = true) (he : ∀ x ∈ l, WpE (h (f x) S) (isO (some (g x)) S)) (q : QL (l.map g) S) : WpE (loopL ws h (l.map f) S) QL := by
  rw [l_map hw he]; exact q
theorem l_filR {α : Type} {l : List α} {f : α → D} (p : α → Bool) (g : α → D) {ws : List (Nat × List D)} {h : D → Store → Rs (Option D)} {S : Store} {QL : List D → Store → Prop} (hw : watch S ws = true) (he : ∀ x ∈ l, WpE (h (f x) S) (isO (if p x then some (g x) else none) S)) (q : QL ((l.filter p).map g) S) : WpE (loopL ws h (l.map f) S) QL := by
  rw [l_filter hw he]; exact q
theorem atN {α : Type} {f : α → D} {l : List α} {i : Nat} (d : α) (h : i < l.length) : L2.atI (l.map f) (i : Int) = some (f (l.getD i d)) :=
  atL (by omega) (by rw [Int.toNat_natCast, List.getD_eq_getElem?_getD, List.getElem?_eq_getElem h]; rfl)
theorem atZ {α : Type} {f : α → D} {l : List α} {i : Int} (d : α) (h0 : 0 ≤ i) (h : i < l.length) : L2.atI (l.map f) i = some (f (l.getD i.toNat d)) :=
  atL h0 (by rw [List.getD_eq_getElem?_getD, List.getElem?_eq_getElem (by omega)]; rfl)
theorem op_rep {n : Nat} {v : Int} {S : Store} (h : n ≤ 1000) : binS S .Mult (.tup [.int v]) (.int (n : Int)) = some (.tup ((List.replicate n v).map D.int)) := by
  simp only [binS]
  rw [if_pos ⟨by simp, by simp, by omega, by omega⟩, Int.toNat_natCast]
  congr 2
  rw [List.map_replicate]
  induction n with
  | zero => rfl
  | succ n ih => rw [List.replicate_succ, List.flatten_cons, ih (by omega)]; rfl
theorem stepL_map {Rs : List Kd} {L : List Int} (h : L.length = Rs.length) : (List.range Rs.length).map (fun i => min (L.getD i 0) (low L (Rs.getD i (.bare 0)))) = stepL Rs L := by
  refine List.ext_getElem (by simp [stepL, h]) fun i h1 h2 => ?_
  simp only [List.length_map, List.length_range] at h1
  simp only [stepL, List.getElem_map, List.getElem_range, List.getElem_zipWith, List.getD_eq_getElem?_getD, List.getElem?_eq_getElem h1, List.getElem?_eq_getElem (show i < L.length by omega), Option.getD_some]
theorem ints_inj {L M : List Int} : (L.map D.int = M.map D.int) ↔ L = M :=
  ⟨fun h => by
    have := congrArg (List.map fun d => match d with | D.int i => i | _ => 0) h
    simpa [List.map_map, Function.comp_def] using this, fun h => by rw [h]⟩
theorem c_eqI {L M : List Int} {S : Store} : cmpS S .Eq (.tup (L.map D.int)) (.tup (M.map D.int)) = some (decide (L = M)) := by
  simp only [cmpS]
  rw [eqS_nb (by simp only [fl, fls_ints]) (by simp only [fl, fls_ints]) (by simp only [nb, nbs_ints]) (by simp only [nb, nbs_ints])]
  simp only [D.tup.injEq, ints_inj]
theorem c_neI {L M : List Int} {S : Store} : cmpS S .NotEq (.tup (L.map D.int)) (.tup (M.map D.int)) = some (!decide (L = M)) := by
  simp only [cmpS]
  rw [eqS_nb (by simp only [fl, fls_ints]) (by simp only [fl, fls_ints]) (by simp only [nb, nbs_ints]) (by simp only [nb, nbs_ints])]
  simp only [D.tup.injEq, ints_inj, Option.map_some]
/-- good rules: of at most four kinds, small ones -/
structure RsG (Rs : List Kd) : Prop where
  ok : RsOk Rs
  len : Rs.length ≤ 4
  dp : ∀ kd ∈ Rs, kd.dp ≤ 45
  size : ∀ kd ∈ Rs, kd.size ≤ 300
def atK (Rs : List Kd) (i : Nat) : Kd := Rs.getD i (.bare 0)
theorem atK_mem {Rs : List Kd} {i : Nat} (h : i < Rs.length) : atK Rs i ∈ Rs := by
  unfold atK; rw [List.getD_eq_getElem?_getD, List.getElem?_eq_getElem h]; exact List.getElem_mem h
def nd (Rs : List Kd) (L : List Int) (i : Nat) : List Int := needs L (atK Rs i)
def told (Rs : List Kd) : Option (List Int × List Int) :=
  if Rs.all (stands (great Rs)) = true then
    if (kahn Rs.length (nd Rs (great Rs))).length < Rs.length then none
    else some (great Rs, (List.range Rs.length).map fun i : Nat => gk (kahn Rs.length (nd Rs (great Rs))) i)
  else none
def toldD (Rs : List Kd) : D := match told Rs with
  | none => .non
  | some (L, R) => .tup [.tup (L.map D.int), .tup (R.map D.int)]
/-- nothing amiss at a rule -/
def g1 (Rs : List Kd) (L R : List Int) (i : Nat) : Bool :=
  decide (L.getD i 0 ≤ low L (atK Rs i)) && stands L (atK Rs i) && (nd Rs L i).all fun j => decide (R.getD j.toNat 0 < R.getD i 0)
def good (Rs : List Kd) (L R : List Int) : Bool := (List.range Rs.length).all (g1 Rs L R)
theorem nd_in {Rs : List Kd} {L : List Int} (h : RsOk Rs) : ∀ i < Rs.length, ∀ j ∈ nd Rs L i, 0 ≤ j ∧ j < Rs.length := fun i hi j hj => needs_in (h _ (atK_mem hi)) j hj
theorem great_le {Rs : List Kd} (h : RsG Rs) {i : Nat} (hi : i < Rs.length) : (great Rs).getD i 0 ≤ low (great Rs) (atK Rs i) := by
  obtain ⟨e, _, l⟩ := great_fix h.ok h.len
  have := congrArg (fun x => x.getD i 0) e
  simp only [stepL, List.getD_eq_getElem?_getD] at this
  unfold atK
  rw [List.getD_eq_getElem?_getD, List.getD_eq_getElem?_getD, List.getElem?_eq_getElem hi]
  rw [List.getElem?_eq_getElem (by simp [l]; exact hi), List.getElem_zipWith] at this
  rw [List.getElem?_eq_getElem (show i < (great Rs).length by omega)] at this ⊢
  simp only [Option.getD_some] at this ⊢
  omega
def founded (Rs : List Kd) : Bool := (told Rs).isSome
theorem all_at {Rs : List Kd} {p : Kd → Bool} : Rs.all p = true ↔ ∀ i < Rs.length, p (atK Rs i) = true := by
  rw [List.all_eq_true]
  refine ⟨fun h i hi => h _ (atK_mem hi), fun h x hx => ?_⟩
  obtain ⟨i, hi, rfl⟩ := List.mem_iff_getElem.mp hx
  have := h i hi
  unfold atK at this
  rwa [List.getD_eq_getElem?_getD, List.getElem?_eq_getElem hi] at this
/-- the law's own due: just where a paper is told -/
theorem good_rk {Rs : List Kd} (h : RsG Rs) : good Rs (great Rs) (rkI Rs.length (nd Rs (great Rs)) (Rs.length + 1)) = founded Rs := by
  have hd := due_iff (n := Rs.length) (N := nd Rs (great Rs)) (nd_in h.ok)
  rw [Bool.eq_iff_iff]
  unfold good founded told
  rw [List.all_eq_true]
  constructor
  · intro hg
    have g := fun i hi => hg i (List.mem_range.mpr hi)
    simp only [g1, Bool.and_eq_true, decide_eq_true_eq, List.all_eq_true] at g
    rw [if_pos (all_at.mpr fun i hi => (g i hi).1.2), if_neg (hd.mp fun i hi j hj => (g i hi).2 j hj)]
    rfl
  · intro hs i hi
    have hi := List.mem_range.mp hi
    split at hs
    · rename_i h1
      split at hs
      · cases hs
      · rename_i h2
        simp only [g1, Bool.and_eq_true, decide_eq_true_eq, List.all_eq_true]
        exact ⟨⟨great_le h hi, all_at.mp h1 i hi⟩, fun j hj => hd.mpr h2 i hi j hj⟩
    · cases hs
theorem told_ok {Rs : List Kd} (h : RsG Rs) {L R : List Int} (ht : told Rs = some (L, R)) : L = great Rs ∧ R.length = Rs.length ∧ (∀ x ∈ R, 0 ≤ x ∧ x ≤ 20) ∧ good Rs L R = true := by
  unfold told at ht
  split at ht
  · rename_i h1
    split at ht
    · cases ht
    · rename_i h2
      simp only [Option.some.injEq, Prod.mk.injEq] at ht
      obtain ⟨rfl, rfl⟩ := ht
      have hk := kahn_inv Rs.length (nd Rs (great Rs))
      have hf := full_all hk h2
      have hle : (kahn Rs.length (nd Rs (great Rs))).length ≤ Rs.length := by
        rw [hk.cnt]; exact Nat.le_trans (List.countP_le_length) (by simp)
      have h4 := h.len
      refine ⟨rfl, by simp, fun x hx => ?_, ?_⟩
      · obtain ⟨i, hi, rfl⟩ := List.mem_map.mp hx
        have := gk_bd hk (hf i (List.mem_range.mp hi))
        omega
      · unfold good
        rw [List.all_eq_true]
        intro i hi
        have hi := List.mem_range.mp hi
        have at' : ∀ i < Rs.length, ((List.range Rs.length).map fun i : Nat => gk (kahn Rs.length (nd Rs (great Rs))) i).getD i 0 = gk (kahn Rs.length (nd Rs (great Rs))) i := fun i hi => by
          simp [List.getD_eq_getElem?_getD, hi]
        simp only [g1, Bool.and_eq_true, decide_eq_true_eq, List.all_eq_true]
        refine ⟨⟨great_le h hi, all_at.mp h1 i hi⟩, fun j hj => ?_⟩
        obtain ⟨j0, j1⟩ := nd_in h.ok i hi j hj
        rw [at' _ (by omega), at' i hi]
        have := gk_lt hk (hf i hi) j hj
        rwa [show ((j.toNat : Nat) : Int) = j by omega]
  · cases ht
theorem sdd_all {l : List Int} {p : Int → Bool} : (sdd l).all p = l.all p := by
  rw [Bool.eq_iff_iff, List.all_eq_true, List.all_eq_true]
  exact ⟨fun h x hx => h x (sdd_mem.mpr hx), fun h x hx => h x (sdd_mem.mp hx)⟩
theorem sdd_mxd {l : List Int} {f : Int → Int} {k : Int} : mxd k ((sdd l).map f) = mxd k (l.map f) := mxd_ext fun x => by
  simp only [List.mem_map, sdd_mem]
theorem r_sixi {S : Store} {n : Nat} {i v : Int} {P : List (Int × Int)} (h : S[n]? = some (.dic (dK P))) (hl : P.length < 1000) (hf : fil P i = false) : sixS (.ref n) (.int i) (.int v) S = some (S.set n (.dic (dK (P ++ [(i, v)])))) := by
  have e : dput (dK P) (Sum.inl i) (.int v) = dK (P ++ [(i, v)]) := by
    unfold dput dK
    have : ¬ (P.map fun p => ((Sum.inl p.1 : L2.Key), D.int p.2)).any (fun kv => decide (kv.1 = Sum.inl i)) = true := by
      intro hz
      rw [List.any_map, List.any_eq_true] at hz
      obtain ⟨p, hp, hq⟩ := hz
      simp only [Function.comp_apply, decide_eq_true_eq, Sum.inl.injEq] at hq
      unfold fil getK at hf
      cases hfi : P.find? fun p => decide (p.1 = i) with
      | some _ => rw [hfi] at hf; cases hf
      | none =>
        have := List.find?_eq_none.mp hfi p hp
        simp [hq] at this
    rw [if_neg this, List.map_append]
    rfl
  have hl2 : (dK P).length < sizeLine := by rw [PySem.sizeLine_eq]; simp only [dK, List.length_map]; omega
  simp only [sixS, h, keyOf, hl2, if_true, e]
end Rf

/-! lows go up; a kind put in for a rule -/
namespace Rf
open PySem
/-- none less -/
def UpL (L M : List Int) : Prop := L.length = M.length ∧ ∀ n : Nat, L.getD n 0 ≤ M.getD n 0
theorem low_mono {L M : List Int} (hL : LOk L) (hM : LOk M) (u : UpL L M) {m : Int} : ∀ {kd : Kd}, kd.ok m = true → low L kd ≤ low M kd
  | .bare i, _ => Int.le_refl _
  | .pr i a b, g => by
    simp only [Kd.ok, Bool.and_eq_true] at g
    have ha := low_mono hL hM u g.1
    have hb := low_mono hL hM u g.2
    have a0 := low_in hL g.1
    have b0 := low_in hL g.2
    match i with
    | 0 => simp only [low]; omega
    | 1 => simp only [low]; omega
    | 2 =>
      have := Int.mul_le_mul ha hb b0.1 (Int.le_trans a0.1 ha)
      simp only [low]; omega
  | .point a, g => by have := low_mono hL hM u (kd := a) g; simp only [low]; omega
  | .hole a, g => by have := low_mono hL hM u (kd := a) g; simp only [low]; omega
  | .sized a lo hi, g => by
    simp only [Kd.ok, Bool.and_eq_true, decide_eq_true_eq] at g
    have := low_mono hL hM u g.1.1.1
    have h1 := low_in hL g.1.1.1
    have h2 := low_in hM g.1.1.1
    simp only [low]
    split <;> split <;> omega
  | .rule n, g => u.2 _
theorem needs_anti {L M : List Int} (hL : LOk L) (hM : LOk M) (u : UpL L M) {m : Int} : ∀ {kd : Kd}, kd.ok m = true → ∀ x ∈ needs M kd, x ∈ needs L kd
  | .bare i, _, x, h => h
  | .pr i a b, g, x, h => by
    simp only [Kd.ok, Bool.and_eq_true] at g
    have ha := needs_anti hL hM u g.1 x
    have hb := needs_anti hL hM u g.2 x
    have la := low_mono hL hM u g.1
    have lb := low_mono hL hM u g.2
    have a0 := low_in hL g.1
    have b0 := low_in hL g.2
    match i with
    | 0 =>
      simp only [needs, List.mem_append] at h ⊢
      exact h.imp ha hb
    | 1 =>
      simp only [needs, List.mem_append] at h ⊢
      refine h.imp (fun h => ?_) fun h => ?_
      · split at h
        · rw [if_pos (by omega)]; exact ha h
        · simp at h
      · split at h
        · rw [if_pos (by omega)]; exact hb h
        · simp at h
    | 2 =>
      simp only [needs, List.mem_append] at h ⊢
      refine h.imp (fun h => ?_) fun h => ?_
      · split at h
        · rw [if_pos (by omega)]; exact ha h
        · simp at h
      · split at h
        · rw [if_pos (by omega)]; exact hb h
        · simp at h
  | .point a, g, x, h => needs_anti hL hM u (kd := a) g x h
  | .hole a, g, x, h => h
  | .sized a lo hi, g, x, h => by
    simp only [Kd.ok, Bool.and_eq_true] at g
    exact needs_anti hL hM u g.1.1.1 x h
  | .rule n, g, x, h => h
theorem stands_mono {L M : List Int} (hL : LOk L) (hM : LOk M) (u : UpL L M) {m : Int} : ∀ {kd : Kd}, kd.ok m = true → stands L kd = true → stands M kd = true
  | .bare i, _, h => h
  | .pr i a b, g, h => by
    simp only [Kd.ok, Bool.and_eq_true] at g
    have ha := stands_mono hL hM u g.1
    have hb := stands_mono hL hM u g.2
    have lb := low_mono hL hM u g.2
    match i with
    | 0 => simp only [stands, Bool.and_eq_true] at h ⊢; exact ⟨ha h.1, hb h.2⟩
    | 1 => simp only [stands, Bool.and_eq_true] at h ⊢; exact ⟨ha h.1, hb h.2⟩
    | 2 => simp only [stands, Bool.and_eq_true, decide_eq_true_eq] at h ⊢; exact ⟨⟨by omega, ha h.1.2⟩, hb h.2⟩
  | .point a, g, h => stands_mono hL hM u (kd := a) g h
  | .hole a, g, h => stands_mono hL hM u (kd := a) g h
  | .sized a lo hi, g, h => by
    simp only [Kd.ok, Bool.and_eq_true] at g
    exact stands_mono hL hM u (kd := a) g.1.1.1 h
  | .rule n, g, h => h
/-! ### put in -/
def putK (i : Int) (o : Kd) : Kd → Kd
  | .bare j => .bare j
  | .pr j a b => .pr j (putK i o a) (putK i o b)
  | .point a => .point (putK i o a)
  | .hole a => .hole (putK i o a)
  | .sized a lo hi => .sized (putK i o a) lo hi
  | .rule n => if n = i then o else .rule n
def Kd.nums : Kd → List Int
  | .bare _ => []
  | .pr _ a b => a.nums ++ b.nums
  | .point a => a.nums
  | .hole a => a.nums
  | .sized a _ _ => a.nums
  | .rule n => [n]
def numB (i : Int) : Kd → Bool
  | .bare _ => false
  | .pr _ a b => numB i a || numB i b
  | .point a => numB i a
  | .hole a => numB i a
  | .sized a _ _ => numB i a
  | .rule n => decide (n = i)
theorem numB_iff {i : Int} : ∀ {kd : Kd}, numB i kd = true ↔ i ∈ kd.nums
  | .bare _ => by simp [numB, Kd.nums]
  | .pr _ a b => by simp only [numB, Kd.nums, Bool.or_eq_true, List.mem_append, numB_iff (kd := a), numB_iff (kd := b)]
  | .point a => numB_iff (kd := a)
  | .hole a => numB_iff (kd := a)
  | .sized a _ _ => numB_iff (kd := a)
  | .rule n => by simp only [numB, Kd.nums, decide_eq_true_eq, List.mem_singleton]; exact eq_comm
theorem put_ok {m i : Int} {o : Kd} (ho : o.ok m = true) : ∀ {kd : Kd}, kd.ok m = true → (putK i o kd).ok m = true
  | .bare _, g => g
  | .pr _ a b, g => by simp only [Kd.ok, putK, Bool.and_eq_true] at g ⊢; exact ⟨put_ok ho g.1, put_ok ho g.2⟩
  | .point a, g => put_ok ho (kd := a) g
  | .hole a, g => put_ok ho (kd := a) g
  | .sized a lo hi, g => by simp only [Kd.ok, putK, Bool.and_eq_true] at g ⊢; exact ⟨⟨⟨put_ok ho g.1.1.1, g.1.1.2⟩, g.1.2⟩, g.2⟩
  | .rule n, g => by simp only [putK]; split; exact ho; exact g
theorem getD_set {L : List Int} {i n : Nat} {v : Int} (hi : i < L.length) : (L.set i v).getD n 0 = if n = i then v else L.getD n 0 := by
  rw [List.getD_eq_getElem?_getD, List.getD_eq_getElem?_getD, List.getElem?_set]
  by_cases h : i = n
  · subst h; simp [hi]
  · have : ¬ n = i := fun z => h z.symm
    simp [h, this]
section
variable {L : List Int} {m i : Int} {o : Kd}
theorem low_put (hi : 0 ≤ i) (hi2 : i < L.length) : ∀ {kd : Kd}, kd.ok m = true → low L (putK i o kd) = low (L.set i.toNat (low L o)) kd
  | .bare _, _ => rfl
  | .pr j a b, g => by
    simp only [Kd.ok, Bool.and_eq_true] at g
    have ha := low_put hi hi2 g.1
    have hb := low_put hi hi2 g.2
    match j with
    | 0 => simp only [putK, low, ha, hb]
    | 1 => simp only [putK, low, ha, hb]
    | 2 => simp only [putK, low, ha, hb]
  | .point a, g => by simp only [putK, low, low_put hi hi2 (kd := a) g]
  | .hole a, g => by simp only [putK, low, low_put hi hi2 (kd := a) g]
  | .sized a lo h, g => by
    simp only [Kd.ok, Bool.and_eq_true] at g
    simp only [putK, low, low_put hi hi2 g.1.1.1]
  | .rule n, g => by
    simp only [Kd.ok, Bool.and_eq_true, decide_eq_true_eq] at g
    simp only [putK, low]
    rw [getD_set (by omega)]
    by_cases e : n = i
    · rw [if_pos e, if_pos (by omega)]
    · rw [if_neg e, if_neg (by omega)]; rfl
theorem needs_none (h : o.ok 0 = true) : needs L o = [] := List.eq_nil_iff_forall_not_mem.mpr fun x hx => by
  have := needs_in h x hx
  omega
theorem needs_put (h0 : o.ok 0 = true) (hi : 0 ≤ i) (hi2 : i < L.length) : ∀ {kd : Kd}, kd.ok m = true → needs L (putK i o kd) = (needs (L.set i.toNat (low L o)) kd).filter (fun n => decide (n ≠ i))
  | .bare _, _ => rfl
  | .pr j a b, g => by
    simp only [Kd.ok, Bool.and_eq_true] at g
    have ha := needs_put h0 hi hi2 g.1
    have hb := needs_put h0 hi hi2 g.2
    have la := low_put (o := o) hi hi2 g.1
    have lb := low_put (o := o) hi hi2 g.2
    match j with
    | 0 => simp only [putK, needs, ha, hb, List.filter_append]
    | 1 =>
      simp only [putK, needs, ha, hb, la, lb, List.filter_append]
      congr 1 <;> split <;> rfl
    | 2 =>
      simp only [putK, needs, ha, hb, la, lb, List.filter_append]
      congr 1 <;> split <;> rfl
  | .point a, g => needs_put h0 hi hi2 (kd := a) g
  | .hole a, g => rfl
  | .sized a lo h, g => by
    simp only [Kd.ok, Bool.and_eq_true] at g
    exact needs_put h0 hi hi2 (kd := a) g.1.1.1
  | .rule n, g => by
    simp only [putK, needs]
    by_cases e : n = i
    · rw [if_pos e, needs_none h0]; simp [e]
    · rw [if_neg e]; simp [needs, e]
theorem stands_put (hi : 0 ≤ i) (hi2 : i < L.length) : ∀ {kd : Kd}, kd.ok m = true → stands L (putK i o kd) = (stands (L.set i.toNat (low L o)) kd && (!numB i kd || stands L o))
  | .bare _, _ => by simp [putK, stands, numB]
  | .pr j a b, g => by
    simp only [Kd.ok, Bool.and_eq_true] at g
    have ha := stands_put hi hi2 g.1
    have hb := stands_put hi hi2 g.2
    have lb := low_put (o := o) hi hi2 g.2
    have f0 : ∀ (x y s1 s2 so : Bool), (x && (!s1 || so) && (y && (!s2 || so))) = ((x && y) && (!(s1 || s2) || so)) := by decide
    have f2 : ∀ (z x y s1 s2 so : Bool), (z && (x && (!s1 || so)) && (y && (!s2 || so))) = ((z && x && y) && (!(s1 || s2) || so)) := by decide
    match j with
    | 0 => simp only [putK, stands, numB, ha, hb, f0]
    | 1 => simp only [putK, stands, numB, ha, hb, f0]
    | 2 => simp only [putK, stands, numB, ha, hb, lb, f2]
  | .point a, g => stands_put hi hi2 (kd := a) g
  | .hole a, g => stands_put hi hi2 (kd := a) g
  | .sized a lo h, g => by
    simp only [Kd.ok, Bool.and_eq_true] at g
    exact stands_put hi hi2 (kd := a) g.1.1.1
  | .rule n, g => by
    simp only [putK, numB, stands]
    by_cases e : n = i
    · rw [if_pos e]; simp [e]
    · rw [if_neg e]; simp [stands, e]
theorem nums_in {m : Int} : ∀ {kd : Kd}, kd.ok m = true → ∀ x ∈ kd.nums, 0 ≤ x ∧ x < m
  | .bare _, _, x, h => by simp [Kd.nums] at h
  | .pr _ a b, g, x, h => by
    simp only [Kd.ok, Bool.and_eq_true] at g
    simp only [Kd.nums, List.mem_append] at h
    exact h.elim (nums_in g.1 x) (nums_in g.2 x)
  | .point a, g, x, h => nums_in (kd := a) g x h
  | .hole a, g, x, h => nums_in (kd := a) g x h
  | .sized a lo hi, g, x, h => by
    simp only [Kd.ok, Bool.and_eq_true] at g
    exact nums_in g.1.1.1 x h
  | .rule n, g, x, h => by
    simp only [Kd.nums, List.mem_singleton] at h
    subst h
    simpa only [Kd.ok, Bool.and_eq_true, decide_eq_true_eq] using g
theorem nums_put (h0 : o.ok 0 = true) : ∀ {kd : Kd}, i ∉ (putK i o kd).nums
  | .bare _ => by simp [putK, Kd.nums]
  | .pr _ a b => by simp only [putK, Kd.nums, List.mem_append, not_or]; exact ⟨nums_put h0, nums_put h0⟩
  | .point a => nums_put h0 (kd := a)
  | .hole a => nums_put h0 (kd := a)
  | .sized a lo hi => nums_put h0 (kd := a)
  | .rule n => by
    simp only [putK]
    split
    · intro hx
      have := nums_in h0 _ hx
      omega
    · rename_i e
      simp only [Kd.nums, List.mem_singleton]
      exact fun z => e z.symm
theorem put_dp {d : Nat} (hd : o.dp ≤ d) : ∀ kd : Kd, (putK i o kd).dp ≤ kd.dp + d
  | .bare _ => by simp only [putK]; omega
  | .pr _ a b => by have h1 := put_dp hd a; have h2 := put_dp hd b; simp only [putK, Kd.dp]; omega
  | .point a => by have h1 := put_dp hd a; simp only [putK, Kd.dp]; omega
  | .hole a => by have h1 := put_dp hd a; simp only [putK, Kd.dp]; omega
  | .sized a _ _ => by have h1 := put_dp hd a; simp only [putK, Kd.dp]; omega
  | .rule n => by simp only [putK]; split <;> simp only [Kd.dp] <;> omega
theorem put_size {d : Nat} (hd : o.size ≤ d) (h1 : 1 ≤ d) : ∀ kd : Kd, (putK i o kd).size ≤ kd.size * d
  | .bare _ => by simp only [putK, Kd.size]; omega
  | .pr _ a b => by have h1' := put_size hd h1 a; have h2 := put_size hd h1 b; simp only [putK, Kd.size, Nat.add_mul]; omega
  | .point a => by have h1' := put_size hd h1 a; simp only [putK, Kd.size, Nat.add_mul]; omega
  | .hole a => by have h1' := put_size hd h1 a; simp only [putK, Kd.size, Nat.add_mul]; omega
  | .sized a _ _ => by have h1' := put_size hd h1 a; simp only [putK, Kd.size, Nat.add_mul]; omega
  | .rule n => by simp only [putK]; split <;> simp only [Kd.size] <;> omega
end
end Rf

/-! kinds with holes counted, rules barred within them -/
namespace Rf
open PySem
def Kd.wk : Int → Int → Kd → Bool
  | _, _, .bare _ => true
  | m, h, .pr _ a b => a.wk m h && b.wk m h
  | m, h, .point a => a.wk m h
  | _, h, .hole a => decide (0 < h) && a.wk 0 (h - 1)
  | m, h, .sized a lo hi => a.wk m h && decide (0 ≤ lo) && decide (lo ≤ hi) && decide (hi ≤ 20)
  | m, _, .rule n => decide (0 ≤ n) && decide (n < m)
theorem wk_ok : ∀ {kd : Kd} {m h : Int}, 0 ≤ m → kd.wk m h = true → kd.ok m = true
  | .bare _, _, _, _, _ => rfl
  | .pr _ a b, _, _, hm, g => by simp only [Kd.wk, Kd.ok, Bool.and_eq_true] at g ⊢; exact ⟨wk_ok hm g.1, wk_ok hm g.2⟩
  | .point a, _, _, hm, g => by simp only [Kd.wk, Kd.ok] at g ⊢; exact wk_ok hm g
  | .hole a, _, _, hm, g => by simp only [Kd.wk, Kd.ok, Bool.and_eq_true] at g ⊢; exact Kd.ok_up hm (wk_ok (Int.le_refl 0) g.2)
  | .sized a _ _, _, _, hm, g => by simp only [Kd.wk, Kd.ok, Bool.and_eq_true] at g ⊢; exact ⟨⟨⟨wk_ok hm g.1.1.1, g.1.1.2⟩, g.1.2⟩, g.2⟩
  | .rule n, _, _, hm, g => g
theorem put_none {i : Int} {o : Kd} : ∀ {kd : Kd} {h : Int}, kd.wk 0 h = true → putK i o kd = kd
  | .bare _, _, _ => rfl
  | .pr _ a b, _, g => by simp only [Kd.wk, Bool.and_eq_true] at g; simp only [putK, put_none g.1, put_none g.2]
  | .point a, _, g => by simp only [Kd.wk] at g; simp only [putK, put_none g]
  | .hole a, _, g => by simp only [Kd.wk, Bool.and_eq_true] at g; simp only [putK, put_none g.2]
  | .sized a _ _, _, g => by simp only [Kd.wk, Bool.and_eq_true] at g; simp only [putK, put_none g.1.1.1]
  | .rule n, _, g => by simp only [Kd.wk, Bool.and_eq_true, decide_eq_true_eq] at g; omega
theorem put_wk {i : Int} {o : Kd} {m h : Int} (ho : o.wk m h = true) : ∀ {kd : Kd}, kd.wk m h = true → (putK i o kd).wk m h = true
  | .bare _, _ => rfl
  | .pr _ a b, g => by simp only [Kd.wk, putK, Bool.and_eq_true] at g ⊢; exact ⟨put_wk ho g.1, put_wk ho g.2⟩
  | .point a, g => by simp only [Kd.wk, putK] at g ⊢; exact put_wk ho g
  | .hole a, g => by simp only [Kd.wk, putK, Bool.and_eq_true] at g ⊢; rw [put_none g.2]; exact g
  | .sized a _ _, g => by simp only [Kd.wk, putK, Bool.and_eq_true] at g ⊢; exact ⟨⟨⟨put_wk ho g.1.1.1, g.1.1.2⟩, g.1.2⟩, g.2⟩
  | .rule n, g => by
    simp only [putK]
    split
    · exact ho
    · exact g
theorem size_inner1 (kd : Kd) : kd.size = 1 + (kd.inner.map Kd.size).sum := by
  cases kd <;> simp [Kd.size, Kd.inner] <;> omega
theorem dp_iff (kd : Kd) (b : Nat) : kd.dp ≤ b ↔ 1 ≤ b ∧ ∀ z ∈ kd.inner, z.dp + 1 ≤ b := by
  cases kd <;> simp [Kd.dp, Kd.inner] <;> omega
def Kd.isH : Kd → Bool
  | .hole _ => true
  | _ => false
theorem inner_wk {kd : Kd} {m h : Int} (g : kd.wk m h = true) (hh : kd.isH = false) : ∀ z ∈ kd.inner, z.wk m h = true := by
  cases kd with
  | hole a => cases hh
  | pr j a b => simp only [Kd.wk, Bool.and_eq_true] at g; simp [Kd.inner, g.1, g.2]
  | sized a _ _ => simp only [Kd.wk, Bool.and_eq_true] at g; simp [Kd.inner, g.1.1.1]
  | point a => simp only [Kd.wk] at g; simp [Kd.inner, g]
  | _ => simp [Kd.inner]
end Rf

/-! Rf: exchanges, plain; a dict made of one. -/
namespace Rf
open PySem
theorem mapO_pairs : ∀ P : List (Int × Int), mapO asPair (P.map dP) = some (dK P)
  | [] => rfl
  | p :: P => by
    have ih := mapO_pairs P
    simp only [List.map_cons, mapO, ih]
    rfl
theorem dput_fresh {l : List (Int × Int)} {u v : Int} (h : u ∉ l.map Prod.fst) : dput (dK l) (Sum.inl u) (.int v) = dK (l ++ [(u, v)]) := by
  unfold dput
  rw [if_neg]
  · simp [dK]
  · simp only [dK, List.any_map, List.any_eq_true, Function.comp, decide_eq_true_eq, Sum.inl.injEq, not_exists, not_and]
    intro p hp e
    exact h (List.mem_map.mpr ⟨p, hp, e⟩)
theorem dput_all : ∀ (P l : List (Int × Int)), ((l ++ P).map Prod.fst).Nodup → (dK P).foldl (fun acc kv => dput acc kv.1 kv.2) (dK l) = dK (l ++ P)
  | [], l, _ => by simp [dK]
  | p :: P, l, h => by
    have h' : (((l ++ [p]) ++ P).map Prod.fst).Nodup := by simpa using h
    have hn : p.1 ∉ l.map Prod.fst := by
      rw [List.map_append, List.nodup_append] at h
      intro hm
      exact h.2.2 _ hm _ (by simp) rfl
    have e : (dK (p :: P)) = (Sum.inl p.1, D.int p.2) :: dK P := rfl
    rw [e, List.foldl_cons, dput_fresh hn]
    have := dput_all P (l ++ [(p.1, p.2)]) h'
    rw [this]
    simp
theorem bi_dictP {P : List (Int × Int)} {S : Store} (h : (P.map Prod.fst).Nodup) : biS .dict [.tup (P.map dP)] S = some (.ref S.length, S ++ [.dic (dK P)]) := by
  simp only [biS, mapO_pairs, Option.map_some]
  rw [show ([] : List (L2.Key × D)) = dK [] from rfl, dput_all P [] h]
  rfl
def lead (d : List (Int × Int)) (v : Int) : Int := (getK d v).getD 0
theorem getK_mem : ∀ {P : List (Int × Int)} {p : Int × Int}, (P.map Prod.fst).Nodup → p ∈ P → getK P p.1 = some p.2
  | q :: P, p, h, hm => by
    rw [List.map_cons, List.nodup_cons] at h
    unfold getK
    rw [List.find?_cons]
    rcases List.mem_cons.mp hm with rfl | hm
    · simp
    · have : q.1 ≠ p.1 := fun e => h.1 (e ▸ List.mem_map.mpr ⟨p, hm, rfl⟩)
      simp only [this, decide_false]
      exact getK_mem h.2 hm
theorem getK_some {P : List (Int × Int)} {v : Int} (h : (P.map Prod.fst).Nodup) (hm : v ∈ P.map Prod.fst) : getK P v = some (lead P v) := by
  obtain ⟨p, hp, rfl⟩ := List.mem_map.mp hm
  have e := getK_mem h hp
  unfold lead
  rw [e]; rfl
theorem only_one : ∀ {P : List (Int × Int)} {v : Int}, (P.map Prod.fst).Nodup → v ∈ P.map Prod.fst → (P.filter fun p => decide (p.1 = v)) = [(v, lead P v)]
  | q :: P, v, h, hm => by
    rw [List.map_cons, List.nodup_cons] at h
    rw [List.filter_cons]
    by_cases e : q.1 = v
    · have : (P.filter fun p => decide (p.1 = v)) = [] := by
        rw [List.filter_eq_nil_iff]
        intro p hp z
        simp only [decide_eq_true_eq] at z
        exact h.1 (by rw [e, ← z]; exact List.mem_map.mpr ⟨p, hp, rfl⟩)
      rw [this]
      subst e
      simp [lead, getK]
    · have hm' : v ∈ P.map Prod.fst := by
        rw [List.map_cons] at hm
        rcases List.mem_cons.mp hm with z | z
        · exact absurd z.symm e
        · exact z
      have l1 : lead (q :: P) v = lead P v := by simp [lead, getK, List.find?_cons, e]
      simp only [e, decide_false, Bool.false_eq_true, if_false, only_one h.2 hm', l1]
theorem sub_perm : ∀ {l m : List Int}, l.Nodup → (∀ x ∈ l, x ∈ m) → m.length ≤ l.length → l.Perm m
  | [], m, _, _, h => by
    have : m = [] := List.eq_nil_of_length_eq_zero (by simpa using h)
    subst this; exact .nil
  | a :: l, m, hn, hs, h => by
    obtain ⟨h1, h2⟩ := List.nodup_cons.mp hn
    have ha : a ∈ m := hs a List.mem_cons_self
    have pe := List.perm_cons_erase ha
    refine (List.Perm.cons a (sub_perm h2 (fun x hx => ?_) ?_)).trans pe.symm
    · have hne : x ≠ a := fun e => h1 (by rw [← e]; exact hx)
      exact (List.mem_erase_of_ne hne).mpr (hs x (List.mem_cons_of_mem _ hx))
    · have := pe.length_eq
      simp only [List.length_cons] at this h
      omega
theorem perm_cut {α : Type} : ∀ {l : List α} {n : Nat} (h : n < l.length), (l[n] :: l.eraseIdx n).Perm l
  | a :: l, 0, h => .refl _
  | a :: l, n + 1, h => by
    simp only [List.getElem_cons_succ, List.eraseIdx_cons_succ]
    exact (List.Perm.swap a _ _).trans ((perm_cut (by simpa using h)).cons a)
/-- an exchange -/
structure Xch (es : List (Int × Int)) : Prop where
  rise : (es.map Prod.fst).Pairwise (· < ·)
  once : (es.map Prod.snd).Nodup
  small : ∀ p ∈ es, (0 ≤ p.1 ∧ p.1 ≤ 99) ∧ 0 ≤ p.2 ∧ p.2 ≤ 99
  len : es.length ≤ 100
theorem Xch.fo {es : List (Int × Int)} (X : Xch es) : (es.map Prod.fst).Nodup := X.rise.imp fun h e => by omega
def fol (e d : List (Int × Int)) : List (Int × Int) := e.map fun p => (p.1, lead d p.2)
def fits2 (e d : List (Int × Int)) : Prop := (e.map Prod.snd).mergeSort leI = d.map Prod.fst
instance (e d : List (Int × Int)) : Decidable (fits2 e d) := by unfold fits2; infer_instance
theorem fits_iff {e d : List (Int × Int)} (X : Xch e) (Y : Xch d) : fits2 e d ↔ e.length = d.length ∧ ∀ p ∈ e, p.2 ∈ d.map Prod.fst := by
  unfold fits2
  have pm := List.mergeSort_perm (e.map Prod.snd) leI
  constructor
  · intro h
    rw [h] at pm
    refine ⟨by have := pm.length_eq; simpa using this.symm, fun p hp => pm.mem_iff.mpr (List.mem_map.mpr ⟨p, hp, rfl⟩)⟩
  · rintro ⟨hl, hm⟩
    have p2 : (e.map Prod.snd).Perm (d.map Prod.fst) := by
      refine sub_perm X.once (fun x hx => ?_) (by simp [hl])
      obtain ⟨p, hp, rfl⟩ := List.mem_map.mp hx; exact hm p hp
    refine sortI_eq (Y.rise.imp fun h => ?_) p2
    simp only [leI, decide_eq_true_eq]; omega
end Rf

/-! Rf: rounds, plain -/
namespace Rf
open PySem
/-- the row from u on, by so many turns: what stands ahead, the last one -/
def rowF (f : Int → Int) (u : Int) : Nat → List Int → Int → List Int
  | 0, i, l => i ++ [l]
  | n + 1, i, l => if f l = u then i ++ [l] else rowF f u n (i ++ [l]) (f l)
structure Walk (f : Int → Int) (N : List Int) (u : Int) (i : List Int) (l : Int) : Prop where
  nd : (i ++ [l]).Nodup
  sub : ∀ x ∈ i ++ [l], x ∈ N
  chain : ∀ x ∈ i ++ [l], x = u ∨ ∃ y ∈ i, f y = x
theorem nodup_sub_len : ∀ {l m : List Int}, l.Nodup → (∀ x ∈ l, x ∈ m) → l.length ≤ m.length
  | [], m, _, _ => Nat.zero_le _
  | a :: l, m, hn, hs => by
    obtain ⟨h1, h2⟩ := List.nodup_cons.mp hn
    have ha : a ∈ m := hs a List.mem_cons_self
    have pe := (List.perm_cons_erase ha).length_eq
    have := nodup_sub_len (m := m.erase a) h2 fun x hx => (List.mem_erase_of_ne (fun e => h1 (by rw [← e]; exact hx))).mpr (hs x (List.mem_cons_of_mem _ hx))
    simp only [List.length_cons] at pe ⊢
    omega
theorem Walk.start {f : Int → Int} {N : List Int} {u : Int} (h : u ∈ N) : Walk f N u [] u := ⟨by simp, by simpa using h, by simp⟩
theorem Walk.len {f : Int → Int} {N : List Int} {u : Int} {i : List Int} {l : Int} (w : Walk f N u i l) : i.length + 1 ≤ N.length := by
  have := nodup_sub_len w.nd w.sub
  simpa using this
theorem Walk.step {f : Int → Int} {N : List Int} {u : Int} {i : List Int} {l : Int} (w : Walk f N u i l) (hf : ∀ x ∈ N, f x ∈ N) (hi : ∀ x ∈ N, ∀ y ∈ N, f x = f y → x = y) (h : f l ≠ u) : Walk f N u (i ++ [l]) (f l) := by
  have hl : l ∈ N := w.sub l (by simp)
  refine ⟨?_, ?_, ?_⟩
  · rw [List.nodup_append]
    refine ⟨w.nd, by simp, fun a ha b hb e => ?_⟩
    rw [List.mem_singleton] at hb
    subst hb
    subst e
    rcases w.chain _ ha with e | ⟨y, hy, e⟩
    · exact h e
    · have : y = l := hi y (w.sub y (by simp [hy])) l hl e
      subst this
      have := w.nd
      rw [List.nodup_append] at this
      exact this.2.2 y hy y (by simp) rfl
  · intro x hx
    rcases List.mem_append.mp hx with hx | hx
    · exact w.sub x hx
    · rw [List.mem_singleton.mp hx]; exact hf l hl
  · intro x hx
    rcases List.mem_append.mp hx with hx | hx
    · rcases w.chain x hx with e | ⟨y, hy, e⟩
      · exact .inl e
      · exact .inr ⟨y, by simp [hy], e⟩
    · exact .inr ⟨l, by simp, (List.mem_singleton.mp hx).symm⟩
theorem rowF_end {f : Int → Int} {u : Int} {n : Nat} {i : List Int} {l : Int} (h : f l = u) : rowF f u n i l = i ++ [l] := by
  cases n with
  | zero => rfl
  | succ n => simp only [rowF, h, if_true]
theorem rowF_next {f : Int → Int} {u : Int} {n : Nat} {i : List Int} {l : Int} (h : f l ≠ u) : rowF f u (n + 1) i l = rowF f u n (i ++ [l]) (f l) := by
  simp only [rowF, h, if_false]
/-- all rounds -/
def rndsG (f : Int → Int) (n : Nat) : List Int → List (List Int) → List (List Int)
  | [], acc => acc
  | u :: us, acc => if u ∈ acc.flatten then rndsG f n us acc else rndsG f n us (acc ++ [rowF f u n [] u])
def rnds (e : List (Int × Int)) : List (List Int) := rndsG (lead e) e.length (e.map Prod.fst) []
theorem rowF_len {f : Int → Int} {u : Int} : ∀ {n : Nat} {i : List Int} {l : Int}, (rowF f u n i l).length ≤ i.length + n + 1
  | 0, i, l => by simp [rowF]
  | n + 1, i, l => by
    simp only [rowF]
    split
    · simp
    · have := rowF_len (f := f) (u := u) (n := n) (i := i ++ [l]) (l := f l)
      simp at this; omega
/-- an exchange onto its own names -/
def own (e : List (Int × Int)) : Prop := e.map Prod.fst = (e.map Prod.snd).mergeSort leI
instance (e : List (Int × Int)) : Decidable (own e) := by unfold own; infer_instance
theorem own_iff {e : List (Int × Int)} (X : Xch e) : own e ↔ ∀ p ∈ e, p.2 ∈ e.map Prod.fst := by
  have := fits_iff X X
  unfold fits2 at this
  unfold own
  rw [eq_comm, this]
  simp
theorem lead_mem {e : List (Int × Int)} (X : Xch e) {u : Int} (h : u ∈ e.map Prod.fst) : (u, lead e u) ∈ e := by
  obtain ⟨p, hp, rfl⟩ := List.mem_map.mp h
  have := getK_mem X.fo hp
  have l1 : lead e p.1 = p.2 := by unfold lead; rw [this]; rfl
  rw [l1]; exact hp
theorem lead_own {e : List (Int × Int)} (X : Xch e) (o : own e) : ∀ x ∈ e.map Prod.fst, lead e x ∈ e.map Prod.fst := fun x hx => (own_iff X).mp o _ (lead_mem X hx)
theorem nodup_inj {α : Type} {g : α → Int} : ∀ {l : List α}, (l.map g).Nodup → ∀ a ∈ l, ∀ b ∈ l, g a = g b → a = b
  | [], _, a, ha, _, _, _ => absurd ha (by simp)
  | c :: l, h, a, ha, b, hb, e => by
    rw [List.map_cons, List.nodup_cons] at h
    rcases List.mem_cons.mp ha with h1 | h1
    · rcases List.mem_cons.mp hb with h2 | h2
      · rw [h1, h2]
      · exact absurd (List.mem_map.mpr ⟨b, h2, by rw [← e, h1]⟩) h.1
    · rcases List.mem_cons.mp hb with h2 | h2
      · exact absurd (List.mem_map.mpr ⟨a, h1, by rw [e, h2]⟩) h.1
      · exact nodup_inj h.2 a h1 b h2 e
theorem lead_inj {e : List (Int × Int)} (X : Xch e) : ∀ x ∈ e.map Prod.fst, ∀ y ∈ e.map Prod.fst, lead e x = lead e y → x = y := by
  intro x hx y hy h
  have := nodup_inj X.once _ (lead_mem X hx) _ (lead_mem X hy) h
  exact congrArg Prod.fst this
end Rf

/-! Rf: exchanges made of exchanges -/
namespace Rf
open PySem
theorem cut_tk {α : Type} (xs : List α) (n : Nat) : cut xs none (some (n : Int)) = xs.take n := by
  unfold cut
  rw [HT.sIx_nat, show HT.sIx xs.length 0 none = 0 from rfl, List.drop_zero, Nat.sub_zero]
  by_cases h : n ≤ xs.length
  · rw [Nat.min_eq_left h]
  · rw [Nat.min_eq_right (by omega), List.take_of_length_le (Nat.le_refl _), List.take_of_length_le (by omega)]
theorem cut_dp {α : Type} (xs : List α) (n : Nat) : cut xs (some (n : Int)) none = xs.drop n := by
  unfold cut
  rw [HT.sIx_nat, show HT.sIx xs.length xs.length none = xs.length from rfl]
  by_cases h : n ≤ xs.length
  · rw [Nat.min_eq_left h, List.take_of_length_le (by rw [List.length_drop]; omega)]
  · rw [Nat.min_eq_right (by omega), Nat.sub_self, List.take_zero, List.drop_eq_nil_of_le (by omega)]
theorem cut_tkm {α : Type} {f : α → D} {l : List α} {n : Nat} : cut (l.map f) none (some (n : Int)) = (l.take n).map f := by rw [cut_tk, List.map_take]
theorem cut_dpm {α : Type} {f : α → D} {l : List α} {n : Nat} : cut (l.map f) (some ((n : Int) + 1)) none = (l.drop (n + 1)).map f := by
  have := cut_dp (l.map f) (n + 1)
  rw [List.map_drop]
  exact this
theorem mapj {α β : Type} {f : α → β} {l m : List α} : l.map f ++ m.map f = (l ++ m).map f := List.map_append.symm
theorem mapj1 {l : List (Int × Int)} {a b : Int} : l.map dP ++ [D.tup [.int a, .int b]] = (l ++ [(a, b)]).map dP := by rw [List.map_append]; rfl
theorem mapj2 {l m : List (Int × Int)} {a b : Int} : l.map dP ++ (D.tup [.int a, .int b] :: m.map dP) = (l ++ (a, b) :: m).map dP := by rw [List.map_append, List.map_cons]; rfl
theorem s_prsL {l : List (Int × Int)} {S : Store} : biS .sorted [.lst (l.map dP)] S = some (.lst ((l.mergeSort lePr).map dP), S) := bi_sorted rfl (sortS_pairs S l)
theorem s_prsT {l : List (Int × Int)} {S : Store} : biS .sorted [.tup (l.map dP)] S = some (.lst ((l.mergeSort lePr).map dP), S) := bi_sortedT (sortS_pairs S l)
theorem c_ninL {S : Store} {i : Int} {ns : List Int} : cmpS S .NotIn (.int i) (.lst (ns.map D.int)) = some (!decide (i ∈ ns)) := c_ninI rfl
theorem c_ninT {S : Store} {i : Int} {ns : List Int} : cmpS S .NotIn (.int i) (.tup (ns.map D.int)) = some (!decide (i ∈ ns)) := c_ninI rfl
theorem Xch.nil : Xch [] := ⟨.nil, .nil, by simp, by simp⟩
theorem Xch.sub {e d : List (Int × Int)} (X : Xch e) (h : d.Sublist e) : Xch d :=
  ⟨X.rise.sublist (h.map _), X.once.sublist (h.map _), fun p hp => X.small p (h.subset hp), Nat.le_trans h.length_le X.len⟩
theorem Xch.sorted {l : List (Int × Int)} (h1 : (l.map Prod.fst).Nodup) (h2 : (l.map Prod.snd).Nodup) (h3 : ∀ p ∈ l, (0 ≤ p.1 ∧ p.1 ≤ 99) ∧ 0 ≤ p.2 ∧ p.2 ≤ 99) (h4 : l.length ≤ 100) : Xch (l.mergeSort lePr) := by
  have pm := List.mergeSort_perm l lePr
  refine ⟨?_, ((pm.map Prod.snd).nodup_iff).mpr h2, fun p hp => h3 p (pm.mem_iff.mp hp), by rw [pm.length_eq]; exact h4⟩
  have nd := ((pm.map Prod.fst).nodup_iff).mpr h1
  have pw := List.pairwise_mergeSort lePr_tr lePr_tt l
  rw [List.pairwise_map]
  rw [List.nodup_iff_pairwise_ne, List.pairwise_map] at nd
  refine (pw.and nd).imp fun {p q} ⟨g1, g2⟩ => ?_
  simp only [lePr, decide_eq_true_eq] at g1
  omega
theorem Xch.drawn {es : List (Int × Int)} {f g : List Int} (h1 : es.map Prod.fst = f) (h2 : (es.map Prod.snd).Perm g) (rf : f.Pairwise (· < ·)) (rg : g.Pairwise (· < ·)) (bf : ∀ x ∈ f, 0 ≤ x ∧ x ≤ 99) (bg : ∀ x ∈ g, 0 ≤ x ∧ x ≤ 99) (hl : f.length ≤ 100) : Xch es := by
  refine ⟨by rw [h1]; exact rf, h2.nodup_iff.mpr (rg.imp fun h e => by omega), fun p hp => ⟨bf _ (by rw [← h1]; exact List.mem_map.mpr ⟨p, hp, rfl⟩), bg _ (h2.mem_iff.mp (List.mem_map.mpr ⟨p, hp, rfl⟩))⟩, ?_⟩
  have := congrArg List.length h1
  rw [List.length_map] at this
  omega
def swp (p : Int × Int) : Int × Int := (p.2, p.1)
theorem Xch.back {es : List (Int × Int)} (X : Xch es) : Xch ((es.map swp).mergeSort lePr) := by
  have e1 : (es.map swp).map Prod.fst = es.map Prod.snd := by rw [List.map_map]; rfl
  have e2 : (es.map swp).map Prod.snd = es.map Prod.fst := by rw [List.map_map]; rfl
  refine Xch.sorted (by rw [e1]; exact X.once) (by rw [e2]; exact X.fo) (fun p hp => ?_) (by rw [List.length_map]; exact X.len)
  obtain ⟨q, hq, rfl⟩ := List.mem_map.mp hp
  exact ⟨(X.small q hq).2, (X.small q hq).1⟩
theorem Xch.more {d : List (Int × Int)} (X : Xch d) {a b : Int} (ha : a ∉ d.map Prod.fst) (hb : b ∉ d.map Prod.snd) (h1 : 0 ≤ a ∧ a ≤ 99) (h2 : 0 ≤ b ∧ b ≤ 99) (hl : d.length < 100) : Xch ((d ++ [(a, b)]).mergeSort lePr) := by
  refine Xch.sorted ?_ ?_ ?_ (by simp; omega)
  · rw [List.map_append, List.nodup_append]
    refine ⟨X.fo, by simp, fun x hx y hy e => ?_⟩
    simp at hy; subst hy; subst e; exact ha hx
  · rw [List.map_append, List.nodup_append]
    refine ⟨X.once, by simp, fun x hx y hy e => ?_⟩
    simp at hy; subst hy; subst e; exact hb hx
  · intro p hp
    rcases List.mem_append.mp hp with hp | hp
    · exact X.small p hp
    · rw [List.mem_singleton.mp hp]; exact ⟨h1, h2⟩
theorem split_at {α : Type} {l : List α} {n : Nat} (h : n < l.length) : l = l.take n ++ l[n] :: l.drop (n + 1) := by
  rw [← List.drop_eq_getElem_cons h, List.take_append_drop]
theorem nodup_mid {l m : List Int} {x y : Int} (h : (l ++ x :: m).Nodup) (hy : y ∉ l ++ x :: m) : (l ++ y :: m).Nodup := by
  have p1 : (l ++ y :: m).Perm (y :: (l ++ m)) := List.perm_middle
  have p2 : (l ++ x :: m).Perm (x :: (l ++ m)) := List.perm_middle
  rw [p1.nodup_iff]
  rw [p2.nodup_iff] at h
  rw [p2.mem_iff] at hy
  rw [List.nodup_cons] at h ⊢
  exact ⟨fun z => hy (List.mem_cons_of_mem _ z), h.2⟩
/-- one name otherwise -/
theorem Xch.first_else {d : List (Int × Int)} (X : Xch d) {a : Int} {n : Nat} (h : n < d.length) (ha : a ∉ d.map Prod.fst) (h1 : 0 ≤ a ∧ a ≤ 99) : Xch ((d.take n ++ (a, d[n].2) :: d.drop (n + 1)).mergeSort lePr) := by
  have sp := split_at h
  have e1 : d.map Prod.fst = (d.take n).map Prod.fst ++ d[n].1 :: (d.drop (n + 1)).map Prod.fst := by
    conv => lhs; rw [sp]
    rw [List.map_append, List.map_cons]
  have e2 : d.map Prod.snd = (d.take n).map Prod.snd ++ d[n].2 :: (d.drop (n + 1)).map Prod.snd := by
    conv => lhs; rw [sp]
    rw [List.map_append, List.map_cons]
  refine Xch.sorted ?_ ?_ ?_ ?_
  · rw [List.map_append, List.map_cons]
    have := X.fo
    rw [e1] at this ha
    exact nodup_mid this ha
  · rw [List.map_append, List.map_cons, ← e2]; exact X.once
  · intro p hp
    rcases List.mem_append.mp hp with hp | hp
    · exact X.small p (List.mem_of_mem_take hp)
    · rcases List.mem_cons.mp hp with rfl | hp
      · exact ⟨h1, (X.small _ (List.getElem_mem h)).2⟩
      · exact X.small p (List.mem_of_mem_drop hp)
  · have := X.len
    have l2 := congrArg List.length sp
    simp only [List.length_append, List.length_cons] at l2 ⊢
    omega
/-- a free number -/
theorem free_at {l : List Int} {v : Int} (h0 : 0 ≤ v) (h : v < ((List.range 100).filter fun i : Nat => !decide ((i : Int) ∈ l)).length) :
    ∃ a : Int, L2.atI (((List.range 100).filter fun i : Nat => !decide ((i : Int) ∈ l)).map fun i : Nat => D.int (i : Int)) v = some (.int a) ∧ a ∉ l ∧ 0 ≤ a ∧ a ≤ 99 := by
  refine ⟨((((List.range 100).filter fun i : Nat => !decide ((i : Int) ∈ l)).getD v.toNat 0 : Nat) : Int), atZ (f := fun i : Nat => D.int (i : Int)) 0 h0 h, ?_⟩
  have hm : ((List.range 100).filter fun i : Nat => !decide ((i : Int) ∈ l)).getD v.toNat 0 ∈ (List.range 100).filter fun i : Nat => !decide ((i : Int) ∈ l) := by
    rw [List.getD_eq_getElem?_getD, List.getElem?_eq_getElem (by omega)]
    exact List.getElem_mem _
  rw [List.mem_filter, List.mem_range] at hm
  obtain ⟨h1, h2⟩ := hm
  refine ⟨by simpa using h2, by omega, by omega⟩
theorem nice_prs {l : List (Int × Int)} (h : ∀ p ∈ l, (0 ≤ p.1 ∧ p.1 ≤ 99) ∧ 0 ≤ p.2 ∧ p.2 ≤ 99) (hl : l.length ≤ 100) : Nice 3 8500 (.tup (l.map dP)) := (Nice.tup (n := 1) (c := 84) (m := 100) (w := 8500) (fun d hd => by
  obtain ⟨p, hp, rfl⟩ := List.mem_map.mp hd
  have := h p hp
  exact .tup (n := 0) (c := 41) (m := 2) (by simp only [List.mem_cons, List.not_mem_nil, or_false]; rintro d (rfl | rfl) <;> exact .int2 (by omega) (by omega)) (by simp)) (by rw [List.length_map]; exact hl)).mono
theorem nice_ints {l : List Int} (h : ∀ x ∈ l, 0 ≤ x ∧ x ≤ 99) (hl : l.length ≤ 100) : Nice 3 4200 (.tup (l.map D.int)) := (Nice.tup (n := 0) (c := 41) (m := 100) (w := 4200) (fun d hd => by
  obtain ⟨x, hx, rfl⟩ := List.mem_map.mp hd
  have := h x hx
  exact .int2 (by omega) (by omega)) (by rw [List.length_map]; exact hl)).mono
theorem fol_small {e d : List (Int × Int)} (X : Xch e) (Y : Xch d) (f : fits2 e d) : ∀ p ∈ fol e d, (0 ≤ p.1 ∧ p.1 ≤ 99) ∧ 0 ≤ p.2 ∧ p.2 ≤ 99 := by
  intro p hp
  obtain ⟨q, hq, rfl⟩ := List.mem_map.mp hp
  exact ⟨(X.small q hq).1, (Y.small _ (lead_mem Y ((fits_iff X Y).mp f |>.2 q hq))).2⟩
/-- both ways of a choice end alike -/
theorem wC_join {c : Cl} {a e : Ex} {r : Sl} {S : Store} {b : Bool} {K : Kx} (P : Kx) (h1 : b = true → WpE (evE c a r S) P) (h2 : b = false → WpE (evE c e r S) P) (h : ∀ d S', P d S' → K d S') : wC (.bl b) (kE c a r K) (kE c e r K) S := by
  cases b with
  | true => rw [wC_t, kE_eq]; exact (h1 rfl).mono h
  | false => rw [wC_f, kE_eq]; exact (h2 rfl).mono h
/-- names that were drawn -/
def Nms (many : Nat) (l : List Int) : Prop := l.Pairwise (· < ·) ∧ (∀ x ∈ l, 0 ≤ x ∧ x ≤ 99) ∧ l.length = many
def isNms (s : List Int) (R : Store) (many n : Nat) : Kx := fun d S => ∃ (l : List Int) (tp : Tp), d = .tup (l.map D.int) ∧ S = St3 s tp R ∧ Nms many l ∧ TpB tp n
theorem Xch.nms {es : List (Int × Int)} {m : Nat} {f g : List Int} (h1 : es.map Prod.fst = f) (h2 : (es.map Prod.snd).Perm g) (hf : Nms m f) (hg : Nms m g) (hm : m ≤ 100) : Xch es :=
  .drawn h1 h2 hf.1 hg.1 hf.2.1 hg.2.1 (by have := hf.2.2; omega)
theorem len_of_fst {es : List (Int × Int)} {f : List Int} (h1 : es.map Prod.fst = f) : es.length = f.length := by
  rw [← h1, List.length_map]
end Rf

/-! Rf: a dict as a set of ints; rows -/
namespace Rf
open PySem
theorem at_last {α : Type} {xs : List α} {x : α} : L2.atI (xs ++ [x]) (-1) = some x := by
  simp only [L2.atI, L2.ixN, List.length_append, List.length_singleton]
  simp
  rw [if_pos (by omega)]
  simp only [Option.bind_some]
  rw [show (-1 + ((xs.length : Int) + 1)).toNat = xs.length by omega]
  simp
theorem at_lastm {α : Type} {f : α → D} {xs : List α} {x : α} : L2.atI ((xs ++ [x]).map f) (-1) = some (f x) := by
  rw [List.map_append]; exact at_last
def hasK (kvs : List (L2.Key × D)) (x : Int) : Bool := (kvs.find? fun kv => decide (kv.1 = Sum.inl x)).isSome
theorem nin_dic {S : Store} {n : Nat} {kvs : List (L2.Key × D)} {i : Int} (h : S[n]? = some (.dic kvs)) : cmpS S .NotIn (.int i) (.ref n) = some (!hasK kvs i) := by
  simp only [cmpS, inS, seqOf, cellL, h, inK, dicOf, keyOf, Option.isSome_map, Option.map_some, hasK]
theorem hasK_iff {kvs : List (L2.Key × D)} {x : Int} : hasK kvs x = true ↔ ∃ kv ∈ kvs, kv.1 = Sum.inl x := by
  simp only [hasK, List.find?_isSome, decide_eq_true_eq]
theorem hasK_put {kvs : List (L2.Key × D)} {x y : Int} {v : D} : hasK (dput kvs (Sum.inl y) v) x = true ↔ hasK kvs x = true ∨ x = y := by
  rw [hasK_iff, hasK_iff]
  unfold dput
  split
  · rename_i h
    constructor
    · rintro ⟨kv, hm, e⟩
      obtain ⟨q, hq, rfl⟩ := List.mem_map.mp hm
      left
      refine ⟨q, hq, ?_⟩
      split at e <;> exact e
    · rintro (⟨kv, hm, e⟩ | rfl)
      · refine ⟨_, List.mem_map.mpr ⟨kv, hm, rfl⟩, ?_⟩
        split <;> exact e
      · rw [List.any_eq_true] at h
        obtain ⟨kv, hm, e⟩ := h
        refine ⟨_, List.mem_map.mpr ⟨kv, hm, rfl⟩, ?_⟩
        have e := of_decide_eq_true e
        split <;> exact e
  · constructor
    · rintro ⟨kv, hm, e⟩
      rcases List.mem_append.mp hm with hm | hm
      · exact .inl ⟨kv, hm, e⟩
      · rw [List.mem_singleton.mp hm] at e
        exact .inr (by cases e; rfl)
    · rintro (⟨kv, hm, e⟩ | rfl)
      · exact ⟨kv, List.mem_append_left _ hm, e⟩
      · exact ⟨(Sum.inl x, v), List.mem_append_right _ (by simp), rfl⟩
theorem dput_len {kvs : List (L2.Key × D)} {k : L2.Key} {v : D} : (dput kvs k v).length ≤ kvs.length + 1 := by
  unfold dput; split <;> simp
theorem six_dic {S : Store} {n : Nat} {kvs : List (L2.Key × D)} {w : Int} {v : D} (h : S[n]? = some (.dic kvs)) (hl : kvs.length < 16777216) : sixS (.ref n) (.int w) v S = some (S.set n (.dic (dput kvs (Sum.inl w) v))) := by
  simp only [sixS, h, keyOf, PySem.sizeLine_eq, hl, if_true]
def rwD (l : List Int) : D := .tup (l.map D.int)
theorem und_rw (l : List Int) : D.under 0 (rwD l) = true := by
  simp only [rwD, D.under]; exact us_ints
theorem und_rws (ls : List (List Int)) : D.under 0 (.tup (ls.map rwD)) = true := by
  simp only [D.under]
  induction ls with
  | nil => rfl
  | cons l ls ih => simp only [List.map_cons, D.unders, ih, und_rw]; rfl
theorem rnds_len {f : Int → Int} {n : Nat} : ∀ {us : List Int} {acc : List (List Int)}, (rndsG f n us acc).length ≤ acc.length + us.length
  | [], acc => by simp [rndsG]
  | u :: us, acc => by
    simp only [rndsG]
    split
    · have := rnds_len (f := f) (n := n) (us := us) (acc := acc); simp; omega
    · have := rnds_len (f := f) (n := n) (us := us) (acc := acc ++ [rowF f u n [] u]); simp at this ⊢; omega
theorem rowF_in {f : Int → Int} {N : List Int} {u : Int} (hf : ∀ x ∈ N, f x ∈ N) : ∀ {n : Nat} {i : List Int} {l : Int}, (∀ x ∈ i ++ [l], x ∈ N) → ∀ x ∈ rowF f u n i l, x ∈ N
  | 0, i, l, h => h
  | n + 1, i, l, h => by
    simp only [rowF]
    split
    · exact h
    · refine rowF_in hf ?_
      intro x hx
      rcases List.mem_append.mp hx with hx | hx
      · exact h x hx
      · rw [List.mem_singleton.mp hx]; exact hf l (h l (by simp))
theorem rnds_in {f : Int → Int} {N : List Int} (hf : ∀ x ∈ N, f x ∈ N) {n : Nat} : ∀ {us : List Int} {acc : List (List Int)}, (∀ x ∈ us, x ∈ N) → (∀ r ∈ acc, (∀ x ∈ r, x ∈ N) ∧ r.length ≤ n + 1) → ∀ r ∈ rndsG f n us acc, (∀ x ∈ r, x ∈ N) ∧ r.length ≤ n + 1
  | [], acc, _, h => by simpa [rndsG] using h
  | u :: us, acc, hu, h => by
    simp only [rndsG]
    have hu' : ∀ x ∈ us, x ∈ N := fun x hx => hu x (by simp [hx])
    split
    · exact rnds_in hf hu' h
    · refine rnds_in hf hu' fun r hr => ?_
      rcases List.mem_append.mp hr with hr | hr
      · exact h r hr
      · rw [List.mem_singleton.mp hr]
        refine ⟨rowF_in hf (by simpa using hu u (by simp)), ?_⟩
        have := rowF_len (f := f) (u := u) (n := n) (i := []) (l := u)
        simpa using this
end Rf

/-! Rf: exchanges put together -/
namespace Rf
open PySem
abbrev Prs := List (Int × Int)
theorem Xch.ext {a b : Prs} (X : Xch a) (Y : Xch b) (h : ∀ p, p ∈ a ↔ p ∈ b) : a = b := by
  have so : ∀ {l : Prs}, Xch l → l.Pairwise fun p q => lePr p q = true := fun {l} Z => by
    have := Z.rise
    rw [List.pairwise_map] at this
    exact this.imp fun {p q} h => by simp only [lePr, decide_eq_true_eq]; exact .inl h
  have nd : ∀ {l : Prs}, Xch l → l.Nodup := fun {l} Z => by
    have := Z.rise
    rw [List.pairwise_map] at this
    exact this.imp fun {p q} h e => by rw [e] at h; omega
  have pm : a.Perm b := (List.perm_ext_iff_of_nodup (nd X) (nd Y)).mpr h
  have e1 := sortP_eq (so X) (List.Perm.refl a)
  have e2 := sortP_eq (so Y) pm
  rw [← e1, e2]
theorem lead_iff {d : Prs} (Y : Xch d) {v x : Int} : (v, x) ∈ d ↔ v ∈ d.map Prod.fst ∧ lead d v = x := by
  constructor
  · intro h
    refine ⟨List.mem_map.mpr ⟨_, h, rfl⟩, ?_⟩
    have := getK_mem Y.fo h
    unfold lead; rw [this]; rfl
  · rintro ⟨h, rfl⟩; exact lead_mem Y h
theorem mem_fol {e d : Prs} (X : Xch e) (Y : Xch d) (f : fits2 e d) {u x : Int} : (u, x) ∈ fol e d ↔ ∃ v, (u, v) ∈ e ∧ (v, x) ∈ d := by
  have hf := (fits_iff X Y).mp f |>.2
  constructor
  · intro h
    obtain ⟨p, hp, e1⟩ := List.mem_map.mp h
    simp only [Prod.mk.injEq] at e1
    obtain ⟨rfl, rfl⟩ := e1
    exact ⟨p.2, hp, lead_mem Y (hf p hp)⟩
  · rintro ⟨v, h1, h2⟩
    exact List.mem_map.mpr ⟨_, h1, by simp only [Prod.mk.injEq, true_and]; exact ((lead_iff Y).mp h2).2⟩
theorem fol_fst {e d : Prs} : (fol e d).map Prod.fst = e.map Prod.fst := by unfold fol; rw [List.map_map]; rfl
def onto (e : Prs) : List Int := (e.map Prod.snd).mergeSort leI
theorem leI_pw {l : List Int} : (l.mergeSort leI).Pairwise (fun a b => leI a b = true) := List.pairwise_mergeSort leI_tr leI_tt l
theorem onto_mem {e : Prs} {x : Int} : x ∈ onto e ↔ ∃ u, (u, x) ∈ e := by
  unfold onto
  rw [List.mem_mergeSort]
  constructor
  · intro h
    obtain ⟨p, hp, rfl⟩ := List.mem_map.mp h
    exact ⟨p.1, hp⟩
  · rintro ⟨u, h⟩; exact List.mem_map.mpr ⟨_, h, rfl⟩
theorem onto_nodup {e : Prs} (X : Xch e) : (onto e).Nodup := ((List.mergeSort_perm _ leI).nodup_iff).mpr X.once
theorem sorted_ext {l m : List Int} (hl : l.Pairwise (fun a b => leI a b = true)) (hm : m.Pairwise (fun a b => leI a b = true)) (nl : l.Nodup) (nm : m.Nodup) (h : ∀ x, x ∈ l ↔ x ∈ m) : l = m := by
  have pm := (List.perm_ext_iff_of_nodup nl nm).mpr h
  rw [← sortI_eq hl (List.Perm.refl l), sortI_eq hm pm]
theorem Xch.fst_pw {e : Prs} (X : Xch e) : (e.map Prod.fst).Pairwise (fun a b => leI a b = true) := X.rise.imp fun h => by simp only [leI, decide_eq_true_eq]; omega
theorem Xch.fol {e d : Prs} (X : Xch e) (Y : Xch d) (f : fits2 e d) : Xch (fol e d) := by
  have hf := (fits_iff X Y).mp f |>.2
  refine ⟨by rw [fol_fst]; exact X.rise, ?_, fol_small X Y f, by have := X.len; simpa [Rf.fol] using this⟩
  have e1 : (Rf.fol e d).map Prod.snd = (e.map Prod.snd).map (lead d) := by unfold Rf.fol; rw [List.map_map, List.map_map]; rfl
  rw [e1]
  have : ∀ l : List Int, l.Nodup → (∀ x ∈ l, x ∈ d.map Prod.fst) → (l.map (lead d)).Nodup := by
    intro l
    induction l with
    | nil => intro _ _; simp
    | cons a l ih =>
      intro h1 h2
      rw [List.nodup_cons] at h1
      rw [List.map_cons, List.nodup_cons]
      refine ⟨fun hm => ?_, ih h1.2 fun x hx => h2 x (by simp [hx])⟩
      obtain ⟨b, hb, e⟩ := List.mem_map.mp hm
      have := lead_inj Y b (h2 b (by simp [hb])) a (h2 a (by simp)) e
      subst this
      exact h1.1 hb
  refine this _ X.once fun x hx => ?_
  obtain ⟨p, hp, rfl⟩ := List.mem_map.mp hx
  exact hf p hp
theorem fol_onto {e d : Prs} (X : Xch e) (Y : Xch d) (f : fits2 e d) : onto (fol e d) = onto d := by
  refine sorted_ext leI_pw leI_pw (onto_nodup (X.fol Y f)) (onto_nodup Y) fun x => ?_
  rw [onto_mem, onto_mem]
  constructor
  · rintro ⟨u, h⟩
    obtain ⟨v, -, h2⟩ := (mem_fol X Y f).mp h
    exact ⟨v, h2⟩
  · rintro ⟨v, h⟩
    have hv : v ∈ onto e := by
      have : onto e = d.map Prod.fst := f
      rw [this]; exact List.mem_map.mpr ⟨_, h, rfl⟩
    obtain ⟨u, hu⟩ := onto_mem.mp hv
    exact ⟨u, (mem_fol X Y f).mpr ⟨v, hu, h⟩⟩
theorem fits_def {e d : Prs} : fits2 e d ↔ onto e = d.map Prod.fst := Iff.rfl
theorem fol_assoc {a b c : Prs} (A : Xch a) (B : Xch b) (C : Xch c) (f : fits2 a b) (g : fits2 b c) : fol (fol a b) c = fol a (fol b c) ∧ fits2 (fol a b) c ∧ fits2 a (fol b c) := by
  have f1 : fits2 (fol a b) c := by rw [fits_def, fol_onto A B f]; exact g
  have f2 : fits2 a (fol b c) := by rw [fits_def, fol_fst]; exact f
  refine ⟨?_, f1, f2⟩
  refine Xch.ext ((A.fol B f).fol C f1) (A.fol (B.fol C g) f2) fun ⟨u, x⟩ => ?_
  rw [mem_fol (A.fol B f) C f1, mem_fol A (B.fol C g) f2]
  constructor
  · rintro ⟨v, h1, h2⟩
    obtain ⟨w, h3, h4⟩ := (mem_fol A B f).mp h1
    exact ⟨w, h3, (mem_fol B C g).mpr ⟨v, h4, h2⟩⟩
  · rintro ⟨w, h1, h2⟩
    obtain ⟨v, h3, h4⟩ := (mem_fol B C g).mp h2
    exact ⟨v, (mem_fol A B f).mpr ⟨w, h1, h3⟩, h4⟩
/-- turned back -/
def bkX (e : Prs) : Prs := (e.map swp).mergeSort lePr
theorem bk_mem {e : Prs} {u x : Int} : (x, u) ∈ bkX e ↔ (u, x) ∈ e := by
  unfold bkX
  rw [List.mem_mergeSort]
  constructor
  · intro h
    obtain ⟨p, hp, e1⟩ := List.mem_map.mp h
    simp only [swp, Prod.mk.injEq] at e1
    obtain ⟨rfl, rfl⟩ := e1
    exact hp
  · intro h; exact List.mem_map.mpr ⟨_, h, rfl⟩
theorem Xch.bk {e : Prs} (X : Xch e) : Xch (bkX e) := X.back
theorem bk_fst {e : Prs} (X : Xch e) : (bkX e).map Prod.fst = onto e := by
  refine sorted_ext X.bk.fst_pw leI_pw X.bk.fo (onto_nodup X) fun x => ?_
  rw [onto_mem]
  constructor
  · intro h
    obtain ⟨⟨a, b⟩, hp, rfl⟩ := List.mem_map.mp h
    exact ⟨b, bk_mem.mp hp⟩
  · rintro ⟨u, h⟩; exact List.mem_map.mpr ⟨_, bk_mem.mpr h, rfl⟩
theorem bk_onto {e : Prs} (X : Xch e) : onto (bkX e) = e.map Prod.fst := by
  refine sorted_ext leI_pw X.fst_pw (onto_nodup X.bk) X.fo fun x => ?_
  rw [onto_mem]
  constructor
  · rintro ⟨u, h⟩; exact List.mem_map.mpr ⟨_, bk_mem.mp h, rfl⟩
  · intro h
    obtain ⟨⟨a, b⟩, hp, rfl⟩ := List.mem_map.mp h
    exact ⟨b, bk_mem.mpr hp⟩
theorem bk_fol {e d : Prs} (X : Xch e) (Y : Xch d) (f : fits2 e d) : fits2 (bkX d) (bkX e) ∧ bkX (fol e d) = fol (bkX d) (bkX e) := by
  have f1 : fits2 (bkX d) (bkX e) := by rw [fits_def, bk_onto Y, bk_fst X]; exact (fits_def.mp f).symm
  refine ⟨f1, Xch.ext (X.fol Y f).bk (Y.bk.fol X.bk f1) fun ⟨x, u⟩ => ?_⟩
  rw [bk_mem, mem_fol X Y f, mem_fol Y.bk X.bk f1]
  exact ⟨fun ⟨v, h1, h2⟩ => ⟨v, bk_mem.mpr h2, bk_mem.mpr h1⟩, fun ⟨v, h1, h2⟩ => ⟨v, bk_mem.mp h2, bk_mem.mp h1⟩⟩
/-- what changes nothing -/
def dbl (u : Int) : Int × Int := (u, u)
def idX (l : List Int) : Prs := l.map dbl
theorem id_mem {l : List Int} {u x : Int} : (u, x) ∈ idX l ↔ u ∈ l ∧ x = u := by
  unfold idX dbl
  constructor
  · intro h
    obtain ⟨v, hv, e⟩ := List.mem_map.mp h
    simp only [Prod.mk.injEq] at e
    obtain ⟨rfl, rfl⟩ := e
    exact ⟨hv, rfl⟩
  · rintro ⟨h, rfl⟩; exact List.mem_map.mpr ⟨_, h, rfl⟩
theorem id_fst {l : List Int} : (idX l).map Prod.fst = l := by
  unfold idX; rw [List.map_map]
  conv => rhs; rw [← List.map_id l]
  rfl
theorem id_snd {l : List Int} : (idX l).map Prod.snd = l := by
  unfold idX; rw [List.map_map]
  conv => rhs; rw [← List.map_id l]
  rfl
theorem Xch.idx {l : List Int} (h : l.Pairwise (· < ·)) (hb : ∀ x ∈ l, 0 ≤ x ∧ x ≤ 99) (hl : l.length ≤ 100) : Xch (idX l) := by
  refine ⟨by rw [id_fst]; exact h, by rw [id_snd]; exact h.imp fun h e => by omega, fun ⟨a, b⟩ hp => ?_, by unfold idX; rw [List.length_map]; exact hl⟩
  obtain ⟨h1, rfl⟩ := id_mem.mp hp
  exact ⟨hb _ h1, hb _ h1⟩
theorem Xch.id_over {e : Prs} (X : Xch e) : Xch (idX (e.map Prod.fst)) := Xch.idx X.rise (fun x hx => by obtain ⟨p, hp, rfl⟩ := List.mem_map.mp hx; exact (X.small p hp).1) (by rw [List.length_map]; exact X.len)
theorem onto_rise {e : Prs} (X : Xch e) : (onto e).Pairwise (· < ·) := by
  have h1 := leI_pw (l := e.map Prod.snd)
  have h2 := List.nodup_iff_pairwise_ne.mp (onto_nodup X)
  exact (h1.and h2).imp fun {a b} ⟨g1, g2⟩ => by simp only [leI, decide_eq_true_eq] at g1; omega
theorem Xch.id_onto {e : Prs} (X : Xch e) : Xch (idX (onto e)) := Xch.idx (onto_rise X) (fun x hx => by obtain ⟨u, h⟩ := onto_mem.mp hx; exact (X.small _ h).2) (by unfold onto; rw [List.length_mergeSort, List.length_map]; exact X.len)
theorem onto_id {l : List Int} (h : l.Pairwise (· < ·)) : onto (idX l) = l := by
  unfold onto
  rw [id_snd]
  exact sortI_eq (h.imp fun h => by simp only [leI, decide_eq_true_eq]; omega) (.refl _)
theorem id_fol {e : Prs} (X : Xch e) : fits2 (idX (e.map Prod.fst)) e ∧ fol (idX (e.map Prod.fst)) e = e := by
  have f : fits2 (idX (e.map Prod.fst)) e := by rw [fits_def, onto_id X.rise]
  refine ⟨f, Xch.ext (X.id_over.fol X f) X fun ⟨u, x⟩ => ?_⟩
  rw [mem_fol X.id_over X f]
  constructor
  · rintro ⟨v, h1, h2⟩
    obtain ⟨-, rfl⟩ := id_mem.mp h1
    exact h2
  · intro h; exact ⟨u, id_mem.mpr ⟨List.mem_map.mpr ⟨_, h, rfl⟩, rfl⟩, h⟩
theorem fol_id {e : Prs} (X : Xch e) : fits2 e (idX (onto e)) ∧ fol e (idX (onto e)) = e := by
  have f : fits2 e (idX (onto e)) := by rw [fits_def, id_fst]
  refine ⟨f, Xch.ext (X.fol X.id_onto f) X fun ⟨u, x⟩ => ?_⟩
  rw [mem_fol X X.id_onto f]
  constructor
  · rintro ⟨v, h1, h2⟩
    obtain ⟨-, rfl⟩ := id_mem.mp h2
    exact h1
  · intro h; exact ⟨x, h, id_mem.mpr ⟨onto_mem.mpr ⟨u, h⟩, rfl⟩⟩
theorem fol_bk {e : Prs} (X : Xch e) : fits2 e (bkX e) ∧ fol e (bkX e) = idX (e.map Prod.fst) := by
  have f : fits2 e (bkX e) := by rw [fits_def, bk_fst X]
  refine ⟨f, Xch.ext (X.fol X.bk f) X.id_over fun ⟨u, x⟩ => ?_⟩
  rw [mem_fol X X.bk f, id_mem]
  constructor
  · rintro ⟨v, h1, h2⟩
    have h2 := bk_mem.mp h2
    have := nodup_inj X.once _ h1 _ h2 rfl
    exact ⟨List.mem_map.mpr ⟨_, h1, rfl⟩, (congrArg Prod.fst this).symm⟩
  · rintro ⟨h, rfl⟩
    obtain ⟨⟨a, b⟩, hp, rfl⟩ := List.mem_map.mp h
    exact ⟨b, hp, bk_mem.mpr hp⟩
theorem bk_fol_id {e : Prs} (X : Xch e) : fits2 (bkX e) e ∧ fol (bkX e) e = idX (onto e) := by
  have f : fits2 (bkX e) e := by rw [fits_def, bk_onto X]
  refine ⟨f, Xch.ext (X.bk.fol X f) X.id_onto fun ⟨x, y⟩ => ?_⟩
  rw [mem_fol X.bk X f, id_mem]
  constructor
  · rintro ⟨v, h1, h2⟩
    have h1 := bk_mem.mp h1
    have := nodup_inj X.fo _ h1 _ h2 rfl
    exact ⟨onto_mem.mpr ⟨v, h1⟩, (congrArg Prod.snd this).symm⟩
  · rintro ⟨h, rfl⟩
    obtain ⟨u, hu⟩ := onto_mem.mp h
    exact ⟨u, bk_mem.mpr hu, hu⟩
/-- a row of exchanges, each over the names onto which the one ahead goes -/
def Lnk : List Prs → Prop
  | [] => True
  | [e] => Xch e
  | e :: d :: r => Xch e ∧ fits2 e d ∧ Lnk (d :: r)
def whole : List Prs → Prs
  | [] => []
  | [e] => e
  | e :: r => fol e (whole r)
theorem whole_ok : ∀ {e : Prs} {r : List Prs}, Lnk (e :: r) → Xch (whole (e :: r)) ∧ (whole (e :: r)).map Prod.fst = e.map Prod.fst ∧ onto (whole (e :: r)) = onto ((e :: r).getLast (by simp))
  | e, [], h => ⟨h, rfl, rfl⟩
  | e, d :: r, h => by
    obtain ⟨X, f, h⟩ := h
    obtain ⟨W, w1, w2⟩ := whole_ok h
    have f' : fits2 e (whole (d :: r)) := by rw [fits_def, w1]; exact f
    refine ⟨X.fol W f', fol_fst, ?_⟩
    show onto (fol e (whole (d :: r))) = _
    rw [fol_onto X W f', w2]
    simp
theorem whole_fits {e : Prs} {d : Prs} {r : List Prs} (h : Lnk (e :: d :: r)) : fits2 e (whole (d :: r)) := by
  rw [fits_def, (whole_ok h.2.2).2.1]; exact h.2.1
theorem Lnk.tail {e : Prs} {r : List Prs} (h : Lnk (e :: r)) : Lnk r := by
  cases r with
  | nil => trivial
  | cons d r => exact h.2.2
theorem Lnk.head {e : Prs} {r : List Prs} (h : Lnk (e :: r)) : Xch e := by
  cases r with
  | nil => exact h
  | cons d r => exact h.1
theorem Lnk.app : ∀ {a b : List Prs}, Lnk (a ++ b) → Lnk a ∧ Lnk b
  | [], b, h => ⟨trivial, h⟩
  | [e], b, h => ⟨h.head, h.tail⟩
  | e :: d :: r, b, h => by
    obtain ⟨h1, h2⟩ := Lnk.app (a := d :: r) h.2.2
    exact ⟨⟨h.1, h.2.1, h1⟩, h2⟩
theorem whole_app : ∀ {a b : List Prs}, a ≠ [] → b ≠ [] → Lnk (a ++ b) → fits2 (whole a) (whole b) ∧ fol (whole a) (whole b) = whole (a ++ b)
  | [], _, h, _, _ => absurd rfl h
  | [e], [], _, h, _ => absurd rfl h
  | [e], d :: r, _, _, h => ⟨whole_fits h, rfl⟩
  | e :: d :: r, b, _, hb, h => by
    obtain ⟨g1, g2⟩ := whole_app (a := d :: r) (b := b) (by simp) hb h.2.2
    obtain ⟨la, lb⟩ := Lnk.app (a := d :: r) h.2.2
    have W := (whole_ok la).1
    have V : Xch (whole b) := by
      cases b with
      | nil => exact absurd rfl hb
      | cons x b => exact (whole_ok lb).1
    have fe : fits2 e (whole (d :: r)) := by rw [fits_def, (whole_ok la).2.1]; exact h.2.1
    obtain ⟨as, a1, a2⟩ := fol_assoc h.1 W V fe g1
    refine ⟨a1, ?_⟩
    show fol (fol e (whole (d :: r))) (whole b) = fol e (whole (d :: r ++ b))
    rw [as, g2]
/-- where a row leads a name -/
def ledR : List Prs → Int → Int
  | [], u => u
  | e :: r, u => ledR r (lead e u)
theorem whole_led : ∀ {e : Prs} {r : List Prs}, Lnk (e :: r) → whole (e :: r) = (e.map Prod.fst).map fun u => (u, ledR (e :: r) u)
  | e, [], h => by
    have X : Xch e := h
    show e = _
    rw [List.map_map]
    conv => lhs; rw [← List.map_id e]
    refine List.map_congr_left fun p hp => ?_
    have := ((lead_iff X).mp (show (p.1, p.2) ∈ e from hp)).2
    simp only [id, Function.comp, ledR, this]
  | e, d :: r, h => by
    have ih := whole_led h.2.2
    show fol e (whole (d :: r)) = _
    unfold fol
    rw [List.map_map]
    refine List.map_congr_left fun p hp => ?_
    have hl := ((lead_iff h.1).mp (show (p.1, p.2) ∈ e from hp)).2
    have hw := whole_ok h.2.2
    have hm : p.2 ∈ d.map Prod.fst := by
      have : onto e = d.map Prod.fst := h.2.1
      rw [← this]; exact onto_mem.mpr ⟨p.1, hp⟩
    have h2 : (p.2, ledR (d :: r) p.2) ∈ whole (d :: r) := by
      rw [ih]; exact List.mem_map.mpr ⟨_, hm, rfl⟩
    have := ((lead_iff hw.1).mp h2).2
    simp only [Function.comp, ledR, hl, this]
theorem back_lnk : ∀ {r : List Prs}, Lnk r → Lnk (r.map bkX).reverse ∧ (r ≠ [] → whole (r.map bkX).reverse = bkX (whole r))
  | [], _ => ⟨trivial, fun h => absurd rfl h⟩
  | [e], h => by
    have X : Xch e := h
    exact ⟨X.bk, fun _ => rfl⟩
  | e :: d :: r, h => by
    obtain ⟨i1, i2⟩ := back_lnk h.2.2
    have i2 := i2 (by simp)
    have hne : (List.map bkX (d :: r)).reverse ≠ [] := by simp
    have L : Lnk ((List.map bkX (d :: r)).reverse ++ [bkX e]) := by
      have e1 : (List.map bkX (d :: r)).reverse = (List.map bkX r).reverse ++ [bkX d] := by simp
      rw [e1] at i1 ⊢
      have : ∀ (a : List Prs) (x : Prs), Lnk (a ++ [x]) → fits2 x (bkX e) → Lnk (a ++ [x] ++ [bkX e]) := by
        intro a
        induction a with
        | nil => intro x hx hf; exact ⟨hx, hf, h.1.bk⟩
        | cons y a ih =>
          intro x hx hf
          cases a with
          | nil => exact ⟨hx.1, hx.2.1, ih x hx.2.2 hf⟩
          | cons z a => exact ⟨hx.1, hx.2.1, ih x hx.2.2 hf⟩
      refine this _ _ i1 ?_
      rw [fits_def, bk_onto h.2.2.head, bk_fst h.1]
      exact (fits_def.mp h.2.1).symm
    refine ⟨by rw [List.map_cons, List.reverse_cons]; exact L, fun _ => ?_⟩
    rw [List.map_cons, List.reverse_cons, ← (whole_app hne (by simp) L).2, i2]
    have hw := whole_ok h.2.2
    exact (bk_fol h.1 hw.1 (whole_fits h)).2.symm
end Rf

/-! Rf: neighbours' swaps, sorting by them -/
namespace Rf
open PySem
theorem it_rngZ {n : Int} {S : Store} (h1 : -(2 ^ 62) ≤ n) (h2 : n ≤ 16777216) : itemsS .rng [.int n] S = some ((List.range n.toNat).map fun (i : Nat) => .int (i : Int), []) := by
  simp only [itemsS, h1, h2, and_self, if_true]
def rng (n : Nat) : List Int := (List.range n).map fun i : Nat => (i : Int)
theorem rng_mem {n : Nat} {x : Int} : x ∈ rng n ↔ 0 ≤ x ∧ x < n := by
  unfold rng
  rw [List.mem_map]
  constructor
  · rintro ⟨i, hi, rfl⟩; rw [List.mem_range] at hi; omega
  · rintro ⟨h1, h2⟩; exact ⟨x.toNat, by rw [List.mem_range]; omega, by omega⟩
theorem rng_rise (n : Nat) : (rng n).Pairwise (· < ·) := by
  unfold rng
  rw [List.pairwise_map]
  exact (List.pairwise_lt_range (n := n)).imp fun h => by omega
theorem rng_len (n : Nat) : (rng n).length = n := by simp [rng]
/-- all orders of a list -/
def ins (x : Int) : List Int → List (List Int)
  | [] => [[x]]
  | y :: l => (x :: y :: l) :: (ins x l).map (y :: ·)
def perms : List Int → List (List Int)
  | [] => [[]]
  | x :: l => (perms l).flatMap (ins x)
theorem ins_mem {x : Int} : ∀ {a b : List Int}, (a ++ x :: b) ∈ ins x (a ++ b)
  | [], [] => by simp [ins]
  | [], y :: b => by simp [ins]
  | y :: a, b => by
    simp only [List.cons_append, ins]
    exact List.mem_cons_of_mem _ (List.mem_map.mpr ⟨_, ins_mem, rfl⟩)
theorem perms_mem : ∀ {l g : List Int}, g.Perm l → g ∈ perms l
  | [], g, h => by rw [List.perm_nil.mp h]; simp [perms]
  | x :: l, g, h => by
    have hx : x ∈ g := h.mem_iff.mpr (by simp)
    obtain ⟨a, b, rfl⟩ := List.append_of_mem hx
    have h2 : (a ++ b).Perm l := (List.Perm.cons_inv ((List.perm_middle.symm).trans h))
    exact List.mem_flatMap.mpr ⟨a ++ b, perms_mem h2, ins_mem⟩
/-- a neighbours' swap where they fall -/
def swapL (g : List Int) (k : Nat) : List Int := g.take k ++ [g.getD (k + 1) 0, g.getD k 0] ++ g.drop (k + 2)
def bst (g : List Int) (k : Nat) : List Int := if g.getD (k + 1) 0 < g.getD k 0 then swapL g k else g
def bub (n : Nat) (g : List Int) : List Int := (List.range n).foldl (fun g _ => (List.range (n - 1)).foldl bst g) g
theorem bub_ok {n : Nat} (hn : n ≤ 6) {g : List Int} (h : g.Perm (rng n)) : bub n g = rng n := by
  have all : ∀ n ∈ List.range 7, ∀ g ∈ perms (rng n), bub n g = rng n := by decide +kernel
  exact all n (by rw [List.mem_range]; omega) g (perms_mem h)
def swF (u k : Int) : Int := if u = k then k + 1 else if u = k + 1 then k else u
theorem swapL_len {g : List Int} {k : Nat} (h : k + 1 < g.length) : (swapL g k).length = g.length := by
  simp only [swapL, List.length_append, List.length_take, List.length_drop, List.length_cons, List.length_nil]; omega
theorem swapL_at {g : List Int} {k : Nat} (h : k + 1 < g.length) {j : Int} (h0 : 0 ≤ j) (h1 : j < g.length) : (swapL g k).getD (swF j k).toNat 0 = g.getD j.toNat 0 := by
  obtain ⟨j, rfl⟩ := Int.eq_ofNat_of_zero_le h0
  have h1 : j < g.length := by omega
  have lt : (g.take k).length = k := by rw [List.length_take]; omega
  have at0 : (swapL g k).getD k 0 = g.getD (k + 1) 0 := by
    unfold swapL
    rw [List.getD_eq_getElem?_getD, List.append_assoc, List.getElem?_append_right (by omega), lt]
    simp
  have at1 : (swapL g k).getD (k + 1) 0 = g.getD k 0 := by
    unfold swapL
    rw [List.getD_eq_getElem?_getD, List.append_assoc, List.getElem?_append_right (by omega), lt]
    simp
  unfold swF
  by_cases c1 : (j : Int) = (k : Int)
  · rw [if_pos c1]
    have : j = k := by omega
    subst this
    rw [show ((j : Int) + 1).toNat = j + 1 by omega, at1, Int.toNat_natCast]
  · rw [if_neg c1]
    by_cases c2 : (j : Int) = (k : Int) + 1
    · rw [if_pos c2]
      have : j = k + 1 := by omega
      subst this
      rw [Int.toNat_natCast, at0, Int.toNat_natCast]
    · rw [if_neg c2, Int.toNat_natCast]
      unfold swapL
      rw [List.getD_eq_getElem?_getD, List.getD_eq_getElem?_getD]
      by_cases c3 : j < k
      · rw [List.append_assoc, List.getElem?_append_left (by omega), List.getElem?_take_of_lt c3]
        simp [List.getD_eq_getElem?_getD]
      · rw [List.getElem?_append_right (by simp only [List.length_append, lt, List.length_cons, List.length_nil]; omega)]
        simp only [List.length_append, lt, List.length_cons, List.length_nil]
        rw [List.getElem?_drop]
        congr 2
        omega
def swX (n k : Nat) : Prs := (List.range n).map fun u : Nat => ((u : Int), swF (u : Int) (k : Int))
theorem sw_fst {n k : Nat} : (swX n k).map Prod.fst = rng n := by unfold swX rng; rw [List.map_map]; rfl
theorem sw_mem {n k : Nat} {u x : Int} : (u, x) ∈ swX n k ↔ (0 ≤ u ∧ u < n) ∧ x = swF u k := by
  unfold swX
  rw [List.mem_map]
  constructor
  · rintro ⟨i, hi, e⟩
    rw [List.mem_range] at hi
    simp only [Prod.mk.injEq] at e
    obtain ⟨rfl, rfl⟩ := e
    exact ⟨by omega, rfl⟩
  · rintro ⟨h, rfl⟩
    exact ⟨u.toNat, by rw [List.mem_range]; omega, by rw [show ((u.toNat : Nat) : Int) = u by omega]⟩
theorem swF_in {n k : Nat} {u : Int} (hk : k + 1 < n) (h : 0 ≤ u ∧ u < n) : 0 ≤ swF u k ∧ swF u k < n := by
  unfold swF
  split
  · omega
  · split <;> omega
theorem swF_inv {u k : Int} : swF (swF u k) k = u := by
  unfold swF
  by_cases c1 : u = k
  · rw [if_pos c1, if_neg (by omega), if_pos rfl, c1]
  · rw [if_neg c1]
    by_cases c2 : u = k + 1
    · rw [if_pos c2, if_pos rfl, c2]
    · rw [if_neg c2, if_neg c1, if_neg c2]
theorem Xch.sw {n k : Nat} (hk : k + 1 < n) (hn : n ≤ 100) : Xch (swX n k) := by
  refine ⟨by rw [sw_fst]; exact rng_rise n, ?_, fun ⟨a, b⟩ hp => ?_, by simp [swX]; omega⟩
  · have e : (swX n k).map Prod.snd = (rng n).map fun u => swF u k := by unfold swX rng; rw [List.map_map, List.map_map]; rfl
    rw [e, List.nodup_iff_pairwise_ne, List.pairwise_map]
    refine (rng_rise n).imp fun {a b} h e => ?_
    have := congrArg (fun z => swF z k) e
    simp only [swF_inv] at this
    omega
  · obtain ⟨h1, rfl⟩ := sw_mem.mp hp
    have := swF_in hk h1
    exact ⟨⟨by omega, by omega⟩, by omega, by omega⟩
theorem sw_onto {n k : Nat} (hk : k + 1 < n) (hn : n ≤ 100) : onto (swX n k) = rng n := by
  have X := Xch.sw hk hn
  refine sorted_ext leI_pw ((rng_rise n).imp fun h => by simp only [leI, decide_eq_true_eq]; omega) (onto_nodup X) ((rng_rise n).imp fun h e => by omega) fun x => ?_
  rw [onto_mem, rng_mem]
  constructor
  · rintro ⟨u, h⟩
    obtain ⟨h1, rfl⟩ := sw_mem.mp h
    exact swF_in hk h1
  · intro h
    exact ⟨swF x k, sw_mem.mpr ⟨swF_in hk h, swF_inv.symm⟩⟩
/-- what stands at each turn: the goals, what was done -/
structure Bb (n : Nat) (g0 g : List Int) (h : Prs) : Prop where
  x : Xch h
  fst : h.map Prod.fst = rng n
  on : onto h = rng n
  len : g.length = n
  so : ∀ u : Int, 0 ≤ u → u < n → g.getD (lead h u).toNat 0 = g0.getD u.toNat 0
theorem Bb.swap {n k : Nat} {g0 g : List Int} {h : Prs} (b : Bb n g0 g h) (hk : k + 1 < n) (hn : n ≤ 100) : fits2 h (swX n k) ∧ Bb n g0 (swapL g k) (fol h (swX n k)) := by
  have X := Xch.sw hk hn
  have f : fits2 h (swX n k) := by rw [fits_def, b.on, sw_fst]
  refine ⟨f, b.x.fol X f, by rw [fol_fst, b.fst], by rw [fol_onto b.x X f, sw_onto hk hn], by rw [swapL_len (by rw [b.len]; exact hk), b.len], fun u h0 h1 => ?_⟩
  have hu : u ∈ h.map Prod.fst := by rw [b.fst]; exact rng_mem.mpr ⟨h0, h1⟩
  have hl := lead_mem b.x hu
  have hr : 0 ≤ lead h u ∧ lead h u < n := by
    have : lead h u ∈ onto h := onto_mem.mpr ⟨u, hl⟩
    rw [b.on] at this; exact rng_mem.mp this
  have e : lead (fol h (swX n k)) u = swF (lead h u) k := by
    have : (u, swF (lead h u) k) ∈ fol h (swX n k) := (mem_fol b.x X f).mpr ⟨_, hl, sw_mem.mpr ⟨hr, rfl⟩⟩
    exact ((lead_iff (b.x.fol X f)).mp this).2
  rw [e, swapL_at (by rw [b.len]; exact hk) hr.1 (by rw [b.len]; exact hr.2)]
  exact b.so u h0 h1
theorem Bb.fin {n : Nat} {g0 : List Int} {h : Prs} (b : Bb n g0 (rng n) h) : h = (List.range n).map fun u : Nat => ((u : Int), g0.getD u 0) := by
  have e := whole_led (e := h) (r := []) b.x
  have e : h = (h.map Prod.fst).map fun u => (u, lead h u) := e
  rw [b.fst] at e
  rw [e]
  unfold rng
  rw [List.map_map]
  refine List.map_congr_left fun u hu => ?_
  rw [List.mem_range] at hu
  have hm : (u : Int) ∈ h.map Prod.fst := by rw [b.fst]; exact rng_mem.mpr ⟨by omega, by omega⟩
  have hr : 0 ≤ lead h u ∧ lead h u < n := by
    have : lead h u ∈ onto h := onto_mem.mpr ⟨u, lead_mem b.x hm⟩
    rw [b.on] at this; exact rng_mem.mp this
  have s := b.so u (by omega) (by omega)
  rw [Int.toNat_natCast] at s
  simp only [Function.comp, Prod.mk.injEq, true_and]
  rw [← s]
  unfold rng
  rw [List.getD_eq_getElem?_getD, List.getElem?_map, List.getElem?_range (by omega)]
  simp only [Option.map_some, Option.getD_some]
  omega
theorem Bb.start {n : Nat} {g0 : List Int} (h : g0.length = n) (hn : n ≤ 100) : Bb n g0 g0 (idX (rng n)) := by
  have X : Xch (idX (rng n)) := Xch.idx (rng_rise n) (fun x hx => by have := rng_mem.mp hx; omega) (by rw [rng_len]; exact hn)
  refine ⟨X, id_fst, onto_id (rng_rise n), h, fun u h0 h1 => ?_⟩
  have : (u, u) ∈ idX (rng n) := id_mem.mpr ⟨rng_mem.mpr ⟨h0, h1⟩, rfl⟩
  rw [((lead_iff X).mp this).2]
end Rf

/-! Rf: tuple(zip(a, b)) by steps; lists of lists that stand in cells; all exchanges, plain -/
namespace Rf
open PySem
section
variable {c : Cl} {r : Sl} {S : Store} {as : Exs} {xs ys : List D} {Q : Kx}
def ktz (Q : Kx) : List D → Store → Prop := fun ds S => WpE (tzipS ds S) Q
theorem x_tzip : WpE (evE c (.tzip as) r S) Q = WpE (evR c as r S) (ktz Q) := by simp only [evE, p_bnd]; rfl
theorem ktz_mk : ktz Q [.tup xs, .tup ys] S = Q (.tup (zipT xs ys)) S := p_some
theorem zipT_prs : ∀ (l m : List Int), zipT (l.map D.int) (m.map D.int) = (l.zip m).map dP
  | [], m => by cases m <;> rfl
  | _ :: _, [] => rfl
  | a :: l, b :: m => by simp only [List.map_cons, zipT, List.zip_cons_cons, zipT_prs l m]; rfl
end
/-! an item of a list stored -/
def sixI (o : Option O) (i : Int) (v : D) (n : Nat) (S : Store) : Option Store := match o with
  | some (.lst xs) => match L2.ixN xs.length i with
    | some j => some (S.set n (.lst (xs.set j v)))
    | none => none
  | some (.dic kvs) => if kvs.length < sizeLine then some (S.set n (.dic (dput kvs (Sum.inl i) v))) else none
  | _ => none
theorem r_sixI {S : Store} {n : Nat} {i : Int} {v : D} : sixS (.ref n) (.int i) v S = sixI S[n]? i v n S := by
  rcases h : S[n]? with _ | (q | q | q) <;> (simp only [sixI, sixS, h, keyOf] <;> try (cases L2.ixN q.length i <;> rfl))
theorem sixI_mk {S : Store} {n : Nat} {i : Int} {v : D} {xs : List D} (h0 : 0 ≤ i) (h1 : i < xs.length) : sixI (some (.lst xs)) i v n S = some (S.set n (.lst (xs.set i.toNat v))) := by
  have : L2.ixN xs.length i = some i.toNat := by unfold L2.ixN; rw [if_pos h0, if_pos h1]
  simp only [sixI, this]
/-- lists of ints at these cells -/
def Holds (X : Store) : List Nat → List (List Int) → Prop
  | [], [] => True
  | r :: rs, o :: os => X[r]? = some (.lst (o.map D.int)) ∧ Holds X rs os
  | _, _ => False
theorem Holds.ext {X Y : Store} : ∀ {rs : List Nat} {os : List (List Int)}, Holds X rs os → (∀ r ∈ rs, Y[r]? = X[r]?) → Holds Y rs os
  | [], [], _, _ => trivial
  | r :: rs, o :: os, h, g => ⟨by rw [g r (by simp)]; exact h.1, h.2.ext fun r hr => g r (by simp [hr])⟩
theorem Holds.lt {X : Store} : ∀ {rs : List Nat} {os : List (List Int)}, Holds X rs os → ∀ r ∈ rs, r < X.length
  | r :: rs, o :: os, h, q, hq => by
    rcases List.mem_cons.mp hq with rfl | hq
    · exact (List.getElem?_eq_some_iff.mp h.1).1
    · exact h.2.lt q hq
theorem Holds.len {X : Store} : ∀ {rs : List Nat} {os : List (List Int)}, Holds X rs os → rs.length = os.length
  | [], [], _ => rfl
  | r :: rs, o :: os, h => by simp [h.2.len]
theorem Holds.snoc {X : Store} {r : Nat} {o : List Int} (hr : X[r]? = some (.lst (o.map D.int))) : ∀ {rs : List Nat} {os : List (List Int)}, Holds X rs os → Holds X (rs ++ [r]) (os ++ [o])
  | [], [], _ => ⟨hr, trivial⟩
  | _ :: _, _ :: _, h => ⟨h.1, h.2.snoc hr⟩
/-- one more on each row -/
def stp (l : List Int) (rows : List (List Int)) : List (List Int) := rows.flatMap fun row => (l.filter fun v => !decide (v ∈ row)).map fun v => row ++ [v]
theorem stp_len {l : List Int} : ∀ {rows : List (List Int)}, (stp l rows).length ≤ l.length * rows.length
  | [] => by simp [stp]
  | row :: rows => by
    have h1 := stp_len (l := l) (rows := rows)
    have h2 := List.length_filter_le (fun v => !decide (v ∈ row)) l
    unfold stp at h1 ⊢
    rw [List.flatMap_cons, List.length_append, List.length_map, List.length_cons, Nat.mul_add, Nat.mul_one]
    omega
theorem stp_app {l : List Int} {a b : List (List Int)} : stp l (a ++ b) = stp l a ++ stp l b := by unfold stp; rw [List.flatMap_append]
theorem stp_one {l row : List Int} : stp l [row] = (l.filter fun v => !decide (v ∈ row)).map fun v => row ++ [v] := by unfold stp; simp
def rowsI (l : List Int) : Nat → List (List Int)
  | 0 => [[]]
  | k + 1 => stp l (rowsI l k)
/-- all exchanges of names onto themselves, rising -/
def allX (l : List Int) : List Prs := (rowsI l l.length).map fun row => l.zip row
theorem rowsI_mem {l : List Int} : ∀ {k : Nat} {row : List Int}, row ∈ rowsI l k → row.length = k ∧ ∀ x ∈ row, x ∈ l
  | 0, row, h => by simp [rowsI] at h; subst h; simp
  | k + 1, row, h => by
    unfold rowsI stp at h
    obtain ⟨r0, h0, h1⟩ := List.mem_flatMap.mp h
    obtain ⟨v, hv, rfl⟩ := List.mem_map.mp h1
    obtain ⟨e, g⟩ := rowsI_mem h0
    refine ⟨by simp [e], fun x hx => ?_⟩
    rcases List.mem_append.mp hx with hx | hx
    · exact g x hx
    · rw [List.mem_singleton.mp hx]; exact (List.mem_filter.mp hv).1
theorem flatMap_cg {α β : Type} {f g : α → List β} : ∀ {l : List α}, (∀ x ∈ l, f x = g x) → l.flatMap f = l.flatMap g
  | [], _ => rfl
  | a :: l, h => by rw [List.flatMap_cons, List.flatMap_cons, h a (by simp), flatMap_cg fun x hx => h x (by simp [hx])]
/-- by places -/
theorem rowsI_map {l : List Int} (nd : l.Nodup) : ∀ k : Nat, rowsI l k = (rowsI (rng l.length) k).map fun o => o.map fun i => l.getD i.toNat 0
  | 0 => rfl
  | k + 1 => by
    have inj : ∀ i ∈ rng l.length, ∀ j ∈ rng l.length, l.getD i.toNat 0 = l.getD j.toNat 0 → i = j := fun i hi j hj e => by
      have h1 := rng_mem.mp hi
      have h2 := rng_mem.mp hj
      rw [List.getD_eq_getElem?_getD, List.getElem?_eq_getElem (by omega), List.getD_eq_getElem?_getD, List.getElem?_eq_getElem (by omega)] at e
      have := (List.getElem_inj nd).mp e
      omega
    have el : l = (rng l.length).map fun i => l.getD i.toNat 0 := by
      unfold rng
      rw [List.map_map]
      apply List.ext_getElem?
      intro j
      rw [List.getElem?_map]
      by_cases hj : j < l.length
      · rw [List.getElem?_range hj]
        simp [hj]
      · rw [List.getElem?_eq_none (by omega), List.getElem?_eq_none (by simp; omega)]; rfl
    have key : ∀ o ∈ rowsI (rng l.length) k, ((l.filter fun v => !decide (v ∈ o.map fun i => l.getD i.toNat 0)).map fun v => (o.map fun i => l.getD i.toNat 0) ++ [v]) = (((rng l.length).filter fun v => !decide (v ∈ o)).map fun v => o ++ [v]).map fun o => o.map fun i => l.getD i.toNat 0 := fun o ho => by
      obtain ⟨-, sub⟩ := rowsI_mem ho
      have ef : (l.filter fun v => !decide (v ∈ o.map fun i => l.getD i.toNat 0)) = ((rng l.length).filter fun v => !decide (v ∈ o)).map fun i => l.getD i.toNat 0 := by
        refine (congrArg (List.filter fun v => !decide (v ∈ o.map fun i => l.getD i.toNat 0)) el).trans ?_
        rw [List.filter_map]
        congr 1
        refine List.filter_congr fun i hi => ?_
        simp only [Function.comp_apply]
        congr 1
        refine decide_eq_decide.mpr ⟨fun h => ?_, fun h => List.mem_map.mpr ⟨i, h, rfl⟩⟩
        obtain ⟨j, hj, e⟩ := List.mem_map.mp h
        rw [← inj j (sub j hj) i hi e]; exact hj
      rw [ef, List.map_map, List.map_map]
      refine List.map_congr_left fun v _ => ?_
      simp
    show stp l (rowsI l k) = (stp (rng l.length) (rowsI (rng l.length) k)).map _
    rw [rowsI_map nd k]
    unfold stp
    rw [List.flatMap_map, List.map_flatMap]
    exact flatMap_cg key
end Rf

/-! Rf: sums, counts, places of tuples of ints -/
namespace Rf
open PySem
section
variable {S : Store} {ns : List Int} {k : Int}
theorem bi_sumT : biS .sum [.tup (ns.map D.int)] S = some (.int ns.sum, S) := by simp only [biS, mapO_ints, Option.map_some]
theorem bi_sumL : biS .sum [.lst (ns.map D.int)] S = some (.int ns.sum, S) := by simp only [biS, lstOf, mapO_ints, Option.map_some]
end
section
variable {S : Store} {a : D} {ds : List D} {n : Nat}
theorem cnt_parts (ha : fl a 63 = true) (hd : fls ds 63 = true) (na : nb a = true) (nd : nbs ds = true) :
    dat S deep a = some (pd a) ∧ mapO (dat S 69) ds = some (pds ds) ∧ SeqAt.shaped (pd a) = true ∧ SeqAt.shaped (.list (pds ds)) = true ∧ (∀ x ∈ ds, PyData.eqv (pd x) (pd a) = decide (x = a)) :=
  ⟨dat_fl S (fl_up (show 63 ≤ deep by decide) ha), dats_fl S (fls_up (show 63 ≤ 69 by decide) hd), fl_shaped (fl_up (show 63 ≤ 64 by decide) ha), fl_shaped (d := .lst ds) (by simpa only [fl] using hd), fun x hx => eqv_nb (nbs_iff.mp nd x hx) na⟩
theorem cntP_eq (h : ∀ x ∈ ds, PyData.eqv (pd x) (pd a) = decide (x = a)) : (pds ds).countP (fun q => PyData.eqv q (pd a)) = ds.countP fun x => decide (x = a) := by
  rw [pds_map, List.countP_map]
  exact List.countP_congr fun x hx => by simp only [Function.comp_apply, h x hx]
theorem idxP_eq : ∀ {ds : List D}, (∀ x ∈ ds, PyData.eqv (pd x) (pd a) = decide (x = a)) → (pds ds).findIdx? (fun q => PyData.eqv q (pd a)) = ds.findIdx? fun x => decide (x = a)
  | [], _ => rfl
  | x :: ds, h => by
    have ih := idxP_eq (ds := ds) fun y hy => h y (by simp [hy])
    simp only [pds, List.findIdx?_cons, h x (by simp), ih]
theorem t_cnt (ha : fl a 63 = true) (hd : fls ds 63 = true) (na : nb a = true) (nd : nbs ds = true) : mtS .count (.tup ds) [a] S = some (.int (ds.countP (fun x => decide (x = a)) : Nat), S) := by
  obtain ⟨e1, e2, e3, e4, e5⟩ := cnt_parts (S := S) ha hd na nd
  simp only [mtS, mtT, e1, e2, e3, e4, Bool.and_self, if_true, cntP_eq e5]
theorem t_idx (ha : fl a 63 = true) (hd : fls ds 63 = true) (na : nb a = true) (nd : nbs ds = true) {j : Nat} (hj : ds.findIdx? (fun x => decide (x = a)) = some j) : mtS .index (.tup ds) [a] S = some (.int (j : Nat), S) := by
  obtain ⟨e1, e2, e3, e4, e5⟩ := cnt_parts (S := S) ha hd na nd
  simp only [mtS, mtT, e1, e2, e3, e4, Bool.and_self, if_true, idxP_eq e5, hj, Option.map_some]
theorem l_cnt {es : List D} (hS : S[n]? = some (.lst ds)) (ha : fl (.tup es) 63 = true) (hd : fls ds 63 = true) (na : nb (.tup es) = true) (nd : nbs ds = true) : mtS .count (.ref n) [.tup es] S = some (.int (ds.countP (fun x => decide (x = .tup es)) : Nat), S) := by
  obtain ⟨e1, e2, e3, e4, e5⟩ := cnt_parts (S := S) ha hd na nd
  simp only [mtS, hS, e1, e2, e3, e4, Bool.and_self, if_true, cntP_eq e5]
theorem t_cntI {ns : List Int} {k : Int} : mtS .count (.tup (ns.map D.int)) [.int k] S = some (.int (ns.count k : Nat), S) := by
  rw [t_cnt rfl (fls_ints _ _) rfl (nbs_ints _), List.countP_map]
  congr 3
  refine congrArg Int.ofNat ?_
  unfold List.count
  refine List.countP_congr fun a _ => ?_
  simp
end
end Rf

/-! Rf: lengths of rounds, plain -/
namespace Rf
open PySem
/-- all rising lengths, each at least so much, that come to a number -/
def prt : Nat → Nat → Nat → List (List Nat)
  | 0, _, _ => []
  | f + 1, n, m => (if n = 0 then [[]] else []) ++ (List.range (n + 1 - m)).flatMap fun i => (prt f (n - (m + i)) (m + i)).map ((m + i) :: ·)
theorem prt_mem : ∀ {f n m : Nat} {L : List Nat}, n < f → 1 ≤ m → L.Pairwise (· ≤ ·) → (∀ x ∈ L, m ≤ x) → L.sum = n → L ∈ prt f n m
  | 0, _, _, _, h, _, _, _, _ => absurd h (Nat.not_lt_zero _)
  | f + 1, n, m, [], _, _, _, _, hs => by simp at hs; subst hs; simp [prt]
  | f + 1, n, m, x :: L, hf, hm, hp, hl, hs => by
    have hx := hl x (by simp)
    rw [List.sum_cons] at hs
    obtain ⟨h1, h2⟩ := List.pairwise_cons.mp hp
    unfold prt
    refine List.mem_append_right _ (List.mem_flatMap.mpr ⟨x - m, by rw [List.mem_range]; omega, ?_⟩)
    have e : m + (x - m) = x := by omega
    rw [e]
    exact List.mem_map.mpr ⟨L, prt_mem (by omega) (by omega) h2 h1 (by omega), rfl⟩
/-- the told exchange -/
def ofN : Nat → List Nat → List (Nat × Nat)
  | _, [] => []
  | f, n :: r => ((List.range n).map fun k => (f + k, f + (k + 1) % n)) ++ ofN (f + n) r
def ofL (L : List Nat) : Prs := (ofN 0 L).map fun p => ((p.1 : Int), (p.2 : Int))
def facI (n : Nat) : Int := (List.range n).foldl (fun (a : Int) (k : Nat) => a * ((k : Int) + 1)) 1
def belI (L : List Nat) : Int := (List.range L.length).foldl (fun (b : Int) (k : Nat) => b * (L.getD k 0 : Nat) * (1 + ((L.take k).count (L.getD k 0) : Nat))) 1
def manyI (L : List Nat) : Int := facI L.sum / belI L
def waysI (left : Int) (n : Nat) : Int := (List.range (n - 1)).foldl (fun (w : Int) (i : Nat) => w * (left - (1 + (i : Int)))) 1
def lawM : Nat → List Nat → Int
  | 0, _ => 1
  | f + 1, L => if L.length = 0 then 1 else (List.range L.length).foldl (fun (acc : Int) (k : Nat) => if L.getD k 0 ∈ L.take k then acc else acc + waysI (L.sum : Nat) (L.getD k 0) * lawM f (L.take k ++ L.drop (k + 1))) 0
def iL (L : List Nat) : List Int := L.map fun n : Nat => (n : Int)
def xchB (e : Prs) : Bool := decide ((e.map Prod.fst).Pairwise (· < ·)) && decide (e.map Prod.snd).Nodup && (e.all fun p => decide ((0 ≤ p.1 ∧ p.1 ≤ 99) ∧ 0 ≤ p.2 ∧ p.2 ≤ 99)) && decide (e.length ≤ 100)
theorem xchB_ok {e : Prs} (h : xchB e = true) : Xch e := by
  simp only [xchB, Bool.and_eq_true, decide_eq_true_eq, List.all_eq_true] at h
  exact ⟨h.1.1.1, h.1.1.2, h.1.2, h.2⟩
theorem sort_isA (l : List Int) : l.mergeSort leI = isA leI [] l := isA_sort leI_as leI_tr leI_tt l
def lenA (e : Prs) : List Int := isA leI [] ((rnds e).map fun r => (r.length : Int))
def okL (L : List Nat) : Bool := xchB (ofL L) && decide ((ofL L).map Prod.fst = isA leI [] ((ofL L).map Prod.snd)) && decide (lenA (ofL L) = iL L) && decide (manyI L = lawM 13 L) && decide (0 < belI L) && decide (belI L < 1000000000000) && decide (manyI L < 1000000000) && decide (0 ≤ manyI L) && decide (L.length ≤ 12) && (L.all fun x => decide (1 ≤ x) && decide (x ≤ 12))
theorem okL_all : ∀ n ∈ List.range 13, ∀ L ∈ prt 13 n 1, okL L = true := by decide +kernel
end Rf

namespace Lw
open PySem L2 Rf
def topS (i : Nat) : Stmt := PySem.Challenge.pw_kindmakes_k07_exchanges_of_lengths.main.body.getD i (.Pass ⟨0, 0, 0, 0⟩)
def G : Cfg := { N := [], fns := [(("names_over" : Str), (1 : Nat)), (("names_onto" : Str), (1 : Nat)), (("all_exchanges" : Str), (1 : Nat)), (("rounds_of" : Str), (1 : Nat)), (("lengths_of" : Str), (1 : Nat)), (("of_lengths" : Str), (1 : Nat)), (("many_of" : Str), (1 : Nat)), (("_law_tape" : Str), (1 : Nat)), (("_law_draw" : Str), (2 : Nat)), (("_law_lengths" : Str), (2 : Nat)), (("_law_exchange" : Str), (1 : Nat)), (("_law_many" : Str), (1 : Nat)), (("_law_all" : Str), (2 : Nat)), (("_law_right" : Str), (1 : Nat)), (("_law_all_right" : Str), (1 : Nat)), (("law" : Str), (1 : Nat))], bl := ["len", "tuple", "list", "sorted", "sum", "min", "repr", "dict", "range", "zip"], cs := [], dc := [] }
/-- names_over -/
def b0 : Sts :=
    (.cons (.ret (.bif .tuple (.cons (.lc .seq (.cons (.var 0) .nil) (.tp [1, 2]) [1, 2] (.cst (.bl true)) (.var 1)) .nil)))
    .nil)
def r0 : Row := ⟨"names_over", topS 4, ["e", "u", "v"], ["e"], ⟨1, 3, b0⟩⟩
/-- names_onto -/
def b1 : Sts :=
    (.cons (.ret (.bif .tuple (.cons (.bif .sorted (.cons (.lc .seq (.cons (.var 0) .nil) (.tp [1, 2]) [1, 2] (.cst (.bl true)) (.var 2)) .nil)) .nil)))
    .nil)
def r1 : Row := ⟨"names_onto", topS 5, ["e", "u", "v"], ["e"], ⟨1, 3, b1⟩⟩
/-- all_exchanges -/
def b2 : Sts :=
    (.cons (.asg (.nm 1) (.lis (.cons (.tup .nil) .nil)))
    (.cons (.forr .rng (.cons (.bif .len (.cons (.var 0) .nil)) .nil) (.nm 2) (.cons (.asg (.nm 3) (.lis .nil))
    (.cons (.forr .seq (.cons (.var 1) .nil) (.nm 4) (.cons (.exp (.mth .extend (.var 3) (.cons (.lc .seq (.cons (.var 0) .nil) (.nm 5) [5] (.cmp .NotIn (.var 5) (.var 4)) (.bin .Add (.var 4) (.tup (.cons (.var 5) .nil)))) .nil)))
    .nil))
    (.cons (.asg (.nm 1) (.var 3))
    .nil))))
    (.cons (.ret (.lc .seq (.cons (.var 1) .nil) (.nm 4) [4] (.cst (.bl true)) (.tzip (.cons (.var 0) (.cons (.var 4) .nil)))))
    .nil)))
def r2 : Row := ⟨"all_exchanges", topS 6, ["names", "rows", "k", "longer", "row", "v"], ["names"], ⟨1, 6, b2⟩⟩
/-- rounds_of -/
def b3 : Sts :=
    (.cons (.ife (.cmp .NotEq (.call 0 (.cons (.var 0) .nil)) (.call 1 (.cons (.var 0) .nil))) (.cons .bad
    .nil) .nil)
    (.cons (.asg (.nm 1) (.bif .dict (.cons (.var 0) .nil)))
    (.cons (.asg (.nm 2) (.dsp [] .nil))
    (.cons (.asg (.nm 3) (.lis .nil))
    (.cons (.forr .seq (.cons (.call 0 (.cons (.var 0) .nil)) .nil) (.nm 4) (.cons (.ife (.cmp .NotIn (.var 4) (.var 2)) (.cons (.asg (.nm 5) (.lis (.cons (.var 4) .nil)))
    (.cons (.whl (.cmp .NotEq (.idx (.var 1) (.idx (.var 5) (.neg (.cst (.int 1))))) (.var 4)) (.cons (.exp (.mth .append (.var 5) (.cons (.idx (.var 1) (.idx (.var 5) (.neg (.cst (.int 1))))) .nil)))
    .nil))
    (.cons (.forr .seq (.cons (.var 5) .nil) (.nm 6) (.cons (.six (.var 2) (.var 6) (.cst (.bl true)))
    .nil))
    (.cons (.exp (.mth .append (.var 3) (.cons (.bif .tuple (.cons (.var 5) .nil)) .nil)))
    .nil)))) .nil)
    .nil))
    (.cons (.ret (.bif .tuple (.cons (.var 3) .nil)))
    .nil))))))
def r3 : Row := ⟨"rounds_of", topS 7, ["e", "leads", "met", "found", "u", "row", "name"], ["e"], ⟨1, 7, b3⟩⟩
/-- lengths_of -/
def b4 : Sts :=
    (.cons (.ret (.bif .tuple (.cons (.bif .sorted (.cons (.lc .seq (.cons (.call 3 (.cons (.var 0) .nil)) .nil) (.nm 1) [1] (.cst (.bl true)) (.bif .len (.cons (.var 1) .nil))) .nil)) .nil)))
    .nil)
def r4 : Row := ⟨"lengths_of", topS 8, ["e", "row"], ["e"], ⟨1, 2, b4⟩⟩
/-- of_lengths -/
def b5 : Sts :=
    (.cons (.asg (.nm 1) (.lis .nil))
    (.cons (.forr .seq (.cons (.var 0) .nil) (.nm 2) (.cons (.asg (.nm 3) (.bif .len (.cons (.var 1) .nil)))
    (.cons (.exp (.mth .extend (.var 1) (.cons (.lc .rng (.cons (.var 2) .nil) (.nm 4) [4] (.cst (.bl true)) (.tup (.cons (.bin .Add (.var 3) (.var 4)) (.cons (.bin .Add (.var 3) (.bin .Mod (.bin .Add (.var 4) (.cst (.int 1))) (.var 2))) .nil)))) .nil)))
    .nil)))
    (.cons (.ret (.bif .tuple (.cons (.var 1) .nil)))
    .nil)))
def r5 : Row := ⟨"of_lengths", topS 9, ["lengths", "found", "length", "first", "k"], ["lengths"], ⟨1, 5, b5⟩⟩
/-- many_of -/
def b6 : Sts :=
    (.cons (.asg (.nm 1) (.cst (.int 1)))
    (.cons (.forr .rng (.cons (.bif .sum (.cons (.var 0) .nil)) .nil) (.nm 2) (.cons (.asg (.nm 1) (.bin .Mult (.var 1) (.bin .Add (.var 2) (.cst (.int 1)))))
    .nil))
    (.cons (.asg (.nm 3) (.cst (.int 1)))
    (.cons (.forr .rng (.cons (.bif .len (.cons (.var 0) .nil)) .nil) (.nm 2) (.cons (.asg (.nm 3) (.bin .Mult (.bin .Mult (.var 3) (.idx (.var 0) (.var 2))) (.bin .Add (.cst (.int 1)) (.mth .count (.slc (.var 0) .nop (.var 2)) (.cons (.idx (.var 0) (.var 2)) .nil)))))
    .nil))
    (.cons (.ret (.bin .FloorDiv (.var 1) (.var 3)))
    .nil)))))
def r6 : Row := ⟨"many_of", topS 10, ["lengths", "above", "k", "below"], ["lengths"], ⟨1, 4, b6⟩⟩
/-- _law_tape -/
def b7 : Sts :=
    (.cons (.ret (.dsp [(Sum.inr (Str.ofString "cells")), (Sum.inr (Str.ofString "at")), (Sum.inr (Str.ofString "left")), (Sum.inr (Str.ofString "turn"))] (.cons (.bif .list (.cons (.slc (.var 0) .nop (.cst (.int 63))) .nil)) (.cons (.cst (.int 0)) (.cons (.cst (.int 0)) (.cons (.cst (.int 0)) .nil))))))
    .nil)
def r7 : Row := ⟨"_law_tape", topS 12, ["_law_script"], ["_law_script"], ⟨1, 1, b7⟩⟩
/-- _law_draw -/
def b8 : Sts :=
    (.cons (.asg (.nm 2) (.bin .Add (.idx (.var 0) (.cst (.str (Str.ofString "turn")))) (.cst (.int 1))))
    (.cons (.six (.var 0) (.cst (.str (Str.ofString "turn"))) (.var 2))
    (.cons (.ife (.cmp .Gt (.idx (.var 0) (.cst (.str (Str.ofString "left")))) (.cst (.int 0))) (.cons (.asg (.nm 3) (.bin .Mod (.idx (.var 0) (.cst (.str (Str.ofString "left")))) (.var 1)))
    (.cons (.six (.var 0) (.cst (.str (Str.ofString "left"))) (.bin .FloorDiv (.idx (.var 0) (.cst (.str (Str.ofString "left")))) (.var 1)))
    (.cons (.ret (.var 3))
    .nil))) .nil)
    (.cons (.asg (.nm 4) (.idx (.var 0) (.cst (.str (Str.ofString "cells")))))
    (.cons (.asg (.nm 5) (.ite (.cmp .NotEq (.var 4) (.lis .nil)) (.idx (.var 4) (.bin .Mod (.idx (.var 0) (.cst (.str (Str.ofString "at")))) (.bif .len (.cons (.var 4) .nil)))) (.cst (.int 0))))
    (.cons (.six (.var 0) (.cst (.str (Str.ofString "at"))) (.bin .Add (.idx (.var 0) (.cst (.str (Str.ofString "at")))) (.cst (.int 1))))
    (.cons (.ife (.and (.cmp .GtE (.var 5) (.bin .Pow (.cst (.int 10)) (.cst (.int 18)))) (.cmp .LtE (.idx (.var 0) (.cst (.str (Str.ofString "at")))) (.bif .len (.cons (.var 4) .nil)))) (.cons (.six (.var 0) (.cst (.str (Str.ofString "left"))) (.bin .FloorDiv (.var 5) (.var 1)))
    (.cons (.ret (.bin .Mod (.var 5) (.var 1)))
    .nil)) .nil)
    (.cons (.asg (.nm 6) (.bin .Mod (.bin .Pow (.bin .Add (.bin .Mod (.var 5) (.cst (.int 2147483647))) (.bin .Mult (.cst (.int 7919)) (.var 2))) (.cst (.int 5))) (.cst (.int 2147483647))))
    (.cons (.asg (.nm 6) (.bin .Mod (.bin .Pow (.bin .Add (.bin .Mult (.var 6) (.bin .Add (.bin .Mult (.cst (.int 2)) (.var 2)) (.cst (.int 1)))) (.var 2)) (.cst (.int 3))) (.cst (.int 2147483629))))
    (.cons (.ret (.bin .Mod (.bin .FloorDiv (.var 6) (.cst (.int 64))) (.var 1)))
    .nil))))))))))
def r8 : Row := ⟨"_law_draw", topS 13, ["_law_tape_here", "_law_many_here", "_law_turn", "_law_digit", "_law_cells", "_law_cell", "_law_mixed"], ["_law_tape_here", "_law_many_here"], ⟨2, 7, b8⟩⟩
/-- _law_lengths -/
def b9 : Sts :=
    (.cons (.asg (.nm 2) (.lis .nil))
    (.cons (.asg (.nm 3) (.bin .Add (.cst (.int 1)) (.call 8 (.cons (.var 0) (.cons (.cst (.int 12)) .nil)))))
    (.cons (.whl (.cmp .Gt (.var 1) (.cst (.int 0))) (.cons (.asg (.nm 4) (.bin .Add (.cst (.int 1)) (.call 8 (.cons (.var 0) (.cons (.bif .min (.cons (.var 1) (.cons (.var 3) .nil))) .nil)))))
    (.cons (.exp (.mth .append (.var 2) (.cons (.var 4) .nil)))
    (.cons (.asg (.nm 1) (.bin .Sub (.var 1) (.var 4)))
    .nil))))
    (.cons (.ret (.bif .tuple (.cons (.bif .sorted (.cons (.var 2) .nil)) .nil)))
    .nil))))
def r9 : Row := ⟨"_law_lengths", topS 14, ["_law_tape_here", "_law_many_here", "_law_found", "_law_most", "_law_length"], ["_law_tape_here", "_law_many_here"], ⟨2, 5, b9⟩⟩
/-- _law_exchange -/
def b10 : Sts :=
    (.cons (.asg (.nm 1) (.lis .nil))
    (.cons (.forr .rng (.cons (.bif .len (.cons (.var 0) .nil)) .nil) (.nm 2) (.cons (.asg (.nm 3) (.bif .sum (.cons (.slc (.var 0) .nop (.var 2)) .nil)))
    (.cons (.asg (.nm 4) (.bin .Sub (.bin .Add (.var 3) (.idx (.var 0) (.var 2))) (.cst (.int 1))))
    (.cons (.exp (.mth .extend (.var 1) (.cons (.lc .rng (.cons (.var 3) (.cons (.bin .Add (.var 4) (.cst (.int 1))) .nil)) (.nm 5) [5] (.cst (.bl true)) (.tup (.cons (.var 5) (.cons (.ite (.cmp .Lt (.var 5) (.var 4)) (.bin .Add (.var 5) (.cst (.int 1))) (.var 3)) .nil)))) .nil)))
    .nil))))
    (.cons (.ret (.bif .tuple (.cons (.var 1) .nil)))
    .nil)))
def r10 : Row := ⟨"_law_exchange", topS 15, ["_law_lengths_here", "_law_found", "_law_k", "_law_first", "_law_last", "_law_u"], ["_law_lengths_here"], ⟨1, 6, b10⟩⟩
/-- _law_many -/
def b11 : Sts :=
    (.cons (.ife (.cmp .Eq (.bif .len (.cons (.var 0) .nil)) (.cst (.int 0))) (.cons (.ret (.cst (.int 1)))
    .nil) .nil)
    (.cons (.asg (.nm 1) (.bif .sum (.cons (.var 0) .nil)))
    (.cons (.asg (.nm 2) (.cst (.int 0)))
    (.cons (.forr .rng (.cons (.bif .len (.cons (.var 0) .nil)) .nil) (.nm 3) (.cons (.ife (.cmp .NotIn (.idx (.var 0) (.var 3)) (.slc (.var 0) .nop (.var 3))) (.cons (.asg (.nm 4) (.cst (.int 1)))
    (.cons (.forr .rng (.cons (.cst (.int 1)) (.cons (.idx (.var 0) (.var 3)) .nil)) (.nm 5) (.cons (.asg (.nm 4) (.bin .Mult (.var 4) (.bin .Sub (.var 1) (.var 5))))
    .nil))
    (.cons (.asg (.nm 2) (.bin .Add (.var 2) (.bin .Mult (.var 4) (.call 11 (.cons (.bin .Add (.slc (.var 0) .nop (.var 3)) (.slc (.var 0) (.bin .Add (.var 3) (.cst (.int 1))) .nop)) .nil)))))
    .nil))) .nil)
    .nil))
    (.cons (.ret (.var 2))
    .nil)))))
def r11 : Row := ⟨"_law_many", topS 16, ["_law_lengths_here", "_law_left", "_law_found", "_law_k", "_law_ways", "_law_place"], ["_law_lengths_here"], ⟨1, 6, b11⟩⟩
/-- _law_all -/
def b12 : Sts :=
    (.cons (.asg (.nm 2) (.ite (.cmp .Eq (.var 0) (.cst (.int 0))) (.lis (.cons (.tup .nil) .nil)) (.lis .nil)))
    (.cons (.forr .rng (.cons (.var 1) (.cons (.bin .Add (.var 0) (.cst (.int 1))) .nil)) (.nm 3) (.cons (.exp (.mth .extend (.var 2) (.cons (.lc .seq (.cons (.call 12 (.cons (.bin .Sub (.var 0) (.var 3)) (.cons (.var 3) .nil))) .nil) (.nm 4) [4] (.cst (.bl true)) (.bin .Add (.tup (.cons (.var 3) .nil)) (.var 4))) .nil)))
    .nil))
    (.cons (.ret (.var 2))
    .nil)))
def r12 : Row := ⟨"_law_all", topS 17, ["_law_many_here", "_law_least", "_law_found", "_law_length", "_law_row"], ["_law_many_here", "_law_least"], ⟨2, 5, b12⟩⟩
/-- _law_right -/
def b13 : Sts :=
    (.cons (.asg (.nm 1) (.call 5 (.cons (.var 0) .nil)))
    (.cons (.ife (.cmp .NotEq (.bif .repr (.cons (.lis (.cons (.var 1) (.cons (.call 4 (.cons (.var 1) .nil)) .nil))) .nil)) (.bif .repr (.cons (.lis (.cons (.call 10 (.cons (.var 0) .nil)) (.cons (.var 0) .nil))) .nil))) (.cons (.ret (.cst (.bl false)))
    .nil) .nil)
    (.cons (.asg (.nm 2) (.call 6 (.cons (.var 0) .nil)))
    (.cons (.ret (.cmp .Eq (.bif .repr (.cons (.lis (.cons (.var 2) (.cons (.call 6 (.cons (.var 0) .nil)) .nil))) .nil)) (.bif .repr (.cons (.bin .Mult (.lis (.cons (.call 11 (.cons (.var 0) .nil)) .nil)) (.cst (.int 2))) .nil))))
    .nil))))
def r13 : Row := ⟨"_law_right", topS 18, ["_law_lengths_here", "_law_made", "_law_told"], ["_law_lengths_here"], ⟨1, 3, b13⟩⟩
/-- _law_all_right -/
def b14 : Sts :=
    (.cons (.asg (.nm 1) (.call 12 (.cons (.var 0) (.cons (.cst (.int 1)) .nil))))
    (.cons (.asg (.nm 2) (.cst (.int 1)))
    (.cons (.forr .rng (.cons (.var 0) .nil) (.nm 3) (.cons (.asg (.nm 2) (.bin .Mult (.var 2) (.bin .Add (.var 3) (.cst (.int 1)))))
    .nil))
    (.cons (.ife (.cmp .NotEq (.bif .sum (.cons (.lc .seq (.cons (.var 1) .nil) (.nm 5) [5] (.cst (.bl true)) (.call 6 (.cons (.var 5) .nil))) .nil)) (.var 2)) (.cons (.ret (.cst (.bl false)))
    .nil) .nil)
    (.cons (.ife (.cmp .Gt (.var 0) (.cst (.int 4))) (.cons (.ret (.cst (.bl true)))
    .nil) .nil)
    (.cons (.asg (.nm 4) (.lc .seq (.cons (.call 2 (.cons (.rngl true (.cons (.var 0) .nil)) .nil)) .nil) (.nm 6) [6] (.cst (.bl true)) (.call 4 (.cons (.var 6) .nil))))
    (.cons (.ret (.cmp .Eq (.lc .seq (.cons (.var 1) .nil) (.nm 5) [5] (.cmp .NotEq (.mth .count (.var 4) (.cons (.var 5) .nil)) (.call 6 (.cons (.var 5) .nil))) (.var 5)) (.lis .nil)))
    .nil)))))))
def r14 : Row := ⟨"_law_all_right", topS 19, ["_law_many_here", "_law_rows", "_law_factorial", "_law_k", "_law_told", "_law_row", "_law_e"], ["_law_many_here"], ⟨1, 7, b14⟩⟩
/-- law -/
def b15 : Sts :=
    (.cons (.asg (.nm 1) (.call 7 (.cons (.var 0) .nil)))
    (.cons (.forr .rng (.cons (.cst (.int 3)) .nil) (.nm 2) (.cons (.ife (.not (.call 13 (.cons (.call 9 (.cons (.var 1) (.cons (.call 8 (.cons (.var 1) (.cons (.cst (.int 13)) .nil))) .nil))) .nil))) (.cons (.ret (.cst (.bl false)))
    .nil) .nil)
    .nil))
    (.cons (.asg (.nm 3) (.lis (.cons (.tup .nil) (.cons (.tup (.cons (.cst (.int 1)) .nil)) (.cons (.tup (.cons (.cst (.int 12)) .nil)) (.cons (.tup (.cons (.cst (.int 6)) (.cons (.cst (.int 6)) .nil))) (.cons (.tup (.cons (.cst (.int 4)) (.cons (.cst (.int 4)) (.cons (.cst (.int 4)) .nil)))) (.cons (.tup (.cons (.cst (.int 3)) (.cons (.cst (.int 3)) (.cons (.cst (.int 3)) (.cons (.cst (.int 3)) .nil))))) (.cons (.bin .Mult (.tup (.cons (.cst (.int 2)) .nil)) (.cst (.int 6))) (.cons (.tup (.cons (.cst (.int 1)) (.cons (.cst (.int 1)) (.cons (.cst (.int 2)) (.cons (.cst (.int 3)) (.cons (.cst (.int 5)) .nil)))))) .nil))))))))))
    (.cons (.ife (.or (.not (.call 13 (.cons (.idx (.var 3) (.call 8 (.cons (.var 1) (.cons (.cst (.int 8)) .nil)))) .nil))) (.not (.call 13 (.cons (.bin .Mult (.tup (.cons (.cst (.int 1)) .nil)) (.call 8 (.cons (.var 1) (.cons (.cst (.int 13)) .nil)))) .nil)))) (.cons (.ret (.cst (.bl false)))
    .nil) .nil)
    (.cons (.ret (.and (.call 14 (.cons (.call 8 (.cons (.var 1) (.cons (.cst (.int 7)) .nil))) .nil)) (.cmp .Eq (.bif .repr (.cons (.lis (.cons (.call 5 (.cons (.tup .nil) .nil)) (.cons (.call 6 (.cons (.tup .nil) .nil)) .nil))) .nil)) (.cst (.str (Str.ofString "[(), 1]"))))))
    .nil)))))
def r15 : Row := ⟨"law", topS 20, ["_law_script", "_law_tape_here", "_law_turn", "_law_some"], ["_law_script"], ⟨1, 4, b15⟩⟩
def rows : List Row := [r0, r1, r2, r3, r4, r5, r6, r7, r8, r9, r10, r11, r12, r13, r14, r15]
theorem ok0 : r0.Ok G := ⟨⟨rfl, rfl, rfl, by decide +kernel, rfl, by decide +kernel, by decide +kernel⟩, by rfl, rfl, rfl⟩
theorem ok1 : r1.Ok G := ⟨⟨rfl, rfl, rfl, by decide +kernel, rfl, by decide +kernel, by decide +kernel⟩, by rfl, rfl, rfl⟩
theorem ok2 : r2.Ok G := ⟨⟨rfl, rfl, rfl, by decide +kernel, rfl, by decide +kernel, by decide +kernel⟩, by rfl, rfl, rfl⟩
theorem ok3 : r3.Ok G := ⟨⟨rfl, rfl, rfl, by decide +kernel, rfl, by decide +kernel, by decide +kernel⟩, by rfl, rfl, rfl⟩
theorem ok4 : r4.Ok G := ⟨⟨rfl, rfl, rfl, by decide +kernel, rfl, by decide +kernel, by decide +kernel⟩, by rfl, rfl, rfl⟩
theorem ok5 : r5.Ok G := ⟨⟨rfl, rfl, rfl, by decide +kernel, rfl, by decide +kernel, by decide +kernel⟩, by rfl, rfl, rfl⟩
theorem ok6 : r6.Ok G := ⟨⟨rfl, rfl, rfl, by decide +kernel, rfl, by decide +kernel, by decide +kernel⟩, by rfl, rfl, rfl⟩
theorem ok7 : r7.Ok G := ⟨⟨rfl, rfl, rfl, by decide +kernel, rfl, by decide +kernel, by decide +kernel⟩, by rfl, rfl, rfl⟩
theorem ok8 : r8.Ok G := ⟨⟨rfl, rfl, rfl, by decide +kernel, rfl, by decide +kernel, by decide +kernel⟩, by rfl, rfl, rfl⟩
theorem ok9 : r9.Ok G := ⟨⟨rfl, rfl, rfl, by decide +kernel, rfl, by decide +kernel, by decide +kernel⟩, by rfl, rfl, rfl⟩
theorem ok10 : r10.Ok G := ⟨⟨rfl, rfl, rfl, by decide +kernel, rfl, by decide +kernel, by decide +kernel⟩, by rfl, rfl, rfl⟩
theorem ok11 : r11.Ok G := ⟨⟨rfl, rfl, rfl, by decide +kernel, rfl, by decide +kernel, by decide +kernel⟩, by rfl, rfl, rfl⟩
theorem ok12 : r12.Ok G := ⟨⟨rfl, rfl, rfl, by decide +kernel, rfl, by decide +kernel, by decide +kernel⟩, by rfl, rfl, rfl⟩
theorem ok13 : r13.Ok G := ⟨⟨rfl, rfl, rfl, by decide +kernel, rfl, by decide +kernel, by decide +kernel⟩, by rfl, rfl, rfl⟩
theorem ok14 : r14.Ok G := ⟨⟨rfl, rfl, rfl, by decide +kernel, rfl, by decide +kernel, by decide +kernel⟩, by rfl, rfl, rfl⟩
theorem ok15 : r15.Ok G := ⟨⟨rfl, rfl, rfl, by decide +kernel, rfl, by decide +kernel, by decide +kernel⟩, by rfl, rfl, rfl⟩
theorem oks : ∀ r ∈ rows, r.Ok G := all_cons ok0 (all_cons ok1 (all_cons ok2 (all_cons ok3 (all_cons ok4 (all_cons ok5 (all_cons ok6 (all_cons ok7 (all_cons ok8 (all_cons ok9 (all_cons ok10 (all_cons ok11 (all_cons ok12 (all_cons ok13 (all_cons ok14 (all_cons ok15 (all_nil))))))))))))))))
abbrev fns : List Fn := rows.map (·.fn)
end Lw

namespace Lw
open PySem Rf
/-- names_over -/
theorem e0 {F k : Nat} {S : Store} {Q : Kx} {d0 : D} : WpE (run fns F (k + 1) 0 [d0] S) Q = Wp (evSs (run fns F k) F b0 [some d0, none, none] S) (finQ S Q) := x_run (fn := ⟨1, 3, b0⟩) rfl rfl rfl
/-- names_onto -/
theorem e1 {F k : Nat} {S : Store} {Q : Kx} {d0 : D} : WpE (run fns F (k + 1) 1 [d0] S) Q = Wp (evSs (run fns F k) F b1 [some d0, none, none] S) (finQ S Q) := x_run (fn := ⟨1, 3, b1⟩) rfl rfl rfl
/-- all_exchanges -/
theorem e2 {F k : Nat} {S : Store} {Q : Kx} {d0 : D} : WpE (run fns F (k + 1) 2 [d0] S) Q = Wp (evSs (run fns F k) F b2 [some d0, none, none, none, none, none] S) (finQ S Q) := x_run (fn := ⟨1, 6, b2⟩) rfl rfl rfl
/-- rounds_of -/
theorem e3 {F k : Nat} {S : Store} {Q : Kx} {d0 : D} : WpE (run fns F (k + 1) 3 [d0] S) Q = Wp (evSs (run fns F k) F b3 [some d0, none, none, none, none, none, none] S) (finQ S Q) := x_run (fn := ⟨1, 7, b3⟩) rfl rfl rfl
/-- lengths_of -/
theorem e4 {F k : Nat} {S : Store} {Q : Kx} {d0 : D} : WpE (run fns F (k + 1) 4 [d0] S) Q = Wp (evSs (run fns F k) F b4 [some d0, none] S) (finQ S Q) := x_run (fn := ⟨1, 2, b4⟩) rfl rfl rfl
/-- of_lengths -/
theorem e5 {F k : Nat} {S : Store} {Q : Kx} {d0 : D} : WpE (run fns F (k + 1) 5 [d0] S) Q = Wp (evSs (run fns F k) F b5 [some d0, none, none, none, none] S) (finQ S Q) := x_run (fn := ⟨1, 5, b5⟩) rfl rfl rfl
/-- many_of -/
theorem e6 {F k : Nat} {S : Store} {Q : Kx} {d0 : D} : WpE (run fns F (k + 1) 6 [d0] S) Q = Wp (evSs (run fns F k) F b6 [some d0, none, none, none] S) (finQ S Q) := x_run (fn := ⟨1, 4, b6⟩) rfl rfl rfl
/-- _law_tape -/
theorem e7 {F k : Nat} {S : Store} {Q : Kx} {d0 : D} : WpE (run fns F (k + 1) 7 [d0] S) Q = Wp (evSs (run fns F k) F b7 [some d0] S) (finQ S Q) := x_run (fn := ⟨1, 1, b7⟩) rfl rfl rfl
/-- _law_draw -/
theorem e8 {F k : Nat} {S : Store} {Q : Kx} {d0 d1 : D} : WpE (run fns F (k + 1) 8 [d0, d1] S) Q = Wp (evSs (run fns F k) F b8 [some d0, some d1, none, none, none, none, none] S) (finQ S Q) := x_run (fn := ⟨2, 7, b8⟩) rfl rfl rfl
/-- _law_lengths -/
theorem e9 {F k : Nat} {S : Store} {Q : Kx} {d0 d1 : D} : WpE (run fns F (k + 1) 9 [d0, d1] S) Q = Wp (evSs (run fns F k) F b9 [some d0, some d1, none, none, none] S) (finQ S Q) := x_run (fn := ⟨2, 5, b9⟩) rfl rfl rfl
/-- _law_exchange -/
theorem e10 {F k : Nat} {S : Store} {Q : Kx} {d0 : D} : WpE (run fns F (k + 1) 10 [d0] S) Q = Wp (evSs (run fns F k) F b10 [some d0, none, none, none, none, none] S) (finQ S Q) := x_run (fn := ⟨1, 6, b10⟩) rfl rfl rfl
/-- _law_many -/
theorem e11 {F k : Nat} {S : Store} {Q : Kx} {d0 : D} : WpE (run fns F (k + 1) 11 [d0] S) Q = Wp (evSs (run fns F k) F b11 [some d0, none, none, none, none, none] S) (finQ S Q) := x_run (fn := ⟨1, 6, b11⟩) rfl rfl rfl
/-- _law_all -/
theorem e12 {F k : Nat} {S : Store} {Q : Kx} {d0 d1 : D} : WpE (run fns F (k + 1) 12 [d0, d1] S) Q = Wp (evSs (run fns F k) F b12 [some d0, some d1, none, none, none] S) (finQ S Q) := x_run (fn := ⟨2, 5, b12⟩) rfl rfl rfl
/-- _law_right -/
theorem e13 {F k : Nat} {S : Store} {Q : Kx} {d0 : D} : WpE (run fns F (k + 1) 13 [d0] S) Q = Wp (evSs (run fns F k) F b13 [some d0, none, none] S) (finQ S Q) := x_run (fn := ⟨1, 3, b13⟩) rfl rfl rfl
/-- _law_all_right -/
theorem e14 {F k : Nat} {S : Store} {Q : Kx} {d0 : D} : WpE (run fns F (k + 1) 14 [d0] S) Q = Wp (evSs (run fns F k) F b14 [some d0, none, none, none, none, none, none] S) (finQ S Q) := x_run (fn := ⟨1, 7, b14⟩) rfl rfl rfl
/-- law -/
theorem e15 {F k : Nat} {S : Store} {Q : Kx} {d0 : D} : WpE (run fns F (k + 1) 15 [d0] S) Q = Wp (evSs (run fns F k) F b15 [some d0, none, none, none] S) (finQ S Q) := x_run (fn := ⟨1, 4, b15⟩) rfl rfl rfl
end Lw

local macro_rules | `(tactic| exists $ts,*) => `(tactic| simp (disch := first | omega | assumption | (simp only [Rf.watch_cons, Rf.watch_n, Rf.cell_eq, Rf.cellO_l, Rf.g_at, Rf.g_at0, Rf.t_at, Rf.t_at0, Rf.t_lit, decide_true, Rf.u_non, Rf.u_bl, Rf.u_int, Rf.u_str, Rf.u_tup, Rf.u_lst, Rf.us_nil, Rf.us_cons, Rf.us_app, Rf.us_ints, Bool.and_true, Bool.and_self, List.getElem?_cons_zero, List.getElem?_cons_succ, List.length_map, List.length_append, List.length_cons, List.length_nil, List.length_reverse, Rf.isS_eq, Rf.isE_eq, Rf.x_tzip, Rf.ktz_mk, $[$ts:term],*]; first | done | omega) | decide +kernel) only [Rf.x_var, Rf.x_cst, Rf.x_bin, Rf.x_neg, Rf.x_cmp, Rf.x_chn, Rf.x_and, Rf.x_or, Rf.x_not, Rf.x_ite, Rf.x_tup, Rf.x_lis, Rf.x_call, Rf.x_bif, Rf.x_rngl, Rf.x_ext, Rf.x_mapd, Rf.x_mpop, Rf.x_mins, Rf.x_mrev, Rf.x_mclr, Rf.x_mcnt, Rf.x_isi, Rf.x_idx, Rf.x_slc, Rf.x_nop, Rf.x_ptv, Rf.x_ptc, Rf.x_ptb, Rf.x_ptn, Rf.x_ptf, Rf.x_rev, Rf.x_lc, Rf.x_dsp, Rf.x_rnil, Rf.x_rcons, Rf.x_mnil, Rf.x_mcons, Rf.x_nil, Rf.x_cons, Rf.x_asg, Rf.x_par, Rf.x_six, Rf.x_exp, Rf.x_ret, Rf.x_retn, Rf.x_ife, Rf.x_for, Rf.x_whl, Rf.x_pas, Rf.x_brk, Rf.x_cnt, Rf.p_some, Rf.p_someS, Rf.wO_some, Rf.wB_some, Rf.wC_t, Rf.wC_f, Rf.wC_y, Rf.wC_n, Rf.wC_no, Rf.kE_eq, Rf.kV_eq, Rf.kSs_eq, Rf.wI_some, Rf.wL_some, Rf.wT_some, Rf.wR_some, Rf.kMs_eq, Rf.kRs_eq, Rf.kbin2_eq, Rf.kbin1_eq, Rf.kneg_eq, Rf.kcmp2_eq, Rf.kcmp1_eq, Rf.kchn3_eq, Rf.kchnC_eq, Rf.kchn2_eq, Rf.kchn1_eq, Rf.kand_eq, Rf.kor_eq, Rf.knot_eq, Rf.kite_eq, Rf.ktup_eq, Rf.klis_eq, Rf.kcall_eq, Rf.kbif_eq, Rf.krng2_t, Rf.krng2_f, Rf.krng_eq, Rf.kmth3_eq, Rf.kmth_eq, Rf.kmthx_eq, Rf.kisi_eq, Rf.kidx2_eq, Rf.kidx1_eq, Rf.kslc3_eq, Rf.kslc2_eq, Rf.kslc1_eq, Rf.kpt_eq, Rf.krev_eq, Rf.krev_t, Rf.krev_r, Rf.klc2_eq, Rf.klc_eq, Rf.kR2_eq, Rf.kR1_eq, Rf.kM1_eq, Rf.kseq_nx, Rf.kseq_rt, Rf.kseq_bk, Rf.kseq_ct, Rf.kasg_nm, Rf.kasg_tp, Rf.kpar_eq, Rf.wS_some, Rf.ksix3_eq, Rf.ksix2_eq, Rf.ksix1_eq, Rf.kexp_eq, Rf.kret_eq, Rf.kif_eq, Rf.kfor2_eq, Rf.kfor_eq, Rf.finK_mk, Rf.finQ_rt, Rf.finQ_nx, Rf.isR_eq, Rf.m_non, Rf.m_bl, Rf.m_int, Rf.m_str, Rf.m_tup, Rf.m_ref, Rf.m_lst, Rf.at0, Rf.at1, Rf.at2, Rf.at3, Rf.at4, Rf.at5, Rf.i_tup, Rf.i_lst, Rf.cut1, Rf.sl_tup, Rf.sl_lst, Rf.q_tup, Rf.q_lst, Rf.q_ref, Rf.l_lst, Rf.l_ref, Rf.cell_eq, Rf.cellO_l, Rf.g_at, Rf.g_at0, Rf.g_set, Rf.g_set0, Rf.bi_lenT, Rf.bi_lenL, Rf.bi_tupL, Rf.bi_tupT, Rf.bi_lisT, Rf.bi_lisL, Rf.c_in, Rf.c_nin, Rf.c_inI, Rf.c_ninI, Rf.cm_gt, Rf.cm_ge, Rf.cm_lt, Rf.cm_le, Rf.cm_eq, Rf.cm_ne, Rf.cm_eqs, Rf.cm_nes, Rf.op_add, Rf.op_sub, Rf.op_mod, Rf.op_div, Rf.it_tup, Rf.lw_cons, Rf.lw_nil, Rf.klw_eq, Rf.zpO_mk, Rf.seqW_r, Rf.it_zipRR, Rf.fw_consT, Rf.fw_consL, Rf.fw_cons, Rf.fw_nil, Rf.kfw_rt, Rf.kfw_bk, Rf.kfw_ct, Rf.kfw_nx, Rf.dput_n, Rf.fndO_n, Rf.fndO_y, Rf.fnd_n, Rf.fnd_y, Rf.lk_n, Rf.lk_y, Rf.at_m1b, Rf.at_m1a, Rf.dspL_eq, Rf.dput_nil, Rf.sixR_mk, Rf.r_sixs, Rf.fndO_nil, Rf.ixS_mk, Rf.r_idxs, Rf.bi_max2, Rf.bi_min2, Rf.sA2, Rf.zipD_nil, Rf.zipD_cons, Rf.it_zipT, Rf.wU_mk, Rf.kunl_eq, Rf.x_unl, Rf.kdsp_mk, Rf.fnd_nil, Rf.wDq_mk, Rf.kdg3_s, Rf.kdg2_eq, Rf.wDg_mk, Rf.kdg1_r, Rf.x_dget, Rf.lk_nil, Rf.wDI_some, Rf.kdcix_s, Rf.x_dcix, Rf.kdcin_s, Rf.x_dcin, Rf.t_lit, Rf.t_lits, Rf.finO_mk, Rf.r_fin, Rf.r_fin0, Rf.rt_fin, Rf.rt_fin0, Rf.r_idx, Rf.ixR_l, Rf.ixR_d, Rf.r_len, Rf.lenR_mk, Rf.lenR_ro, Rf.lenR_d, Rf.x_maxd, Rf.kmaxd_lst, Rf.kmaxd_nil, Rf.r_tup, Rf.tupR_mk, Rf.r_lis, Rf.lisR_mk, Rf.r_slc, Rf.slR_mk, Rf.r_apd, Rf.apdR_mk, Rf.r_ext, Rf.extR_mk, Rf.r_ml, Rf.ml_lst, Rf.mlO_mk, Rf.r_rev, Rf.revR_mk, Rf.r_clr, Rf.clrR_mk, Rf.r_addRL, Rf.r_addRR, Rf.r_addLR, Rf.addR_mk, Rf.it_r, Rf.x_sset, Rf.ksset_lst, Rf.kw_eq, Rf.kwB_eq, Rf.kwN_eq, Rf.kwb_nx, Rf.kwb_ct, Rf.kwb_bk, Rf.kwb_rt, Rf.kfl_nx, Rf.kfl_ct, Rf.kfl_bk, Rf.kfl_rt, Rf.f_nil, Rf.f_cons, Rf.f_consT, Rf.f_consL, Rf.klcV_eq, Rf.kN_eq, Rf.klcB_eq, Rf.x_lcB, Rf.x_lcBT, Rf.x_lcBL, Rf.isO_eq, Rf.kl2_some, Rf.kl2_none, Rf.kl1_eq, Rf.l_nil, Rf.l_cons, Rf.o_addLL, Rf.o_addTT, Rf.it_r1, Rf.it_r2, Rf.it_r3, Rf.it_r4, Rf.it_r5, Rf.it_r6, Rf.c_isi1, Rf.c_isi2, Rf.c_isi3, Rf.ty_tup, Rf.ty_int, Rf.ty_str, Rf.ty_lst, Rf.ty_bl, Rf.ty_non, Rf.wipeS, Rf.op_mul, Rf.op_mul', Rf.t_len, Rf.t_app, Rf.t_at, Rf.t_at0, Rf.t_set, Rf.t_set0, Rf.t_fin, Rf.t_fin0, Rf.it_lst, Rf.slot0, Rf.slotS, Rf.ofS_inj, Rf.fin_x, Rf.fin_x0, Rf.u_non, Rf.u_bl, Rf.u_int, Rf.u_str, Rf.u_tup, Rf.u_lst, Rf.us_nil, Rf.us_cons, Rf.us_app, Rf.us_ints, Rf.D.str.injEq, Rf.D.int.injEq, Rf.setAll, decide_eq_true_eq, Bool.false_eq_true, if_true, if_false, Bool.not_true, Bool.not_false, decide_true, decide_false, decide_eq_false_iff_not, Option.map_some, Int.reduceNeg, Int.reduceDiv, Int.reduceMod, Int.reduceMul, Int.reduceSub, Int.reduceAdd, List.append_nil, List.map_nil, List.map_cons, List.foldl_nil, List.foldl_cons, List.zip_nil_left, List.zip_cons_cons, Option.isSome_some, Option.isSome_none, List.length_cons, List.length_nil, List.length_append, List.append_assoc, List.cons_append, List.nil_append, List.getElem?_cons_zero, List.getElem?_cons_succ, List.set_cons_zero, List.set_cons_succ, List.mem_cons, List.not_mem_nil, or_false, false_or, or_true, true_or, not_true_eq_false, not_false_eq_true, Bool.and_true, Bool.true_and, Bool.and_self, and_self, eq_self_iff_true, Nat.add_zero, Nat.zero_add, Rf.isS_eq, Rf.isE_eq, Rf.x_tzip, Rf.ktz_mk, $[$ts:term],*])
namespace Lw
open PySem Rf
theorem fl_ints (l : List Int) : fl (.tup (l.map D.int)) 64 = true := by simp only [fl]; exact fls_ints l _
theorem fl_prs (l : List (Int × Int)) : fl (.tup (l.map dP)) 64 = true := by
  simp only [fl]
  exact fls_iff.mpr fun d hd => by obtain ⟨p, _, rfl⟩ := List.mem_map.mp hd; rfl
theorem und_prs (l : List (Int × Int)) : D.under 0 (.tup (l.map dP)) = true := by
  simp only [D.under]
  induction l with
  | nil => rfl
  | cons p l ih => simp only [List.map_cons, D.unders, ih]; rfl
theorem und_its (l : List Int) : D.under 0 (.tup (l.map D.int)) = true := by
  simp only [D.under]; exact us_ints

section
variable {k : Nat} {S : Store}
theorem over_run (es : List (Int × Int)) : run fns 1000 (k + 1) 0 [.tup (es.map dP)] S = some (.tup ((es.map Prod.fst).map D.int), S) := by
  refine of_isR ?_
  rw [e0]
  unfold b0
  exists if_true
  refine l_mapR (fun p => .int p.1) rfl (fun p _ => ?_) ?_
  · unfold dP
    exists if_true
  · have e : es.map (fun p => D.int p.1) = (es.map Prod.fst).map D.int := by rw [List.map_map]; rfl
    rw [e]
    have u := und_its (es.map Prod.fst)
    exists u
theorem onto_run (es : List (Int × Int)) : run fns 1000 (k + 1) 1 [.tup (es.map dP)] S = some (.tup (((es.map Prod.snd).mergeSort leI).map D.int), S) := by
  refine of_isR ?_
  rw [e1]
  unfold b1
  exists if_true
  refine l_mapR (fun p => .int p.2) rfl (fun p _ => ?_) ?_
  · unfold dP
    exists if_true
  · have e : es.map (fun p => D.int p.2) = (es.map Prod.snd).map D.int := by rw [List.map_map]; rfl
    rw [e]
    have u := und_its ((es.map Prod.snd).mergeSort leI)
    have e1 := fun S => bi_sorted (S := S) (a := .lst ((es.map Prod.snd).map D.int)) rfl (sortS_ints S (es.map Prod.snd))
    exists u, e1

end
theorem rounds_y {k : Nat} {S : Store} {e : List (Int × Int)} (X : Xch e) (o : own e) : run fns 1000 (k + 2) 3 [.tup (e.map dP)] S = some (.tup ((rnds e).map rwD), S) := by
  have h1 := fun S => onto_run (k := k) (S := S) e
  have h2 := fun S => over_run (k := k) (S := S) e
  have o' : (e.map Prod.snd).mergeSort leI = e.map Prod.fst := Eq.symm o
  have fd := fun S => bi_dictP (S := S) X.fo
  have hf := lead_own X o
  have hi := lead_inj X
  have hg : ∀ {v : Int}, v ∈ e.map Prod.fst → getK e v = some (lead e v) := fun h => getK_some X.fo h
  have xl := X.len
  have ul := und_rws (rnds e)
  refine of_isR ?_
  rw [e3]
  unfold b3
  exists h1, h2, c_neI, o', fd
  refine for_by (fun rest σ S' => ∃ (done todo : List Int) (acc : List (List Int)) (kvs : List (L2.Key × D)) (Z : Store) (y4 y5 y6 : Option D), rest = todo.map D.int ∧ done ++ todo = e.map Prod.fst ∧ σ = [some (.tup (e.map dP)), some (.ref S.length), some (.ref (S.length + 1)), some (.ref (S.length + 2)), y4, y5, y6] ∧
    S' = S ++ (.dic (dK e) :: .dic kvs :: .lst (acc.map rwD) :: Z) ∧ rndsG (lead e) e.length todo acc = rnds e ∧ (∀ x, hasK kvs x = true ↔ x ∈ acc.flatten) ∧ kvs.length ≤ 200 * acc.length ∧ acc.length ≤ done.length) (fun _ _ _ _ => rfl) ?_ ?_ ⟨[], e.map Prod.fst, [], [], [], _, _, _, rfl, rfl, rfl, rfl, rfl, fun x => by simp [hasK], by simp, by simp⟩
  · rintro z l σ S' ⟨done, todo, acc, kvs, Z, y4, y5, y6, g1, g2, rfl, rfl, g3, g4, g5, g6⟩
    cases todo with
    | nil => cases g1
    | cons u todo =>
      cases g1
      refine ⟨_, rfl, ?_⟩
      have hu : u ∈ e.map Prod.fst := by rw [← g2]; simp
      have hdl : done.length + todo.length + 1 = e.length := by
        have := congrArg List.length g2
        simp only [List.length_append, List.length_cons, List.length_map] at this
        omega
      have nin := nin_dic (S := S ++ (.dic (dK e) :: .dic kvs :: .lst (acc.map rwD) :: Z)) (n := S.length + 1) (i := u) (kvs := kvs) (by simp)
      by_cases c : u ∈ acc.flatten
      · have hk : hasK kvs u = true := (g4 u).mpr c
        exists nin, hk
        refine ⟨done ++ [u], todo, acc, kvs, Z, _, _, _, rfl, by simp [g2], rfl, rfl, ?_, g4, g5, by simp; omega⟩
        rw [← g3]; simp only [rndsG, c, if_true]
      · have hk : hasK kvs u = false := by
          cases hh : hasK kvs u with
          | false => rfl
          | true => exact absurd ((g4 u).mp hh) c
        rw [x_cons, x_ife]
        exists nin, hk
        refine whl_by (fun n r S' => ∃ (i : List Int) (l : Int), Walk (lead e) (e.map Prod.fst) u i l ∧ i.length + n = e.length ∧ rowF (lead e) u n i l = rowF (lead e) u e.length [] u ∧ r = [some (.tup (e.map dP)), some (.ref S.length), some (.ref (S.length + 1)), some (.ref (S.length + 2)), some (.int u), some (.ref (S.length + (Z.length + 1 + 1 + 1))), y6] ∧
          S' = S ++ (.dic (dK e) :: .dic kvs :: .lst (acc.map rwD) :: (Z ++ [.lst ((i ++ [l]).map D.int)]))) ?_ 1000 e.length _ _ (by omega) ⟨[], u, Walk.start hu, by simp, rfl, rfl, rfl⟩
        rintro n r S' ⟨i, l, w, w1, w2, rfl, rfl⟩
        have hgl := hg (w.sub l (by simp))
        have al : L2.atI ((i ++ [l]).map D.int) (-1) = some (.int l) := at_lastm
        have il : (i ++ [l]).length ≤ 101 := by have := w.len; simp at this ⊢; omega
        by_cases c2 : lead e l = u
        · have rw2 : rowF (lead e) u e.length [] u = i ++ [l] := by rw [← w2]; exact rowF_end c2
          exists al, dK_find, hgl, c2
          refine for_by (fun rest σ S' => ∃ (d2 t2 : List Int) (kv2 : List (L2.Key × D)) (y6 : Option D), rest = t2.map D.int ∧ d2 ++ t2 = i ++ [l] ∧ σ = [some (.tup (e.map dP)), some (.ref S.length), some (.ref (S.length + 1)), some (.ref (S.length + 2)), some (.int u), some (.ref (S.length + (Z.length + 1 + 1 + 1))), y6] ∧
            S' = S ++ (.dic (dK e) :: .dic kv2 :: .lst (acc.map rwD) :: (Z ++ [.lst ((i ++ [l]).map D.int)])) ∧ (∀ x, hasK kv2 x = true ↔ x ∈ acc.flatten ∨ x ∈ d2) ∧ kv2.length ≤ kvs.length + d2.length) ?_ ?_ ?_ ⟨[], i ++ [l], kvs, _, rfl, rfl, rfl, rfl, fun x => by rw [g4]; simp, by simp⟩
          · rintro l2 r2 S2 ⟨d2, t2, kv2, y6, -, -, -, rfl, -, -⟩
            simp [watch, cellL]
          · rintro z2 l2 r2 S2 ⟨d2, t2, kv2, y6, q1, q2, rfl, rfl, q3, q4⟩
            cases t2 with
            | nil => cases q1
            | cons x t2 =>
              cases q1
              refine ⟨_, rfl, ?_⟩
              have ld2 : d2.length ≤ 101 := by
                have := congrArg List.length q2
                simp only [List.length_append, List.length_cons] at this il
                omega
              have hs := six_dic (S := S ++ (.dic (dK e) :: .dic kv2 :: .lst (acc.map rwD) :: (Z ++ [.lst ((i ++ [l]).map D.int)]))) (n := S.length + 1) (kvs := kv2) (w := x) (v := .bl true) (by simp) (by omega)
              exists hs
              refine ⟨d2 ++ [x], t2, _, _, rfl, by simp [q2], rfl, rfl, fun y => ?_, ?_⟩
              · rw [hasK_put, q3]
                simp only [List.mem_append, List.mem_singleton, or_assoc]
              · have := dput_len (kvs := kv2) (k := Sum.inl x) (v := D.bl true)
                simp; omega
          · rintro r2 S2 ⟨d2, t2, kv2, y6, q1, q2, rfl, rfl, q3, q4⟩
            have ht : t2 = [] := by cases t2 with | nil => rfl | cons _ _ => cases q1
            subst ht
            rw [List.append_nil] at q2
            subst q2
            have la : acc.length ≤ 1000 := by omega
            exists List.length_map, la
            refine ⟨done ++ [u], todo, acc ++ [i ++ [l]], kv2, Z ++ [.lst ((i ++ [l]).map D.int)], _, _, _, rfl, by simp [g2], rfl, ?_, ?_, fun x => ?_, ?_, by simp; omega⟩
            · simp [rwD]
            · rw [← g3]; simp only [rndsG, c, if_false, rw2]
            · rw [q3]; simp
            · simp at q4 il ⊢; omega
        · have w' := w.step hf hi c2
          have wl := w'.len
          simp at wl
          exists al, dK_find, hgl, c2, List.length_map, il
          obtain ⟨m, rfl⟩ : ∃ m, n = m + 1 := ⟨n - 1, by omega⟩
          refine ⟨m, by omega, i ++ [l], lead e l, w', by simp; omega, ?_, by trivial, ?_⟩
          · rw [← w2, rowF_next c2]
          · simp
  · rintro σ S' ⟨done, todo, acc, kvs, Z, y4, y5, y6, g1, g2, rfl, rfl, g3, g4, g5, g6⟩
    have ht : todo = [] := by cases todo with | nil => rfl | cons _ _ => cases g1
    subst ht
    simp only [rndsG] at g3
    subst g3
    exists ul

/-- how many names each round has, sorted -/
def lens (e : List (Int × Int)) : List Int := ((rnds e).map fun r => (r.length : Int)).mergeSort leI
theorem lens_map (ls : List (List Int)) : ls.map (fun r => D.int (r.length : Int)) = (ls.map fun r => (r.length : Int)).map D.int := by rw [List.map_map]; rfl
theorem lengths_y {k : Nat} {S : Store} {e : List (Int × Int)} (X : Xch e) (o : own e) : run fns 1000 (k + 3) 4 [.tup (e.map dP)] S = some (.tup ((lens e).map D.int), S) := by
  have h1 := fun S => rounds_y (k := k) (S := S) X o
  refine of_isR ?_
  rw [e4]
  unfold b4
  exists h1
  refine l_mapR (fun r => .int (r.length : Int)) rfl (fun r _ => ?_) ?_
  · unfold rwD
    exists List.length_map
  rw [lens_map]
  have u := und_its (lens e)
  unfold lens at u ⊢
  exists s_ints, u

def tD (o : Prs) : D := .tup (o.map dP)
theorem und_tDs (os : List Prs) : D.unders 0 (os.map tD) = true := by
  induction os with
  | nil => rfl
  | cons o os ih => simp only [List.map_cons, D.unders, ih, tD, und_prs]; rfl
theorem all_run {k : Nat} {S : Store} {l : List Int} (hn : l.length ≤ 6) : run fns 1000 (k + 1) 2 [.tup (l.map D.int)] S = some (.lst ((allX l).map tD), S) := by
  have it1 := fun S => it_rng (S := S) (n := l.length) (by omega)
  refine of_isR ?_
  rw [e2]
  unfold b2
  exists List.length_map, it1
  refine for_by (fun rest σ S' => ∃ (a : Nat) (X : Store) (done : Nat) (y2 y3 y4 y5 : Option D), rest.length + done = l.length ∧ σ = [some (.tup (l.map D.int)), some (.ref (S.length + a)), y2, y3, y4, y5] ∧ S' = S ++ X ∧ X[a]? = some (.lst ((rowsI l done).map fun o => .tup (o.map D.int))) ∧ (rowsI l done).length * 6 ^ rest.length ≤ 46656) (fun _ _ _ _ => rfl) ?_ ?_ ⟨0, _, 0, _, _, _, _, by simp, rfl, rfl, rfl, ?_⟩
  · rintro z rest σ S' ⟨a, X, done, y2, y3, y4, y5, h1, rfl, rfl, ha, h2⟩
    refine ⟨_, rfl, ?_⟩
    rw [List.length_cons] at h1 h2
    have la := (List.getElem?_eq_some_iff.mp ha).1
    have hsl : (stp l (rowsI l done)).length ≤ 6 * (rowsI l done).length := Nat.le_trans stp_len (Nat.mul_le_mul_right _ hn)
    have p6 : 1 ≤ 6 ^ rest.length := Nat.one_le_pow _ _ (by omega)
    have hB : (rowsI l done).length * 6 * 6 ^ rest.length ≤ 46656 := by rw [Nat.pow_succ] at h2; rw [Nat.mul_assoc, Nat.mul_comm 6]; exact h2
    have hB2 : (rowsI l done).length * 6 ≤ 46656 := Nat.le_trans (Nat.le_mul_of_pos_right _ p6) hB
    have get : ∀ Y : Store, (S ++ (X ++ Y))[S.length + a]? = some (.lst ((rowsI l done).map fun o => .tup (o.map D.int))) := fun Y => by rw [g_at, List.getElem?_append_left la]; exact ha
    have cel : ∀ Y : Store, cellL (S ++ (X ++ Y)) (S.length + a) = some ((rowsI l done).map fun o => .tup (o.map D.int)) := fun Y => by unfold cellL; rw [get Y]
    have its := fun Y => it_ref (cel Y)
    exists its
    refine for_by (fun rest σ S' => ∃ (dn td : List (List Int)) (y4 y5 : Option D), dn ++ td = rowsI l done ∧ rest = td.map (fun o => D.tup (o.map D.int)) ∧ σ = [some (.tup (l.map D.int)), some (.ref (S.length + a)), some z, some (.ref (S.length + X.length)), y4, y5] ∧ S' = S ++ (X ++ [.lst ((stp l dn).map fun o => .tup (o.map D.int))])) ?_ ?_ ?_ ⟨[], _, _, _, rfl, rfl, rfl, rfl⟩
    · rintro m τ S2 ⟨dn, td, y4, y5, -, -, -, rfl⟩
      simp [watch, cel]
    · rintro z2 m τ S2 ⟨dn, td, y4, y5, g1, g2, rfl, rfl⟩
      cases td with
      | nil => cases g2
      | cons o td =>
        cases g2
        refine ⟨_, rfl, ?_⟩
        have ho : o.length ≤ 12 := by
          have := (rowsI_mem (l := l) (k := done) (row := o) (by rw [← g1]; simp)).1
          omega
        have hd : (stp l dn).length + ((l.filter fun v => !decide (v ∈ o)).map fun v => o ++ [v]).length ≤ 46656 := by
          rw [← stp_one, ← List.length_append, ← stp_app]
          refine Nat.le_trans stp_len ?_
          have e1 := congrArg List.length g1
          simp only [List.length_append, List.length_cons] at e1
          have : l.length * (dn ++ [o]).length ≤ 6 * (rowsI l done).length := Nat.mul_le_mul hn (by simp; omega)
          omega
        exists if_true
        refine l_filR (fun v => !decide (v ∈ o)) (fun v => .tup ((o ++ [v]).map D.int)) rfl (fun v hv => ?_) ?_
        · have ci := fun S => c_ninI (S := S) (b := .tup (o.map D.int)) (i := v) (ns := o) rfl
          by_cases c : v ∈ o
          · exists ci, c
          · exists ci, c, List.map_append
        · simp only [List.length_map] at hd
          exists List.length_map, hd
          refine ⟨dn ++ [o], td, _, _, by simpa using g1, rfl, rfl, ?_⟩
          rw [stp_app, stp_one, List.map_append, List.map_map]
          rfl
    · rintro τ S2 ⟨dn, td, y4, y5, g1, g2, rfl, rfl⟩
      have ht : td = [] := by cases td with | nil => rfl | cons _ _ => cases g2
      subst ht
      rw [List.append_nil] at g1
      subst g1
      exists if_true
      refine ⟨X.length, X ++ [O.lst ((stp l (rowsI l done)).map fun o => .tup (o.map D.int))], done + 1, _, _, _, _, by omega, rfl, rfl, by rw [List.getElem?_append_right (Nat.le_refl _)]; simp; rfl, ?_⟩
      exact Nat.le_trans (Nat.mul_le_mul_right _ (by rw [Nat.mul_comm]; exact hsl)) hB
  · rintro σ S' ⟨a, X, done, y2, y3, y4, y5, h1, rfl, rfl, ha, h2⟩
    have hd : done = l.length := by simpa using h1
    subst hd
    have cel : cellL (S ++ X) (S.length + a) = some ((rowsI l l.length).map fun o => .tup (o.map D.int)) := by unfold cellL; rw [g_at, ha]
    have its := it_ref cel
    exists its
    refine l_mapR (fun o => tD (l.zip o)) (by simp [watch, cel]) (fun o _ => ?_) ?_
    · unfold tD
      exists zipT_prs
    have e1 : (rowsI l l.length).map (fun o => tD (l.zip o)) = (allX l).map tD := by unfold allX; rw [List.map_map]; rfl
    have u := und_tDs (allX l)
    have u2 : D.under 0 (.lst ((allX l).map tD)) = true := by simp only [D.under]; exact u
    rw [e1]
    exists u, u2
  · rw [List.length_map, List.length_range]
    have : 6 ^ l.length ≤ 6 ^ 6 := Nat.pow_le_pow_right (by omega) hn
    show 1 * 6 ^ l.length ≤ 46656
    omega

def nD (n : Nat) : D := .int (n : Int)
def lD (L : List Nat) : D := .tup (L.map nD)
theorem lD_iL (L : List Nat) : L.map nD = (iL L).map D.int := by unfold iL; rw [List.map_map]; rfl
theorem sum_iL : ∀ L : List Nat, (iL L).sum = (L.sum : Nat)
  | [] => rfl
  | n :: L => by
    have := sum_iL L
    unfold iL at this ⊢
    rw [List.map_cons, List.sum_cons, List.sum_cons, this]; push_cast; rfl
theorem und_lD (L : List Nat) : D.under 0 (lD L) = true := by unfold lD; rw [lD_iL]; exact und_its _
def pN (p : Nat × Nat) : Int × Int := ((p.1 : Int), (p.2 : Int))
theorem ofN_len : ∀ {f : Nat} {L : List Nat}, (ofN f L).length = L.sum
  | _, [] => rfl
  | f, n :: L => by simp [ofN, ofN_len (f := f + n) (L := L)]
theorem ofN_snoc : ∀ {f : Nat} {L : List Nat} {n : Nat}, ofN f (L ++ [n]) = ofN f L ++ (List.range n).map fun k => (f + L.sum + k, f + L.sum + (k + 1) % n)
  | f, [], n => by simp [ofN]
  | f, m :: L, n => by
    rw [List.cons_append, ofN, ofN_snoc, ofN, List.append_assoc, List.sum_cons, Nat.add_assoc f m]
theorem sum_le12 : ∀ {L : List Nat}, (∀ x ∈ L, x ≤ 12) → L.sum ≤ 12 * L.length
  | [], _ => by simp
  | x :: L, h => by
    have := sum_le12 (L := L) fun y hy => h y (by simp [hy])
    have := h x (by simp)
    rw [List.sum_cons, List.length_cons]; omega
theorem of_run {k : Nat} {S : Store} {L : List Nat} (hp : ∀ x ∈ L, 1 ≤ x ∧ x ≤ 12) (hl : L.length ≤ 12) : run fns 1000 (k + 1) 5 [lD L] S = some (.tup ((ofL L).map dP), S) := by
  have it1 : ∀ n : Nat, n ≤ 12 → ∀ S, itemsS .rng [.int (n : Int)] S = some ((List.range n).map fun i : Nat => .int (i : Int), []) := fun n hn S => it_rng (by omega)
  refine of_isR ?_
  rw [e5]
  unfold b5 lD
  exists if_true
  refine for_by (fun rest σ S' => ∃ (dn td : List Nat) (X : Store) (y2 y3 : Option D), dn ++ td = L ∧ rest = td.map nD ∧ σ = [some (.tup (L.map nD)), some (.ref S.length), y2, y3, none] ∧ S' = S ++ (.lst ((ofN 0 dn).map fun p => dP (pN p)) :: X)) (fun _ _ _ _ => rfl) ?_ ?_ ⟨[], L, [], _, _, rfl, rfl, rfl, rfl⟩
  · rintro z rest σ S' ⟨dn, td, X, y2, y3, g1, g2, rfl, rfl⟩
    cases td with
    | nil => cases g2
    | cons n td =>
      cases g2
      refine ⟨_, rfl, ?_⟩
      have hn := hp n (by rw [← g1]; simp)
      have hs : dn.sum ≤ 144 := by
        have := sum_le12 (L := dn) fun x hx => (hp x (by rw [← g1]; simp [hx])).2
        have := congrArg List.length g1
        simp only [List.length_append, List.length_cons] at this
        omega
      have it2 := it1 n hn.2
      unfold nD
      exists List.length_map, ofN_len, it2
      refine l_mapR (fun k : Nat => dP (pN (dn.sum + k, dn.sum + (k + 1) % n))) rfl (fun k _ => ?_) ?_
      · have e : ((dn.sum : Nat) : Int) + ((k : Int) + 1) % (n : Int) = ((dn.sum + (k + 1) % n : Nat) : Int) := by push_cast; rfl
        have n0 : (0 : Int) < (n : Int) := by omega
        unfold dP pN
        exists n0
        exact ⟨by push_cast; rfl, trivial⟩
      · exists List.length_map, List.length_range, ofN_len
        refine ⟨dn ++ [n], td, X, _, _, by simpa using g1, rfl, rfl, ?_⟩
        rw [ofN_snoc, List.map_append, List.map_map, Nat.zero_add]
        rfl
  · rintro σ S' ⟨dn, td, X, y2, y3, g1, g2, rfl, rfl⟩
    have ht : td = [] := by cases td with | nil => rfl | cons _ _ => cases g2
    subst ht
    rw [List.append_nil] at g1
    subst g1
    have e1 : (ofN 0 dn).map (fun p => dP (pN p)) = (ofL dn).map dP := by unfold ofL; rw [List.map_map]; rfl
    rw [e1]
    have u := und_prs (ofL dn)
    exists u
theorem cut_iL {L : List Nat} {a : Nat} : cut ((iL L).map D.int) none (some (a : Int)) = (iL (L.take a)).map D.int := by
  have e : iL (L.take a) = (iL L).take a := by unfold iL; rw [List.map_take]
  rw [e]
  exact cut_tkm
theorem foldI {α : Type} {f : Int → α → Int} {l : List α} {x : α} {a : Int} : (l ++ [x]).foldl f a = f (l.foldl f a) x := by rw [List.foldl_append]; rfl
theorem many_run {k : Nat} {S : Store} {L : List Nat} (hp : ∀ x ∈ L, 1 ≤ x ∧ x ≤ 12) (hl : L.length ≤ 12) (b0 : 0 < belI L) (b1 : belI L < 1000000000000) : run fns 1000 (k + 1) 6 [lD L] S = some (.int (manyI L), S) := by
  have hs : L.sum ≤ 144 := by have := sum_le12 (L := L) fun x hx => (hp x hx).2; omega
  have it1 := fun S => it_rng (S := S) (n := L.sum) (by omega)
  have it2 := fun S => it_rng (S := S) (n := L.length) (by omega)
  have bs := fun S => bi_sumT (S := S) (ns := iL L)
  rw [sum_iL] at bs
  refine of_isR ?_
  rw [e6]
  unfold b6 lD
  rw [lD_iL]
  have ll : (iL L).length = L.length := by unfold iL; rw [List.length_map]
  exists bs, it1
  refine for_by (fun rest σ S' => ∃ (a c : Nat) (y2 : Option D), rest = (List.range' a c).map (fun i : Nat => D.int (i : Int)) ∧ a + c = L.sum ∧ σ = [some (.tup ((iL L).map D.int)), some (.int (facI a)), y2, none] ∧ S' = S) (fun _ _ _ _ => rfl) ?_ ?_ ⟨0, L.sum, _, by rw [List.range_eq_range'], by omega, rfl, rfl⟩
  · rintro z l σ S2 ⟨a, c, y2, q1, q2, rfl, rfl⟩
    cases c with
    | zero => cases q1
    | succ c =>
      rw [List.range'_succ, List.map_cons] at q1
      cases q1
      refine ⟨_, rfl, ?_⟩
      exists if_true
      have e : facI (a + 1) = facI a * ((a : Int) + 1) := by unfold facI; rw [List.range_succ, foldI]
      exact ⟨a + 1, c, _, rfl, by omega, by rw [e], by trivial⟩
  · rintro σ S2 ⟨a, c, y2, q1, q2, rfl, rfl⟩
    have hc : c = 0 := by
      cases c with
      | zero => rfl
      | succ c => rw [List.range'_succ, List.map_cons] at q1; cases q1
    subst hc
    have ha : a = L.sum := by omega
    subst ha
    exists List.length_map, ll, it2
    refine for_by (fun rest σ S' => ∃ (a c : Nat) (y2 : Option D), rest = (List.range' a c).map (fun i : Nat => D.int (i : Int)) ∧ a + c = L.length ∧ σ = [some (.tup ((iL L).map D.int)), some (.int (facI L.sum)), y2, some (.int ((List.range a).foldl (fun (b : Int) (k : Nat) => b * (L.getD k 0 : Nat) * (1 + ((L.take k).count (L.getD k 0) : Nat))) 1))] ∧ S' = S2) (fun _ _ _ _ => rfl) ?_ ?_ ⟨0, L.length, _, by rw [List.range_eq_range'], by omega, rfl, rfl⟩
    · rintro z l σ S2 ⟨a, c, y2, q1, q2, rfl, rfl⟩
      cases c with
      | zero => cases q1
      | succ c =>
        rw [List.range'_succ, List.map_cons] at q1
        cases q1
        refine ⟨_, rfl, ?_⟩
        have hx := hp (L.getD a 0) (by rw [List.getD_eq_getElem?_getD, List.getElem?_eq_getElem (by omega)]; exact List.getElem_mem _)
        have ix : L2.atI ((iL L).map D.int) (a : Int) = some (.int ((L.getD a 0 : Nat) : Int)) := by
          rw [← lD_iL]; exact atN (f := nD) (l := L) (i := a) 0 (by omega)
        have ct : cut ((iL L).map D.int) none (some (a : Int)) = (iL (L.take a)).map D.int := cut_iL
        have cn := fun S => t_cntI (S := S) (ns := iL (L.take a)) (k := ((L.getD a 0 : Nat) : Int))
        have ec : (iL (L.take a)).count ((L.getD a 0 : Nat) : Int) = (L.take a).count (L.getD a 0) := by
          unfold iL List.count
          rw [List.countP_map]
          refine List.countP_congr fun x _ => ?_
          simp
          omega
        rw [ec] at cn
        have cb : (L.take a).count (L.getD a 0) ≤ 12 := by have := List.count_le_length (a := L.getD a 0) (l := L.take a); rw [List.length_take] at this; omega
        exists ix, ct, cn
        exact ⟨a + 1, c, _, rfl, by omega, by rw [List.range_succ, foldI], by trivial⟩
    · rintro σ S2 ⟨a, c, y2, q1, q2, rfl, rfl⟩
      have hc : c = 0 := by
        cases c with
        | zero => rfl
        | succ c => rw [List.range'_succ, List.map_cons] at q1; cases q1
      subst hc
      have ha : a = L.length := by omega
      subst ha
      have dv : binS S2 .FloorDiv (.int (facI L.sum)) (.int (belI L)) = some (.int (manyI L)) := op_divW ⟨b0, by omega⟩
      unfold belI at dv
      exists dv
end Lw

local macro_rules | `(tactic| exists $ts,*) => `(tactic| simp (disch := first | omega | assumption | (simp only [Rf.watch_cons, Rf.watch_n, Rf.cell_eq, Rf.cellO_l, Rf.g_at, Rf.g_at0, Rf.t_at, Rf.t_at0, Rf.t_lit, decide_true, Rf.u_non, Rf.u_bl, Rf.u_int, Rf.u_str, Rf.u_tup, Rf.u_lst, Rf.us_nil, Rf.us_cons, Rf.us_app, Rf.us_ints, Bool.and_true, Bool.and_self, List.getElem?_cons_zero, List.getElem?_cons_succ, List.length_map, List.length_append, List.length_cons, List.length_nil, List.length_reverse, Rf.isS_eq, Rf.isE_eq, Rf.x_tzip, Rf.ktz_mk, $[$ts:term],*]; first | done | omega) | decide +kernel) only [Rf.x_var, Rf.x_cst, Rf.x_bin, Rf.x_neg, Rf.x_cmp, Rf.x_chn, Rf.x_and, Rf.x_or, Rf.x_not, Rf.x_ite, Rf.x_tup, Rf.x_lis, Rf.x_call, Rf.x_bif, Rf.x_rngl, Rf.x_ext, Rf.x_mapd, Rf.x_mpop, Rf.x_mins, Rf.x_mrev, Rf.x_mclr, Rf.x_mcnt, Rf.x_isi, Rf.x_idx, Rf.x_slc, Rf.x_nop, Rf.x_ptv, Rf.x_ptc, Rf.x_ptb, Rf.x_ptn, Rf.x_ptf, Rf.x_rev, Rf.x_lc, Rf.x_dsp, Rf.x_rnil, Rf.x_rcons, Rf.x_mnil, Rf.x_mcons, Rf.x_nil, Rf.x_cons, Rf.x_asg, Rf.x_par, Rf.x_six, Rf.x_exp, Rf.x_ret, Rf.x_retn, Rf.x_ife, Rf.x_for, Rf.x_whl, Rf.x_pas, Rf.x_brk, Rf.x_cnt, Rf.p_some, Rf.p_someS, Rf.wO_some, Rf.wB_some, Rf.wC_t, Rf.wC_f, Rf.wC_y, Rf.wC_n, Rf.wC_no, Rf.kE_eq, Rf.kV_eq, Rf.kSs_eq, Rf.wI_some, Rf.wL_some, Rf.wT_some, Rf.wR_some, Rf.kMs_eq, Rf.kRs_eq, Rf.kbin2_eq, Rf.kbin1_eq, Rf.kneg_eq, Rf.kcmp2_eq, Rf.kcmp1_eq, Rf.kchn3_eq, Rf.kchnC_eq, Rf.kchn2_eq, Rf.kchn1_eq, Rf.kand_eq, Rf.kor_eq, Rf.knot_eq, Rf.kite_eq, Rf.ktup_eq, Rf.klis_eq, Rf.kcall_eq, Rf.kbif_eq, Rf.krng2_t, Rf.krng2_f, Rf.krng_eq, Rf.kmth3_eq, Rf.kmth_eq, Rf.kmthx_eq, Rf.kisi_eq, Rf.kidx2_eq, Rf.kidx1_eq, Rf.kslc3_eq, Rf.kslc2_eq, Rf.kslc1_eq, Rf.kpt_eq, Rf.krev_eq, Rf.krev_t, Rf.krev_r, Rf.klc2_eq, Rf.klc_eq, Rf.kR2_eq, Rf.kR1_eq, Rf.kM1_eq, Rf.kseq_nx, Rf.kseq_rt, Rf.kseq_bk, Rf.kseq_ct, Rf.kasg_nm, Rf.kasg_tp, Rf.kpar_eq, Rf.wS_some, Rf.ksix3_eq, Rf.ksix2_eq, Rf.ksix1_eq, Rf.kexp_eq, Rf.kret_eq, Rf.kif_eq, Rf.kfor2_eq, Rf.kfor_eq, Rf.finK_mk, Rf.finQ_rt, Rf.finQ_nx, Rf.isR_eq, Rf.m_non, Rf.m_bl, Rf.m_int, Rf.m_str, Rf.m_tup, Rf.m_ref, Rf.m_lst, Rf.at0, Rf.at1, Rf.at2, Rf.at3, Rf.at4, Rf.at5, Rf.i_tup, Rf.i_lst, Rf.cut1, Rf.sl_tup, Rf.sl_lst, Rf.q_tup, Rf.q_lst, Rf.q_ref, Rf.l_lst, Rf.l_ref, Rf.cell_eq, Rf.cellO_l, Rf.g_at, Rf.g_at0, Rf.g_set, Rf.g_set0, Rf.bi_lenT, Rf.bi_lenL, Rf.bi_tupL, Rf.bi_tupT, Rf.bi_lisT, Rf.bi_lisL, Rf.c_in, Rf.c_nin, Rf.c_inI, Rf.c_ninI, Rf.cm_gt, Rf.cm_ge, Rf.cm_lt, Rf.cm_le, Rf.cm_eq, Rf.cm_ne, Rf.cm_eqs, Rf.cm_nes, Rf.op_add, Rf.op_sub, Rf.op_mod, Rf.op_div, Rf.it_tup, Rf.lw_cons, Rf.lw_nil, Rf.klw_eq, Rf.zpO_mk, Rf.seqW_r, Rf.it_zipRR, Rf.fw_consT, Rf.fw_consL, Rf.fw_cons, Rf.fw_nil, Rf.kfw_rt, Rf.kfw_bk, Rf.kfw_ct, Rf.kfw_nx, Rf.dput_n, Rf.fndO_n, Rf.fndO_y, Rf.fnd_n, Rf.fnd_y, Rf.lk_n, Rf.lk_y, Rf.at_m1b, Rf.at_m1a, Rf.dspL_eq, Rf.dput_nil, Rf.sixR_mk, Rf.r_sixs, Rf.fndO_nil, Rf.ixS_mk, Rf.r_idxs, Rf.bi_max2, Rf.bi_min2, Rf.sA2, Rf.zipD_nil, Rf.zipD_cons, Rf.it_zipT, Rf.wU_mk, Rf.kunl_eq, Rf.x_unl, Rf.kdsp_mk, Rf.fnd_nil, Rf.wDq_mk, Rf.kdg3_s, Rf.kdg2_eq, Rf.wDg_mk, Rf.kdg1_r, Rf.x_dget, Rf.lk_nil, Rf.wDI_some, Rf.kdcix_s, Rf.x_dcix, Rf.kdcin_s, Rf.x_dcin, Rf.t_lit, Rf.t_lits, Rf.finO_mk, Rf.r_fin, Rf.r_fin0, Rf.rt_fin, Rf.rt_fin0, Rf.r_idx, Rf.ixR_l, Rf.ixR_d, Rf.r_len, Rf.lenR_mk, Rf.lenR_ro, Rf.lenR_d, Rf.x_maxd, Rf.kmaxd_lst, Rf.kmaxd_nil, Rf.r_tup, Rf.tupR_mk, Rf.r_lis, Rf.lisR_mk, Rf.r_slc, Rf.slR_mk, Rf.r_apd, Rf.apdR_mk, Rf.r_ext, Rf.extR_mk, Rf.r_ml, Rf.ml_lst, Rf.mlO_mk, Rf.r_rev, Rf.revR_mk, Rf.r_clr, Rf.clrR_mk, Rf.r_addRL, Rf.r_addRR, Rf.r_addLR, Rf.addR_mk, Rf.it_r, Rf.x_sset, Rf.ksset_lst, Rf.kw_eq, Rf.kwB_eq, Rf.kwN_eq, Rf.kwb_nx, Rf.kwb_ct, Rf.kwb_bk, Rf.kwb_rt, Rf.kfl_nx, Rf.kfl_ct, Rf.kfl_bk, Rf.kfl_rt, Rf.f_nil, Rf.f_cons, Rf.f_consT, Rf.f_consL, Rf.klcV_eq, Rf.kN_eq, Rf.klcB_eq, Rf.x_lcB, Rf.x_lcBT, Rf.x_lcBL, Rf.isO_eq, Rf.kl2_some, Rf.kl2_none, Rf.kl1_eq, Rf.l_nil, Rf.l_cons, Rf.o_addLL, Rf.o_addTT, Rf.it_r1, Rf.it_r2, Rf.it_r3, Rf.it_r4, Rf.it_r5, Rf.it_r6, Rf.c_isi1, Rf.c_isi2, Rf.c_isi3, Rf.ty_tup, Rf.ty_int, Rf.ty_str, Rf.ty_lst, Rf.ty_bl, Rf.ty_non, Rf.wipeS, Rf.op_mul, Rf.op_mul', Rf.t_len, Rf.t_app, Rf.t_at, Rf.t_at0, Rf.t_set, Rf.t_set0, Rf.t_fin, Rf.t_fin0, Rf.it_lst, Rf.slot0, Rf.slotS, Rf.ofS_inj, Rf.fin_x, Rf.fin_x0, Rf.u_non, Rf.u_bl, Rf.u_int, Rf.u_str, Rf.u_tup, Rf.u_lst, Rf.us_nil, Rf.us_cons, Rf.us_app, Rf.us_ints, Rf.D.str.injEq, Rf.D.int.injEq, Rf.setAll, decide_eq_true_eq, Bool.false_eq_true, if_true, if_false, Bool.not_true, Bool.not_false, decide_true, decide_false, decide_eq_false_iff_not, Option.map_some, Int.reduceNeg, Int.reduceDiv, Int.reduceMod, Int.reduceMul, Int.reduceSub, Int.reduceAdd, List.append_nil, List.map_nil, List.map_cons, List.foldl_nil, List.foldl_cons, List.zip_nil_left, List.zip_cons_cons, Option.isSome_some, Option.isSome_none, List.length_cons, List.length_nil, List.length_append, List.append_assoc, List.cons_append, List.nil_append, List.getElem?_cons_zero, List.getElem?_cons_succ, List.set_cons_zero, List.set_cons_succ, List.mem_cons, List.not_mem_nil, or_false, false_or, or_true, true_or, not_true_eq_false, not_false_eq_true, Bool.and_true, Bool.true_and, Bool.and_self, and_self, eq_self_iff_true, Nat.add_zero, Nat.zero_add, Rf.isS_eq, Rf.isE_eq, Rf.x_tzip, Rf.ktz_mk, $[$ts:term],*])
namespace Lw
open PySem Rf
theorem it_rngX {x y : Int} {S : Store} (h1 : -(2 ^ 62) ≤ x) (h2 : x < 2 ^ 62) (h3 : -(2 ^ 62) ≤ y) (h4 : y < 2 ^ 62) (h5 : y - x ≤ 16777216) : itemsS .rng [.int x, .int y] S = some ((List.range (y - x).toNat).map fun i : Nat => .int (x + (i : Int)), []) := by
  simp only [itemsS, h1, h2, h3, h4, h5, and_self, if_true]
theorem it_rngAB {a b : Nat} {x y : Int} {S : Store} (hx : x = (a : Int)) (hy : y = ((a + b : Nat) : Int)) (h : a + b ≤ 1000) : itemsS .rng [.int x, .int y] S = some ((List.range b).map fun i : Nat => .int (x + (i : Int)), []) := by
  have e : (y - x).toNat = b := by omega
  rw [it_rngX (by omega) (by omega) (by omega) (by omega) (by omega), e]
theorem le_sumN : ∀ {L : List Nat} {x : Nat}, x ∈ L → x ≤ L.sum
  | y :: L, x, h => by
    rw [List.sum_cons]
    rcases List.mem_cons.mp h with rfl | h
    · omega
    · have := le_sumN h; omega
theorem len_sumN : ∀ {L : List Nat}, (∀ x ∈ L, 1 ≤ x) → L.length ≤ L.sum
  | [], _ => by simp
  | y :: L, h => by
    have := len_sumN (L := L) fun x hx => h x (by simp [hx])
    have := h y (by simp)
    rw [List.sum_cons, List.length_cons]; omega
theorem cutSum {L : List Nat} {a : Nat} (h : a < L.length) : (L.take a ++ L.drop (a + 1)).sum + L.getD a 0 = L.sum ∧ (L.take a ++ L.drop (a + 1)).length + 1 = L.length := by
  have e : L = L.take a ++ L[a] :: L.drop (a + 1) := by rw [← List.drop_eq_getElem_cons h, List.take_append_drop]
  have g : L.getD a 0 = L[a] := by rw [List.getD_eq_getElem?_getD, List.getElem?_eq_getElem h]; rfl
  rw [g]
  have e1 := congrArg List.sum e
  have e2 := congrArg List.length e
  simp only [List.sum_append, List.sum_cons, List.length_append, List.length_cons] at e1 e2 ⊢
  omega
theorem ways_b {s : Nat} (hs : s ≤ 12) : ∀ n, n ≤ s → 0 ≤ waysI (s : Int) n ∧ waysI (s : Int) n ≤ 12 ^ (n - 1)
  | 0, _ => by simp [waysI]
  | 1, _ => by simp [waysI]
  | n + 2, h => by
    obtain ⟨h1, h2⟩ := ways_b hs (n + 1) (by omega)
    have e : waysI (s : Int) (n + 2) = waysI (s : Int) (n + 1) * ((s : Int) - (1 + (n : Int))) := by
      unfold waysI
      rw [Nat.add_sub_cancel, show n + 2 - 1 = n + 1 by omega, List.range_succ, foldI]
    have q : (12 : Int) ^ (n + 2 - 1) = 12 ^ (n + 1 - 1) * 12 := by rw [← Int.pow_succ]; rfl
    rw [e, q]
    have h3 : 0 ≤ (s : Int) - (1 + (n : Int)) := by omega
    exact ⟨Int.mul_nonneg h1 h3, Int.mul_le_mul h2 (by omega) h3 (Int.le_trans h1 h2)⟩
theorem ways_s {s n : Nat} (hs : s ≤ 12) (h : n ≤ s) : -18446744073709551616 < waysI (s : Int) n ∧ waysI (s : Int) n < 18446744073709551616 := by
  obtain ⟨h1, h2⟩ := ways_b hs n h
  have e : (12 : Nat) ^ (n - 1) ≤ 743008370688 := Nat.pow_le_pow_right (n := 12) (j := 11) (by decide) (by omega)
  have e2 : (12 : Int) ^ (n - 1) ≤ 743008370688 := by
    have := Int.ofNat_le.mpr e
    rw [Int.natCast_pow] at this
    exact this
  generalize (12 : Int) ^ (n - 1) = q at *
  omega
end Lw

local macro_rules | `(tactic| exists $ts,*) => `(tactic| simp (disch := first | omega | assumption | (simp only [Rf.watch_cons, Rf.watch_n, Rf.cell_eq, Rf.cellO_l, Rf.g_at, Rf.g_at0, Rf.t_at, Rf.t_at0, Rf.t_lit, decide_true, Rf.u_non, Rf.u_bl, Rf.u_int, Rf.u_str, Rf.u_tup, Rf.u_lst, Rf.us_nil, Rf.us_cons, Rf.us_app, Rf.us_ints, Bool.and_true, Bool.and_self, List.getElem?_cons_zero, List.getElem?_cons_succ, List.length_map, List.length_append, List.length_cons, List.length_nil, List.length_reverse, Rf.isS_eq, Rf.isE_eq, Rf.x_tzip, Rf.ktz_mk, $[$ts:term],*]; first | done | omega) | decide +kernel) only [Rf.x_var, Rf.x_cst, Rf.x_bin, Rf.x_neg, Rf.x_cmp, Rf.x_chn, Rf.x_and, Rf.x_or, Rf.x_not, Rf.x_ite, Rf.x_tup, Rf.x_lis, Rf.x_call, Rf.x_bif, Rf.x_rngl, Rf.x_ext, Rf.x_mapd, Rf.x_mpop, Rf.x_mins, Rf.x_mrev, Rf.x_mclr, Rf.x_mcnt, Rf.x_isi, Rf.x_idx, Rf.x_slc, Rf.x_nop, Rf.x_ptv, Rf.x_ptc, Rf.x_ptb, Rf.x_ptn, Rf.x_ptf, Rf.x_rev, Rf.x_lc, Rf.x_dsp, Rf.x_rnil, Rf.x_rcons, Rf.x_mnil, Rf.x_mcons, Rf.x_nil, Rf.x_cons, Rf.x_asg, Rf.x_par, Rf.x_six, Rf.x_exp, Rf.x_ret, Rf.x_retn, Rf.x_ife, Rf.x_for, Rf.x_whl, Rf.x_pas, Rf.x_brk, Rf.x_cnt, Rf.p_some, Rf.p_someS, Rf.wO_some, Rf.wB_some, Rf.wC_t, Rf.wC_f, Rf.wC_y, Rf.wC_n, Rf.wC_no, Rf.kE_eq, Rf.kV_eq, Rf.kSs_eq, Rf.wI_some, Rf.wL_some, Rf.wT_some, Rf.wR_some, Rf.kMs_eq, Rf.kRs_eq, Rf.kbin2_eq, Rf.kbin1_eq, Rf.kneg_eq, Rf.kcmp2_eq, Rf.kcmp1_eq, Rf.kchn3_eq, Rf.kchnC_eq, Rf.kchn2_eq, Rf.kchn1_eq, Rf.kand_eq, Rf.kor_eq, Rf.knot_eq, Rf.kite_eq, Rf.ktup_eq, Rf.klis_eq, Rf.kcall_eq, Rf.kbif_eq, Rf.krng2_t, Rf.krng2_f, Rf.krng_eq, Rf.kmth3_eq, Rf.kmth_eq, Rf.kmthx_eq, Rf.kisi_eq, Rf.kidx2_eq, Rf.kidx1_eq, Rf.kslc3_eq, Rf.kslc2_eq, Rf.kslc1_eq, Rf.kpt_eq, Rf.krev_eq, Rf.krev_t, Rf.krev_r, Rf.klc2_eq, Rf.klc_eq, Rf.kR2_eq, Rf.kR1_eq, Rf.kM1_eq, Rf.kseq_nx, Rf.kseq_rt, Rf.kseq_bk, Rf.kseq_ct, Rf.kasg_nm, Rf.kasg_tp, Rf.kpar_eq, Rf.wS_some, Rf.ksix3_eq, Rf.ksix2_eq, Rf.ksix1_eq, Rf.kexp_eq, Rf.kret_eq, Rf.kif_eq, Rf.kfor2_eq, Rf.kfor_eq, Rf.finK_mk, Rf.finQ_rt, Rf.finQ_nx, Rf.isR_eq, Rf.m_non, Rf.m_bl, Rf.m_int, Rf.m_str, Rf.m_tup, Rf.m_ref, Rf.m_lst, Rf.at0, Rf.at1, Rf.at2, Rf.at3, Rf.at4, Rf.at5, Rf.i_tup, Rf.i_lst, Rf.cut1, Rf.sl_tup, Rf.sl_lst, Rf.q_tup, Rf.q_lst, Rf.q_ref, Rf.l_lst, Rf.l_ref, Rf.cell_eq, Rf.cellO_l, Rf.g_at, Rf.g_at0, Rf.g_set, Rf.g_set0, Rf.bi_lenT, Rf.bi_lenL, Rf.bi_tupL, Rf.bi_tupT, Rf.bi_lisT, Rf.bi_lisL, Rf.c_in, Rf.c_nin, Rf.c_inI, Rf.c_ninI, Rf.cm_gt, Rf.cm_ge, Rf.cm_lt, Rf.cm_le, Rf.cm_eq, Rf.cm_ne, Rf.cm_eqs, Rf.cm_nes, Rf.op_add, Rf.op_sub, Rf.op_mod, Rf.op_div, Rf.it_tup, Rf.lw_cons, Rf.lw_nil, Rf.klw_eq, Rf.zpO_mk, Rf.seqW_r, Rf.it_zipRR, Rf.fw_consT, Rf.fw_consL, Rf.fw_cons, Rf.fw_nil, Rf.kfw_rt, Rf.kfw_bk, Rf.kfw_ct, Rf.kfw_nx, Rf.dput_n, Rf.fndO_n, Rf.fndO_y, Rf.fnd_n, Rf.fnd_y, Rf.lk_n, Rf.lk_y, Rf.at_m1b, Rf.at_m1a, Rf.dspL_eq, Rf.dput_nil, Rf.sixR_mk, Rf.r_sixs, Rf.fndO_nil, Rf.ixS_mk, Rf.r_idxs, Rf.bi_max2, Rf.bi_min2, Rf.sA2, Rf.zipD_nil, Rf.zipD_cons, Rf.it_zipT, Rf.wU_mk, Rf.kunl_eq, Rf.x_unl, Rf.kdsp_mk, Rf.fnd_nil, Rf.wDq_mk, Rf.kdg3_s, Rf.kdg2_eq, Rf.wDg_mk, Rf.kdg1_r, Rf.x_dget, Rf.lk_nil, Rf.wDI_some, Rf.kdcix_s, Rf.x_dcix, Rf.kdcin_s, Rf.x_dcin, Rf.t_lit, Rf.t_lits, Rf.finO_mk, Rf.r_fin, Rf.r_fin0, Rf.rt_fin, Rf.rt_fin0, Rf.r_idx, Rf.ixR_l, Rf.ixR_d, Rf.r_len, Rf.lenR_mk, Rf.lenR_ro, Rf.lenR_d, Rf.x_maxd, Rf.kmaxd_lst, Rf.kmaxd_nil, Rf.r_tup, Rf.tupR_mk, Rf.r_lis, Rf.lisR_mk, Rf.r_slc, Rf.slR_mk, Rf.r_apd, Rf.apdR_mk, Rf.r_ext, Rf.extR_mk, Rf.r_ml, Rf.ml_lst, Rf.mlO_mk, Rf.r_rev, Rf.revR_mk, Rf.r_clr, Rf.clrR_mk, Rf.r_addRL, Rf.r_addRR, Rf.r_addLR, Rf.addR_mk, Rf.it_r, Rf.x_sset, Rf.ksset_lst, Rf.kw_eq, Rf.kwB_eq, Rf.kwN_eq, Rf.kwb_nx, Rf.kwb_ct, Rf.kwb_bk, Rf.kwb_rt, Rf.kfl_nx, Rf.kfl_ct, Rf.kfl_bk, Rf.kfl_rt, Rf.f_nil, Rf.f_cons, Rf.f_consT, Rf.f_consL, Rf.klcV_eq, Rf.kN_eq, Rf.klcB_eq, Rf.x_lcB, Rf.x_lcBT, Rf.x_lcBL, Rf.isO_eq, Rf.kl2_some, Rf.kl2_none, Rf.kl1_eq, Rf.l_nil, Rf.l_cons, Rf.o_addLL, Rf.o_addTT, Rf.it_r1, Rf.it_r2, Rf.it_r3, Rf.it_r4, Rf.it_r5, Rf.it_r6, Rf.c_isi1, Rf.c_isi2, Rf.c_isi3, Rf.ty_tup, Rf.ty_int, Rf.ty_str, Rf.ty_lst, Rf.ty_bl, Rf.ty_non, Rf.wipeS, Rf.op_mul, Rf.op_mul', Rf.t_len, Rf.t_app, Rf.t_at, Rf.t_at0, Rf.t_set, Rf.t_set0, Rf.t_fin, Rf.t_fin0, Rf.it_lst, Rf.slot0, Rf.slotS, Rf.ofS_inj, Rf.fin_x, Rf.fin_x0, Rf.u_non, Rf.u_bl, Rf.u_int, Rf.u_str, Rf.u_tup, Rf.u_lst, Rf.us_nil, Rf.us_cons, Rf.us_app, Rf.us_ints, Rf.D.str.injEq, Rf.D.int.injEq, Rf.setAll, decide_eq_true_eq, Bool.false_eq_true, if_true, if_false, Bool.not_true, Bool.not_false, decide_true, decide_false, decide_eq_false_iff_not, Option.map_some, Int.reduceNeg, Int.reduceDiv, Int.reduceMod, Int.reduceMul, Int.reduceSub, Int.reduceAdd, List.append_nil, List.map_nil, List.map_cons, List.foldl_nil, List.foldl_cons, List.zip_nil_left, List.zip_cons_cons, Option.isSome_some, Option.isSome_none, List.length_cons, List.length_nil, List.length_append, List.append_assoc, List.cons_append, List.nil_append, List.getElem?_cons_zero, List.getElem?_cons_succ, List.set_cons_zero, List.set_cons_succ, List.mem_cons, List.not_mem_nil, or_false, false_or, or_true, true_or, not_true_eq_false, not_false_eq_true, Bool.and_true, Bool.true_and, Bool.and_self, and_self, eq_self_iff_true, Nat.add_zero, Nat.zero_add, Rf.isS_eq, Rf.isE_eq, Rf.x_tzip, Rf.ktz_mk, $[$ts:term],*])
namespace Lw
open PySem Rf
theorem exch_run {k : Nat} {S : Store} {L : List Nat} (hp : ∀ x ∈ L, 1 ≤ x ∧ x ≤ 12) (hl : L.length ≤ 12) : run fns 1000 (k + 1) 10 [lD L] S = some (.tup ((ofL L).map dP), S) := by
  have it1 := fun S => it_rng (S := S) (n := L.length) (by omega)
  have ll : (iL L).length = L.length := by unfold iL; rw [List.length_map]
  refine of_isR ?_
  rw [e10]
  unfold b10 lD
  rw [lD_iL]
  exists List.length_map, ll, it1
  refine for_by (fun rest σ S' => ∃ (a c : Nat) (X : Store) (y2 y3 y4 : Option D), rest = (List.range' a c).map (fun i : Nat => D.int (i : Int)) ∧ a + c = L.length ∧ σ = [some (.tup ((iL L).map D.int)), some (.ref S.length), y2, y3, y4, none] ∧ S' = S ++ (.lst ((ofN 0 (L.take a)).map fun p => dP (pN p)) :: X)) (fun _ _ _ _ => rfl) ?_ ?_ ⟨0, L.length, [], _, _, _, by rw [List.range_eq_range'], by omega, rfl, rfl⟩
  · rintro z l σ S2 ⟨a, c, X, y2, y3, y4, q1, q2, rfl, rfl⟩
    cases c with
    | zero => cases q1
    | succ c =>
      rw [List.range'_succ, List.map_cons] at q1
      cases q1
      refine ⟨_, rfl, ?_⟩
      have hx := hp (L.getD a 0) (by rw [List.getD_eq_getElem?_getD, List.getElem?_eq_getElem (by omega)]; exact List.getElem_mem _)
      have ix : L2.atI ((iL L).map D.int) (a : Int) = some (.int ((L.getD a 0 : Nat) : Int)) := by
        rw [← lD_iL]; exact atN (f := nD) (l := L) (i := a) 0 (by omega)
      have ct : cut ((iL L).map D.int) none (some (a : Int)) = (iL (L.take a)).map D.int := cut_iL
      have bs := fun S => bi_sumT (S := S) (ns := iL (L.take a))
      rw [sum_iL] at bs
      have hs : (L.take a).sum ≤ 144 := by
        have := sum_le12 (L := L.take a) fun x hx => (hp x (List.mem_of_mem_take hx)).2
        rw [List.length_take] at this
        omega
      generalize hn : L.getD a 0 = n at *
      generalize hm : (L.take a).sum = m at *
      obtain ⟨M, hM⟩ : ∃ M : Int, M = (m : Int) := ⟨_, rfl⟩
      obtain ⟨N, hN⟩ : ∃ N : Int, N = (n : Int) := ⟨_, rfl⟩
      have it2 := fun S => it_rngAB (S := S) (a := m) (b := n) (x := M) (y := M + N - 1 + 1) hM (by omega) (by omega)
      rw [← hM] at bs
      rw [← hN] at ix
      exists ix, ct, bs, it2
      refine l_mapR (fun i : Nat => dP (pN (m + i, m + (i + 1) % n))) rfl (fun i hi => ?_) ?_
      · rw [List.mem_range] at hi
        by_cases c1 : i + 1 < n
        · have c2 : M + (i : Int) < M + N - 1 := by omega
          have e1 : M + (i : Int) = ((m + i : Nat) : Int) := by omega
          have e2 : M + (i : Int) + 1 = ((m + (i + 1) : Nat) : Int) := by omega
          unfold dP pN
          rw [Nat.mod_eq_of_lt c1, ← e1, ← e2]
          exists c2
        · have c2 : ¬ (M + (i : Int) < M + N - 1) := by omega
          have e : i + 1 = n := by omega
          have e1 : M + (i : Int) = ((m + i : Nat) : Int) := by omega
          unfold dP pN
          rw [e, Nat.mod_self, Nat.add_zero, ← e1, ← hM]
          exists c2
      · exists List.length_map, List.length_range, ofN_len
        refine ⟨a + 1, c, X, _, _, _, rfl, by omega, rfl, ?_⟩
        have e : L.take (a + 1) = L.take a ++ [n] := by
          rw [List.take_add_one, List.getElem?_eq_getElem (by omega), ← hn, List.getD_eq_getElem?_getD, List.getElem?_eq_getElem (by omega)]; rfl
        rw [e, ofN_snoc, hm, List.map_append, List.map_map, Nat.zero_add]
        rfl
  · rintro σ S2 ⟨a, c, X, y2, y3, y4, q1, q2, rfl, rfl⟩
    have hc : c = 0 := by
      cases c with
      | zero => rfl
      | succ c => rw [List.range'_succ, List.map_cons] at q1; cases q1
    subst hc
    have ha : L.take a = L := List.take_of_length_le (by omega)
    have e1 : (ofN 0 (L.take a)).map (fun p => dP (pN p)) = (ofL L).map dP := by rw [ha]; unfold ofL; rw [List.map_map]; rfl
    rw [e1]
    have u := und_prs (ofL L)
    exists u
end Lw

local macro_rules | `(tactic| exists $ts,*) => `(tactic| simp (disch := first | omega | assumption | (simp only [Rf.watch_cons, Rf.watch_n, Rf.cell_eq, Rf.cellO_l, Rf.g_at, Rf.g_at0, Rf.t_at, Rf.t_at0, Rf.t_lit, decide_true, Rf.u_non, Rf.u_bl, Rf.u_int, Rf.u_str, Rf.u_tup, Rf.u_lst, Rf.us_nil, Rf.us_cons, Rf.us_app, Rf.us_ints, Bool.and_true, Bool.and_self, List.getElem?_cons_zero, List.getElem?_cons_succ, List.length_map, List.length_append, List.length_cons, List.length_nil, List.length_reverse, Rf.isS_eq, Rf.isE_eq, Rf.x_tzip, Rf.ktz_mk, $[$ts:term],*]; first | done | omega) | decide +kernel) only [Rf.x_var, Rf.x_cst, Rf.x_bin, Rf.x_neg, Rf.x_cmp, Rf.x_chn, Rf.x_and, Rf.x_or, Rf.x_not, Rf.x_ite, Rf.x_tup, Rf.x_lis, Rf.x_call, Rf.x_bif, Rf.x_rngl, Rf.x_ext, Rf.x_mapd, Rf.x_mpop, Rf.x_mins, Rf.x_mrev, Rf.x_mclr, Rf.x_mcnt, Rf.x_isi, Rf.x_idx, Rf.x_slc, Rf.x_nop, Rf.x_ptv, Rf.x_ptc, Rf.x_ptb, Rf.x_ptn, Rf.x_ptf, Rf.x_rev, Rf.x_lc, Rf.x_dsp, Rf.x_rnil, Rf.x_rcons, Rf.x_mnil, Rf.x_mcons, Rf.x_nil, Rf.x_cons, Rf.x_asg, Rf.x_par, Rf.x_six, Rf.x_exp, Rf.x_ret, Rf.x_retn, Rf.x_ife, Rf.x_for, Rf.x_whl, Rf.x_pas, Rf.x_brk, Rf.x_cnt, Rf.p_some, Rf.p_someS, Rf.wO_some, Rf.wB_some, Rf.wC_t, Rf.wC_f, Rf.wC_y, Rf.wC_n, Rf.wC_no, Rf.kE_eq, Rf.kV_eq, Rf.kSs_eq, Rf.wI_some, Rf.wL_some, Rf.wT_some, Rf.wR_some, Rf.kMs_eq, Rf.kRs_eq, Rf.kbin2_eq, Rf.kbin1_eq, Rf.kneg_eq, Rf.kcmp2_eq, Rf.kcmp1_eq, Rf.kchn3_eq, Rf.kchnC_eq, Rf.kchn2_eq, Rf.kchn1_eq, Rf.kand_eq, Rf.kor_eq, Rf.knot_eq, Rf.kite_eq, Rf.ktup_eq, Rf.klis_eq, Rf.kcall_eq, Rf.kbif_eq, Rf.krng2_t, Rf.krng2_f, Rf.krng_eq, Rf.kmth3_eq, Rf.kmth_eq, Rf.kmthx_eq, Rf.kisi_eq, Rf.kidx2_eq, Rf.kidx1_eq, Rf.kslc3_eq, Rf.kslc2_eq, Rf.kslc1_eq, Rf.kpt_eq, Rf.krev_eq, Rf.krev_t, Rf.krev_r, Rf.klc2_eq, Rf.klc_eq, Rf.kR2_eq, Rf.kR1_eq, Rf.kM1_eq, Rf.kseq_nx, Rf.kseq_rt, Rf.kseq_bk, Rf.kseq_ct, Rf.kasg_nm, Rf.kasg_tp, Rf.kpar_eq, Rf.wS_some, Rf.ksix3_eq, Rf.ksix2_eq, Rf.ksix1_eq, Rf.kexp_eq, Rf.kret_eq, Rf.kif_eq, Rf.kfor2_eq, Rf.kfor_eq, Rf.finK_mk, Rf.finQ_rt, Rf.finQ_nx, Rf.isR_eq, Rf.m_non, Rf.m_bl, Rf.m_int, Rf.m_str, Rf.m_tup, Rf.m_ref, Rf.m_lst, Rf.at0, Rf.at1, Rf.at2, Rf.at3, Rf.at4, Rf.at5, Rf.i_tup, Rf.i_lst, Rf.cut1, Rf.sl_tup, Rf.sl_lst, Rf.q_tup, Rf.q_lst, Rf.q_ref, Rf.l_lst, Rf.l_ref, Rf.cell_eq, Rf.cellO_l, Rf.g_at, Rf.g_at0, Rf.g_set, Rf.g_set0, Rf.bi_lenT, Rf.bi_lenL, Rf.bi_tupL, Rf.bi_tupT, Rf.bi_lisT, Rf.bi_lisL, Rf.c_in, Rf.c_nin, Rf.c_inI, Rf.c_ninI, Rf.cm_gt, Rf.cm_ge, Rf.cm_lt, Rf.cm_le, Rf.cm_eq, Rf.cm_ne, Rf.cm_eqs, Rf.cm_nes, Rf.op_add, Rf.op_sub, Rf.op_mod, Rf.op_div, Rf.it_tup, Rf.lw_cons, Rf.lw_nil, Rf.klw_eq, Rf.zpO_mk, Rf.seqW_r, Rf.it_zipRR, Rf.fw_consT, Rf.fw_consL, Rf.fw_cons, Rf.fw_nil, Rf.kfw_rt, Rf.kfw_bk, Rf.kfw_ct, Rf.kfw_nx, Rf.dput_n, Rf.fndO_n, Rf.fndO_y, Rf.fnd_n, Rf.fnd_y, Rf.lk_n, Rf.lk_y, Rf.at_m1b, Rf.at_m1a, Rf.dspL_eq, Rf.dput_nil, Rf.sixR_mk, Rf.r_sixs, Rf.fndO_nil, Rf.ixS_mk, Rf.r_idxs, Rf.bi_max2, Rf.bi_min2, Rf.sA2, Rf.zipD_nil, Rf.zipD_cons, Rf.it_zipT, Rf.wU_mk, Rf.kunl_eq, Rf.x_unl, Rf.kdsp_mk, Rf.fnd_nil, Rf.wDq_mk, Rf.kdg3_s, Rf.kdg2_eq, Rf.wDg_mk, Rf.kdg1_r, Rf.x_dget, Rf.lk_nil, Rf.wDI_some, Rf.kdcix_s, Rf.x_dcix, Rf.kdcin_s, Rf.x_dcin, Rf.t_lit, Rf.t_lits, Rf.finO_mk, Rf.r_fin, Rf.r_fin0, Rf.rt_fin, Rf.rt_fin0, Rf.r_idx, Rf.ixR_l, Rf.ixR_d, Rf.r_len, Rf.lenR_mk, Rf.lenR_ro, Rf.lenR_d, Rf.x_maxd, Rf.kmaxd_lst, Rf.kmaxd_nil, Rf.r_tup, Rf.tupR_mk, Rf.r_lis, Rf.lisR_mk, Rf.r_slc, Rf.slR_mk, Rf.r_apd, Rf.apdR_mk, Rf.r_ext, Rf.extR_mk, Rf.r_ml, Rf.ml_lst, Rf.mlO_mk, Rf.r_rev, Rf.revR_mk, Rf.r_clr, Rf.clrR_mk, Rf.r_addRL, Rf.r_addRR, Rf.r_addLR, Rf.addR_mk, Rf.it_r, Rf.x_sset, Rf.ksset_lst, Rf.kw_eq, Rf.kwB_eq, Rf.kwN_eq, Rf.kwb_nx, Rf.kwb_ct, Rf.kwb_bk, Rf.kwb_rt, Rf.kfl_nx, Rf.kfl_ct, Rf.kfl_bk, Rf.kfl_rt, Rf.f_nil, Rf.f_cons, Rf.f_consT, Rf.f_consL, Rf.klcV_eq, Rf.kN_eq, Rf.klcB_eq, Rf.x_lcB, Rf.x_lcBT, Rf.x_lcBL, Rf.isO_eq, Rf.kl2_some, Rf.kl2_none, Rf.kl1_eq, Rf.l_nil, Rf.l_cons, Rf.o_addLL, Rf.o_addTT, Rf.it_r1, Rf.it_r2, Rf.it_r3, Rf.it_r4, Rf.it_r5, Rf.it_r6, Rf.c_isi1, Rf.c_isi2, Rf.c_isi3, Rf.ty_tup, Rf.ty_int, Rf.ty_str, Rf.ty_lst, Rf.ty_bl, Rf.ty_non, Rf.wipeS, Rf.op_mul, Rf.op_mul', Rf.t_len, Rf.t_app, Rf.t_at, Rf.t_at0, Rf.t_set, Rf.t_set0, Rf.t_fin, Rf.t_fin0, Rf.it_lst, Rf.slot0, Rf.slotS, Rf.ofS_inj, Rf.fin_x, Rf.fin_x0, Rf.u_non, Rf.u_bl, Rf.u_int, Rf.u_str, Rf.u_tup, Rf.u_lst, Rf.us_nil, Rf.us_cons, Rf.us_app, Rf.us_ints, Rf.D.str.injEq, Rf.D.int.injEq, Rf.setAll, decide_eq_true_eq, Bool.false_eq_true, if_true, if_false, Bool.not_true, Bool.not_false, decide_true, decide_false, decide_eq_false_iff_not, Option.map_some, Int.reduceNeg, Int.reduceDiv, Int.reduceMod, Int.reduceMul, Int.reduceSub, Int.reduceAdd, List.append_nil, List.map_nil, List.map_cons, List.foldl_nil, List.foldl_cons, List.zip_nil_left, List.zip_cons_cons, Option.isSome_some, Option.isSome_none, List.length_cons, List.length_nil, List.length_append, List.append_assoc, List.cons_append, List.nil_append, List.getElem?_cons_zero, List.getElem?_cons_succ, List.set_cons_zero, List.set_cons_succ, List.mem_cons, List.not_mem_nil, or_false, false_or, or_true, true_or, not_true_eq_false, not_false_eq_true, Bool.and_true, Bool.true_and, Bool.and_self, and_self, eq_self_iff_true, Nat.add_zero, Nat.zero_add, Rf.isS_eq, Rf.isE_eq, Rf.x_tzip, Rf.ktz_mk, $[$ts:term],*])
namespace Lw
open PySem Rf
/-- the law's own count -/
theorem lawM_succ {f : Nat} {L : List Nat} : lawM (f + 1) L = if L.length = 0 then 1 else (List.range L.length).foldl (fun (acc : Int) (k : Nat) => if L.getD k 0 ∈ L.take k then acc else acc + waysI (L.sum : Nat) (L.getD k 0) * lawM f (L.take k ++ L.drop (k + 1))) 0 := rfl
theorem lawM_step {f k : Nat} {S : Store} {L : List Nat} (ih : 0 < f → ∀ {S : Store} {L : List Nat}, (∀ x ∈ L, 1 ≤ x) → L.length ≤ f - 1 → L.sum ≤ 12 → run fns 1000 (k + f) 11 [lD L] S = some (.int (lawM f L), S)) (hp : ∀ x ∈ L, 1 ≤ x) (hf : L.length ≤ f) (hs : L.sum ≤ 12) : run fns 1000 (k + f + 1) 11 [lD L] S = some (.int (lawM (f + 1) L), S) := by
    have hl := len_sumN hp
    have ll : (iL L).length = L.length := by unfold iL; rw [List.length_map]
    have it1 := fun S => it_rng (S := S) (n := L.length) (by omega)
    have bs := fun S => bi_sumT (S := S) (ns := iL L)
    rw [sum_iL] at bs
    refine of_isR ?_
    rw [e11]
    unfold b11 lD
    rw [lD_iL]
    by_cases c0 : L.length = 0
    · have c1 : ((L.length : Nat) : Int) = 0 := by omega
      have e : lawM (f + 1) L = 1 := by rw [lawM_succ, if_pos c0]
      rw [e]
      exists List.length_map, ll, c1
    have c1 : ¬ ((L.length : Nat) : Int) = 0 := by omega
    exists List.length_map, ll, c1, bs, it1
    refine for_by (fun rest σ S' => ∃ (a c : Nat) (y3 y4 y5 : Option D), rest = (List.range' a c).map (fun i : Nat => D.int (i : Int)) ∧ a + c = L.length ∧ σ = [some (.tup ((iL L).map D.int)), some (.int (L.sum : Nat)), some (.int ((List.range a).foldl (fun (acc : Int) (k : Nat) => if L.getD k 0 ∈ L.take k then acc else acc + waysI (L.sum : Nat) (L.getD k 0) * lawM f (L.take k ++ L.drop (k + 1))) 0)), y3, y4, y5] ∧ S' = S) (fun _ _ _ _ => rfl) ?_ ?_ ⟨0, L.length, _, _, _, by rw [List.range_eq_range'], by omega, rfl, rfl⟩
    · rintro z l σ S2 ⟨a, c, y3, y4, y5, q1, q2, rfl, rfl⟩
      cases c with
      | zero => cases q1
      | succ c =>
        rw [List.range'_succ, List.map_cons] at q1
        cases q1
        refine ⟨_, rfl, ?_⟩
        have hm : L.getD a 0 ∈ L := by rw [List.getD_eq_getElem?_getD, List.getElem?_eq_getElem (by omega)]; exact List.getElem_mem _
        have hx := hp _ hm
        have ix : L2.atI ((iL L).map D.int) (a : Int) = some (.int ((L.getD a 0 : Nat) : Int)) := by
          rw [← lD_iL]; exact atN (f := nD) (l := L) (i := a) 0 (by omega)
        have ct : cut ((iL L).map D.int) none (some (a : Int)) = (iL (L.take a)).map D.int := cut_iL
        have cd : cut ((iL L).map D.int) (some ((a : Int) + 1)) none = (iL (L.drop (a + 1))).map D.int := by
          have e : iL (L.drop (a + 1)) = (iL L).drop (a + 1) := by unfold iL; rw [List.map_drop]
          rw [e]; exact cut_dpm
        have ni := fun S => c_ninI (S := S) (b := .tup ((iL (L.take a)).map D.int)) (i := ((L.getD a 0 : Nat) : Int)) (ns := iL (L.take a)) rfl
        have em : ((L.getD a 0 : Nat) : Int) ∈ iL (L.take a) ↔ L.getD a 0 ∈ L.take a := by
          unfold iL
          rw [List.mem_map]
          constructor
          · rintro ⟨x, hx, e⟩
            have : x = L.getD a 0 := by omega
            rw [← this]; exact hx
          · intro h; exact ⟨_, h, rfl⟩
        by_cases c2 : L.getD a 0 ∈ L.take a
        · have c3 := em.mpr c2
          exists ix, ct, ni, c3
          exact ⟨a + 1, c, _, _, _, rfl, by omega, by rw [List.range_succ, foldI, if_pos c2], by trivial⟩
        · have c3 : ¬ _ := fun h => c2 (em.mp h)
          obtain ⟨m, hmn⟩ : ∃ m, L.getD a 0 = m + 1 := ⟨L.getD a 0 - 1, by omega⟩
          have le : L.getD a 0 ≤ L.sum := le_sumN hm
          obtain ⟨N, hN⟩ : ∃ N : Int, N = ((L.getD a 0 : Nat) : Int) := ⟨_, rfl⟩
          have it2 := fun S => it_rngAB (S := S) (a := 1) (b := m) (x := 1) (y := N) rfl (by omega) (by omega)
          rw [← hN] at ix ni c3
          exists ix, ct, ni, c3, it2
          refine for_by (fun rest σ S' => ∃ (b d : Nat) (y5 : Option D), rest = (List.range' b d).map (fun i : Nat => D.int (1 + (i : Int))) ∧ b + d = m ∧ σ = [some (.tup ((iL L).map D.int)), some (.int (L.sum : Nat)), some (.int ((List.range a).foldl (fun (acc : Int) (k : Nat) => if L.getD k 0 ∈ L.take k then acc else acc + waysI (L.sum : Nat) (L.getD k 0) * lawM f (L.take k ++ L.drop (k + 1))) 0)), some (.int (a : Int)), some (.int (waysI (L.sum : Nat) (b + 1))), y5] ∧ S' = S2) (fun _ _ _ _ => rfl) ?_ ?_ ⟨0, m, _, by rw [List.range_eq_range'], by omega, rfl, rfl⟩
          · rintro z3 l3 σ3 S3 ⟨b, d, y5, r1, r2, rfl, rfl⟩
            cases d with
            | zero => cases r1
            | succ d =>
              rw [List.range'_succ, List.map_cons] at r1
              cases r1
              refine ⟨_, rfl, ?_⟩
              exists if_true
              refine ⟨b + 1, d, some (.int (1 + (b : Int))), rfl, by omega, ?_, by trivial⟩
              have e : waysI (L.sum : Nat) (b + 1 + 1) = waysI (L.sum : Nat) (b + 1) * ((L.sum : Nat) - (1 + (b : Int))) := by
                unfold waysI
                rw [Nat.add_sub_cancel, Nat.add_sub_cancel, List.range_succ, foldI]
              rw [e]
          · rintro σ3 S3 ⟨b, d, y5, r1, r2, rfl, rfl⟩
            have hd : d = 0 := by
              cases d with
              | zero => rfl
              | succ d => rw [List.range'_succ, List.map_cons] at r1; cases r1
            subst hd
            have hb : b = m := by omega
            subst hb
            have eT : (iL (L.take a)).map D.int ++ (iL (L.drop (a + 1))).map D.int = (L.take a ++ L.drop (a + 1)).map nD := by
              rw [lD_iL, ← List.map_append]; unfold iL; rw [← List.map_append]
            have lt : ((iL (L.take a)).map D.int).length + ((iL (L.drop (a + 1))).map D.int).length ≤ 100 := by unfold iL; simp; omega
            have cs := cutSum (L := L) (a := a) (by omega)
            have rec_ := fun S => ih (by omega) (S := S) (L := L.take a ++ L.drop (a + 1)) (fun x hx => by
              rcases List.mem_append.mp hx with hx | hx
              · exact hp x (List.mem_of_mem_take hx)
              · exact hp x (List.mem_of_mem_drop hx)) (by omega) (by omega)
            unfold lD at rec_
            have wb := ways_s hs (n := b + 1) (by omega)
            generalize hW : waysI (L.sum : Nat) (b + 1) = W at *
            generalize hV : lawM f (L.take a ++ L.drop (a + 1)) = V at *
            generalize hU : (List.range a).foldl (fun (acc : Int) (k : Nat) => if L.getD k 0 ∈ L.take k then acc else acc + waysI (L.sum : Nat) (L.getD k 0) * lawM f (L.take k ++ L.drop (k + 1))) 0 = U at *
            exists ct, cd, eT, lt, rec_, wb
            refine ⟨a + 1, c, some (.int (a : Int)), some (.int W), y5, rfl, by omega, ?_, by trivial⟩
            rw [List.range_succ, foldI, if_neg c2, hU, hV, hmn, hW]
    · rintro σ S2 ⟨a, c, y3, y4, y5, q1, q2, rfl, rfl⟩
      have hc : c = 0 := by
        cases c with
        | zero => rfl
        | succ c => rw [List.range'_succ, List.map_cons] at q1; cases q1
      subst hc
      have ha : a = L.length := by omega
      subst ha
      have e : lawM (f + 1) L = (List.range L.length).foldl (fun (acc : Int) (k : Nat) => if L.getD k 0 ∈ L.take k then acc else acc + waysI (L.sum : Nat) (L.getD k 0) * lawM f (L.take k ++ L.drop (k + 1))) 0 := by
        rw [lawM_succ, if_neg c0]
      rw [← e]
      generalize lawM (f + 1) L = R
      exists if_true
theorem lawM_run {k : Nat} : ∀ (f : Nat) {S : Store} {L : List Nat}, (∀ x ∈ L, 1 ≤ x) → L.length ≤ f → L.sum ≤ 12 → run fns 1000 (k + f + 1) 11 [lD L] S = some (.int (lawM (f + 1) L), S) := by
  intro f
  induction f with
  | zero => intro S L hp hf hs; exact lawM_step (f := 0) (k := k) (fun h => absurd h (Nat.not_lt_zero _)) hp hf hs
  | succ f ih =>
    intro S L hp hf hs
    refine lawM_step (f := f + 1) (k := k) (fun _ => ?_) hp hf hs
    intro S L hp hf hs
    have h := ih (S := S) (L := L) hp (by omega) hs
    rw [Nat.add_assoc] at h
    exact h
end Lw

local macro_rules | `(tactic| exists $ts,*) => `(tactic| simp (disch := first | omega | assumption | (simp only [Rf.watch_cons, Rf.watch_n, Rf.cell_eq, Rf.cellO_l, Rf.g_at, Rf.g_at0, Rf.t_at, Rf.t_at0, Rf.t_lit, decide_true, Rf.u_non, Rf.u_bl, Rf.u_int, Rf.u_str, Rf.u_tup, Rf.u_lst, Rf.us_nil, Rf.us_cons, Rf.us_app, Rf.us_ints, Bool.and_true, Bool.and_self, List.getElem?_cons_zero, List.getElem?_cons_succ, List.length_map, List.length_append, List.length_cons, List.length_nil, List.length_reverse, Rf.isS_eq, Rf.isE_eq, Rf.x_tzip, Rf.ktz_mk, $[$ts:term],*]; first | done | omega) | decide +kernel) only [Rf.x_var, Rf.x_cst, Rf.x_bin, Rf.x_neg, Rf.x_cmp, Rf.x_chn, Rf.x_and, Rf.x_or, Rf.x_not, Rf.x_ite, Rf.x_tup, Rf.x_lis, Rf.x_call, Rf.x_bif, Rf.x_rngl, Rf.x_ext, Rf.x_mapd, Rf.x_mpop, Rf.x_mins, Rf.x_mrev, Rf.x_mclr, Rf.x_mcnt, Rf.x_isi, Rf.x_idx, Rf.x_slc, Rf.x_nop, Rf.x_ptv, Rf.x_ptc, Rf.x_ptb, Rf.x_ptn, Rf.x_ptf, Rf.x_rev, Rf.x_lc, Rf.x_dsp, Rf.x_rnil, Rf.x_rcons, Rf.x_mnil, Rf.x_mcons, Rf.x_nil, Rf.x_cons, Rf.x_asg, Rf.x_par, Rf.x_six, Rf.x_exp, Rf.x_ret, Rf.x_retn, Rf.x_ife, Rf.x_for, Rf.x_whl, Rf.x_pas, Rf.x_brk, Rf.x_cnt, Rf.p_some, Rf.p_someS, Rf.wO_some, Rf.wB_some, Rf.wC_t, Rf.wC_f, Rf.wC_y, Rf.wC_n, Rf.wC_no, Rf.kE_eq, Rf.kV_eq, Rf.kSs_eq, Rf.wI_some, Rf.wL_some, Rf.wT_some, Rf.wR_some, Rf.kMs_eq, Rf.kRs_eq, Rf.kbin2_eq, Rf.kbin1_eq, Rf.kneg_eq, Rf.kcmp2_eq, Rf.kcmp1_eq, Rf.kchn3_eq, Rf.kchnC_eq, Rf.kchn2_eq, Rf.kchn1_eq, Rf.kand_eq, Rf.kor_eq, Rf.knot_eq, Rf.kite_eq, Rf.ktup_eq, Rf.klis_eq, Rf.kcall_eq, Rf.kbif_eq, Rf.krng2_t, Rf.krng2_f, Rf.krng_eq, Rf.kmth3_eq, Rf.kmth_eq, Rf.kmthx_eq, Rf.kisi_eq, Rf.kidx2_eq, Rf.kidx1_eq, Rf.kslc3_eq, Rf.kslc2_eq, Rf.kslc1_eq, Rf.kpt_eq, Rf.krev_eq, Rf.krev_t, Rf.krev_r, Rf.klc2_eq, Rf.klc_eq, Rf.kR2_eq, Rf.kR1_eq, Rf.kM1_eq, Rf.kseq_nx, Rf.kseq_rt, Rf.kseq_bk, Rf.kseq_ct, Rf.kasg_nm, Rf.kasg_tp, Rf.kpar_eq, Rf.wS_some, Rf.ksix3_eq, Rf.ksix2_eq, Rf.ksix1_eq, Rf.kexp_eq, Rf.kret_eq, Rf.kif_eq, Rf.kfor2_eq, Rf.kfor_eq, Rf.finK_mk, Rf.finQ_rt, Rf.finQ_nx, Rf.isR_eq, Rf.m_non, Rf.m_bl, Rf.m_int, Rf.m_str, Rf.m_tup, Rf.m_ref, Rf.m_lst, Rf.at0, Rf.at1, Rf.at2, Rf.at3, Rf.at4, Rf.at5, Rf.i_tup, Rf.i_lst, Rf.cut1, Rf.sl_tup, Rf.sl_lst, Rf.q_tup, Rf.q_lst, Rf.q_ref, Rf.l_lst, Rf.l_ref, Rf.cell_eq, Rf.cellO_l, Rf.g_at, Rf.g_at0, Rf.g_set, Rf.g_set0, Rf.bi_lenT, Rf.bi_lenL, Rf.bi_tupL, Rf.bi_tupT, Rf.bi_lisT, Rf.bi_lisL, Rf.c_in, Rf.c_nin, Rf.c_inI, Rf.c_ninI, Rf.cm_gt, Rf.cm_ge, Rf.cm_lt, Rf.cm_le, Rf.cm_eq, Rf.cm_ne, Rf.cm_eqs, Rf.cm_nes, Rf.op_add, Rf.op_sub, Rf.op_mod, Rf.op_div, Rf.it_tup, Rf.lw_cons, Rf.lw_nil, Rf.klw_eq, Rf.zpO_mk, Rf.seqW_r, Rf.it_zipRR, Rf.fw_consT, Rf.fw_consL, Rf.fw_cons, Rf.fw_nil, Rf.kfw_rt, Rf.kfw_bk, Rf.kfw_ct, Rf.kfw_nx, Rf.dput_n, Rf.fndO_n, Rf.fndO_y, Rf.fnd_n, Rf.fnd_y, Rf.lk_n, Rf.lk_y, Rf.at_m1b, Rf.at_m1a, Rf.dspL_eq, Rf.dput_nil, Rf.sixR_mk, Rf.r_sixs, Rf.fndO_nil, Rf.ixS_mk, Rf.r_idxs, Rf.bi_max2, Rf.bi_min2, Rf.sA2, Rf.zipD_nil, Rf.zipD_cons, Rf.it_zipT, Rf.wU_mk, Rf.kunl_eq, Rf.x_unl, Rf.kdsp_mk, Rf.fnd_nil, Rf.wDq_mk, Rf.kdg3_s, Rf.kdg2_eq, Rf.wDg_mk, Rf.kdg1_r, Rf.x_dget, Rf.lk_nil, Rf.wDI_some, Rf.kdcix_s, Rf.x_dcix, Rf.kdcin_s, Rf.x_dcin, Rf.t_lit, Rf.t_lits, Rf.finO_mk, Rf.r_fin, Rf.r_fin0, Rf.rt_fin, Rf.rt_fin0, Rf.r_idx, Rf.ixR_l, Rf.ixR_d, Rf.r_len, Rf.lenR_mk, Rf.lenR_ro, Rf.lenR_d, Rf.x_maxd, Rf.kmaxd_lst, Rf.kmaxd_nil, Rf.r_tup, Rf.tupR_mk, Rf.r_lis, Rf.lisR_mk, Rf.r_slc, Rf.slR_mk, Rf.r_apd, Rf.apdR_mk, Rf.r_ext, Rf.extR_mk, Rf.r_ml, Rf.ml_lst, Rf.mlO_mk, Rf.r_rev, Rf.revR_mk, Rf.r_clr, Rf.clrR_mk, Rf.r_addRL, Rf.r_addRR, Rf.r_addLR, Rf.addR_mk, Rf.it_r, Rf.x_sset, Rf.ksset_lst, Rf.kw_eq, Rf.kwB_eq, Rf.kwN_eq, Rf.kwb_nx, Rf.kwb_ct, Rf.kwb_bk, Rf.kwb_rt, Rf.kfl_nx, Rf.kfl_ct, Rf.kfl_bk, Rf.kfl_rt, Rf.f_nil, Rf.f_cons, Rf.f_consT, Rf.f_consL, Rf.klcV_eq, Rf.kN_eq, Rf.klcB_eq, Rf.x_lcB, Rf.x_lcBT, Rf.x_lcBL, Rf.isO_eq, Rf.kl2_some, Rf.kl2_none, Rf.kl1_eq, Rf.l_nil, Rf.l_cons, Rf.o_addLL, Rf.o_addTT, Rf.it_r1, Rf.it_r2, Rf.it_r3, Rf.it_r4, Rf.it_r5, Rf.it_r6, Rf.c_isi1, Rf.c_isi2, Rf.c_isi3, Rf.ty_tup, Rf.ty_int, Rf.ty_str, Rf.ty_lst, Rf.ty_bl, Rf.ty_non, Rf.wipeS, Rf.op_mul, Rf.op_mul', Rf.t_len, Rf.t_app, Rf.t_at, Rf.t_at0, Rf.t_set, Rf.t_set0, Rf.t_fin, Rf.t_fin0, Rf.it_lst, Rf.slot0, Rf.slotS, Rf.ofS_inj, Rf.fin_x, Rf.fin_x0, Rf.u_non, Rf.u_bl, Rf.u_int, Rf.u_str, Rf.u_tup, Rf.u_lst, Rf.us_nil, Rf.us_cons, Rf.us_app, Rf.us_ints, Rf.D.str.injEq, Rf.D.int.injEq, Rf.setAll, decide_eq_true_eq, Bool.false_eq_true, if_true, if_false, Bool.not_true, Bool.not_false, decide_true, decide_false, decide_eq_false_iff_not, Option.map_some, Int.reduceNeg, Int.reduceDiv, Int.reduceMod, Int.reduceMul, Int.reduceSub, Int.reduceAdd, List.append_nil, List.map_nil, List.map_cons, List.foldl_nil, List.foldl_cons, List.zip_nil_left, List.zip_cons_cons, Option.isSome_some, Option.isSome_none, List.length_cons, List.length_nil, List.length_append, List.append_assoc, List.cons_append, List.nil_append, List.getElem?_cons_zero, List.getElem?_cons_succ, List.set_cons_zero, List.set_cons_succ, List.mem_cons, List.not_mem_nil, or_false, false_or, or_true, true_or, not_true_eq_false, not_false_eq_true, Bool.and_true, Bool.true_and, Bool.and_self, and_self, eq_self_iff_true, Nat.add_zero, Nat.zero_add, Rf.isS_eq, Rf.isE_eq, Rf.x_tzip, Rf.ktz_mk, $[$ts:term],*])
namespace Lw
open PySem Rf
theorem it_rngNM {n m : Nat} {x y : Int} {S : Store} (hx : x = (m : Int)) (hy : y = (n : Int) + 1) (h : n ≤ 1000) (h2 : m ≤ 1000) : itemsS .rng [.int x, .int y] S = some ((List.range (n + 1 - m)).map fun i : Nat => .int (x + (i : Int)), []) := by
  have e : (y - x).toNat = n + 1 - m := by omega
  rw [it_rngX (by omega) (by omega) (by omega) (by omega) (by omega), e]
theorem prtB : ∀ f ∈ List.range 8, ∀ n ∈ List.range 7, ∀ m ∈ List.range 7, (prt f n (m + 1)).length ≤ 100 ∧ ∀ L ∈ prt f n (m + 1), L.length ≤ 12 := by decide +kernel
def goA (f n m i : Nat) : List (List Nat) := (prt f (n - (m + i)) (m + i)).map ((m + i) :: ·)
theorem prt_succ {f n m : Nat} : prt (f + 1) n m = (if n = 0 then [[]] else []) ++ (List.range (n + 1 - m)).flatMap (goA f n m) := rfl
theorem lD_cons {x : Nat} {L : List Nat} : lD (x :: L) = .tup (D.int (x : Int) :: L.map nD) := rfl
theorem und_lDs : ∀ Ls : List (List Nat), D.unders 0 (Ls.map lD) = true
  | [] => rfl
  | L :: Ls => by simp only [List.map_cons, D.unders, und_lDs Ls, und_lD]; rfl
theorem lawAll_run {k : Nat} : ∀ (f : Nat) {S : Store} {n m : Nat}, n < f → f ≤ 7 → n ≤ 6 → 1 ≤ m → m ≤ 7 → run fns 1000 (k + f) 12 [.int (n : Int), .int (m : Int)] S = some (.lst ((prt f n m).map lD), S)
  | 0, _, _, _, h, _, _, _, _ => absurd h (Nat.not_lt_zero _)
  | f + 1, S, n, m, hn, hf, h6, m1, m7 => by
    have pl : (prt (f + 1) n m).length ≤ 100 := by
      have := (prtB (f + 1) (by rw [List.mem_range]; omega) n (by rw [List.mem_range]; omega) (m - 1) (by rw [List.mem_range]; omega)).1
      rwa [Nat.sub_add_cancel m1] at this
    obtain ⟨M, hM⟩ : ∃ M : Int, M = (m : Int) := ⟨_, rfl⟩
    obtain ⟨N, hN⟩ : ∃ N : Int, N = (n : Int) := ⟨_, rfl⟩
    have it1 := fun S => it_rngNM (S := S) (n := n) (m := m) (x := M) (y := N + 1) hM (by omega) (by omega) (by omega)
    rw [← hM, ← hN]
    refine of_isR ?_
    rw [← Nat.add_assoc, e12]
    unfold b12
    by_cases c0 : n = 0
    · have c1 : N = 0 := by omega
      have it0 := fun S => it_rngNM (S := S) (n := 0) (m := m) (x := M) (y := 1) hM rfl (by omega) (by omega)
      have e0 : 0 + 1 - m = 0 := by omega
      simp only [e0, List.range_zero, List.map_nil] at it0
      have e : prt (f + 1) n m = [[]] := by rw [prt_succ, if_pos c0, c0, e0]; rfl
      have u := und_lDs [[]]
      rw [e]
      unfold lD at u ⊢
      exists c1, it0, u
    · have c1 : ¬ N = 0 := by omega
      exists c1, it1
      refine for_by (fun rest σ S' => ∃ (a c : Nat) (xs : List (List Nat)) (X : Store) (y3 y4 : Option D), rest = (List.range' a c).map (fun i : Nat => D.int (M + (i : Int))) ∧ a + c = n + 1 - m ∧ xs ++ (List.range' a c).flatMap (goA f n m) = prt (f + 1) n m ∧ σ = [some (.int N), some (.int M), some (.ref S.length), y3, y4] ∧ S' = S ++ (.lst (xs.map lD) :: X)) (fun _ _ _ _ => rfl) ?_ ?_ ⟨0, n + 1 - m, [], [], _, _, by rw [List.range_eq_range'], by omega, by rw [prt_succ, List.range_eq_range', if_neg c0], rfl, rfl⟩
      · rintro z l σ S2 ⟨a, c, xs, X, y3, y4, q1, q2, q3, rfl, rfl⟩
        cases c with
        | zero => cases q1
        | succ c =>
          rw [List.range'_succ, List.map_cons] at q1
          rw [List.range'_succ, List.flatMap_cons, ← List.append_assoc] at q3
          cases q1
          refine ⟨_, rfl, ?_⟩
          have ra := fun S => lawAll_run (k := k) f (S := S) (n := n - (m + a)) (m := m + a) (by omega) (by omega) (by omega) (by omega) (by omega)
          have e1 : ((n - (m + a) : Nat) : Int) = N - (M + (a : Int)) := by omega
          have e2 : ((m + a : Nat) : Int) = M + (a : Int) := by omega
          rw [e1, e2] at ra
          have hl : xs.length + (goA f n m a).length ≤ 100 := by
            have := congrArg List.length q3
            simp only [List.length_append] at this
            omega
          have gl : (goA f n m a).length = (prt f (n - (m + a)) (m + a)).length := by unfold goA; rw [List.length_map]
          exists ra
          refine l_mapR (fun L => lD ((m + a) :: L)) rfl (fun L hL => ?_) ?_
          · have ll := (prtB f (by rw [List.mem_range]; omega) (n - (m + a)) (by rw [List.mem_range]; omega) (m + a - 1) (by rw [List.mem_range]; omega)).2 L (by rwa [Nat.sub_add_cancel (by omega)])
            rw [lD_cons, e2]
            unfold lD
            exists ll, List.length_map
          · exists List.length_map, hl, gl
            refine ⟨a + 1, c, xs ++ goA f n m a, X, _, _, rfl, by omega, q3, rfl, ?_⟩
            rw [List.map_append]
            unfold goA
            rw [List.map_map]
            rfl
      · rintro σ S2 ⟨a, c, xs, X, y3, y4, q1, q2, q3, rfl, rfl⟩
        have hc : c = 0 := by
          cases c with
          | zero => rfl
          | succ c => rw [List.range'_succ, List.map_cons] at q1; cases q1
        subst hc
        have e : xs = prt (f + 1) n m := by simpa using q3
        subst e
        have u := und_lDs (prt (f + 1) n m)
        exists u
end Lw

local macro_rules | `(tactic| exists $ts,*) => `(tactic| simp (disch := first | omega | assumption | (simp only [Rf.watch_cons, Rf.watch_n, Rf.cell_eq, Rf.cellO_l, Rf.g_at, Rf.g_at0, Rf.t_at, Rf.t_at0, Rf.t_lit, decide_true, Rf.u_non, Rf.u_bl, Rf.u_int, Rf.u_str, Rf.u_tup, Rf.u_lst, Rf.us_nil, Rf.us_cons, Rf.us_app, Rf.us_ints, Bool.and_true, Bool.and_self, List.getElem?_cons_zero, List.getElem?_cons_succ, List.length_map, List.length_append, List.length_cons, List.length_nil, List.length_reverse, Rf.isS_eq, Rf.isE_eq, Rf.x_tzip, Rf.ktz_mk, $[$ts:term],*]; first | done | omega) | decide +kernel) only [Rf.x_var, Rf.x_cst, Rf.x_bin, Rf.x_neg, Rf.x_cmp, Rf.x_chn, Rf.x_and, Rf.x_or, Rf.x_not, Rf.x_ite, Rf.x_tup, Rf.x_lis, Rf.x_call, Rf.x_bif, Rf.x_rngl, Rf.x_ext, Rf.x_mapd, Rf.x_mpop, Rf.x_mins, Rf.x_mrev, Rf.x_mclr, Rf.x_mcnt, Rf.x_isi, Rf.x_idx, Rf.x_slc, Rf.x_nop, Rf.x_ptv, Rf.x_ptc, Rf.x_ptb, Rf.x_ptn, Rf.x_ptf, Rf.x_rev, Rf.x_lc, Rf.x_dsp, Rf.x_rnil, Rf.x_rcons, Rf.x_mnil, Rf.x_mcons, Rf.x_nil, Rf.x_cons, Rf.x_asg, Rf.x_par, Rf.x_six, Rf.x_exp, Rf.x_ret, Rf.x_retn, Rf.x_ife, Rf.x_for, Rf.x_whl, Rf.x_pas, Rf.x_brk, Rf.x_cnt, Rf.p_some, Rf.p_someS, Rf.wO_some, Rf.wB_some, Rf.wC_t, Rf.wC_f, Rf.wC_y, Rf.wC_n, Rf.wC_no, Rf.kE_eq, Rf.kV_eq, Rf.kSs_eq, Rf.wI_some, Rf.wL_some, Rf.wT_some, Rf.wR_some, Rf.kMs_eq, Rf.kRs_eq, Rf.kbin2_eq, Rf.kbin1_eq, Rf.kneg_eq, Rf.kcmp2_eq, Rf.kcmp1_eq, Rf.kchn3_eq, Rf.kchnC_eq, Rf.kchn2_eq, Rf.kchn1_eq, Rf.kand_eq, Rf.kor_eq, Rf.knot_eq, Rf.kite_eq, Rf.ktup_eq, Rf.klis_eq, Rf.kcall_eq, Rf.kbif_eq, Rf.krng2_t, Rf.krng2_f, Rf.krng_eq, Rf.kmth3_eq, Rf.kmth_eq, Rf.kmthx_eq, Rf.kisi_eq, Rf.kidx2_eq, Rf.kidx1_eq, Rf.kslc3_eq, Rf.kslc2_eq, Rf.kslc1_eq, Rf.kpt_eq, Rf.krev_eq, Rf.krev_t, Rf.krev_r, Rf.klc2_eq, Rf.klc_eq, Rf.kR2_eq, Rf.kR1_eq, Rf.kM1_eq, Rf.kseq_nx, Rf.kseq_rt, Rf.kseq_bk, Rf.kseq_ct, Rf.kasg_nm, Rf.kasg_tp, Rf.kpar_eq, Rf.wS_some, Rf.ksix3_eq, Rf.ksix2_eq, Rf.ksix1_eq, Rf.kexp_eq, Rf.kret_eq, Rf.kif_eq, Rf.kfor2_eq, Rf.kfor_eq, Rf.finK_mk, Rf.finQ_rt, Rf.finQ_nx, Rf.isR_eq, Rf.m_non, Rf.m_bl, Rf.m_int, Rf.m_str, Rf.m_tup, Rf.m_ref, Rf.m_lst, Rf.at0, Rf.at1, Rf.at2, Rf.at3, Rf.at4, Rf.at5, Rf.i_tup, Rf.i_lst, Rf.cut1, Rf.sl_tup, Rf.sl_lst, Rf.q_tup, Rf.q_lst, Rf.q_ref, Rf.l_lst, Rf.l_ref, Rf.cell_eq, Rf.cellO_l, Rf.g_at, Rf.g_at0, Rf.g_set, Rf.g_set0, Rf.bi_lenT, Rf.bi_lenL, Rf.bi_tupL, Rf.bi_tupT, Rf.bi_lisT, Rf.bi_lisL, Rf.c_in, Rf.c_nin, Rf.c_inI, Rf.c_ninI, Rf.cm_gt, Rf.cm_ge, Rf.cm_lt, Rf.cm_le, Rf.cm_eq, Rf.cm_ne, Rf.cm_eqs, Rf.cm_nes, Rf.op_add, Rf.op_sub, Rf.op_mod, Rf.op_div, Rf.it_tup, Rf.lw_cons, Rf.lw_nil, Rf.klw_eq, Rf.zpO_mk, Rf.seqW_r, Rf.it_zipRR, Rf.fw_consT, Rf.fw_consL, Rf.fw_cons, Rf.fw_nil, Rf.kfw_rt, Rf.kfw_bk, Rf.kfw_ct, Rf.kfw_nx, Rf.dput_n, Rf.fndO_n, Rf.fndO_y, Rf.fnd_n, Rf.fnd_y, Rf.lk_n, Rf.lk_y, Rf.at_m1b, Rf.at_m1a, Rf.dspL_eq, Rf.dput_nil, Rf.sixR_mk, Rf.r_sixs, Rf.fndO_nil, Rf.ixS_mk, Rf.r_idxs, Rf.bi_max2, Rf.bi_min2, Rf.sA2, Rf.zipD_nil, Rf.zipD_cons, Rf.it_zipT, Rf.wU_mk, Rf.kunl_eq, Rf.x_unl, Rf.kdsp_mk, Rf.fnd_nil, Rf.wDq_mk, Rf.kdg3_s, Rf.kdg2_eq, Rf.wDg_mk, Rf.kdg1_r, Rf.x_dget, Rf.lk_nil, Rf.wDI_some, Rf.kdcix_s, Rf.x_dcix, Rf.kdcin_s, Rf.x_dcin, Rf.t_lit, Rf.t_lits, Rf.finO_mk, Rf.r_fin, Rf.r_fin0, Rf.rt_fin, Rf.rt_fin0, Rf.r_idx, Rf.ixR_l, Rf.ixR_d, Rf.r_len, Rf.lenR_mk, Rf.lenR_ro, Rf.lenR_d, Rf.x_maxd, Rf.kmaxd_lst, Rf.kmaxd_nil, Rf.r_tup, Rf.tupR_mk, Rf.r_lis, Rf.lisR_mk, Rf.r_slc, Rf.slR_mk, Rf.r_apd, Rf.apdR_mk, Rf.r_ext, Rf.extR_mk, Rf.r_ml, Rf.ml_lst, Rf.mlO_mk, Rf.r_rev, Rf.revR_mk, Rf.r_clr, Rf.clrR_mk, Rf.r_addRL, Rf.r_addRR, Rf.r_addLR, Rf.addR_mk, Rf.it_r, Rf.x_sset, Rf.ksset_lst, Rf.kw_eq, Rf.kwB_eq, Rf.kwN_eq, Rf.kwb_nx, Rf.kwb_ct, Rf.kwb_bk, Rf.kwb_rt, Rf.kfl_nx, Rf.kfl_ct, Rf.kfl_bk, Rf.kfl_rt, Rf.f_nil, Rf.f_cons, Rf.f_consT, Rf.f_consL, Rf.klcV_eq, Rf.kN_eq, Rf.klcB_eq, Rf.x_lcB, Rf.x_lcBT, Rf.x_lcBL, Rf.isO_eq, Rf.kl2_some, Rf.kl2_none, Rf.kl1_eq, Rf.l_nil, Rf.l_cons, Rf.o_addLL, Rf.o_addTT, Rf.it_r1, Rf.it_r2, Rf.it_r3, Rf.it_r4, Rf.it_r5, Rf.it_r6, Rf.c_isi1, Rf.c_isi2, Rf.c_isi3, Rf.ty_tup, Rf.ty_int, Rf.ty_str, Rf.ty_lst, Rf.ty_bl, Rf.ty_non, Rf.wipeS, Rf.op_mul, Rf.op_mul', Rf.t_len, Rf.t_app, Rf.t_at, Rf.t_at0, Rf.t_set, Rf.t_set0, Rf.t_fin, Rf.t_fin0, Rf.it_lst, Rf.slot0, Rf.slotS, Rf.ofS_inj, Rf.fin_x, Rf.fin_x0, Rf.u_non, Rf.u_bl, Rf.u_int, Rf.u_str, Rf.u_tup, Rf.u_lst, Rf.us_nil, Rf.us_cons, Rf.us_app, Rf.us_ints, Rf.D.str.injEq, Rf.D.int.injEq, Rf.setAll, decide_eq_true_eq, Bool.false_eq_true, if_true, if_false, Bool.not_true, Bool.not_false, decide_true, decide_false, decide_eq_false_iff_not, Option.map_some, Int.reduceNeg, Int.reduceDiv, Int.reduceMod, Int.reduceMul, Int.reduceSub, Int.reduceAdd, List.append_nil, List.map_nil, List.map_cons, List.foldl_nil, List.foldl_cons, List.zip_nil_left, List.zip_cons_cons, Option.isSome_some, Option.isSome_none, List.length_cons, List.length_nil, List.length_append, List.append_assoc, List.cons_append, List.nil_append, List.getElem?_cons_zero, List.getElem?_cons_succ, List.set_cons_zero, List.set_cons_succ, List.mem_cons, List.not_mem_nil, or_false, false_or, or_true, true_or, not_true_eq_false, not_false_eq_true, Bool.and_true, Bool.true_and, Bool.and_self, and_self, eq_self_iff_true, Nat.add_zero, Nat.zero_add, Rf.isS_eq, Rf.isE_eq, Rf.x_tzip, Rf.ktz_mk, $[$ts:term],*])
namespace Lw
open PySem Rf
theorem right_run {k : Nat} {S : Store} {L : List Nat} (h : okL L = true) (hs : L.sum ≤ 12) : run fns 1000 (k + 14) 13 [lD L] S = some (.bl true, S) := by
  simp only [okL, Bool.and_eq_true, decide_eq_true_eq, List.all_eq_true] at h
  obtain ⟨⟨⟨⟨⟨⟨⟨⟨⟨hx, hown⟩, hlen⟩, hm⟩, hb0⟩, hb1⟩, hm1⟩, hm0⟩, hl⟩, hall⟩ := h
  have hp : ∀ x ∈ L, 1 ≤ x ∧ x ≤ 12 := fun x hx => by simpa using hall x hx
  have X := xchB_ok hx
  have o : own (ofL L) := by unfold own; rw [sort_isA]; exact hown
  have el : lens (ofL L) = iL L := by unfold lens; rw [sort_isA]; exact hlen
  have r1 : ∀ S, run fns 1000 (k + 13) 5 [.tup (L.map nD)] S = some (.tup ((ofL L).map dP), S) := fun S => of_run (k := k + 12) hp hl
  have r2 : ∀ S, run fns 1000 (k + 13) 4 [.tup ((ofL L).map dP)] S = some (.tup (L.map nD), S) := fun S => by
    have := lengths_y (k := k + 10) (S := S) X o
    rw [el, ← lD_iL] at this
    exact this
  have r3 : ∀ S, run fns 1000 (k + 13) 10 [.tup (L.map nD)] S = some (.tup ((ofL L).map dP), S) := fun S => exch_run (k := k + 12) hp hl
  have r4 : ∀ S, run fns 1000 (k + 13) 6 [.tup (L.map nD)] S = some (.int (manyI L), S) := fun S => many_run (k := k + 12) hp hl hb0 hb1
  have r5 : ∀ S, run fns 1000 (k + 13) 11 [.tup (L.map nD)] S = some (.int (manyI L), S) := fun S => by
    rw [hm]
    exact lawM_run (k := k) 12 (fun x hx => (hp x hx).1) hl hs
  have n1 : Nice 64 (2 ^ 20) (.lst [.tup ((ofL L).map dP), .tup (L.map nD)]) := by
    have a := nice_prs X.small X.len
    have b : Nice 3 4200 (.tup (L.map nD)) := by
      rw [lD_iL]
      refine nice_ints (fun x hx => ?_) (by unfold iL; rw [List.length_map]; omega)
      unfold iL at hx
      obtain ⟨y, hy, rfl⟩ := List.mem_map.mp hx
      have := hp y hy
      omega
    refine (Nice.lst (n := 3) (c := 8500) (m := 2) (w := 2 ^ 20) (fun d hd => ?_) (by simp)).mono
    simp only [List.mem_cons, List.not_mem_nil, or_false] at hd
    rcases hd with rfl | rfl
    · exact a.mono
    · exact b.mono
  have n2 : Nice 64 (2 ^ 20) (.lst [.int (manyI L), .int (manyI L)]) := by
    refine (Nice.lst (n := 0) (c := 41) (m := 2) (w := 2 ^ 20) (fun d hd => ?_) (by simp)).mono
    simp only [List.mem_cons, List.not_mem_nil, or_false] at hd
    rcases hd with rfl | rfl <;> exact .int2 (by omega) (by omega)
  have p1 := fun S => n1.repr S
  have p2 := fun S => n2.repr S
  refine of_isR ?_
  rw [show k + 14 = k + 13 + 1 from rfl, e13]
  unfold b13 lD
  have ml2 : ∀ S, binS S .Mult (.lst [.int (manyI L)]) (.int 2) = some (.lst [.int (manyI L), .int (manyI L)]) := fun S => rfl
  exists r1, r2, r3, r4, r5, p1, p2, ml2
end Lw

local macro_rules | `(tactic| exists $ts,*) => `(tactic| simp (disch := first | omega | assumption | (simp only [Rf.watch_cons, Rf.watch_n, Rf.cell_eq, Rf.cellO_l, Rf.g_at, Rf.g_at0, Rf.t_at, Rf.t_at0, Rf.t_lit, decide_true, Rf.u_non, Rf.u_bl, Rf.u_int, Rf.u_str, Rf.u_tup, Rf.u_lst, Rf.us_nil, Rf.us_cons, Rf.us_app, Rf.us_ints, Bool.and_true, Bool.and_self, List.getElem?_cons_zero, List.getElem?_cons_succ, List.length_map, List.length_append, List.length_cons, List.length_nil, List.length_reverse, Rf.isS_eq, Rf.isE_eq, Rf.x_tzip, Rf.ktz_mk, $[$ts:term],*]; first | done | omega) | decide +kernel) only [Rf.x_var, Rf.x_cst, Rf.x_bin, Rf.x_neg, Rf.x_cmp, Rf.x_chn, Rf.x_and, Rf.x_or, Rf.x_not, Rf.x_ite, Rf.x_tup, Rf.x_lis, Rf.x_call, Rf.x_bif, Rf.x_rngl, Rf.x_ext, Rf.x_mapd, Rf.x_mpop, Rf.x_mins, Rf.x_mrev, Rf.x_mclr, Rf.x_mcnt, Rf.x_isi, Rf.x_idx, Rf.x_slc, Rf.x_nop, Rf.x_ptv, Rf.x_ptc, Rf.x_ptb, Rf.x_ptn, Rf.x_ptf, Rf.x_rev, Rf.x_lc, Rf.x_dsp, Rf.x_rnil, Rf.x_rcons, Rf.x_mnil, Rf.x_mcons, Rf.x_nil, Rf.x_cons, Rf.x_asg, Rf.x_par, Rf.x_six, Rf.x_exp, Rf.x_ret, Rf.x_retn, Rf.x_ife, Rf.x_for, Rf.x_whl, Rf.x_pas, Rf.x_brk, Rf.x_cnt, Rf.p_some, Rf.p_someS, Rf.wO_some, Rf.wB_some, Rf.wC_t, Rf.wC_f, Rf.wC_y, Rf.wC_n, Rf.wC_no, Rf.kE_eq, Rf.kV_eq, Rf.kSs_eq, Rf.wI_some, Rf.wL_some, Rf.wT_some, Rf.wR_some, Rf.kMs_eq, Rf.kRs_eq, Rf.kbin2_eq, Rf.kbin1_eq, Rf.kneg_eq, Rf.kcmp2_eq, Rf.kcmp1_eq, Rf.kchn3_eq, Rf.kchnC_eq, Rf.kchn2_eq, Rf.kchn1_eq, Rf.kand_eq, Rf.kor_eq, Rf.knot_eq, Rf.kite_eq, Rf.ktup_eq, Rf.klis_eq, Rf.kcall_eq, Rf.kbif_eq, Rf.krng2_t, Rf.krng2_f, Rf.krng_eq, Rf.kmth3_eq, Rf.kmth_eq, Rf.kmthx_eq, Rf.kisi_eq, Rf.kidx2_eq, Rf.kidx1_eq, Rf.kslc3_eq, Rf.kslc2_eq, Rf.kslc1_eq, Rf.kpt_eq, Rf.krev_eq, Rf.krev_t, Rf.krev_r, Rf.klc2_eq, Rf.klc_eq, Rf.kR2_eq, Rf.kR1_eq, Rf.kM1_eq, Rf.kseq_nx, Rf.kseq_rt, Rf.kseq_bk, Rf.kseq_ct, Rf.kasg_nm, Rf.kasg_tp, Rf.kpar_eq, Rf.wS_some, Rf.ksix3_eq, Rf.ksix2_eq, Rf.ksix1_eq, Rf.kexp_eq, Rf.kret_eq, Rf.kif_eq, Rf.kfor2_eq, Rf.kfor_eq, Rf.finK_mk, Rf.finQ_rt, Rf.finQ_nx, Rf.isR_eq, Rf.m_non, Rf.m_bl, Rf.m_int, Rf.m_str, Rf.m_tup, Rf.m_ref, Rf.m_lst, Rf.at0, Rf.at1, Rf.at2, Rf.at3, Rf.at4, Rf.at5, Rf.i_tup, Rf.i_lst, Rf.cut1, Rf.sl_tup, Rf.sl_lst, Rf.q_tup, Rf.q_lst, Rf.q_ref, Rf.l_lst, Rf.l_ref, Rf.cell_eq, Rf.cellO_l, Rf.g_at, Rf.g_at0, Rf.g_set, Rf.g_set0, Rf.bi_lenT, Rf.bi_lenL, Rf.bi_tupL, Rf.bi_tupT, Rf.bi_lisT, Rf.bi_lisL, Rf.c_in, Rf.c_nin, Rf.c_inI, Rf.c_ninI, Rf.cm_gt, Rf.cm_ge, Rf.cm_lt, Rf.cm_le, Rf.cm_eq, Rf.cm_ne, Rf.cm_eqs, Rf.cm_nes, Rf.op_add, Rf.op_sub, Rf.op_mod, Rf.op_div, Rf.it_tup, Rf.lw_cons, Rf.lw_nil, Rf.klw_eq, Rf.zpO_mk, Rf.seqW_r, Rf.it_zipRR, Rf.fw_consT, Rf.fw_consL, Rf.fw_cons, Rf.fw_nil, Rf.kfw_rt, Rf.kfw_bk, Rf.kfw_ct, Rf.kfw_nx, Rf.dput_n, Rf.fndO_n, Rf.fndO_y, Rf.fnd_n, Rf.fnd_y, Rf.lk_n, Rf.lk_y, Rf.at_m1b, Rf.at_m1a, Rf.dspL_eq, Rf.dput_nil, Rf.sixR_mk, Rf.r_sixs, Rf.fndO_nil, Rf.ixS_mk, Rf.r_idxs, Rf.bi_max2, Rf.bi_min2, Rf.sA2, Rf.zipD_nil, Rf.zipD_cons, Rf.it_zipT, Rf.wU_mk, Rf.kunl_eq, Rf.x_unl, Rf.kdsp_mk, Rf.fnd_nil, Rf.wDq_mk, Rf.kdg3_s, Rf.kdg2_eq, Rf.wDg_mk, Rf.kdg1_r, Rf.x_dget, Rf.lk_nil, Rf.wDI_some, Rf.kdcix_s, Rf.x_dcix, Rf.kdcin_s, Rf.x_dcin, Rf.t_lit, Rf.t_lits, Rf.finO_mk, Rf.r_fin, Rf.r_fin0, Rf.rt_fin, Rf.rt_fin0, Rf.r_idx, Rf.ixR_l, Rf.ixR_d, Rf.r_len, Rf.lenR_mk, Rf.lenR_ro, Rf.lenR_d, Rf.x_maxd, Rf.kmaxd_lst, Rf.kmaxd_nil, Rf.r_tup, Rf.tupR_mk, Rf.r_lis, Rf.lisR_mk, Rf.r_slc, Rf.slR_mk, Rf.r_apd, Rf.apdR_mk, Rf.r_ext, Rf.extR_mk, Rf.r_ml, Rf.ml_lst, Rf.mlO_mk, Rf.r_rev, Rf.revR_mk, Rf.r_clr, Rf.clrR_mk, Rf.r_addRL, Rf.r_addRR, Rf.r_addLR, Rf.addR_mk, Rf.it_r, Rf.x_sset, Rf.ksset_lst, Rf.kw_eq, Rf.kwB_eq, Rf.kwN_eq, Rf.kwb_nx, Rf.kwb_ct, Rf.kwb_bk, Rf.kwb_rt, Rf.kfl_nx, Rf.kfl_ct, Rf.kfl_bk, Rf.kfl_rt, Rf.f_nil, Rf.f_cons, Rf.f_consT, Rf.f_consL, Rf.klcV_eq, Rf.kN_eq, Rf.klcB_eq, Rf.x_lcB, Rf.x_lcBT, Rf.x_lcBL, Rf.isO_eq, Rf.kl2_some, Rf.kl2_none, Rf.kl1_eq, Rf.l_nil, Rf.l_cons, Rf.o_addLL, Rf.o_addTT, Rf.it_r1, Rf.it_r2, Rf.it_r3, Rf.it_r4, Rf.it_r5, Rf.it_r6, Rf.c_isi1, Rf.c_isi2, Rf.c_isi3, Rf.ty_tup, Rf.ty_int, Rf.ty_str, Rf.ty_lst, Rf.ty_bl, Rf.ty_non, Rf.wipeS, Rf.op_mul, Rf.op_mul', Rf.t_len, Rf.t_app, Rf.t_at, Rf.t_at0, Rf.t_set, Rf.t_set0, Rf.t_fin, Rf.t_fin0, Rf.it_lst, Rf.slot0, Rf.slotS, Rf.ofS_inj, Rf.fin_x, Rf.fin_x0, Rf.u_non, Rf.u_bl, Rf.u_int, Rf.u_str, Rf.u_tup, Rf.u_lst, Rf.us_nil, Rf.us_cons, Rf.us_app, Rf.us_ints, Rf.D.str.injEq, Rf.D.int.injEq, Rf.setAll, decide_eq_true_eq, Bool.false_eq_true, if_true, if_false, Bool.not_true, Bool.not_false, decide_true, decide_false, decide_eq_false_iff_not, Option.map_some, Int.reduceNeg, Int.reduceDiv, Int.reduceMod, Int.reduceMul, Int.reduceSub, Int.reduceAdd, List.append_nil, List.map_nil, List.map_cons, List.foldl_nil, List.foldl_cons, List.zip_nil_left, List.zip_cons_cons, Option.isSome_some, Option.isSome_none, List.length_cons, List.length_nil, List.length_append, List.append_assoc, List.cons_append, List.nil_append, List.getElem?_cons_zero, List.getElem?_cons_succ, List.set_cons_zero, List.set_cons_succ, List.mem_cons, List.not_mem_nil, or_false, false_or, or_true, true_or, not_true_eq_false, not_false_eq_true, Bool.and_true, Bool.true_and, Bool.and_self, and_self, eq_self_iff_true, Nat.add_zero, Nat.zero_add, Rf.isS_eq, Rf.isE_eq, Rf.x_tzip, Rf.ktz_mk, $[$ts:term],*])
namespace Lw
open PySem Rf
theorem toN_iL {f : List Int} (h : ∀ x ∈ f, 1 ≤ x) : iL (f.map Int.toNat) = f := by
  unfold iL
  rw [List.map_map]
  have : ∀ x ∈ f, ((fun n : Nat => (n : Int)) ∘ Int.toNat) x = x := fun x hx => by have := h x hx; simp; omega
  exact (List.map_congr_left this).trans (List.map_id' f)
theorem sum_perm {f g : List Int} (h : f.Perm g) : f.sum = g.sum := by
  induction h with
  | nil => rfl
  | cons x _ ih => rw [List.sum_cons, List.sum_cons, ih]
  | swap x y l => simp only [List.sum_cons]; omega
  | trans _ _ a b => exact a.trans b
theorem len_sumI : ∀ {f : List Int}, (∀ x ∈ f, 1 ≤ x) → (f.length : Int) ≤ f.sum
  | [], _ => by simp
  | x :: f, h => by
    have := len_sumI (f := f) fun y hy => h y (by simp [hy])
    have := h x (by simp)
    rw [List.sum_cons, List.length_cons]; push_cast; omega
theorem toN_ok {f : List Int} {m : Nat} (h : ∀ x ∈ f, 1 ≤ x) (hs : f.sum = (m : Int)) : ∃ L : List Nat, lD L = .tup ((f.mergeSort leI).map D.int) ∧ L.Pairwise (· ≤ ·) ∧ (∀ x ∈ L, 1 ≤ x) ∧ L.sum = m := by
  have pm : (f.mergeSort leI).Perm f := List.mergeSort_perm _ _
  have h2 : ∀ x ∈ f.mergeSort leI, 1 ≤ x := fun x hx => h x (pm.mem_iff.mp hx)
  have e := toN_iL h2
  refine ⟨(f.mergeSort leI).map Int.toNat, by unfold lD; rw [lD_iL, e], ?_, ?_, ?_⟩
  · rw [List.pairwise_map]
    refine (List.pairwise_mergeSort (fun a b c => leI_tr a b c) (fun a b => leI_tt a b) f).imp fun {a b} hab => ?_
    have : a ≤ b := by simpa [leI] using hab
    omega
  · intro x hx
    obtain ⟨y, hy, rfl⟩ := List.mem_map.mp hx
    have := h2 y hy
    omega
  · have := sum_iL ((f.mergeSort leI).map Int.toNat)
    rw [e, sum_perm pm, hs] at this
    omega
theorem lengths_wp {s : List Int} {tp : Tp} {R : Store} {k n m : Nat} {Q : Kx} (ok : TpB tp n) (hn : n < 800000) (hm : m ≤ 12)
    (q : ∀ (L : List Nat) (tp' : Tp), L.Pairwise (· ≤ ·) → (∀ x ∈ L, 1 ≤ x) → L.sum = m → TpB tp' (n + 13) → Q (lD L) (St3 s tp' R)) :
    WpE (run fns 1000 (k + 2) 9 [.ref 2, .int (m : Int)] (St3 s tp R)) Q := by
  rw [e9]
  unfold b9
  exists if_true
  refine d_draw ok (by omega) (by omega) (by omega) rfl fun v1 tp1 v10 v11 ok1 => ?_
  exists if_true
  refine whl_by (fun c r S' => ∃ (f : List Int) (tp' : Tp) (y4 : Option D), r = [some (.ref 2), some (.int (c : Int)), some (.ref (3 + R.length)), some (.int (1 + v1)), y4] ∧
    S' = St3 s tp' (R ++ [.lst (f.map D.int)]) ∧ (∀ x ∈ f, 1 ≤ x) ∧ f.sum + (c : Int) = (m : Int) ∧ TpB tp' (n + 1 + f.length)) ?_ 1000 m _ _ (by omega) ⟨[], tp1, _, rfl, rfl, by simp, by simp, ok1⟩
  rintro c r S' ⟨f, tp', y4, rfl, rfl, hf, hs, okf⟩
  have lf := len_sumI hf
  by_cases c0 : c = 0
  · subst c0
    have c1 : ¬ ((0 : Int) < ((0 : Nat) : Int)) := by simp
    have e3 : biS .sorted [.ref (3 + R.length)] (St3 s tp' (R ++ [.lst (f.map D.int)])) = some (.lst ((f.mergeSort leI).map D.int), St3 s tp' (R ++ [.lst (f.map D.int)])) := bi_sorted (show lstOf _ (.ref _) = _ from cell_R) (sortS_ints _ f)
    have u := und_its (f.mergeSort leI)
    obtain ⟨L, e, p1, p2, p3⟩ := toN_ok (m := m) hf (by simpa using hs)
    exists c1, e3, u
    rw [← e]
    exact q L tp' p1 p2 p3 okf.up
  · have c1 : ((0 : Int) < ((c : Nat) : Int)) := by omega
    exists c1
    refine d_draw okf (by omega) (by omega) (by omega) rfl fun v2 tp2 v20 v21 ok2 => ?_
    have f100 : f.length ≤ 100 := by omega
    exists f100
    refine ⟨c - (1 + v2.toNat), by omega, f ++ [1 + v2], tp2, some (.int (1 + v2)), ?_, ?_, ?_, ?_, ?_⟩
    · have e : ((c - (1 + v2.toNat) : Nat) : Int) = (c : Int) - (1 + v2) := by omega
      rw [e]
    · rw [List.map_append]; rfl
    · intro x hx
      rcases List.mem_append.mp hx with hx | hx
      · exact hf x hx
      · rw [List.mem_singleton] at hx; omega
    · have e : (f ++ [1 + v2]).sum = f.sum + (1 + v2) := by simp
      rw [e]; omega
    · rw [List.length_append]; exact ok2
end Lw

local macro_rules | `(tactic| exists $ts,*) => `(tactic| simp (disch := first | omega | assumption | (simp only [Rf.watch_cons, Rf.watch_n, Rf.cell_eq, Rf.cellO_l, Rf.g_at, Rf.g_at0, Rf.t_at, Rf.t_at0, Rf.t_lit, decide_true, Rf.u_non, Rf.u_bl, Rf.u_int, Rf.u_str, Rf.u_tup, Rf.u_lst, Rf.us_nil, Rf.us_cons, Rf.us_app, Rf.us_ints, Bool.and_true, Bool.and_self, List.getElem?_cons_zero, List.getElem?_cons_succ, List.length_map, List.length_append, List.length_cons, List.length_nil, List.length_reverse, Rf.isS_eq, Rf.isE_eq, Rf.x_tzip, Rf.ktz_mk, $[$ts:term],*]; first | done | omega) | decide +kernel) only [Rf.x_var, Rf.x_cst, Rf.x_bin, Rf.x_neg, Rf.x_cmp, Rf.x_chn, Rf.x_and, Rf.x_or, Rf.x_not, Rf.x_ite, Rf.x_tup, Rf.x_lis, Rf.x_call, Rf.x_bif, Rf.x_rngl, Rf.x_ext, Rf.x_mapd, Rf.x_mpop, Rf.x_mins, Rf.x_mrev, Rf.x_mclr, Rf.x_mcnt, Rf.x_isi, Rf.x_idx, Rf.x_slc, Rf.x_nop, Rf.x_ptv, Rf.x_ptc, Rf.x_ptb, Rf.x_ptn, Rf.x_ptf, Rf.x_rev, Rf.x_lc, Rf.x_dsp, Rf.x_rnil, Rf.x_rcons, Rf.x_mnil, Rf.x_mcons, Rf.x_nil, Rf.x_cons, Rf.x_asg, Rf.x_par, Rf.x_six, Rf.x_exp, Rf.x_ret, Rf.x_retn, Rf.x_ife, Rf.x_for, Rf.x_whl, Rf.x_pas, Rf.x_brk, Rf.x_cnt, Rf.p_some, Rf.p_someS, Rf.wO_some, Rf.wB_some, Rf.wC_t, Rf.wC_f, Rf.wC_y, Rf.wC_n, Rf.wC_no, Rf.kE_eq, Rf.kV_eq, Rf.kSs_eq, Rf.wI_some, Rf.wL_some, Rf.wT_some, Rf.wR_some, Rf.kMs_eq, Rf.kRs_eq, Rf.kbin2_eq, Rf.kbin1_eq, Rf.kneg_eq, Rf.kcmp2_eq, Rf.kcmp1_eq, Rf.kchn3_eq, Rf.kchnC_eq, Rf.kchn2_eq, Rf.kchn1_eq, Rf.kand_eq, Rf.kor_eq, Rf.knot_eq, Rf.kite_eq, Rf.ktup_eq, Rf.klis_eq, Rf.kcall_eq, Rf.kbif_eq, Rf.krng2_t, Rf.krng2_f, Rf.krng_eq, Rf.kmth3_eq, Rf.kmth_eq, Rf.kmthx_eq, Rf.kisi_eq, Rf.kidx2_eq, Rf.kidx1_eq, Rf.kslc3_eq, Rf.kslc2_eq, Rf.kslc1_eq, Rf.kpt_eq, Rf.krev_eq, Rf.krev_t, Rf.krev_r, Rf.klc2_eq, Rf.klc_eq, Rf.kR2_eq, Rf.kR1_eq, Rf.kM1_eq, Rf.kseq_nx, Rf.kseq_rt, Rf.kseq_bk, Rf.kseq_ct, Rf.kasg_nm, Rf.kasg_tp, Rf.kpar_eq, Rf.wS_some, Rf.ksix3_eq, Rf.ksix2_eq, Rf.ksix1_eq, Rf.kexp_eq, Rf.kret_eq, Rf.kif_eq, Rf.kfor2_eq, Rf.kfor_eq, Rf.finK_mk, Rf.finQ_rt, Rf.finQ_nx, Rf.isR_eq, Rf.m_non, Rf.m_bl, Rf.m_int, Rf.m_str, Rf.m_tup, Rf.m_ref, Rf.m_lst, Rf.at0, Rf.at1, Rf.at2, Rf.at3, Rf.at4, Rf.at5, Rf.i_tup, Rf.i_lst, Rf.cut1, Rf.sl_tup, Rf.sl_lst, Rf.q_tup, Rf.q_lst, Rf.q_ref, Rf.l_lst, Rf.l_ref, Rf.cell_eq, Rf.cellO_l, Rf.g_at, Rf.g_at0, Rf.g_set, Rf.g_set0, Rf.bi_lenT, Rf.bi_lenL, Rf.bi_tupL, Rf.bi_tupT, Rf.bi_lisT, Rf.bi_lisL, Rf.c_in, Rf.c_nin, Rf.c_inI, Rf.c_ninI, Rf.cm_gt, Rf.cm_ge, Rf.cm_lt, Rf.cm_le, Rf.cm_eq, Rf.cm_ne, Rf.cm_eqs, Rf.cm_nes, Rf.op_add, Rf.op_sub, Rf.op_mod, Rf.op_div, Rf.it_tup, Rf.lw_cons, Rf.lw_nil, Rf.klw_eq, Rf.zpO_mk, Rf.seqW_r, Rf.it_zipRR, Rf.fw_consT, Rf.fw_consL, Rf.fw_cons, Rf.fw_nil, Rf.kfw_rt, Rf.kfw_bk, Rf.kfw_ct, Rf.kfw_nx, Rf.dput_n, Rf.fndO_n, Rf.fndO_y, Rf.fnd_n, Rf.fnd_y, Rf.lk_n, Rf.lk_y, Rf.at_m1b, Rf.at_m1a, Rf.dspL_eq, Rf.dput_nil, Rf.sixR_mk, Rf.r_sixs, Rf.fndO_nil, Rf.ixS_mk, Rf.r_idxs, Rf.bi_max2, Rf.bi_min2, Rf.sA2, Rf.zipD_nil, Rf.zipD_cons, Rf.it_zipT, Rf.wU_mk, Rf.kunl_eq, Rf.x_unl, Rf.kdsp_mk, Rf.fnd_nil, Rf.wDq_mk, Rf.kdg3_s, Rf.kdg2_eq, Rf.wDg_mk, Rf.kdg1_r, Rf.x_dget, Rf.lk_nil, Rf.wDI_some, Rf.kdcix_s, Rf.x_dcix, Rf.kdcin_s, Rf.x_dcin, Rf.t_lit, Rf.t_lits, Rf.finO_mk, Rf.r_fin, Rf.r_fin0, Rf.rt_fin, Rf.rt_fin0, Rf.r_idx, Rf.ixR_l, Rf.ixR_d, Rf.r_len, Rf.lenR_mk, Rf.lenR_ro, Rf.lenR_d, Rf.x_maxd, Rf.kmaxd_lst, Rf.kmaxd_nil, Rf.r_tup, Rf.tupR_mk, Rf.r_lis, Rf.lisR_mk, Rf.r_slc, Rf.slR_mk, Rf.r_apd, Rf.apdR_mk, Rf.r_ext, Rf.extR_mk, Rf.r_ml, Rf.ml_lst, Rf.mlO_mk, Rf.r_rev, Rf.revR_mk, Rf.r_clr, Rf.clrR_mk, Rf.r_addRL, Rf.r_addRR, Rf.r_addLR, Rf.addR_mk, Rf.it_r, Rf.x_sset, Rf.ksset_lst, Rf.kw_eq, Rf.kwB_eq, Rf.kwN_eq, Rf.kwb_nx, Rf.kwb_ct, Rf.kwb_bk, Rf.kwb_rt, Rf.kfl_nx, Rf.kfl_ct, Rf.kfl_bk, Rf.kfl_rt, Rf.f_nil, Rf.f_cons, Rf.f_consT, Rf.f_consL, Rf.klcV_eq, Rf.kN_eq, Rf.klcB_eq, Rf.x_lcB, Rf.x_lcBT, Rf.x_lcBL, Rf.isO_eq, Rf.kl2_some, Rf.kl2_none, Rf.kl1_eq, Rf.l_nil, Rf.l_cons, Rf.o_addLL, Rf.o_addTT, Rf.it_r1, Rf.it_r2, Rf.it_r3, Rf.it_r4, Rf.it_r5, Rf.it_r6, Rf.c_isi1, Rf.c_isi2, Rf.c_isi3, Rf.ty_tup, Rf.ty_int, Rf.ty_str, Rf.ty_lst, Rf.ty_bl, Rf.ty_non, Rf.wipeS, Rf.op_mul, Rf.op_mul', Rf.t_len, Rf.t_app, Rf.t_at, Rf.t_at0, Rf.t_set, Rf.t_set0, Rf.t_fin, Rf.t_fin0, Rf.it_lst, Rf.slot0, Rf.slotS, Rf.ofS_inj, Rf.fin_x, Rf.fin_x0, Rf.u_non, Rf.u_bl, Rf.u_int, Rf.u_str, Rf.u_tup, Rf.u_lst, Rf.us_nil, Rf.us_cons, Rf.us_app, Rf.us_ints, Rf.D.str.injEq, Rf.D.int.injEq, Rf.setAll, decide_eq_true_eq, Bool.false_eq_true, if_true, if_false, Bool.not_true, Bool.not_false, decide_true, decide_false, decide_eq_false_iff_not, Option.map_some, Int.reduceNeg, Int.reduceDiv, Int.reduceMod, Int.reduceMul, Int.reduceSub, Int.reduceAdd, List.append_nil, List.map_nil, List.map_cons, List.foldl_nil, List.foldl_cons, List.zip_nil_left, List.zip_cons_cons, Option.isSome_some, Option.isSome_none, List.length_cons, List.length_nil, List.length_append, List.append_assoc, List.cons_append, List.nil_append, List.getElem?_cons_zero, List.getElem?_cons_succ, List.set_cons_zero, List.set_cons_succ, List.mem_cons, List.not_mem_nil, or_false, false_or, or_true, true_or, not_true_eq_false, not_false_eq_true, Bool.and_true, Bool.true_and, Bool.and_self, and_self, eq_self_iff_true, Nat.add_zero, Nat.zero_add, Rf.isS_eq, Rf.isE_eq, Rf.x_tzip, Rf.ktz_mk, $[$ts:term],*])
namespace Lw
open PySem Rf
theorem sumB : ∀ n ∈ List.range 7, ((prt 7 n 1).map manyI).sum = facI n ∧ facI n < 1000000 ∧ ∀ L ∈ prt 7 n 1, (∀ x ∈ L, 1 ≤ x ∧ x ≤ 12) ∧ L.length ≤ 12 ∧ 0 < belI L ∧ belI L < 1000000000000 := by decide +kernel
/-- the lengths of all exchanges of so many names -/
def told (n : Nat) : List (List Int) := (allX (rng n)).map lenA
theorem toldB : ∀ n ∈ List.range 5, ((allX (rng n)).all fun e => xchB e && decide (e.map Prod.fst = isA leI [] (e.map Prod.snd))) = true ∧ (allX (rng n)).length ≤ 100 ∧ ∀ L ∈ prt 7 n 1, (((told n).count (iL L) : Nat) : Int) = manyI L := by decide +kernel
theorem mapD_inj {a b : List Int} : a.map D.int = b.map D.int ↔ a = b := by
  constructor
  · intro h
    induction a generalizing b with
    | nil => cases b with
      | nil => rfl
      | cons y b => cases h
    | cons x a ih => cases b with
      | nil => cases h
      | cons y b =>
        rw [List.map_cons, List.map_cons] at h
        injection h with h1 h2
        injection h1 with h1
        rw [h1, ih h2]
  · rintro rfl; rfl
def toD (l : List Int) : D := .tup (l.map D.int)
theorem cnt_told {S : Store} {j : Nat} {ls : List (List Int)} {L : List Nat} (hS : S[j]? = some (.lst (ls.map toD))) : mtS .count (.ref j) [.tup (L.map nD)] S = some (.int ((ls.count (iL L) : Nat) : Int), S) := by
  rw [lD_iL, l_cnt hS (by simp only [fl]; exact fls_ints _ _) (fls_iff.mpr fun d hd => by obtain ⟨l, _, rfl⟩ := List.mem_map.mp hd; simp only [toD, fl]; exact fls_ints _ _) (by simp only [nb, nbs_ints]) (nbs_iff.mpr fun d hd => by obtain ⟨l, _, rfl⟩ := List.mem_map.mp hd; simp only [toD, nb, nbs_ints]), List.countP_map]
  congr 3
  refine congrArg Int.ofNat ?_
  unfold List.count
  refine List.countP_congr fun x _ => ?_
  simp [toD, mapD_inj]
theorem und_toDs : ∀ ls : List (List Int), D.unders 0 (ls.map toD) = true
  | [] => rfl
  | l :: ls => by simp only [List.map_cons, D.unders, und_toDs ls, toD, und_its]; rfl
theorem allRight_run {k n : Nat} {S : Store} (hn : n ≤ 6) : run fns 1000 (k + 8) 14 [.int (n : Int)] S = some (.bl true, S) := by
  obtain ⟨s1, s2, s3⟩ := sumB n (by rw [List.mem_range]; omega)
  have la : ∀ S, run fns 1000 (k + 7) 12 [.int (n : Int), .int 1] S = some (.lst ((prt 7 n 1).map lD), S) := fun S => by
    have := lawAll_run (k := k) 7 (S := S) (n := n) (m := 1) (by omega) (by omega) (by omega) (by omega) (by omega)
    exact this
  have it1 := fun S => it_rng (S := S) (n := n) (by omega)
  have u1 := und_lDs (prt 7 n 1)
  obtain ⟨rows, hr⟩ : ∃ rows, rows = prt 7 n 1 := ⟨_, rfl⟩
  rw [← hr] at la u1 s1 s3
  have mr : ∀ L ∈ rows, ∀ S, run fns 1000 (k + 7) 6 [lD L] S = some (.int (manyI L), S) := fun L hL S => by
    obtain ⟨a, b, c, d⟩ := s3 L hL
    exact many_run (k := k + 6) a b c d
  have e1 : rows.map (fun L => D.int (manyI L)) = (rows.map manyI).map D.int := by rw [List.map_map]; rfl
  have bs := fun S => bi_sumL (S := S) (ns := rows.map manyI)
  rw [s1, ← e1] at bs
  refine of_isR ?_
  rw [show k + 8 = k + 7 + 1 from rfl, e14]
  unfold b14
  exists la, it1
  refine for_by (fun rest σ S' => ∃ (a c : Nat) (y3 : Option D), rest = (List.range' a c).map (fun i : Nat => D.int (i : Int)) ∧ a + c = n ∧ σ = [some (.int (n : Int)), some (.ref S.length), some (.int (facI a)), y3, none, none, none] ∧ S' = S ++ [.lst (rows.map lD)]) (fun _ _ _ _ => rfl) ?_ ?_ ⟨0, n, _, by rw [List.range_eq_range'], by omega, rfl, rfl⟩
  · rintro z l σ S2 ⟨a, c, y3, q1, q2, rfl, rfl⟩
    cases c with
    | zero => cases q1
    | succ c =>
      rw [List.range'_succ, List.map_cons] at q1
      cases q1
      refine ⟨_, rfl, ?_⟩
      exists if_true
      have e : facI (a + 1) = facI a * ((a : Int) + 1) := by unfold facI; rw [List.range_succ, foldI]
      exact ⟨a + 1, c, some (.int (a : Int)), rfl, by omega, by rw [e], by trivial⟩
  · rintro σ S2 ⟨a, c, y3, q1, q2, rfl, rfl⟩
    have hc : c = 0 := by
      cases c with
      | zero => rfl
      | succ c => rw [List.range'_succ, List.map_cons] at q1; cases q1
    subst hc
    have ha : a = n := by omega
    subst ha
    exists if_true
    have cl : ∀ (T : Store) (X : Store), cellL (T ++ .lst (rows.map lD) :: X) T.length = some (rows.map lD) := fun T X => by unfold cellL; rw [g_at0]; rfl
    have mlD : ∀ (L : List Nat) (T : Store), mat (lD L) T = (lD L, T) := fun _ _ => rfl
    have mto : ∀ (L : List Int) (T : Store), mat (toD L) T = (toD L, T) := fun _ _ => rfl
    refine l_mapR (fun L => .int (manyI L)) ?_ (fun L hL => ?_) ?_
    · simp [watch, cl]
    · have m1 := mr L hL
      exists m1, mlD
    exists bs
    by_cases c4 : 4 < a
    · have c5 : (4 : Int) < (a : Int) := by omega
      exists c5
    have c5 : ¬ ((4 : Int) < (a : Int)) := by omega
    obtain ⟨t1, t2, t3⟩ := toldB a (by rw [List.mem_range]; omega)
    rw [← hr] at t3
    have rd : ∀ S, run fns 1000 (k + 7) 2 [.tup ((List.range a).map fun i : Nat => D.int (i : Int))] S = some (.lst ((allX (rng a)).map tD), S) := fun S => by
      have := all_run (k := k + 6) (S := S) (l := rng a) (by unfold rng; simp; omega)
      unfold rng at this ⊢
      rw [List.map_map] at this
      exact this
    exists c5, it1, rd
    refine l_mapR (fun e => toD (lenA e)) ?_ (fun e he => ?_) ?_
    · rfl
    · have h := List.all_eq_true.mp t1 e he
      rw [Bool.and_eq_true, decide_eq_true_eq] at h
      have X := xchB_ok h.1
      have o : own e := by unfold own; rw [sort_isA]; exact h.2
      have ly : ∀ S, run fns 1000 (k + 7) 4 [.tup (e.map dP)] S = some (toD (lenA e), S) := fun S => by
        have := lengths_y (k := k + 4) (S := S) X o
        have el : lens e = lenA e := by unfold lens; rw [sort_isA]; rfl
        rw [el] at this
        exact this
      unfold tD
      exists ly, mto
    have e2 : (allX (rng a)).map (fun e => toD (lenA e)) = (told a).map toD := by unfold told; rw [List.map_map]; rfl
    rw [e2]
    have u2 := und_toDs (told a)
    exists u2
    refine l_filR (fun _ => false) lD ?_ (fun L hL => ?_) ?_
    · simp [watch, cl]
    · have m1 := mr L hL
      have t4 := t3 L hL
      have ct := cnt_told (S := S ++ [.lst (rows.map lD), .lst ((told a).map toD)]) (j := S.length + 1) (ls := told a) (L := L) (by rw [g_at]; rfl)
      rw [t4] at ct
      have fe : (rows.map lD) = rows.map fun L => D.tup (L.map nD) := rfl
      rw [fe] at ct
      unfold lD at m1 ⊢
      exists ct, m1
    have fe : rows.filter (fun _ => false) = [] := by simp
    rw [fe]
    have ceq : ∀ S, cmpS S .Eq (.lst []) (.lst []) = some true := fun S => rfl
    exists ceq
end Lw

local macro_rules | `(tactic| exists $ts,*) => `(tactic| simp (disch := first | omega | assumption | (simp only [Rf.watch_cons, Rf.watch_n, Rf.cell_eq, Rf.cellO_l, Rf.g_at, Rf.g_at0, Rf.t_at, Rf.t_at0, Rf.t_lit, decide_true, Rf.u_non, Rf.u_bl, Rf.u_int, Rf.u_str, Rf.u_tup, Rf.u_lst, Rf.us_nil, Rf.us_cons, Rf.us_app, Rf.us_ints, Bool.and_true, Bool.and_self, List.getElem?_cons_zero, List.getElem?_cons_succ, List.length_map, List.length_append, List.length_cons, List.length_nil, List.length_reverse, Rf.isS_eq, Rf.isE_eq, Rf.x_tzip, Rf.ktz_mk, $[$ts:term],*]; first | done | omega) | decide +kernel) only [Rf.x_var, Rf.x_cst, Rf.x_bin, Rf.x_neg, Rf.x_cmp, Rf.x_chn, Rf.x_and, Rf.x_or, Rf.x_not, Rf.x_ite, Rf.x_tup, Rf.x_lis, Rf.x_call, Rf.x_bif, Rf.x_rngl, Rf.x_ext, Rf.x_mapd, Rf.x_mpop, Rf.x_mins, Rf.x_mrev, Rf.x_mclr, Rf.x_mcnt, Rf.x_isi, Rf.x_idx, Rf.x_slc, Rf.x_nop, Rf.x_ptv, Rf.x_ptc, Rf.x_ptb, Rf.x_ptn, Rf.x_ptf, Rf.x_rev, Rf.x_lc, Rf.x_dsp, Rf.x_rnil, Rf.x_rcons, Rf.x_mnil, Rf.x_mcons, Rf.x_nil, Rf.x_cons, Rf.x_asg, Rf.x_par, Rf.x_six, Rf.x_exp, Rf.x_ret, Rf.x_retn, Rf.x_ife, Rf.x_for, Rf.x_whl, Rf.x_pas, Rf.x_brk, Rf.x_cnt, Rf.p_some, Rf.p_someS, Rf.wO_some, Rf.wB_some, Rf.wC_t, Rf.wC_f, Rf.wC_y, Rf.wC_n, Rf.wC_no, Rf.kE_eq, Rf.kV_eq, Rf.kSs_eq, Rf.wI_some, Rf.wL_some, Rf.wT_some, Rf.wR_some, Rf.kMs_eq, Rf.kRs_eq, Rf.kbin2_eq, Rf.kbin1_eq, Rf.kneg_eq, Rf.kcmp2_eq, Rf.kcmp1_eq, Rf.kchn3_eq, Rf.kchnC_eq, Rf.kchn2_eq, Rf.kchn1_eq, Rf.kand_eq, Rf.kor_eq, Rf.knot_eq, Rf.kite_eq, Rf.ktup_eq, Rf.klis_eq, Rf.kcall_eq, Rf.kbif_eq, Rf.krng2_t, Rf.krng2_f, Rf.krng_eq, Rf.kmth3_eq, Rf.kmth_eq, Rf.kmthx_eq, Rf.kisi_eq, Rf.kidx2_eq, Rf.kidx1_eq, Rf.kslc3_eq, Rf.kslc2_eq, Rf.kslc1_eq, Rf.kpt_eq, Rf.krev_eq, Rf.krev_t, Rf.krev_r, Rf.klc2_eq, Rf.klc_eq, Rf.kR2_eq, Rf.kR1_eq, Rf.kM1_eq, Rf.kseq_nx, Rf.kseq_rt, Rf.kseq_bk, Rf.kseq_ct, Rf.kasg_nm, Rf.kasg_tp, Rf.kpar_eq, Rf.wS_some, Rf.ksix3_eq, Rf.ksix2_eq, Rf.ksix1_eq, Rf.kexp_eq, Rf.kret_eq, Rf.kif_eq, Rf.kfor2_eq, Rf.kfor_eq, Rf.finK_mk, Rf.finQ_rt, Rf.finQ_nx, Rf.isR_eq, Rf.m_non, Rf.m_bl, Rf.m_int, Rf.m_str, Rf.m_tup, Rf.m_ref, Rf.m_lst, Rf.at0, Rf.at1, Rf.at2, Rf.at3, Rf.at4, Rf.at5, Rf.i_tup, Rf.i_lst, Rf.cut1, Rf.sl_tup, Rf.sl_lst, Rf.q_tup, Rf.q_lst, Rf.q_ref, Rf.l_lst, Rf.l_ref, Rf.cell_eq, Rf.cellO_l, Rf.g_at, Rf.g_at0, Rf.g_set, Rf.g_set0, Rf.bi_lenT, Rf.bi_lenL, Rf.bi_tupL, Rf.bi_tupT, Rf.bi_lisT, Rf.bi_lisL, Rf.c_in, Rf.c_nin, Rf.c_inI, Rf.c_ninI, Rf.cm_gt, Rf.cm_ge, Rf.cm_lt, Rf.cm_le, Rf.cm_eq, Rf.cm_ne, Rf.cm_eqs, Rf.cm_nes, Rf.op_add, Rf.op_sub, Rf.op_mod, Rf.op_div, Rf.it_tup, Rf.lw_cons, Rf.lw_nil, Rf.klw_eq, Rf.zpO_mk, Rf.seqW_r, Rf.it_zipRR, Rf.fw_consT, Rf.fw_consL, Rf.fw_cons, Rf.fw_nil, Rf.kfw_rt, Rf.kfw_bk, Rf.kfw_ct, Rf.kfw_nx, Rf.dput_n, Rf.fndO_n, Rf.fndO_y, Rf.fnd_n, Rf.fnd_y, Rf.lk_n, Rf.lk_y, Rf.at_m1b, Rf.at_m1a, Rf.dspL_eq, Rf.dput_nil, Rf.sixR_mk, Rf.r_sixs, Rf.fndO_nil, Rf.ixS_mk, Rf.r_idxs, Rf.bi_max2, Rf.bi_min2, Rf.sA2, Rf.zipD_nil, Rf.zipD_cons, Rf.it_zipT, Rf.wU_mk, Rf.kunl_eq, Rf.x_unl, Rf.kdsp_mk, Rf.fnd_nil, Rf.wDq_mk, Rf.kdg3_s, Rf.kdg2_eq, Rf.wDg_mk, Rf.kdg1_r, Rf.x_dget, Rf.lk_nil, Rf.wDI_some, Rf.kdcix_s, Rf.x_dcix, Rf.kdcin_s, Rf.x_dcin, Rf.t_lit, Rf.t_lits, Rf.finO_mk, Rf.r_fin, Rf.r_fin0, Rf.rt_fin, Rf.rt_fin0, Rf.r_idx, Rf.ixR_l, Rf.ixR_d, Rf.r_len, Rf.lenR_mk, Rf.lenR_ro, Rf.lenR_d, Rf.x_maxd, Rf.kmaxd_lst, Rf.kmaxd_nil, Rf.r_tup, Rf.tupR_mk, Rf.r_lis, Rf.lisR_mk, Rf.r_slc, Rf.slR_mk, Rf.r_apd, Rf.apdR_mk, Rf.r_ext, Rf.extR_mk, Rf.r_ml, Rf.ml_lst, Rf.mlO_mk, Rf.r_rev, Rf.revR_mk, Rf.r_clr, Rf.clrR_mk, Rf.r_addRL, Rf.r_addRR, Rf.r_addLR, Rf.addR_mk, Rf.it_r, Rf.x_sset, Rf.ksset_lst, Rf.kw_eq, Rf.kwB_eq, Rf.kwN_eq, Rf.kwb_nx, Rf.kwb_ct, Rf.kwb_bk, Rf.kwb_rt, Rf.kfl_nx, Rf.kfl_ct, Rf.kfl_bk, Rf.kfl_rt, Rf.f_nil, Rf.f_cons, Rf.f_consT, Rf.f_consL, Rf.klcV_eq, Rf.kN_eq, Rf.klcB_eq, Rf.x_lcB, Rf.x_lcBT, Rf.x_lcBL, Rf.isO_eq, Rf.kl2_some, Rf.kl2_none, Rf.kl1_eq, Rf.l_nil, Rf.l_cons, Rf.o_addLL, Rf.o_addTT, Rf.it_r1, Rf.it_r2, Rf.it_r3, Rf.it_r4, Rf.it_r5, Rf.it_r6, Rf.c_isi1, Rf.c_isi2, Rf.c_isi3, Rf.ty_tup, Rf.ty_int, Rf.ty_str, Rf.ty_lst, Rf.ty_bl, Rf.ty_non, Rf.wipeS, Rf.op_mul, Rf.op_mul', Rf.t_len, Rf.t_app, Rf.t_at, Rf.t_at0, Rf.t_set, Rf.t_set0, Rf.t_fin, Rf.t_fin0, Rf.it_lst, Rf.slot0, Rf.slotS, Rf.ofS_inj, Rf.fin_x, Rf.fin_x0, Rf.u_non, Rf.u_bl, Rf.u_int, Rf.u_str, Rf.u_tup, Rf.u_lst, Rf.us_nil, Rf.us_cons, Rf.us_app, Rf.us_ints, Rf.D.str.injEq, Rf.D.int.injEq, Rf.setAll, decide_eq_true_eq, Bool.false_eq_true, if_true, if_false, Bool.not_true, Bool.not_false, decide_true, decide_false, decide_eq_false_iff_not, Option.map_some, Int.reduceNeg, Int.reduceDiv, Int.reduceMod, Int.reduceMul, Int.reduceSub, Int.reduceAdd, List.append_nil, List.map_nil, List.map_cons, List.foldl_nil, List.foldl_cons, List.zip_nil_left, List.zip_cons_cons, Option.isSome_some, Option.isSome_none, List.length_cons, List.length_nil, List.length_append, List.append_assoc, List.cons_append, List.nil_append, List.getElem?_cons_zero, List.getElem?_cons_succ, List.set_cons_zero, List.set_cons_succ, List.mem_cons, List.not_mem_nil, or_false, false_or, or_true, true_or, not_true_eq_false, not_false_eq_true, Bool.and_true, Bool.true_and, Bool.and_self, and_self, eq_self_iff_true, Nat.add_zero, Nat.zero_add, Rf.isS_eq, Rf.isE_eq, Rf.x_tzip, Rf.ktz_mk, $[$ts:term],*])
namespace Lw
open PySem Rf
def someL : List (List Nat) := [[], [1], [12], [6, 6], [4, 4, 4], [3, 3, 3, 3], [2, 2, 2, 2, 2, 2], [1, 1, 2, 3, 5]]
theorem someB : ∀ L ∈ someL, L ∈ prt 13 L.sum 1 ∧ L.sum ≤ 12 := by decide +kernel
theorem right_mem {k m : Nat} {S : Store} {L : List Nat} (hm : m ≤ 12) (h : L ∈ prt 13 m 1) (hs : L.sum = m) : run fns 1000 (k + 14) 13 [lD L] S = some (.bl true, S) :=
  right_run (okL_all m (by rw [List.mem_range]; omega) L h) (by omega)
theorem right_srt {k m : Nat} {S : Store} {L : List Nat} (hm : m ≤ 12) (hp : L.Pairwise (· ≤ ·)) (h1 : ∀ x ∈ L, 1 ≤ x) (hs : L.sum = m) : run fns 1000 (k + 14) 13 [lD L] S = some (.bl true, S) :=
  right_mem hm (prt_mem (by omega) (by omega) hp h1 hs) hs
theorem rep1 {S : Store} {v : Int} {m : Nat} (hv : v = (m : Int)) (hm : m ≤ 12) : binS S .Mult (.tup [.int 1]) (.int v) = some (lD (List.replicate m 1)) := by
  have e : v.toNat = m := by omega
  have e2 : ∀ m : Nat, (List.replicate m [D.int 1]).flatten = (List.replicate m 1).map nD := fun m => by
    induction m with
    | zero => rfl
    | succ m ih => rw [List.replicate_succ, List.flatten_cons, ih]; rfl
  simp only [binS]
  rw [if_pos ⟨by simp, by simp, by omega, by omega⟩, e, e2]
  rfl
theorem right_ones {k m : Nat} {S : Store} (hm : m ≤ 12) : run fns 1000 (k + 14) 13 [lD (List.replicate m 1)] S = some (.bl true, S) := by
  refine right_srt hm ?_ (fun x hx => by rw [List.eq_of_mem_replicate hx]; omega) (by simp)
  exact List.pairwise_replicate.mpr (.inr (Nat.le_refl _))
theorem rep0 {S : Store} : biS .repr [.lst [.tup [], .int 1]] S = some (.str (Str.ofString "[(), 1]"), S) := by
  have n : Nice 64 (2 ^ 20) (.lst [.tup [], .int 1]) := by
    refine (Nice.lst (n := 1) (c := 41) (m := 2) (w := 2 ^ 20) (fun d hd => ?_) (by simp)).mono
    simp only [List.mem_cons, List.not_mem_nil, or_false] at hd
    rcases hd with rfl | rfl
    · exact (Nice.tup (n := 0) (c := 0) (m := 0) (w := 41) (by simp) (by simp))
    · exact .int2 (by omega) (by omega)
  rw [n.repr S]
  have e : (pd (.lst [.tup [], .int 1])).shown = Str.ofString "[(), 1]" := by decide +kernel
  rw [e]
theorem say : ∀ ns : List Int, ns.length ≤ 63 → ∃ S, Rf.run (rows.map (·.fn)) 1000 200 15 [.ref 0] [.ro (ns.map .int)] = some (.bl true, S) := by
  intro s hs
  have hW : WpE (run fns 1000 200 15 [.ref 0] [.ro (s.map .int)]) (isB true) := by
    rw [e15]
    unfold b15
    have ht : run fns 1000 199 7 [.ref 0] [.ro (s.map .int)] = some (.ref 2, St3 s ⟨0, 0, 0⟩ []) := tape_run rfl hs
    have mlD : ∀ (L : List Nat) (T : Store), mat (lD L) T = (lD L, T) := fun _ _ => rfl
    exists ht
    refine d_draw TpB.start (by omega) (by omega) (by omega) rfl fun v1 tp1 v10 v11 ok1 => ?_
    obtain ⟨m, rfl⟩ := Int.eq_ofNat_of_zero_le v10
    exists if_true
    refine lengths_wp ok1 (by omega) (by omega) fun L tp2 p1 p2 p3 ok2 => ?_
    have rr := fun S => right_srt (k := 185) (S := S) (m := m) (by omega) p1 p2 p3
    exists rr, mlD
    clear rr p1 p2 p3
    refine d_draw ok2 (by omega) (by omega) (by omega) rfl fun v3 tp3 v30 v31 ok3 => ?_
    obtain ⟨m, rfl⟩ := Int.eq_ofNat_of_zero_le v30
    exists if_true
    refine lengths_wp ok3 (by omega) (by omega) fun L tp4 p1 p2 p3 ok4 => ?_
    have rr := fun S => right_srt (k := 185) (S := S) (m := m) (by omega) p1 p2 p3
    exists rr, mlD
    clear rr p1 p2 p3
    refine d_draw ok4 (by omega) (by omega) (by omega) rfl fun v5 tp5 v50 v51 ok5 => ?_
    obtain ⟨m, rfl⟩ := Int.eq_ofNat_of_zero_le v50
    exists if_true
    refine lengths_wp ok5 (by omega) (by omega) fun L tp6 p1 p2 p3 ok6 => ?_
    have rr := fun S => right_srt (k := 185) (S := S) (m := m) (by omega) p1 p2 p3
    have m6 : ∀ S, binS S .Mult (.tup [.int 2]) (.int 6) = some (.tup [.int 2, .int 2, .int 2, .int 2, .int 2, .int 2]) := fun S => rfl
    have eS : [D.tup [], .tup [.int 1], .tup [.int 12], .tup [.int 6, .int 6], .tup [.int 4, .int 4, .int 4], .tup [.int 3, .int 3, .int 3, .int 3], .tup [.int 2, .int 2, .int 2, .int 2, .int 2, .int 2], .tup [.int 1, .int 1, .int 2, .int 3, .int 5]] = someL.map lD := rfl
    exists rr, mlD, m6, eS
    clear rr p1 p2 p3
    refine d_draw ok6 (by omega) (by omega) (by omega) rfl fun v7 tp7 v70 v71 ok7 => ?_
    obtain ⟨m, rfl⟩ := Int.eq_ofNat_of_zero_le v70
    have ix : L2.atI (someL.map lD) (m : Int) = some (lD (someL.getD m [])) := atN [] (by simp [someL]; omega)
    have sb := someB (someL.getD m []) (by rw [List.getD_eq_getElem?_getD, List.getElem?_eq_getElem (by simp [someL]; omega)]; exact List.getElem_mem _)
    have rr := fun S => right_mem (k := 185) (S := S) sb.2 sb.1 rfl
    exists ix, rr, mlD
    clear rr sb ix
    refine d_draw ok7 (by omega) (by omega) (by omega) rfl fun v9 tp9 v90 v91 ok9 => ?_
    obtain ⟨m, rfl⟩ := Int.eq_ofNat_of_zero_le v90
    have rp := fun S => rep1 (S := S) (v := (m : Int)) rfl (by omega)
    have rr := fun S => right_ones (k := 185) (S := S) (m := m) (by omega)
    exists rp, rr, mlD
    clear rr rp
    refine d_draw ok9 (by omega) (by omega) (by omega) rfl fun v11 tp11 w0 w1 ok11 => ?_
    obtain ⟨m, rfl⟩ := Int.eq_ofNat_of_zero_le w0
    have ar := fun S => allRight_run (k := 191) (S := S) (n := m) (by omega)
    have o0 : ∀ S, run fns 1000 199 5 [.tup []] S = some (.tup [], S) := fun S => of_run (k := 198) (L := []) (by simp) (by simp)
    have mn : ∀ S, run fns 1000 199 6 [.tup []] S = some (.int 1, S) := fun S => many_run (k := 198) (L := []) (by simp) (by simp) (by decide) (by decide)
    have rq := fun S => rep0 (S := S)
    exists ar, o0, mn, rq
    exact isB_fin
  obtain ⟨d, S, h, q⟩ := hW
  rw [isB] at q
  subst q
  exact ⟨S, h⟩
end Lw

namespace Lw
open PySem L2 Rf
theorem tops {w : World} {K : PySem.W.Frag} {h : Heap} {mg : Str → Option Value} (X : K.In h) (N : h.Ns mainGlobals mg)
    {f0 : Addr} {oc0 kV0 doc0 pm0 cd0 ct0 : Value} {od0 an0 : Option Addr} {osl0 : Array (Option Value)}
    (a0 : PySem.W.nsIn K mainGlobals "names_over" = some (some (.ref f0))) (l0 : K.lookup f0 = some ⟨oc0, od0, .func (PySem.W.fnOf "names_over" "names_over" (defArgs (topS 4)) (defBody (topS 4)) (defScope (topS 4)) .none kV0 doc0 pm0 an0 cd0 ct0), osl0⟩) (c0 : PySem.W.codeIn K cd0 "names_over" = true) (k0 : PySem.W.keepIn K (.ref f0) = true)
    {f1 : Addr} {oc1 kV1 doc1 pm1 cd1 ct1 : Value} {od1 an1 : Option Addr} {osl1 : Array (Option Value)}
    (a1 : PySem.W.nsIn K mainGlobals "names_onto" = some (some (.ref f1))) (l1 : K.lookup f1 = some ⟨oc1, od1, .func (PySem.W.fnOf "names_onto" "names_onto" (defArgs (topS 5)) (defBody (topS 5)) (defScope (topS 5)) .none kV1 doc1 pm1 an1 cd1 ct1), osl1⟩) (c1 : PySem.W.codeIn K cd1 "names_onto" = true) (k1 : PySem.W.keepIn K (.ref f1) = true)
    {f2 : Addr} {oc2 kV2 doc2 pm2 cd2 ct2 : Value} {od2 an2 : Option Addr} {osl2 : Array (Option Value)}
    (a2 : PySem.W.nsIn K mainGlobals "all_exchanges" = some (some (.ref f2))) (l2 : K.lookup f2 = some ⟨oc2, od2, .func (PySem.W.fnOf "all_exchanges" "all_exchanges" (defArgs (topS 6)) (defBody (topS 6)) (defScope (topS 6)) .none kV2 doc2 pm2 an2 cd2 ct2), osl2⟩) (c2 : PySem.W.codeIn K cd2 "all_exchanges" = true) (k2 : PySem.W.keepIn K (.ref f2) = true)
    {f3 : Addr} {oc3 kV3 doc3 pm3 cd3 ct3 : Value} {od3 an3 : Option Addr} {osl3 : Array (Option Value)}
    (a3 : PySem.W.nsIn K mainGlobals "rounds_of" = some (some (.ref f3))) (l3 : K.lookup f3 = some ⟨oc3, od3, .func (PySem.W.fnOf "rounds_of" "rounds_of" (defArgs (topS 7)) (defBody (topS 7)) (defScope (topS 7)) .none kV3 doc3 pm3 an3 cd3 ct3), osl3⟩) (c3 : PySem.W.codeIn K cd3 "rounds_of" = true) (k3 : PySem.W.keepIn K (.ref f3) = true)
    {f4 : Addr} {oc4 kV4 doc4 pm4 cd4 ct4 : Value} {od4 an4 : Option Addr} {osl4 : Array (Option Value)}
    (a4 : PySem.W.nsIn K mainGlobals "lengths_of" = some (some (.ref f4))) (l4 : K.lookup f4 = some ⟨oc4, od4, .func (PySem.W.fnOf "lengths_of" "lengths_of" (defArgs (topS 8)) (defBody (topS 8)) (defScope (topS 8)) .none kV4 doc4 pm4 an4 cd4 ct4), osl4⟩) (c4 : PySem.W.codeIn K cd4 "lengths_of" = true) (k4 : PySem.W.keepIn K (.ref f4) = true)
    {f5 : Addr} {oc5 kV5 doc5 pm5 cd5 ct5 : Value} {od5 an5 : Option Addr} {osl5 : Array (Option Value)}
    (a5 : PySem.W.nsIn K mainGlobals "of_lengths" = some (some (.ref f5))) (l5 : K.lookup f5 = some ⟨oc5, od5, .func (PySem.W.fnOf "of_lengths" "of_lengths" (defArgs (topS 9)) (defBody (topS 9)) (defScope (topS 9)) .none kV5 doc5 pm5 an5 cd5 ct5), osl5⟩) (c5 : PySem.W.codeIn K cd5 "of_lengths" = true) (k5 : PySem.W.keepIn K (.ref f5) = true)
    {f6 : Addr} {oc6 kV6 doc6 pm6 cd6 ct6 : Value} {od6 an6 : Option Addr} {osl6 : Array (Option Value)}
    (a6 : PySem.W.nsIn K mainGlobals "many_of" = some (some (.ref f6))) (l6 : K.lookup f6 = some ⟨oc6, od6, .func (PySem.W.fnOf "many_of" "many_of" (defArgs (topS 10)) (defBody (topS 10)) (defScope (topS 10)) .none kV6 doc6 pm6 an6 cd6 ct6), osl6⟩) (c6 : PySem.W.codeIn K cd6 "many_of" = true) (k6 : PySem.W.keepIn K (.ref f6) = true)
    {f7 : Addr} {oc7 kV7 doc7 pm7 cd7 ct7 : Value} {od7 an7 : Option Addr} {osl7 : Array (Option Value)}
    (a7 : PySem.W.nsIn K mainGlobals "_law_tape" = some (some (.ref f7))) (l7 : K.lookup f7 = some ⟨oc7, od7, .func (PySem.W.fnOf "_law_tape" "_law_tape" (defArgs (topS 12)) (defBody (topS 12)) (defScope (topS 12)) .none kV7 doc7 pm7 an7 cd7 ct7), osl7⟩) (c7 : PySem.W.codeIn K cd7 "_law_tape" = true) (k7 : PySem.W.keepIn K (.ref f7) = true)
    {f8 : Addr} {oc8 kV8 doc8 pm8 cd8 ct8 : Value} {od8 an8 : Option Addr} {osl8 : Array (Option Value)}
    (a8 : PySem.W.nsIn K mainGlobals "_law_draw" = some (some (.ref f8))) (l8 : K.lookup f8 = some ⟨oc8, od8, .func (PySem.W.fnOf "_law_draw" "_law_draw" (defArgs (topS 13)) (defBody (topS 13)) (defScope (topS 13)) .none kV8 doc8 pm8 an8 cd8 ct8), osl8⟩) (c8 : PySem.W.codeIn K cd8 "_law_draw" = true) (k8 : PySem.W.keepIn K (.ref f8) = true)
    {f9 : Addr} {oc9 kV9 doc9 pm9 cd9 ct9 : Value} {od9 an9 : Option Addr} {osl9 : Array (Option Value)}
    (a9 : PySem.W.nsIn K mainGlobals "_law_lengths" = some (some (.ref f9))) (l9 : K.lookup f9 = some ⟨oc9, od9, .func (PySem.W.fnOf "_law_lengths" "_law_lengths" (defArgs (topS 14)) (defBody (topS 14)) (defScope (topS 14)) .none kV9 doc9 pm9 an9 cd9 ct9), osl9⟩) (c9 : PySem.W.codeIn K cd9 "_law_lengths" = true) (k9 : PySem.W.keepIn K (.ref f9) = true)
    {f10 : Addr} {oc10 kV10 doc10 pm10 cd10 ct10 : Value} {od10 an10 : Option Addr} {osl10 : Array (Option Value)}
    (a10 : PySem.W.nsIn K mainGlobals "_law_exchange" = some (some (.ref f10))) (l10 : K.lookup f10 = some ⟨oc10, od10, .func (PySem.W.fnOf "_law_exchange" "_law_exchange" (defArgs (topS 15)) (defBody (topS 15)) (defScope (topS 15)) .none kV10 doc10 pm10 an10 cd10 ct10), osl10⟩) (c10 : PySem.W.codeIn K cd10 "_law_exchange" = true) (k10 : PySem.W.keepIn K (.ref f10) = true)
    {f11 : Addr} {oc11 kV11 doc11 pm11 cd11 ct11 : Value} {od11 an11 : Option Addr} {osl11 : Array (Option Value)}
    (a11 : PySem.W.nsIn K mainGlobals "_law_many" = some (some (.ref f11))) (l11 : K.lookup f11 = some ⟨oc11, od11, .func (PySem.W.fnOf "_law_many" "_law_many" (defArgs (topS 16)) (defBody (topS 16)) (defScope (topS 16)) .none kV11 doc11 pm11 an11 cd11 ct11), osl11⟩) (c11 : PySem.W.codeIn K cd11 "_law_many" = true) (k11 : PySem.W.keepIn K (.ref f11) = true)
    {f12 : Addr} {oc12 kV12 doc12 pm12 cd12 ct12 : Value} {od12 an12 : Option Addr} {osl12 : Array (Option Value)}
    (a12 : PySem.W.nsIn K mainGlobals "_law_all" = some (some (.ref f12))) (l12 : K.lookup f12 = some ⟨oc12, od12, .func (PySem.W.fnOf "_law_all" "_law_all" (defArgs (topS 17)) (defBody (topS 17)) (defScope (topS 17)) .none kV12 doc12 pm12 an12 cd12 ct12), osl12⟩) (c12 : PySem.W.codeIn K cd12 "_law_all" = true) (k12 : PySem.W.keepIn K (.ref f12) = true)
    {f13 : Addr} {oc13 kV13 doc13 pm13 cd13 ct13 : Value} {od13 an13 : Option Addr} {osl13 : Array (Option Value)}
    (a13 : PySem.W.nsIn K mainGlobals "_law_right" = some (some (.ref f13))) (l13 : K.lookup f13 = some ⟨oc13, od13, .func (PySem.W.fnOf "_law_right" "_law_right" (defArgs (topS 18)) (defBody (topS 18)) (defScope (topS 18)) .none kV13 doc13 pm13 an13 cd13 ct13), osl13⟩) (c13 : PySem.W.codeIn K cd13 "_law_right" = true) (k13 : PySem.W.keepIn K (.ref f13) = true)
    {f14 : Addr} {oc14 kV14 doc14 pm14 cd14 ct14 : Value} {od14 an14 : Option Addr} {osl14 : Array (Option Value)}
    (a14 : PySem.W.nsIn K mainGlobals "_law_all_right" = some (some (.ref f14))) (l14 : K.lookup f14 = some ⟨oc14, od14, .func (PySem.W.fnOf "_law_all_right" "_law_all_right" (defArgs (topS 19)) (defBody (topS 19)) (defScope (topS 19)) .none kV14 doc14 pm14 an14 cd14 ct14), osl14⟩) (c14 : PySem.W.codeIn K cd14 "_law_all_right" = true) (k14 : PySem.W.keepIn K (.ref f14) = true)
    {f15 : Addr} {oc15 kV15 doc15 pm15 cd15 ct15 : Value} {od15 an15 : Option Addr} {osl15 : Array (Option Value)}
    (a15 : PySem.W.nsIn K mainGlobals "law" = some (some (.ref f15))) (l15 : K.lookup f15 = some ⟨oc15, od15, .func (PySem.W.fnOf "law" "law" (defArgs (topS 20)) (defBody (topS 20)) (defScope (topS 20)) .none kV15 doc15 pm15 an15 cd15 ct15), osl15⟩) (c15 : PySem.W.codeIn K cd15 "law" = true) (k15 : PySem.W.keepIn K (.ref f15) = true)
    (z0 : PySem.W.nsIn K mainGlobals "len" = some none)
    (z1 : PySem.W.nsIn K mainGlobals "tuple" = some none)
    (z2 : PySem.W.nsIn K mainGlobals "list" = some none)
    (z3 : PySem.W.nsIn K mainGlobals "sorted" = some none)
    (z4 : PySem.W.nsIn K mainGlobals "sum" = some none)
    (z5 : PySem.W.nsIn K mainGlobals "min" = some none)
    (z6 : PySem.W.nsIn K mainGlobals "repr" = some none)
    (z7 : PySem.W.nsIn K mainGlobals "dict" = some none)
    (z8 : PySem.W.nsIn K mainGlobals "range" = some none)
    (z9 : PySem.W.nsIn K mainGlobals "zip" = some none) : Tops G rows K w mg :=
  ⟨all_cons (tf_mk (r := r0) X N (fun _ _ _ _ _ _ us hl => match us, hl with | [_], _ => rfl) a0 l0 c0 k0) <| all_cons (tf_mk (r := r1) X N (fun _ _ _ _ _ _ us hl => match us, hl with | [_], _ => rfl) a1 l1 c1 k1) <| all_cons (tf_mk (r := r2) X N (fun _ _ _ _ _ _ us hl => match us, hl with | [_], _ => rfl) a2 l2 c2 k2) <| all_cons (tf_mk (r := r3) X N (fun _ _ _ _ _ _ us hl => match us, hl with | [_], _ => rfl) a3 l3 c3 k3) <| all_cons (tf_mk (r := r4) X N (fun _ _ _ _ _ _ us hl => match us, hl with | [_], _ => rfl) a4 l4 c4 k4) <| all_cons (tf_mk (r := r5) X N (fun _ _ _ _ _ _ us hl => match us, hl with | [_], _ => rfl) a5 l5 c5 k5) <| all_cons (tf_mk (r := r6) X N (fun _ _ _ _ _ _ us hl => match us, hl with | [_], _ => rfl) a6 l6 c6 k6) <| all_cons (tf_mk (r := r7) X N (fun _ _ _ _ _ _ us hl => match us, hl with | [_], _ => rfl) a7 l7 c7 k7) <| all_cons (tf_mk (r := r8) X N (fun _ _ _ _ _ _ us hl => match us, hl with | [_, _], _ => rfl) a8 l8 c8 k8) <| all_cons (tf_mk (r := r9) X N (fun _ _ _ _ _ _ us hl => match us, hl with | [_, _], _ => rfl) a9 l9 c9 k9) <| all_cons (tf_mk (r := r10) X N (fun _ _ _ _ _ _ us hl => match us, hl with | [_], _ => rfl) a10 l10 c10 k10) <| all_cons (tf_mk (r := r11) X N (fun _ _ _ _ _ _ us hl => match us, hl with | [_], _ => rfl) a11 l11 c11 k11) <| all_cons (tf_mk (r := r12) X N (fun _ _ _ _ _ _ us hl => match us, hl with | [_, _], _ => rfl) a12 l12 c12 k12) <| all_cons (tf_mk (r := r13) X N (fun _ _ _ _ _ _ us hl => match us, hl with | [_], _ => rfl) a13 l13 c13 k13) <| all_cons (tf_mk (r := r14) X N (fun _ _ _ _ _ _ us hl => match us, hl with | [_], _ => rfl) a14 l14 c14 k14) <| all_cons (tf_mk (r := r15) X N (fun _ _ _ _ _ _ us hl => match us, hl with | [_], _ => rfl) a15 l15 c15 k15) <| all_nil,
   all_cons (PySem.W.mg_none_of X N z0) <| all_cons (PySem.W.mg_none_of X N z1) <| all_cons (PySem.W.mg_none_of X N z2) <| all_cons (PySem.W.mg_none_of X N z3) <| all_cons (PySem.W.mg_none_of X N z4) <| all_cons (PySem.W.mg_none_of X N z5) <| all_cons (PySem.W.mg_none_of X N z6) <| all_cons (PySem.W.mg_none_of X N z7) <| all_cons (PySem.W.mg_none_of X N z8) <| all_cons (PySem.W.mg_none_of X N z9) <| all_nil, cs_of (all_nil), dc_of (all_nil), ft_nil, fun _ z => by cases z⟩
end Lw
open PySem PySem.W PyProof.Rows
set_option maxHeartbeats 0 in
theorem PySem.Challenge.cw_kindmakes_k07_exchanges_of_lengths_holds : PySem.Challenge.rw_kindmakes_k07_exchanges_of_lengths.Holds := by
  w_on; o_law; k_head; (case hw => w_witness2)
  k_fill
  refine Rf.walk_G (l := PySem.Challenge.rw_kindmakes_k07_exchanges_of_lengths) (F := 1000) (k := 200) (j := 15) (G := Lw.G) (rows := Lw.rows) (r := Lw.r15) (x := "_law_script") rfl rfl ⟨rfl, by decide, by decide⟩ rfl Lw.oks rfl rfl rfl (by decide +kernel) (by decide +kernel) Lw.say (fun w h Y => PySem.W.kIn_of Y) ?T
  case T =>
    intro w mg h KX N
    refine' Lw.tops (w := w) KX N ?a0 ?l0 ?c0 ?k0 ?a1 ?l1 ?c1 ?k1 ?a2 ?l2 ?c2 ?k2 ?a3 ?l3 ?c3 ?k3 ?a4 ?l4 ?c4 ?k4 ?a5 ?l5 ?c5 ?k5 ?a6 ?l6 ?c6 ?k6 ?a7 ?l7 ?c7 ?k7 ?a8 ?l8 ?c8 ?k8 ?a9 ?l9 ?c9 ?k9 ?a10 ?l10 ?c10 ?k10 ?a11 ?l11 ?c11 ?k11 ?a12 ?l12 ?c12 ?k12 ?a13 ?l13 ?c13 ?k13 ?a14 ?l14 ?c14 ?k14 ?a15 ?l15 ?c15 ?k15 ?z0 ?z1 ?z2 ?z3 ?z4 ?z5 ?z6 ?z7 ?z8 ?z9
    (case a0 => k_is)
    (case l0 => k_is)
    (case c0 => k_is)
    (case k0 => k_is)
    (case a1 => k_is)
    (case l1 => k_is)
    (case c1 => k_is)
    (case k1 => k_is)
    (case a2 => k_is)
    (case l2 => k_is)
    (case c2 => k_is)
    (case k2 => k_is)
    (case a3 => k_is)
    (case l3 => k_is)
    (case c3 => k_is)
    (case k3 => k_is)
    (case a4 => k_is)
    (case l4 => k_is)
    (case c4 => k_is)
    (case k4 => k_is)
    (case a5 => k_is)
    (case l5 => k_is)
    (case c5 => k_is)
    (case k5 => k_is)
    (case a6 => k_is)
    (case l6 => k_is)
    (case c6 => k_is)
    (case k6 => k_is)
    (case a7 => k_is)
    (case l7 => k_is)
    (case c7 => k_is)
    (case k7 => k_is)
    (case a8 => k_is)
    (case l8 => k_is)
    (case c8 => k_is)
    (case k8 => k_is)
    (case a9 => k_is)
    (case l9 => k_is)
    (case c9 => k_is)
    (case k9 => k_is)
    (case a10 => k_is)
    (case l10 => k_is)
    (case c10 => k_is)
    (case k10 => k_is)
    (case a11 => k_is)
    (case l11 => k_is)
    (case c11 => k_is)
    (case k11 => k_is)
    (case a12 => k_is)
    (case l12 => k_is)
    (case c12 => k_is)
    (case k12 => k_is)
    (case a13 => k_is)
    (case l13 => k_is)
    (case c13 => k_is)
    (case k13 => k_is)
    (case a14 => k_is)
    (case l14 => k_is)
    (case c14 => k_is)
    (case k14 => k_is)
    (case a15 => k_is)
    (case l15 => k_is)
    (case c15 => k_is)
    (case k15 => k_is)
    (case z0 => k_is)
    (case z1 => k_is)
    (case z2 => k_is)
    (case z3 => k_is)
    (case z4 => k_is)
    (case z5 => k_is)
    (case z6 => k_is)
    (case z7 => k_is)
    (case z8 => k_is)
    (case z9 => k_is)

