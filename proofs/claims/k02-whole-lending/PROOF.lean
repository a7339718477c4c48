import PyProof.Rows.All
import Wide.All
import OpenK.AllK
import Wide.FinOn
import HandS.ForMost
import HandS.Wide
import HandS.Deep
import HandS.TupAny
import HandS.TupMul
import HandS.Conv
import HandS.Style
import HandS.IsInst
import HandS.WordsDict
import HandS.TupLen
import HandS.SetFor
import HandS.RaiseMore
import KE.SortData
import KE.DataFind
import HandS.Words
import HandS.EndBits
import HandS.Iter
import HandS.Zip
import KE.GoesEnum
import HandS.Comp
import HandS.Call
import OpenK.XHead
import PyProof.ReprLen
import PySem.Challenge.RW_roadloans_k02_whole_lending
set_option Elab.async false
set_option linter.all false
set_option maxRecDepth 100000
set_option maxHeartbeats 4000000
/-! RLCore: a small syntax of the Python that the laws use, and what it does, as a predicate transformer over plain data. -/
namespace RL
open PySem

/-- values; lists that nobody changes stand within, the others by number in the heap -/
inductive PV where
  | non | bl (b : Bool) | int (i : Int) | str (s : Str) | tup (xs : List PV) | lst (xs : List PV) | ref (n : Nat) | scr (ns : List Int)
  deriving Inhabited

inductive PO where
  | lst (xs : List PV)
  | dK (kvs : List (L2.Key × PV))
  | dT (kvs : List (List L2.Key × PV))
  deriving Inhabited

abbrev PHp := List PO
abbrev Env := List (Option PV)
abbrev QV := PV → PHp → Prop
/-- an exception: its class's name, its fields -/
structure PX where
  cls : Str
  fs : List (Str × PV)
abbrev QX := PX → PHp → Prop

/-! ### data -/
def keyD : L2.Key → PyData
  | .inl i => .int i
  | .inr s => .str s
mutual
inductive Dat (ph : PHp) : PV → PyData → Prop
  | non : Dat ph .non .none
  | bl (b) : Dat ph (.bl b) (.bool b)
  | int (i) : Dat ph (.int i) (.int i)
  | str (s) : Dat ph (.str s) (.str s)
  | tup {xs ds} : DatAll ph xs ds → Dat ph (.tup xs) (.tuple ds)
  | lst {xs ds} : DatAll ph xs ds → Dat ph (.lst xs) (.list ds)
  | ref {n xs ds} : ph[n]? = some (.lst xs) → DatAll ph xs ds → Dat ph (.ref n) (.list ds)
  | dict {n kvs ds} : ph[n]? = some (.dK kvs) → DatAll ph (kvs.map (·.2)) ds → Dat ph (.ref n) (.dict ((kvs.map fun p => keyD p.1).zip ds))
inductive DatAll (ph : PHp) : List PV → List PyData → Prop
  | nil : DatAll ph [] []
  | cons {v vs d ds} : Dat ph v d → DatAll ph vs ds → DatAll ph (v :: vs) (d :: ds)
end

/-! ### syntax -/
inductive Op2 where
  | add | sub | mul | fdiv | mod | pow | band | shl | shr | eq | ne | lt | le | gt | ge | is | isnot | in_ | notin
  deriving DecidableEq, Repr
inductive Bi where
  | len | tuple | list | int | repr | sum | min | max | abs | sorted | all | any | str | set
  deriving DecidableEq, Repr
inductive Mt where
  | append | pop | popAt | extend | index | count
  deriving DecidableEq, Repr
inductive Ty where
  | int | bool | str | tuple | list | dict
  deriving DecidableEq, Repr
/-- what is walked -/
inductive ItK where
  | seq | range | enum | zip | enumzip | items
  deriving DecidableEq, Repr
inductive Atom where
  | non | bl (b : Bool) | int (i : Int) | str (s : Str)
  deriving DecidableEq
def Atom.pv : Atom → PV
  | .non => .non | .bl b => .bl b | .int i => .int i | .str s => .str s
inductive Tg where
  | name (i : Nat) | tup (ts : List Tg)
mutual
def Tg.slots : Tg → List Nat
  | .name i => [i]
  | .tup ts => slotsAll ts
def slotsAll : List Tg → List Nat
  | [] => []
  | t :: ts => Tg.slots t ++ slotsAll ts
end

inductive E where
  | var (i : Nat)
  | con (a : Atom)
  | glob (n : Nat)
  | op2 (o : Op2) (own : Bool) (a b : E)
  | neg (a : E)
  | notE (a : E)
  | andE (a b : E)
  | orE (a b : E)
  | chain (o1 o2 : Op2) (a b c : E)
  | ife (c a b : E)
  | tup (es : List E)
  | lst (own : Bool) (es : List E)
  | dict (ks : List Atom) (es : List E)
  | idx (a i : E)
  | sl (own : Bool) (a : E) (lo hi : Option E)
  | rev (own : Bool) (a : E)
  | call (f : Nat) (es : List E)
  | callk (f : Nat) (es : List E) (kes : List E) (perm : List Nat)
  | bi (b : Bi) (own : Bool) (es : List E)
  | rng (tup own : Bool) (es : List E)
  | isin (a : E) (ty : Ty)
  | comp (own : Bool) (elt : E) (tg : Tg) (k : ItK) (its : List E) (cond : Option E) (slots : List Nat)
  | mt (m : Mt) (a : E) (es : List E)

inductive S where
  | set (i : Nat) (e : E)
  | setT (t : Tg) (e : E)
  | par (is : List Nat) (es : List E)
  | seti (o i e : E)
  | setis (is : List (E × E)) (es : List E)
  | expr (e : E)
  | ret (e : E)
  | retN
  | ife (c : E) (a b : List S)
  | while_ (c : E) (b : List S)
  | for_ (t : Tg) (k : ItK) (its : List E) (b : List S)
  | brk
  | cont
  | pass
  | raise_ (cls : Str) (es : List E)

structure Df where
  name : Str
  ps : List Str
  N : List Str
  gc : Bool
  body : List S
structure Pg where
  defs : List Df
  gl : List (Str × PV)

/-! ### what the operations do -/
/-- a new list: within, or in the heap -/
def newL (own : Bool) (xs : List PV) (ph : PHp) (Q : QV) : Prop :=
  xs.length ≤ sizeLine ∧ (if own = true then Q (.ref ph.length) (ph ++ [.lst xs]) else Q (.lst xs) ph)
/-- the items of a list -/
def lstOf (ph : PHp) : PV → Option (List PV)
  | .lst xs => some xs
  | .ref n => match ph[n]? with
    | some (.lst xs) => some xs
    | _ => none
  | _ => none
def seqOf (ph : PHp) : PV → Option (List PV)
  | .tup xs => some xs
  | .scr ns => some (ns.map .int)
  | v => lstOf ph v
def keyOf : PV → Option L2.Key
  | .int i => some (.inl i)
  | .str s => some (.inr s)
  | _ => none
def keysOf : List PV → Option (List L2.Key)
  | [] => some []
  | v :: r => match keyOf v, keysOf r with
    | some k, some ks => some (k :: ks)
    | _, _ => none
def tkeyOf : PV → Option (List L2.Key)
  | .tup xs => keysOf xs
  | _ => none
section
variable {κ : Type} [DecidableEq κ]
def pkLook (kvs : List (κ × PV)) (k : κ) : Option PV := (kvs.find? fun kv => decide (kv.1 = k)).map (·.2)
def pkPut (kvs : List (κ × PV)) (k : κ) (v : PV) : List (κ × PV) :=
  if (kvs.any fun kv => decide (kv.1 = k)) = true then kvs.map (fun kv => if kv.1 = k then (kv.1, v) else kv) else kvs ++ [(k, v)]
end
def intsOf : List PV → Option (List Int)
  | [] => some []
  | .int i :: r => (intsOf r).map (i :: ·)
  | _ :: _ => none
def blsOf : List PV → Option (List Bool)
  | [] => some []
  | .bl i :: r => (blsOf r).map (i :: ·)
  | _ :: _ => none
def lexLt : List Int → List Int → Bool
  | _, [] => false
  | [], _ :: _ => true
  | x :: xs, y :: ys => if x = y then lexLt xs ys else decide (x < y)
def mulOk (i j : Int) : Prop := L2.CMulW i j
def eqP (a b : PV) (ph : PHp) (k : Bool → Prop) : Prop :=
  match a, b with
  | .int i, .int j => k (decide (i = j))
  | .non, .non => k true
  | .str s, .str t => k (decide (s = t))
  | .bl s, .bl t => k (decide (s = t))
  | a, b => ∃ d e, Dat ph a d ∧ Dat ph b e ∧ SeqAt.shaped d = true ∧ SeqAt.shaped e = true ∧ k (PyData.eqv d e)
def isNon : PV → Bool
  | .non => true
  | _ => false
def isIn (a b : PV) (ph : PHp) (k : Bool → Prop) : Prop :=
  match b with
  | .ref n => match ph[n]? with
    | some (.dK kvs) => ∃ key, keyOf a = some key ∧ k (pkLook kvs key).isSome
    | some (.dT kvs) => ∃ key, tkeyOf a = some key ∧ k (pkLook kvs key).isSome
    | _ => ∃ d ds, Dat ph a d ∧ Dat ph b (.list ds) ∧ SeqAt.shaped d = true ∧ SeqAt.shaped (.list ds) = true ∧ k (ds.any fun z => PyData.eqv z d)
  | .tup xs => ∃ d ds, Dat ph a d ∧ DatAll ph xs ds ∧ SeqAt.shaped d = true ∧ SeqAt.shaped (.tuple ds) = true ∧ k (ds.any fun z => PyData.eqv z d)
  | _ => ∃ d ds, Dat ph a d ∧ Dat ph b (.list ds) ∧ SeqAt.shaped d = true ∧ SeqAt.shaped (.list ds) = true ∧ k (ds.any fun z => PyData.eqv z d)

def op2S (o : Op2) (own : Bool) (a b : PV) (ph : PHp) (Q : QV) : Prop :=
  match o with
  | .add => match a, b with
    | .int i, .int j => Q (.int (i + j)) ph
    | .str s, .str t => s.length + t.length ≤ sizeLine ∧ Q (.str (s ++ t)) ph
    | .tup xs, .tup ys => xs.length + ys.length ≤ sizeLine ∧ Q (.tup (xs ++ ys)) ph
    | a, b => ∃ xs ys, lstOf ph a = some xs ∧ lstOf ph b = some ys ∧ xs.length + ys.length ≤ sizeLine ∧ newL own (xs ++ ys) ph Q
  | .sub => match a, b with
    | .int i, .int j => Q (.int (i - j)) ph
    | _, _ => False
  | .mul => match a, b with
    | .int i, .int j => mulOk i j ∧ Q (.int (i * j)) ph
    | .tup xs, .int k => (-1000 ≤ k ∧ k ≤ 1000) ∧ xs.length ≤ 1000 ∧ Q (.tup (List.replicate k.toNat xs).flatten) ph
    | .str xs, .int k => (-1000 ≤ k ∧ k ≤ 1000) ∧ xs.length ≤ 1000 ∧ Q (.str ⟨(List.replicate k.toNat xs.cps.toList).flatten.toArray⟩) ph
    | a, .int k => ∃ xs, lstOf ph a = some xs ∧ (-1000 ≤ k ∧ k ≤ 1000) ∧ xs.length ≤ 1000 ∧ newL own (List.replicate k.toNat xs).flatten ph Q
    | _, _ => False
  | .fdiv => match a, b with
    | .int i, .int j => ((0 < j ∧ j.natAbs.log2 < 9000) ∨ (j ≠ 0 ∧ j.natAbs < 1073741824)) ∧ Q (.int (i.fdiv j)) ph
    | _, _ => False
  | .mod => match a, b with
    | .int i, .int j => j ≠ 0 ∧ Q (.int (i.fmod j)) ph
    | _, _ => False
  | .pow => match a, b with
    | .int i, .int j => (0 ≤ j ∧ j ≤ 1000000 ∧ i.natAbs < 2 ^ 64) ∧ Q (.int (i ^ j.toNat)) ph
    | _, _ => False
  | .band => match a, b with
    | .int i, .int j => Q (.int (Builtin.bitAnd i j)) ph
    | _, _ => False
  | .shl => match a, b with
    | .int i, .int j => (0 ≤ j ∧ j ≤ 1000000 ∧ i.natAbs < 2 ^ 64) ∧ Q (.int (i * 2 ^ j.toNat)) ph
    | _, _ => False
  | .shr => match a, b with
    | .int i, .int j => 0 ≤ j ∧ Q (.int (i / 2 ^ j.toNat)) ph
    | _, _ => False
  | .eq => eqP a b ph fun k => Q (.bl k) ph
  | .ne => eqP a b ph fun k => Q (.bl (!k)) ph
  | .lt => match a, b with
    | .int i, .int j => Q (.bl (decide (i < j))) ph
    | .tup xs, .tup ys => ∃ ns ms, intsOf xs = some ns ∧ intsOf ys = some ms ∧ Q (.bl (lexLt ns ms)) ph
    | _, _ => False
  | .le => match a, b with
    | .int i, .int j => Q (.bl (decide (i ≤ j))) ph
    | _, _ => False
  | .gt => match a, b with
    | .int i, .int j => Q (.bl (decide (j < i))) ph
    | _, _ => False
  | .ge => match a, b with
    | .int i, .int j => Q (.bl (decide (j ≤ i))) ph
    | _, _ => False
  | .is => match b with
    | .non => Q (.bl (isNon a)) ph
    | _ => False
  | .isnot => match b with
    | .non => Q (.bl (!isNon a)) ph
    | _ => False
  | .in_ => isIn a b ph fun k => Q (.bl k) ph
  | .notin => isIn a b ph fun k => Q (.bl (!k)) ph

def strAt (s : Str) (i : Int) (Q : PV → Prop) : Prop := ∃ c, s.length ≤ sizeLine ∧ L2.atI s.cps.toList i = some c ∧ Q (.str ⟨#[c]⟩)
def idxS (a b : PV) (ph : PHp) (Q : QV) : Prop :=
  match a, b with
  | .tup xs, .int i => ∃ v, L2.atI xs i = some v ∧ Q v ph
  | .lst xs, .int i => ∃ v, L2.atI xs i = some v ∧ Q v ph
  | .str s, .int i => strAt s i fun v => Q v ph
  | .ref n, b => match ph[n]? with
    | some (.lst xs) => match b with
      | .int i => ∃ v, L2.atI xs i = some v ∧ Q v ph
      | _ => False
    | some (.dK kvs) => ∃ key v, keyOf b = some key ∧ pkLook kvs key = some v ∧ Q v ph
    | some (.dT kvs) => ∃ key v, tkeyOf b = some key ∧ pkLook kvs key = some v ∧ Q v ph
    | none => False
  | _, _ => False
/-- xs[lo:hi] -/
def sIx (n d : Nat) : Option Int → Nat
  | none => d
  | some v => if v < 0 then (max (v + (n : Int)) 0).toNat else (min v (n : Int)).toNat
def cut {α : Type} (xs : List α) (lo hi : Option Int) : List α := (xs.drop (sIx xs.length 0 lo)).take (sIx xs.length xs.length hi - sIx xs.length 0 lo)
def slS (own : Bool) (a : PV) (lo hi : Option Int) (ph : PHp) (Q : QV) : Prop :=
  match a with
  | .tup xs => Q (.tup (cut xs lo hi)) ph
  | .str s => s.length ≤ sizeLine ∧ Q (.str ⟨(cut s.cps.toList lo hi).toArray⟩) ph
  | .scr ns => newL own (cut (ns.map PV.int) lo hi) ph Q
  | a => ∃ xs, lstOf ph a = some xs ∧ newL own (cut xs lo hi) ph Q
def revS (own : Bool) (a : PV) (ph : PHp) (Q : QV) : Prop := ∃ xs, lstOf ph a = some xs ∧ newL own xs.reverse ph Q

-- sorted: ints, or tuples of ints
def rowsOf : List PV → Option (List (List Int))
  | [] => some []
  | .tup r :: l => match intsOf r, rowsOf l with
    | some ns, some ls => some (ns :: ls)
    | _, _ => none
  | _ :: _ => none
def reprS (d : PyData) : Prop := d.showable = true ∧ d.shown.length ≤ sizeLine ∧ d.depth ≤ 60

def bi_len (own : Bool) (vs : List PV) (ph : PHp) (Q : QV) : Prop :=
  match vs with
  | [.str s] => s.length ≤ sizeLine ∧ Q (.int s.length) ph
  | [.ref n] => match ph[n]? with
    | some (.lst xs) => Q (.int xs.length) ph
    | some (.dK kvs) => Q (.int kvs.length) ph
    | some (.dT kvs) => Q (.int kvs.length) ph
    | none => False
  | [.tup xs] => Q (.int xs.length) ph
  | [.scr ns] => Q (.int ns.length) ph
  | [.lst xs] => Q (.int xs.length) ph
  | _ => False
def bi_tuple (own : Bool) (vs : List PV) (ph : PHp) (Q : QV) : Prop :=
  match vs with
  | [.tup xs] => Q (.tup xs) ph
  | [v] => ∃ xs, lstOf ph v = some xs ∧ Q (.tup xs) ph
  | _ => False
def bi_list (own : Bool) (vs : List PV) (ph : PHp) (Q : QV) : Prop :=
  match vs with
  | [v] => ∃ xs, seqOf ph v = some xs ∧ newL own xs ph Q
  | _ => False
def bi_int (own : Bool) (vs : List PV) (ph : PHp) (Q : QV) : Prop :=
  match vs with
  | [.int i] => Q (.int i) ph
  | [.bl k] => Q (.int (if k then 1 else 0)) ph
  | _ => False
def bi_abs (own : Bool) (vs : List PV) (ph : PHp) (Q : QV) : Prop :=
  match vs with
  | [.int i] => Q (.int (if i < 0 then -i else i)) ph
  | _ => False
def bi_min (own : Bool) (vs : List PV) (ph : PHp) (Q : QV) : Prop :=
  match vs with
  | [.int i, .int j] => Q (.int (if j < i then j else i)) ph
  | [v] => ∃ xs ns, seqOf ph v = some xs ∧ intsOf xs = some ns ∧ 0 < ns.length ∧ ∀ m, m ∈ ns → (∀ y, y ∈ ns → m ≤ y) → Q (.int m) ph
  | _ => False
def bi_max (own : Bool) (vs : List PV) (ph : PHp) (Q : QV) : Prop :=
  match vs with
  | [.int i, .int j] => Q (.int (if j > i then j else i)) ph
  | [v] => ∃ xs ns, seqOf ph v = some xs ∧ intsOf xs = some ns ∧ 0 < ns.length ∧ ∀ m, m ∈ ns → (∀ y, y ∈ ns → y ≤ m) → Q (.int m) ph
  | _ => False
def bi_sum (own : Bool) (vs : List PV) (ph : PHp) (Q : QV) : Prop :=
  match vs with
  | [v] => ∃ xs ns, seqOf ph v = some xs ∧ intsOf xs = some ns ∧ Q (.int ns.sum) ph
  | _ => False
def bi_any (own : Bool) (vs : List PV) (ph : PHp) (Q : QV) : Prop :=
  match vs with
  | [v] => ∃ xs bs, lstOf ph v = some xs ∧ blsOf xs = some bs ∧ Q (.bl (bs.any id)) ph
  | _ => False
def bi_all (own : Bool) (vs : List PV) (ph : PHp) (Q : QV) : Prop :=
  match vs with
  | [v] => ∃ xs bs, lstOf ph v = some xs ∧ blsOf xs = some bs ∧ Q (.bl (bs.all id)) ph
  | _ => False
def bi_sorted (own : Bool) (vs : List PV) (ph : PHp) (Q : QV) : Prop :=
  match vs with
  | [v] => ∃ xs, lstOf ph v = some xs ∧ ((∃ ns, intsOf xs = some ns ∧ newL own ((ns.mergeSort fun a b => decide (a ≤ b)).map .int) ph Q) ∨
      (∃ rs, rowsOf xs = some rs ∧ (∀ r ∈ rs, r ≠ []) ∧ newL own ((rs.mergeSort fun a b => !decide (b < a)).map fun r => .tup (r.map .int)) ph Q))
  | _ => False
def bi_repr (own : Bool) (vs : List PV) (ph : PHp) (Q : QV) : Prop :=
  match vs with
  | [v] => ∃ d, Dat ph v d ∧ reprS d ∧ Q (.str d.shown) ph
  | _ => False
def bi_str (own : Bool) (vs : List PV) (ph : PHp) (Q : QV) : Prop :=
  match vs with
  | [.int i] => i.natAbs.log2 < 1920 ∧ Q (.str (toString i)) ph
  | _ => False
def biS : Bi → Bool → List PV → PHp → QV → Prop
  | .len => bi_len
  | .tuple => bi_tuple
  | .list => bi_list
  | .int => bi_int
  | .abs => bi_abs
  | .min => bi_min
  | .max => bi_max
  | .sum => bi_sum
  | .any => bi_any
  | .all => bi_all
  | .sorted => bi_sorted
  | .repr => bi_repr
  | .str => bi_str
  | _ => fun _ _ _ _ => False

def setO (ph : PHp) (n : Nat) (o : PO) : PHp := ph.set n o
def mtS (m : Mt) (a : PV) (vs : List PV) (ph : PHp) (Q : QV) : Prop :=
  match m, a, vs with
  | .append, .ref n, [v] => ∃ xs, ph[n]? = some (.lst xs) ∧ xs.length < sizeLine ∧ Q .non (setO ph n (.lst (xs ++ [v])))
  | .pop, .ref n, [] => ∃ xs v, ph[n]? = some (.lst xs) ∧ xs[xs.length - 1]? = some v ∧ Q v (setO ph n (.lst xs.dropLast))
  | .popAt, .ref n, [.int i] => ∃ xs v, ph[n]? = some (.lst xs) ∧ 0 ≤ i ∧ i < 2 ^ 62 ∧ xs[i.toNat]? = some v ∧ Q v (setO ph n (.lst (xs.eraseIdx i.toNat)))
  | .extend, .ref n, [v] => ∃ xs ys, ph[n]? = some (.lst xs) ∧ lstOf ph v = some ys ∧ xs.length + ys.length ≤ sizeLine ∧ Q .non (setO ph n (.lst (xs ++ ys)))
  | .index, a, [v] => ∃ xs ds d j z, lstOf ph a = some xs ∧ DatAll ph xs ds ∧ Dat ph v d ∧ SeqAt.shaped (.list ds) = true ∧ SeqAt.shaped d = true ∧ ds[j]? = some z ∧ PyData.eqv z d = true ∧
      (∀ (m : Nat) (z' : PyData), m < j → ds[m]? = some z' → PyData.eqv z' d = false) ∧ Q (.int (j : Nat)) ph
  | .count, a, [.int k] => ∃ xs ns, lstOf ph a = some xs ∧ intsOf xs = some ns ∧ Q (.int (ns.count k : Nat)) ph
  | _, _, _ => False

def setiS (o i v : PV) (ph : PHp) (Q : PHp → Prop) : Prop :=
  match o with
  | .ref n => match ph[n]? with
    | some (.lst xs) => match i with
      | .int k => ∃ j, L2.ixN xs.length k = some j ∧ Q (setO ph n (.lst (xs.set j v)))
      | _ => False
    | some (.dK kvs) => match i, kvs with
      | .tup xs, [] => ∃ key, keysOf xs = some key ∧ Q (setO ph n (.dT [(key, v)]))
      | i, kvs => ∃ key, keyOf i = some key ∧ kvs.length < sizeLine ∧ Q (setO ph n (.dK (pkPut kvs key v)))
    | some (.dT kvs) => ∃ key, tkeyOf i = some key ∧ kvs.length < sizeLine ∧ Q (setO ph n (.dT (pkPut kvs key v)))
    | none => False
  | _ => False

/-! ### walks -/
def rngL (a b c : Int) : List PV := (List.range (Builtin.Range.rangeSize a b c).toNat).map fun (i : Nat) => PV.int (a + (i : Int) * c)
def enumL : Nat → List PV → List PV
  | _, [] => []
  | i, x :: r => .tup [.int i, x] :: enumL (i + 1) r
def zip2L : List PV → List PV → List PV
  | x :: xs, y :: ys => .tup [x, y] :: zip2L xs ys
  | _, _ => []
def zip3L : List PV → List PV → List PV → List PV
  | x :: xs, y :: ys, z :: zs => .tup [x, y, z] :: zip3L xs ys zs
  | _, _, _ => []
def rOk (i j : Int) : Prop := -(2 ^ 62) ≤ i ∧ i < 2 ^ 62 ∧ -(2 ^ 62) ≤ j ∧ j < 2 ^ 62
instance {i j : Int} : Decidable (rOk i j) := by unfold rOk; exact inferInstance
def signsL (s : Str) : List PV := s.cps.toList.map fun c => PV.str ⟨#[c]⟩
def rng12 : List PV → Option (List PV)
  | [.int j] => if rOk 0 j then some (rngL 0 j 1) else none
  | [.int i, .int j] => if rOk i j then some (rngL i j 1) else none
  | _ => none
def rngIt : List PV → Option (List PV)
  | [.int i, .int j, .int c] => if rOk i j ∧ c = -1 then some (rngL i j c) else none
  | vs => rng12 vs
def seqIt (ph : PHp) : List PV → Option (List PV)
  | [.str s] => some (signsL s)
  | [v] => seqOf ph v
  | _ => none
def enumIt (ph : PHp) : List PV → Option (List PV)
  | [v] => (seqOf ph v).map (enumL 0)
  | _ => none
def isTup : PV → Bool
  | .tup _ => true
  | _ => false
/-- two lists, two tuples -/
def zipIt (ph : PHp) : List PV → Option (List PV)
  | [v, w] => match seqOf ph v, seqOf ph w with
    | some xs, some ys => if isTup v = isTup w then some (zip2L xs ys) else none
    | _, _ => none
  | _ => none
def itItems (k : ItK) (vs : List PV) (ph : PHp) : Option (List PV) :=
  match k with
  | .seq => seqIt ph vs
  | .range => rngIt vs
  | .enum => enumIt ph vs
  | .zip => zipIt ph vs
  | .enumzip => none
  | .items => none

/-! ### expressions -/
abbrev CallS := Nat → List PV → PHp → QV → QX → Prop
def wipeE (env : Env) : List Nat → Env
  | [] => env
  | i :: r => (wipeE env r).set i none
mutual
def bindT : Tg → PV → Env → (Env → Prop) → Prop
  | .name i, v, env, K => i < env.length ∧ K (env.set i (some v))
  | .tup ts, v, env, K => ∃ xs, v = .tup xs ∧ xs.length = ts.length ∧ bindTs ts xs env K
def bindTs : List Tg → List PV → Env → (Env → Prop) → Prop
  | [], _, env, K => K env
  | t :: ts, x :: xs, env, K => bindT t x env fun env' => bindTs ts xs env' K
  | _ :: _, [], _, _ => False
end
def compL (still : PHp → Prop) (bind : PV → (Env → Prop) → Prop) (cnd : Env → PHp → (Bool → PHp → Prop) → Prop) (el : Env → PHp → QV → Prop) : List PV → List PV → PHp → (List PV → PHp → Prop) → Prop
  | [], acc, ph, Q => still ph ∧ Q acc ph
  | v :: r, acc, ph, Q => still ph ∧ bind v fun env' => cnd env' ph fun b ph1 =>
      if b = true then el env' ph1 fun x ph2 => acc.length < sizeLine ∧ compL still bind cnd el r (acc ++ [x]) ph2 Q else compL still bind cnd el r acc ph1 Q
def toB (Q : Bool → PHp → Prop) : QV := fun v ph => ∃ b, v = .bl b ∧ Q b ph
def tyIs (t : Ty) (ph : PHp) : PV → Bool
  | .int _ => t == .int
  | .bl _ => t == .int || t == .bool
  | .str _ => t == .str
  | .tup _ => t == .tuple
  | .lst _ => t == .list
  | .scr _ => t == .list
  | .non => false
  | .ref n => match ph[n]? with
    | some (.lst _) => t == .list
    | some _ => t == .dict
    | none => false
def pickL (as : List PV) : List Nat → Option (List PV)
  | [] => some []
  | j :: r => match as[j]?, pickL as r with
    | some v, some l => some (v :: l)
    | _, _ => none

section
variable (C : CallS) (G : List PV) (X : QX)
mutual
def wpE : E → Env → PHp → QV → Prop
  | .var i, env, ph, Q => ∃ v, env[i]? = some (some v) ∧ Q v ph
  | .con a, _, ph, Q => Q a.pv ph
  | .glob n, _, ph, Q => ∃ v, G[n]? = some v ∧ Q v ph
  | .op2 o own a b, env, ph, Q => wpE a env ph fun x ph1 => wpE b env ph1 fun y ph2 => op2S o own x y ph2 Q
  | .neg a, env, ph, Q => wpE a env ph fun x ph1 => ∃ i, x = .int i ∧ Q (.int (-i)) ph1
  | .notE a, env, ph, Q => wpE a env ph fun x ph1 => ∃ b, x = .bl b ∧ Q (.bl (!b)) ph1
  | .andE a b, env, ph, Q => wpE a env ph fun x ph1 => ∃ c, x = .bl c ∧ if c = true then wpE b env ph1 Q else Q (.bl false) ph1
  | .orE a b, env, ph, Q => wpE a env ph fun x ph1 => ∃ c, x = .bl c ∧ if c = true then Q (.bl true) ph1 else wpE b env ph1 Q
  | .chain o1 o2 a b c, env, ph, Q => wpE a env ph fun x ph1 => wpE b env ph1 fun y ph2 => op2S o1 false x y ph2 fun r ph3 => ∃ k, r = .bl k ∧
      if k = true then wpE c env ph3 fun z ph4 => op2S o2 false y z ph4 Q else Q (.bl false) ph3
  | .ife c a b, env, ph, Q => wpE c env ph fun x ph1 => ∃ k, x = .bl k ∧ if k = true then wpE a env ph1 Q else wpE b env ph1 Q
  | .tup es, env, ph, Q => wpEs es env ph fun vs ph1 => vs.length ≤ sizeLine ∧ Q (.tup vs) ph1
  | .lst own es, env, ph, Q => wpEs es env ph fun vs ph1 => newL own vs ph1 Q
  | .dict ks es, env, ph, Q => wpEs es env ph fun vs ph1 => ∃ kk, keysOf (ks.map Atom.pv) = some kk ∧ kk.Nodup ∧ kk.length ≤ 15 ∧ Q (.ref ph1.length) (ph1 ++ [.dK (kk.zip vs)])
  | .idx a i, env, ph, Q => wpE a env ph fun x ph1 => wpE i env ph1 fun y ph2 => idxS x y ph2 Q
  | .sl own a lo hi, env, ph, Q => wpE a env ph fun x ph1 => wpO lo env ph1 fun l ph2 => wpO hi env ph2 fun h ph3 => slS own x l h ph3 Q
  | .rev own a, env, ph, Q => wpE a env ph fun x ph1 => revS own x ph1 Q
  | .call f es, env, ph, Q => wpEs es env ph fun vs ph1 => C f vs ph1 Q X
  | .callk f es kes perm, env, ph, Q => wpEs es env ph fun vs ph1 => wpEs kes env ph1 fun zs ph2 => ∃ as, pickL (vs ++ zs) perm = some as ∧ C f as ph2 Q X
  | .bi b own es, env, ph, Q => wpEs es env ph fun vs ph1 => biS b own vs ph1 Q
  | .rng tup own es, env, ph, Q => wpEs es env ph fun vs ph1 => ∃ xs, rng12 vs = some xs ∧ xs.length ≤ 1000000 ∧ if tup = true then Q (.tup xs) ph1 else newL own xs ph1 Q
  | .isin a ty, env, ph, Q => wpE a env ph fun x ph1 => Q (.bl (tyIs ty ph1 x)) ph1
  | .comp own elt tg k its cond slots, env, ph, Q => wpEs its env ph fun vs ph1 => ∃ items, itItems k vs ph1 = some items ∧
      compL (fun h => itItems k vs h = some items) (fun v K => bindT tg v (wipeE env slots) K)
        (fun env' h K => wpC cond env' h K) (fun env' h K => wpE elt env' h K) items [] ph1 fun xs ph2 => newL own xs ph2 Q
  | .mt m a es, env, ph, Q => wpE a env ph fun x ph1 => (lstOf ph1 x).isSome = true ∧ wpEs es env ph1 fun vs ph2 => mtS m x vs ph2 Q
def wpEs : List E → Env → PHp → (List PV → PHp → Prop) → Prop
  | [], _, ph, Q => Q [] ph
  | e :: es, env, ph, Q => wpE e env ph fun v ph1 => wpEs es env ph1 fun vs ph2 => Q (v :: vs) ph2
def wpO : Option E → Env → PHp → (Option Int → PHp → Prop) → Prop
  | none, _, ph, Q => Q none ph
  | some e, env, ph, Q => wpE e env ph fun v ph1 => ∃ i, v = .int i ∧ Q (some i) ph1
def wpC : Option E → Env → PHp → (Bool → PHp → Prop) → Prop
  | none, _, ph, Q => Q true ph
  | some e, env, ph, Q => wpE e env ph fun v ph1 => ∃ b, v = .bl b ∧ Q b ph1
end

/-! ### statements -/
structure Dn where
  nx : Env → PHp → Prop
  rt : QV
  bk : Env → PHp → Prop := fun _ _ => False
  ct : Env → PHp → Prop := fun _ _ => False
def whl (cnd : Env → PHp → (Bool → PHp → Prop) → Prop) (bd : Dn → Env → PHp → Prop) (D : Dn) : Nat → Env → PHp → Prop
  | 0, _, _ => False
  | n + 1, env, ph => cnd env ph fun b ph1 => if b = true then bd { D with nx := whl cnd bd D n, ct := whl cnd bd D n, bk := D.nx } env ph1 else D.nx env ph1
def forL (still : PHp → Prop) (t : Tg) (bd : Dn → Env → PHp → Prop) (D : Dn) : List PV → Env → PHp → Prop
  | [], env, ph => still ph ∧ D.nx env ph
  | v :: r, env, ph => still ph ∧ bindT t v env fun env' => bd { D with nx := forL still t bd D r, ct := forL still t bd D r, bk := D.nx } env' ph
def setSl : List Nat → List PV → Env → Env
  | i :: is, v :: vs, env => setSl is vs (env.set i (some v))
  | _, _, env => env
mutual
def wpS : S → Dn → Env → PHp → Prop
  | .set i e, D, env, ph => wpE C G X e env ph fun v ph1 => i < env.length ∧ D.nx (env.set i (some v)) ph1
  | .setT t e, D, env, ph => wpE C G X e env ph fun v ph1 => bindT t v env fun env' => D.nx env' ph1
  | .par is es, D, env, ph => wpEs C G X es env ph fun vs ph1 => D.nx (setSl is vs env) ph1
  | .seti o i e, D, env, ph => wpE C G X e env ph fun v ph1 => wpE C G X o env ph1 fun x ph2 => wpE C G X i env ph2 fun y ph3 => setiS x y v ph3 fun ph4 => D.nx env ph4
  | .setis is es, D, env, ph => wpEs C G X es env ph fun vs ph1 => wpIs is vs env ph1 fun ph2 => D.nx env ph2
  | .expr e, D, env, ph => wpE C G X e env ph fun _ ph1 => D.nx env ph1
  | .ret e, D, env, ph => wpE C G X e env ph D.rt
  | .retN, D, _, ph => D.rt .non ph
  | .ife c a b, D, env, ph => wpE C G X c env ph fun v ph1 => ∃ k, v = .bl k ∧ if k = true then wpB a D env ph1 else wpB b D env ph1
  | .while_ c b, D, env, ph => ∃ n, whl (fun env' h K => wpE C G X c env' h fun v h1 => ∃ k, v = .bl k ∧ K k h1) (fun D' env' h => wpB b D' env' h) D n env ph
  | .for_ t k its b, D, env, ph => wpEs C G X its env ph fun vs ph1 => ∃ items, itItems k vs ph1 = some items ∧
      forL (fun h => itItems k vs h = some items) t (fun D' env' h => wpB b D' env' h) D items env ph1
  | .brk, D, env, ph => D.bk env ph
  | .cont, D, env, ph => D.ct env ph
  | .pass, D, env, ph => D.nx env ph
  | .raise_ _ _, _, _, _ => False
def wpB : List S → Dn → Env → PHp → Prop
  | [], D, env, ph => D.nx env ph
  | s :: r, D, env, ph => wpS s { D with nx := fun env' h => wpB r D env' h } env ph
def wpIs : List (E × E) → List PV → Env → PHp → (PHp → Prop) → Prop
  | [], [], _, ph, K => K ph
  | (o, i) :: r, v :: vs, env, ph, K => wpE C G X o env ph fun x ph1 => wpE C G X i env ph1 fun y ph2 => setiS x y v ph2 fun ph3 => wpIs r vs env ph3 K
  | _, _, _, _, _ => False
end
end

/-! ### defs -/
-- the value that is handed back, its lists frozen
mutual
inductive Frz (n : Nat) (ph : PHp) : PV → PV → Prop
  | non : Frz n ph .non .non
  | bl (b) : Frz n ph (.bl b) (.bl b)
  | int (i) : Frz n ph (.int i) (.int i)
  | str (s) : Frz n ph (.str s) (.str s)
  | scr (s) : Frz n ph (.scr s) (.scr s)
  | tup {xs ys} : FrzL n ph xs ys → Frz n ph (.tup xs) (.tup ys)
  | lst {xs ys} : FrzL n ph xs ys → Frz n ph (.lst xs) (.lst ys)
  | old {m} : m < n → Frz n ph (.ref m) (.ref m)
  | ref {m xs ys} : n ≤ m → ph[m]? = some (.lst xs) → FrzL n ph xs ys → Frz n ph (.ref m) (.lst ys)
inductive FrzL (n : Nat) (ph : PHp) : List PV → List PV → Prop
  | nil : FrzL n ph [] []
  | cons {x y xs ys} : Frz n ph x y → FrzL n ph xs ys → FrzL n ph (x :: xs) (y :: ys)
end
-- no number from n on
mutual
inductive Old (n : Nat) : PV → Prop
  | non : Old n .non
  | bl (b) : Old n (.bl b)
  | int (i) : Old n (.int i)
  | str (s) : Old n (.str s)
  | scr (s) : Old n (.scr s)
  | tup {xs} : OldL n xs → Old n (.tup xs)
  | lst {xs} : OldL n xs → Old n (.lst xs)
  | ref {m} : m < n → Old n (.ref m)
inductive OldL (n : Nat) : List PV → Prop
  | nil : OldL n []
  | cons {x xs} : Old n x → OldL n xs → OldL n (x :: xs)
end
def OldO (n : Nat) : PO → Prop
  | .lst xs => OldL n xs
  | .dK kvs => OldL n (kvs.map (·.2))
  | .dT kvs => OldL n (kvs.map (·.2))
/-- behind a def's body: what is new in the heap is let go, if gc -/
def retS (gc : Bool) (ph0 : PHp) (Q : QV) : QV := fun v ph =>
  if gc = true then ∃ v', Frz ph0.length ph v v' ∧ (∀ i o, i < ph0.length → ph[i]? = some o → ph0[i]? = some o ∨ OldO ph0.length o) ∧ Q v' (ph.take ph0.length)
  else Q v ph
def startE (d : Df) (vs : List PV) : Env := vs.map some ++ List.replicate (d.N.length - vs.length) none
def bodyS (C : CallS) (G : List PV) (X : QX) (d : Df) (vs : List PV) (ph : PHp) (Q : QV) : Prop :=
  vs.length = d.ps.length ∧ wpB C G X d.body { nx := fun _ h => retS d.gc ph Q .non h, rt := retS d.gc ph Q } (startE d vs) ph
def callK (p : Pg) : Nat → CallS
  | 0 => fun _ _ _ _ _ => False
  | k + 1 => fun f vs ph Q X => match p.defs[f]? with
    | some d => bodyS (callK p k) (p.gl.map (·.2)) X d vs ph Q
    | none => False
end RL

/-! RLRep: plain data and what stands for it in the layer's heap. -/
namespace RL
open PySem PySem.Spec PyProof.Rows L2

/-- the numbers' addresses; the addresses of lists that are still being made -/
structure Mu where
  num : List Addr
  hid : Addr → Prop
def Mu.out (μ : Mu) (a : Addr) : Prop := a ∉ μ.num ∧ ¬ μ.hid a
/-- a list that is read and that none of the numbers stands for -/
def SqN (K : PySem.W.Frag) (H : Hp) (μ : Mu) (a : Addr) (xs : List V) : Prop :=
  (Rd H a (.lst xs) ∧ μ.out a) ∨
    ∃ (o : Obj) (its : Array Value) (n : Nat), K.lookup a = some o ∧ o.cls = .type "list" ∧ o.dict = none ∧ o.data = .seq its n ∧ its.size ≤ sizeLine ∧ Vals xs its.toList
theorem SqN.l {K : PySem.W.Frag} {H : Hp} {μ : Mu} {a : Addr} {xs : List V} (h : SqN K H μ a xs) : SqL K H a xs := by
  rcases h with h | h
  · exact .inl h.1
  · exact .inr h
mutual
inductive Rep (K : PySem.W.Frag) (H : Hp) (μ : Mu) : PV → V → Prop
  | non : Rep K H μ .non .non
  | bl (b) : Rep K H μ (.bl b) (.bl b)
  | int (i) : Rep K H μ (.int i) (.int i)
  | str (s) : Rep K H μ (.str s) (.str s)
  | tup {a xs vs} : H a = some (.tup vs) → Reps K H μ xs vs → Rep K H μ (.tup xs) (.ref a)
  | lst {a xs vs} : H a = some (.lst vs) → μ.out a → Reps K H μ xs vs → Rep K H μ (.lst xs) (.ref a)
  | scr {a ns} : SqN K H μ a (ns.map V.int) → Rep K H μ (.scr ns) (.ref a)
  | ref {n a} : μ.num[n]? = some a → Rep K H μ (.ref n) (.ref a)
inductive Reps (K : PySem.W.Frag) (H : Hp) (μ : Mu) : List PV → List V → Prop
  | nil : Reps K H μ [] []
  | cons {x v xs vs} : Rep K H μ x v → Reps K H μ xs vs → Reps K H μ (x :: xs) (v :: vs)
end
/-- pairs of a dict -/
inductive RepK {κ : Type} (K : PySem.W.Frag) (H : Hp) (μ : Mu) : List (κ × PV) → List (κ × V) → Prop
  | nil : RepK K H μ [] []
  | cons {k x v xs vs} : Rep K H μ x v → RepK K H μ xs vs → RepK K H μ ((k, x) :: xs) ((k, v) :: vs)
def RepO (K : PySem.W.Frag) (H : Hp) (μ : Mu) (a : Addr) : PO → Prop
  | .lst xs => ∃ vs, H a = some (.lst vs) ∧ Reps K H μ xs vs
  | .dK kvs => ∃ l, H a = some (.dK l) ∧ RepK K H μ kvs l
  | .dT kvs => ∃ l, H a = some (.dT l) ∧ RepK K H μ kvs l

/-- the world: what stands for the numbers -/
structure Wd where
  μ : Mu
  ph : PHp
  H : Hp
structure Ok (K : PySem.W.Frag) (w : Wd) : Prop where
  len : w.μ.num.length = w.ph.length
  nd : w.μ.num.Nodup
  ob : ∀ (n : Nat) (a : Addr) (o : PO), w.μ.num[n]? = some a → w.ph[n]? = some o → RepO K w.H w.μ a o
  hid : ∀ a, w.μ.hid a → a ∉ w.μ.num ∧ ∃ vs, w.H a = some (.lst vs)
structure Step (w w' : Wd) : Prop where
  grow : ∃ l, w'.μ.num = w.μ.num ++ l ∧ ∀ a ∈ l, w.H a = none
  keep : ∀ a u, w.H a = some u → a ∉ w.μ.num → w'.H a = some u
  some_ : ∀ a u, w.H a = some u → ∃ u', w'.H a = some u'
  hidn : ∀ a, w'.μ.hid a → w.μ.hid a ∨ w.H a = none
  hidk : ∀ a, w.μ.hid a → w'.μ.hid a
theorem Step.refl (w : Wd) : Step w w := ⟨⟨[], by simp, fun _ h => absurd h (by simp)⟩, fun _ _ h _ => h, fun _ u h => ⟨u, h⟩, fun _ h => .inl h, fun _ h => h⟩
theorem Step.trans {a b c : Wd} (x : Step a b) (y : Step b c) : Step a c := by
  obtain ⟨l, e, f⟩ := x.grow
  obtain ⟨l', e', f'⟩ := y.grow
  have back : ∀ p, b.H p = none → a.H p = none := fun p h => by
    cases q : a.H p with
    | none => rfl
    | some u =>
      obtain ⟨u', hu⟩ := x.some_ p u q
      rw [h] at hu; cases hu
  refine ⟨⟨l ++ l', by rw [e', e, List.append_assoc], fun p hp => ?_⟩, fun p u h n => ?_, fun p u h => ?_, fun p h => ?_, fun p h => y.hidk p (x.hidk p h)⟩
  · rcases List.mem_append.mp hp with h | h
    · exact f p h
    · exact back p (f' p h)
  · refine y.keep p u (x.keep p u h n) fun z => ?_
    rw [e] at z
    rcases List.mem_append.mp z with z | z
    · exact n z
    · rw [f p z] at h; cases h
  · obtain ⟨u', hu⟩ := x.some_ p u h
    exact y.some_ p u' hu
  · rcases y.hidn p h with h | h
    · exact x.hidn p h
    · exact .inr (back p h)
/-- what stands at a number is no tuple, and not locked -/
theorem Ok.at {K : PySem.W.Frag} {w : Wd} (o : Ok K w) {a : Addr} (h : a ∈ w.μ.num) : (∃ vs, w.H a = some (.lst vs)) ∨ (∃ l, w.H a = some (.dK l)) ∨ (∃ l, w.H a = some (.dT l)) := by
  obtain ⟨n, hn, e⟩ := List.getElem_of_mem h
  have h1 : w.μ.num[n]? = some a := by rw [List.getElem?_eq_getElem hn, e]
  have h2 : n < w.ph.length := by rw [← o.len]; exact hn
  have h3 := o.ob n a _ h1 (List.getElem?_eq_getElem h2)
  cases q : w.ph[n] with
  | lst xs => rw [q] at h3; obtain ⟨vs, e, _⟩ := h3; exact .inl ⟨vs, e⟩
  | dK xs => rw [q] at h3; obtain ⟨vs, e, _⟩ := h3; exact .inr (.inl ⟨vs, e⟩)
  | dT xs => rw [q] at h3; obtain ⟨vs, e, _⟩ := h3; exact .inr (.inr ⟨vs, e⟩)
theorem Ok.notTup {K : PySem.W.Frag} {w : Wd} (o : Ok K w) {a : Addr} {u : HO} (h : w.H a = some u) (d : (∀ vs, u ≠ .lst vs) ∧ (∀ l, u ≠ .dK l) ∧ (∀ l, u ≠ .dT l)) : a ∉ w.μ.num := fun hm => by
  rcases o.at hm with ⟨_, e⟩ | ⟨_, e⟩ | ⟨_, e⟩
  · rw [h] at e; cases e; exact d.1 _ rfl
  · rw [h] at e; cases e; exact d.2.1 _ rfl
  · rw [h] at e; cases e; exact d.2.2 _ rfl
theorem Step.out {w w' : Wd} (s : Step w w') {a : Addr} {u : HO} (h : w.H a = some u) (n : w.μ.out a) : w'.μ.out a := by
  obtain ⟨l, e, f⟩ := s.grow
  refine ⟨fun z => ?_, fun z => ?_⟩
  · rw [e] at z
    rcases List.mem_append.mp z with z | z
    · exact n.1 z
    · rw [f a z] at h; cases h
  · rcases s.hidn a z with z | z
    · exact n.2 z
    · rw [z] at h; cases h
section
variable {K : PySem.W.Frag} {w w' : Wd}
theorem Step.tup (s : Step w w') (o : Ok K w) {a : Addr} {vs : List V} (h : w.H a = some (.tup vs)) : w'.H a = some (.tup vs) := s.keep a _ h (o.notTup h ⟨by simp, by simp, by simp⟩)
theorem Step.lst (s : Step w w') (o : Ok K w) {a : Addr} {vs : List V} (h : SqN K w.H w.μ a vs) : SqN K w'.H w'.μ a vs := by
  rcases h with ⟨h, n⟩ | h
  · rcases h with h | ⟨ob, h⟩
    · exact .inl ⟨.inl (s.keep a _ h n.1), s.out h n⟩
    · exact .inl ⟨.inr ⟨ob, s.keep a _ h n.1⟩, s.out h n⟩
  · exact .inr h
theorem Step.lst' (s : Step w w') {a : Addr} {vs : List V} (h : w.H a = some (.lst vs)) (n : w.μ.out a) : w'.H a = some (.lst vs) ∧ w'.μ.out a := ⟨s.keep a _ h n.1, s.out h n⟩
theorem Step.num (s : Step w w') {n : Nat} {a : Addr} (h : w.μ.num[n]? = some a) : w'.μ.num[n]? = some a := by
  obtain ⟨l, e, _⟩ := s.grow
  have hl := (List.getElem?_eq_some_iff.mp h).1
  rw [e, List.getElem?_append_left hl]
  exact h
mutual
theorem Step.rep (s : Step w w') (o : Ok K w) : ∀ {x : PV} {v : V}, Rep K w.H w.μ x v → Rep K w'.H w'.μ x v
  | _, _, .non => .non
  | _, _, .bl b => .bl b
  | _, _, .int i => .int i
  | _, _, .str i => .str i
  | _, _, .tup h r => .tup (s.tup o h) (Step.reps s o r)
  | _, _, .lst h n r => .lst (s.lst' h n).1 (s.lst' h n).2 (Step.reps s o r)
  | _, _, .scr h => .scr (s.lst o h)
  | _, _, .ref h => .ref (s.num h)
theorem Step.reps (s : Step w w') (o : Ok K w) : ∀ {x : List PV} {v : List V}, Reps K w.H w.μ x v → Reps K w'.H w'.μ x v
  | _, _, .nil => .nil
  | _, _, .cons h r => .cons (Step.rep s o h) (Step.reps s o r)
end
theorem Step.repk {κ : Type} (s : Step w w') (o : Ok K w) : ∀ {x : List (κ × PV)} {v : List (κ × V)}, RepK K w.H w.μ x v → RepK K w'.H w'.μ x v
  | _, _, .nil => .nil
  | _, _, .cons h r => .cons (s.rep o h) (Step.repk s o r)
end
/-! ### lists of values -/
section
variable {K : PySem.W.Frag} {H : Hp} {μ : Mu}
theorem Reps.length : ∀ {xs : List PV} {vs : List V}, Reps K H μ xs vs → vs.length = xs.length
  | _, _, .nil => rfl
  | _, _, .cons _ r => by simp [Reps.length r]
theorem Reps.get : ∀ {xs : List PV} {vs : List V} {i : Nat} {x : PV}, Reps K H μ xs vs → xs[i]? = some x → ∃ v, vs[i]? = some v ∧ Rep K H μ x v
  | _, _, _, _, .nil, e => by simp at e
  | _, _, 0, _, .cons h _, e => by simp at e; subst e; exact ⟨_, rfl, h⟩
  | _, _, i + 1, _, .cons _ r, e => by
    obtain ⟨v, h1, h2⟩ := Reps.get (i := i) r (by simpa using e)
    exact ⟨v, by simpa using h1, h2⟩
theorem Reps.append : ∀ {xs ys : List PV} {vs ws : List V}, Reps K H μ xs vs → Reps K H μ ys ws → Reps K H μ (xs ++ ys) (vs ++ ws)
  | _, _, _, _, .nil, r => r
  | _, _, _, _, .cons h t, r => .cons h (Reps.append t r)
theorem Reps.take : ∀ (n : Nat) {xs : List PV} {vs : List V}, Reps K H μ xs vs → Reps K H μ (xs.take n) (vs.take n)
  | 0, _, _, _ => by simp only [List.take_zero]; exact .nil
  | _ + 1, _, _, .nil => by simp only [List.take_nil]; exact .nil
  | n + 1, _, _, .cons h t => by simp only [List.take_succ_cons]; exact .cons h (Reps.take n t)
theorem Reps.drop : ∀ (n : Nat) {xs : List PV} {vs : List V}, Reps K H μ xs vs → Reps K H μ (xs.drop n) (vs.drop n)
  | 0, _, _, r => by simpa only [List.drop_zero] using r
  | _ + 1, _, _, .nil => by simp only [List.drop_nil]; exact .nil
  | n + 1, _, _, .cons h t => by simp only [List.drop_succ_cons]; exact Reps.drop n t
theorem Reps.set {x : PV} {v : V} (h : Rep K H μ x v) : ∀ (n : Nat) {xs : List PV} {vs : List V}, Reps K H μ xs vs → Reps K H μ (xs.set n x) (vs.set n v)
  | _, _, _, .nil => by simp only [List.set_nil]; exact .nil
  | 0, _, _, .cons _ t => by simp only [List.set_cons_zero]; exact .cons h t
  | n + 1, _, _, .cons h' t => by simp only [List.set_cons_succ]; exact .cons h' (Reps.set h n t)
theorem Reps.dropLast {xs : List PV} {vs : List V} (r : Reps K H μ xs vs) : Reps K H μ xs.dropLast vs.dropLast := by
  rw [List.dropLast_eq_take, List.dropLast_eq_take, r.length]
  exact r.take _
theorem Reps.eraseIdx {xs : List PV} {vs : List V} (i : Nat) (r : Reps K H μ xs vs) : Reps K H μ (xs.eraseIdx i) (vs.eraseIdx i) := by
  rw [List.eraseIdx_eq_take_drop_succ, List.eraseIdx_eq_take_drop_succ]
  exact (r.take _).append (r.drop _)
theorem Reps.reverse : ∀ {xs : List PV} {vs : List V}, Reps K H μ xs vs → Reps K H μ xs.reverse vs.reverse
  | _, _, .nil => .nil
  | _, _, .cons h t => by
    rw [List.reverse_cons, List.reverse_cons]
    exact (Reps.reverse t).append (.cons h .nil)
theorem Reps.rep {xs : List PV} {vs : List V} (r : Reps K H μ xs vs) : ∀ n : Nat, Reps K H μ (List.replicate n xs).flatten (List.replicate n vs).flatten
  | 0 => .nil
  | n + 1 => by
    rw [List.replicate_succ, List.replicate_succ, List.flatten_cons, List.flatten_cons]
    exact r.append (Reps.rep r n)
theorem Reps.ints : ∀ {ns : List Int} {xs : List PV} {vs : List V}, intsOf xs = some ns → Reps K H μ xs vs → vs = ns.map V.int
  | _, _, _, e, .nil => by simp [intsOf] at e; subst e; rfl
  | _, x :: xs, _, e, .cons h t => by
    cases h with
    | int i =>
      simp only [intsOf, Option.map_eq_some_iff] at e
      obtain ⟨l, e1, e2⟩ := e
      subst e2
      rw [Reps.ints e1 t]; rfl
    | _ => simp [intsOf] at e
theorem Reps.bls : ∀ {ns : List Bool} {xs : List PV} {vs : List V}, blsOf xs = some ns → Reps K H μ xs vs → vs = ns.map V.bl
  | _, _, _, e, .nil => by simp [blsOf] at e; subst e; rfl
  | _, x :: xs, _, e, .cons h t => by
    cases h with
    | bl i =>
      simp only [blsOf, Option.map_eq_some_iff] at e
      obtain ⟨l, e1, e2⟩ := e
      subst e2
      rw [Reps.bls e1 t]; rfl
    | _ => simp [blsOf] at e
theorem Reps.ofInts : ∀ ns : List Int, Reps K H μ (ns.map PV.int) (ns.map V.int)
  | [] => .nil
  | n :: r => .cons (.int n) (Reps.ofInts r)
end
/-! ### steps -/
section
variable {K : PySem.W.Frag} {w : Wd}
/-- a new object that is not numbered -/
def Wd.put (w : Wd) (p : Addr) (u : HO) : Wd := ⟨w.μ, w.ph, upd w.H p u⟩
theorem upd_old {H : Hp} {p a : Addr} {u x : HO} (h : H p = none) (e : H a = some x) : upd H p u a = some x := by rw [upd_ne (ne_of_none e h)]; exact e
theorem Step.put {p : Addr} {u : HO} (h : w.H p = none) : Step w (w.put p u) :=
  ⟨⟨[], by simp [Wd.put], fun _ h => absurd h (by simp)⟩, fun _ _ e _ => upd_old h e, fun _ x e => ⟨x, upd_old h e⟩, fun _ h => .inl h, fun _ h => h⟩
theorem Ok.has {a : Addr} (o : Ok K w) (h : ¬ w.μ.out a) : ∃ u, w.H a = some u := by
  by_cases hm : a ∈ w.μ.num
  · rcases o.at hm with ⟨_, e⟩ | ⟨_, e⟩ | ⟨_, e⟩ <;> exact ⟨_, e⟩
  · by_cases hh : w.μ.hid a
    · obtain ⟨_, vs, e⟩ := o.hid a hh; exact ⟨_, e⟩
    · exact absurd ⟨hm, hh⟩ h
theorem Ok.notin (o : Ok K w) {p : Addr} (h : w.H p = none) : w.μ.out p := by
  refine Classical.byContradiction fun z => ?_
  obtain ⟨u, e⟩ := o.has z
  rw [h] at e; cases e
theorem RepO.step {w' : Wd} {a : Addr} {x : PO} (s : Step w w') (o : Ok K w) (hm : w'.H a = w.H a) (r : RepO K w.H w.μ a x) : RepO K w'.H w'.μ a x := by
  cases x with
  | lst xs => obtain ⟨vs, e, r⟩ := r; exact ⟨vs, hm.trans e, s.reps o r⟩
  | dK xs => obtain ⟨vs, e, r⟩ := r; exact ⟨vs, hm.trans e, s.repk o r⟩
  | dT xs => obtain ⟨vs, e, r⟩ := r; exact ⟨vs, hm.trans e, s.repk o r⟩
theorem Ok.put (o : Ok K w) {p : Addr} {u : HO} (h : w.H p = none) : Ok K (w.put p u) := by
  refine ⟨o.len, o.nd, fun n a x h1 h2 => ?_, fun a ha => ?_⟩
  · have hm : a ∈ w.μ.num := List.mem_of_getElem? h1
    have ne : a ≠ p := fun e => (o.notin h).1 (e ▸ hm)
    exact RepO.step (Step.put h) o (upd_ne ne) (o.ob n a x h1 h2)
  · obtain ⟨h1, vs, e⟩ := o.hid a ha
    exact ⟨h1, vs, upd_old h e⟩
/-- a new object that is numbered -/
def Wd.new (w : Wd) (p : Addr) (u : HO) (x : PO) : Wd := ⟨⟨w.μ.num ++ [p], w.μ.hid⟩, w.ph ++ [x], upd w.H p u⟩
theorem Step.new {p : Addr} {u : HO} {x : PO} (h : w.H p = none) : Step w (w.new p u x) := by
  refine ⟨⟨[p], rfl, fun a ha => ?_⟩, fun _ _ e _ => upd_old h e, fun _ x e => ⟨x, upd_old h e⟩, fun _ h => .inl h, fun _ h => h⟩
  rw [List.mem_singleton.mp ha]; exact h
theorem Ok.new (o : Ok K w) {p : Addr} {u : HO} {x : PO} (h : w.H p = none) (r : RepO K (upd w.H p u) ⟨w.μ.num ++ [p], w.μ.hid⟩ p x) : Ok K (w.new p u x) := by
  refine ⟨by simp [Wd.new, o.len], ?_, fun n a y h1 h2 => ?_, fun a ha => ?_⟩
  · refine List.nodup_append.mpr ⟨o.nd, by simp, fun a ha b hb => ?_⟩
    rw [List.mem_singleton.mp hb]
    exact fun e => (o.notin h).1 (e ▸ ha)
  · by_cases hn : n < w.μ.num.length
    · have h1' : w.μ.num[n]? = some a := by
        have : (w.μ.num ++ [p])[n]? = some a := h1
        rwa [List.getElem?_append_left hn] at this
      have h2' : w.ph[n]? = some y := by
        have : (w.ph ++ [x])[n]? = some y := h2
        rwa [List.getElem?_append_left (by rw [← o.len]; exact hn)] at this
      have ne : a ≠ p := fun e => (o.notin h).1 (e ▸ List.mem_of_getElem? h1')
      exact RepO.step (Step.new h) o (upd_ne ne) (o.ob n a y h1' h2')
    · have hn1 : n = w.μ.num.length := by
        have : (w.μ.num ++ [p])[n]? = some a := h1
        have := (List.getElem?_eq_some_iff.mp this).1
        simp at this; omega
      subst hn1
      have e1 : (w.μ.num ++ [p])[w.μ.num.length]? = some a := h1
      have e2 : (w.ph ++ [x])[w.μ.num.length]? = some y := h2
      rw [List.getElem?_append_right (Nat.le_refl _), Nat.sub_self] at e1
      rw [o.len, List.getElem?_append_right (Nat.le_refl _), Nat.sub_self] at e2
      simp at e1 e2
      subst e1 e2
      exact r
  · obtain ⟨h1, vs, e⟩ := o.hid a ha
    refine ⟨fun z => ?_, vs, upd_old h e⟩
    rcases List.mem_append.mp z with z | z
    · exact h1 z
    · rw [List.mem_singleton.mp z] at e; rw [h] at e; cases e
/-- a numbered object is changed -/
def Wd.chg (w : Wd) (n : Nat) (a : Addr) (u : HO) (x : PO) : Wd := ⟨w.μ, w.ph.set n x, upd w.H a u⟩
theorem Step.chg {n : Nat} {a : Addr} {u : HO} {x : PO} (h : w.μ.num[n]? = some a) : Step w (w.chg n a u x) := by
  have hm := List.mem_of_getElem? h
  refine ⟨⟨[], by simp [Wd.chg], fun _ h => absurd h (by simp)⟩, fun b y e ne => ?_, fun b y e => ?_, fun _ h => .inl h, fun _ h => h⟩
  · show upd w.H a u b = some y
    rw [upd_ne (fun z : b = a => ne (z ▸ hm))]; exact e
  · by_cases hb : b = a
    · exact ⟨u, by show upd w.H a u b = some u; rw [hb, upd_same]⟩
    · exact ⟨y, by show upd w.H a u b = some y; rw [upd_ne hb]; exact e⟩
theorem Ok.chg (o : Ok K w) {n : Nat} {a : Addr} {u : HO} {x : PO} (h : w.μ.num[n]? = some a) (r : RepO K (upd w.H a u) w.μ a x) : Ok K (w.chg n a u x) := by
  refine ⟨by simp [Wd.chg, o.len], o.nd, fun m b y h1 h2 => ?_, fun b hb => ?_⟩
  · have h1' : w.μ.num[m]? = some b := h1
    have h2' : (w.ph.set n x)[m]? = some y := h2
    by_cases hm : m = n
    · subst hm
      rw [h] at h1'; cases h1'
      have hl := (List.getElem?_eq_some_iff.mp h).1
      rw [List.getElem?_set_self (by rw [← o.len]; exact hl)] at h2'
      cases h2'
      exact r
    · rw [List.getElem?_set_ne (Ne.symm hm)] at h2'
      have ne : b ≠ a := fun e => by
        subst e
        obtain ⟨i1, e1⟩ := List.getElem?_eq_some_iff.mp h1'
        obtain ⟨i2, e2⟩ := List.getElem?_eq_some_iff.mp h
        exact hm ((List.getElem_inj o.nd).mp (e1.trans e2.symm))
      exact RepO.step (Step.chg h) o (upd_ne ne) (o.ob m b y h1' h2')
  · obtain ⟨h1, vs, e⟩ := o.hid b hb
    refine ⟨h1, vs, ?_⟩
    show upd w.H a u b = some (.lst vs)
    rw [upd_ne (fun z : b = a => h1 (z ▸ List.mem_of_getElem? h))]; exact e
/-! a list that is being made -/
def Wd.hide (w : Wd) (D : Addr) (xs : List V) : Wd := ⟨⟨w.μ.num, fun a => w.μ.hid a ∨ a = D⟩, w.ph, upd w.H D (.lst xs)⟩
theorem Step.hide {D : Addr} {xs : List V} (h : w.H D = none) : Step w (w.hide D xs) := by
  refine ⟨⟨[], by simp [Wd.hide], fun _ h => absurd h (by simp)⟩, fun _ _ e _ => upd_old h e, fun _ x e => ⟨x, upd_old h e⟩, fun a ha => ?_, fun _ h => .inl h⟩
  rcases ha with ha | ha
  · exact .inl ha
  · subst ha; exact .inr h
theorem Ok.hide (o : Ok K w) {D : Addr} {xs : List V} (h : w.H D = none) : Ok K (w.hide D xs) := by
  refine ⟨o.len, o.nd, fun n a x h1 h2 => ?_, fun a ha => ?_⟩
  · have hm : a ∈ w.μ.num := List.mem_of_getElem? h1
    have ne : a ≠ D := fun e => (o.notin h).1 (e ▸ hm)
    exact RepO.step (Step.hide h) o (upd_ne ne) (o.ob n a x h1 h2)
  · rcases ha with ha | ha
    · obtain ⟨h1, vs, e⟩ := o.hid a ha
      exact ⟨h1, vs, upd_old h e⟩
    · subst ha
      exact ⟨(o.notin h).1, xs, upd_same⟩
/-- an object that no value stands for changes -/
def Wd.more (w : Wd) (D : Addr) (u : HO) : Wd := ⟨w.μ, w.ph, upd w.H D u⟩
/-- no value stands for it -/
structure Blind (w : Wd) (D : Addr) : Prop where
  num : D ∉ w.μ.num
  tup : ∀ vs, w.H D ≠ some (.tup vs)
  lst : ∀ vs, w.H D = some (.lst vs) → ¬ w.μ.out D
  frz : ∀ o u, w.H D ≠ some (.frz o u)
theorem Ok.blind (o : Ok K w) {D : Addr} (hd : w.μ.hid D) : Blind w D := by
  obtain ⟨h1, vs, e⟩ := o.hid D hd
  exact ⟨h1, fun _ z => (by rw [e] at z; cases z), fun _ _ z => z.2 hd, fun _ _ z => (by rw [e] at z; cases z)⟩
theorem blind_dict (o : Ok K w) {D : Addr} {kvs : List (Key × V)} (h : w.H D = some (.dK kvs)) (hn : D ∉ w.μ.num) : Blind w D :=
  ⟨hn, fun _ z => (by rw [h] at z; cases z), fun _ z => (by rw [h] at z; cases z), fun _ _ z => (by rw [h] at z; cases z)⟩
section
variable {D : Addr} {u : HO}
theorem Blind.ne_tup (b : Blind w D) {a : Addr} {vs : List V} (h : w.H a = some (.tup vs)) : a ≠ D := fun z => b.tup vs (by rw [← z]; exact h)
theorem Blind.ne_lst (b : Blind w D) {a : Addr} {vs : List V} (h : w.H a = some (.lst vs)) (n : w.μ.out a) : a ≠ D := fun z => b.lst vs (by rw [← z]; exact h) (by rw [← z]; exact n)
theorem Blind.ne_frz (b : Blind w D) {a : Addr} {o : Obj} {u : HO} (h : w.H a = some (.frz o u)) : a ≠ D := fun z => b.frz o u (by rw [← z]; exact h)
mutual
theorem rep_more (b : Blind w D) : ∀ {x : PV} {v : V}, Rep K w.H w.μ x v → Rep K (upd w.H D u) w.μ x v
  | _, _, .non => .non
  | _, _, .bl b => .bl b
  | _, _, .int i => .int i
  | _, _, .str i => .str i
  | _, _, .tup h r => .tup (by rw [upd_ne (b.ne_tup h)]; exact h) (reps_more b r)
  | _, _, .lst h n r => .lst (by rw [upd_ne (b.ne_lst h n)]; exact h) n (reps_more b r)
  | _, _, .scr h => .scr (by
      rcases h with ⟨h, n⟩ | h
      · refine .inl ⟨?_, n⟩
        rcases h with h | ⟨ob, h⟩
        · exact .inl (by rw [upd_ne (b.ne_lst h n)]; exact h)
        · exact .inr ⟨ob, by rw [upd_ne (b.ne_frz h)]; exact h⟩
      · exact .inr h)
  | _, _, .ref h => .ref h
theorem reps_more (b : Blind w D) : ∀ {x : List PV} {v : List V}, Reps K w.H w.μ x v → Reps K (upd w.H D u) w.μ x v
  | _, _, .nil => .nil
  | _, _, .cons h r => .cons (rep_more b h) (reps_more b r)
end
theorem repk_more {κ : Type} (b : Blind w D) : ∀ {x : List (κ × PV)} {v : List (κ × V)}, RepK K w.H w.μ x v → RepK K (upd w.H D u) w.μ x v
  | _, _, .nil => .nil
  | _, _, .cons h r => .cons (rep_more b h) (repk_more b r)
theorem repo_more (b : Blind w D) {a : Addr} {x : PO} (hm : a ∈ w.μ.num) (r : RepO K w.H w.μ a x) : RepO K (upd w.H D u) w.μ a x := by
  have ne : a ≠ D := fun e => b.num (e ▸ hm)
  cases x with
  | lst xs => obtain ⟨vs, e, r⟩ := r; exact ⟨vs, (upd_ne ne).trans e, reps_more b r⟩
  | dK xs => obtain ⟨vs, e, r⟩ := r; exact ⟨vs, (upd_ne ne).trans e, repk_more b r⟩
  | dT xs => obtain ⟨vs, e, r⟩ := r; exact ⟨vs, (upd_ne ne).trans e, repk_more b r⟩
theorem Ok.more {xs : List V} (o : Ok K w) (hd : w.μ.hid D) : Ok K (w.more D (.lst xs)) := by
  refine ⟨o.len, o.nd, fun n a x h1 h2 => repo_more (o.blind hd) (List.mem_of_getElem? h1) (o.ob n a x h1 h2), fun a ha => ?_⟩
  obtain ⟨h1, vs, e⟩ := o.hid a ha
  by_cases hq : a = D
  · subst hq; exact ⟨h1, xs, upd_same⟩
  · exact ⟨h1, vs, (upd_ne hq).trans e⟩
end
/-- .. and the world of long ago -/
theorem Step.more {w0 : Wd} {D : Addr} {u : HO} (s : Step w0 w) (h : w0.H D = none) : Step w0 (w.more D u) := by
  have ne : ∀ {a : Addr} {x : HO}, w0.H a = some x → a ≠ D := fun e z => by rw [z, h] at e; cases e
  refine ⟨s.grow, fun a x e n => (upd_ne (ne e)).trans (s.keep a x e n), fun a x e => ?_, s.hidn, s.hidk⟩
  obtain ⟨x', e'⟩ := s.some_ a x e
  exact ⟨x', (upd_ne (ne e)).trans e'⟩
theorem Step.show' {w0 : Wd} {D : Addr} (o0 : Ok K w0) (s : Step w0 w) (h : w0.H D = none) : Step w0 ⟨⟨w.μ.num, fun a => w.μ.hid a ∧ a ≠ D⟩, w.ph, w.H⟩ := by
  refine ⟨s.grow, s.keep, s.some_, fun a ha => s.hidn a ha.1, fun a ha => ⟨s.hidk a ha, ?_⟩⟩
  intro z
  subst z
  obtain ⟨_, vs, e⟩ := o0.hid a ha
  rw [h] at e; cases e
theorem upd_self {H : Hp} {D : Addr} {u : HO} (h : H D = some u) : upd H D u = H := by
  funext a
  by_cases e : a = D
  · subst e; rw [upd_same, h]
  · rw [upd_ne e]
/-- it gets a number -/
def Wd.tell (w : Wd) (D : Addr) (u : HO) (x : PO) : Wd := ⟨⟨w.μ.num ++ [D], fun a => w.μ.hid a ∧ a ≠ D⟩, w.ph ++ [x], upd w.H D u⟩
section
variable {D : Addr} {u : HO} {z : PO}
theorem Blind.out (b : Blind w D) {a : Addr} (ne : a ≠ D) (n : w.μ.out a) : (w.tell D u z).μ.out a := by
  refine ⟨fun h => ?_, fun h => n.2 h.1⟩
  rcases List.mem_append.mp h with h | h
  · exact n.1 h
  · exact ne (List.mem_singleton.mp h)
mutual
theorem rep_tell (b : Blind w D) : ∀ {x : PV} {v : V}, Rep K w.H w.μ x v → Rep K (upd w.H D u) (w.tell D u z).μ x v
  | _, _, .non => .non
  | _, _, .bl b => .bl b
  | _, _, .int i => .int i
  | _, _, .str i => .str i
  | _, _, .tup h r => .tup (by rw [upd_ne (b.ne_tup h)]; exact h) (reps_tell b r)
  | _, _, .lst h n r => .lst (by rw [upd_ne (b.ne_lst h n)]; exact h) (b.out (b.ne_lst h n) n) (reps_tell b r)
  | _, _, .scr h => .scr (by
      rcases h with ⟨h, n⟩ | h
      · rcases h with h | ⟨ob, h⟩
        · exact .inl ⟨.inl (by rw [upd_ne (b.ne_lst h n)]; exact h), b.out (b.ne_lst h n) n⟩
        · exact .inl ⟨.inr ⟨ob, by rw [upd_ne (b.ne_frz h)]; exact h⟩, b.out (b.ne_frz h) n⟩
      · exact .inr h)
  | _, _, .ref (n := n) (a := a) h => .ref (by
      show (w.μ.num ++ [D])[n]? = some a
      rw [List.getElem?_append_left (List.getElem?_eq_some_iff.mp h).1]; exact h)
theorem reps_tell (b : Blind w D) : ∀ {x : List PV} {v : List V}, Reps K w.H w.μ x v → Reps K (upd w.H D u) (w.tell D u z).μ x v
  | _, _, .nil => .nil
  | _, _, .cons h r => .cons (rep_tell b h) (reps_tell b r)
end
theorem repk_tell {κ : Type} (b : Blind w D) : ∀ {x : List (κ × PV)} {v : List (κ × V)}, RepK K w.H w.μ x v → RepK K (upd w.H D u) (w.tell D u z).μ x v
  | _, _, .nil => .nil
  | _, _, .cons h r => .cons (rep_tell b h) (repk_tell b r)
theorem Ok.tell (o : Ok K w) (b : Blind w D) (hz : RepO K (upd w.H D u) (w.tell D u z).μ D z) : Ok K (w.tell D u z) := by
  refine ⟨by simp [Wd.tell, o.len], ?_, fun n a y h1 h2 => ?_, fun a ha => ?_⟩
  · refine List.nodup_append.mpr ⟨o.nd, by simp, fun a ha b' hb => ?_⟩
    rw [List.mem_singleton.mp hb]
    exact fun e => b.num (e ▸ ha)
  · by_cases hn : n < w.μ.num.length
    · have h1' : w.μ.num[n]? = some a := by
        have : (w.μ.num ++ [D])[n]? = some a := h1
        rwa [List.getElem?_append_left hn] at this
      have h2' : w.ph[n]? = some y := by
        have : (w.ph ++ [z])[n]? = some y := h2
        rwa [List.getElem?_append_left (by rw [← o.len]; exact hn)] at this
      have ne : a ≠ D := fun e => b.num (e ▸ List.mem_of_getElem? h1')
      have r := o.ob n a y h1' h2'
      cases y with
      | lst xs => obtain ⟨vs, e, r⟩ := r; exact ⟨vs, (upd_ne ne).trans e, reps_tell b r⟩
      | dK xs => obtain ⟨vs, e, r⟩ := r; exact ⟨vs, (upd_ne ne).trans e, repk_tell b r⟩
      | dT xs => obtain ⟨vs, e, r⟩ := r; exact ⟨vs, (upd_ne ne).trans e, repk_tell b r⟩
    · have hn1 : n = w.μ.num.length := by
        have : (w.μ.num ++ [D])[n]? = some a := h1
        have := (List.getElem?_eq_some_iff.mp this).1
        simp at this; omega
      subst hn1
      have e1 : (w.μ.num ++ [D])[w.μ.num.length]? = some a := h1
      have e2 : (w.ph ++ [z])[w.μ.num.length]? = some y := h2
      rw [List.getElem?_append_right (Nat.le_refl _), Nat.sub_self] at e1
      rw [o.len, List.getElem?_append_right (Nat.le_refl _), Nat.sub_self] at e2
      simp at e1 e2
      subst e1 e2
      exact hz
  · obtain ⟨h1, vs, e⟩ := o.hid a ha.1
    refine ⟨fun z => ?_, vs, (upd_ne ha.2).trans e⟩
    rcases List.mem_append.mp z with z | z
    · exact h1 z
    · exact ha.2 (List.mem_singleton.mp z)
/-- .. what was fresh long ago -/
theorem Step.tell {w0 : Wd} (o0 : Ok K w0) (s : Step w0 w) (h : w0.H D = none) : Step w0 (w.tell D u z) := by
  obtain ⟨l, e, f⟩ := s.grow
  have ne : ∀ {a : Addr} {x : HO}, w0.H a = some x → a ≠ D := fun e z => by rw [z, h] at e; cases e
  refine ⟨⟨l ++ [D], by show w.μ.num ++ [D] = _; rw [e, List.append_assoc], fun a ha => ?_⟩, fun a x e n => ?_, fun a x e => ?_, fun a ha => s.hidn a ha.1, fun a ha => ⟨s.hidk a ha, ?_⟩⟩
  · rcases List.mem_append.mp ha with ha | ha
    · exact f a ha
    · rw [List.mem_singleton.mp ha]; exact h
  · exact (upd_ne (ne e)).trans (s.keep a x e n)
  · obtain ⟨x', e'⟩ := s.some_ a x e
    exact ⟨x', (upd_ne (ne e)).trans e'⟩
  · intro z
    subst z
    obtain ⟨_, vs, e⟩ := o0.hid a ha
    rw [h] at e; cases e
end
/-- a hidden list is let out, as a plain one -/
def Wd.show (w : Wd) (D : Addr) : Wd := ⟨⟨w.μ.num, fun a => w.μ.hid a ∧ a ≠ D⟩, w.ph, w.H⟩
mutual
theorem rep_show {D : Addr} : ∀ {x : PV} {v : V}, Rep K w.H w.μ x v → Rep K w.H (w.show D).μ x v
  | _, _, .non => .non
  | _, _, .bl b => .bl b
  | _, _, .int i => .int i
  | _, _, .str i => .str i
  | _, _, .tup h r => .tup h (reps_show r)
  | _, _, .lst h n r => .lst h ⟨n.1, fun z => n.2 z.1⟩ (reps_show r)
  | _, _, .scr h => .scr (by
      rcases h with ⟨h, n⟩ | h
      · exact .inl ⟨h, n.1, fun z => n.2 z.1⟩
      · exact .inr h)
  | _, _, .ref h => .ref h
theorem reps_show {D : Addr} : ∀ {x : List PV} {v : List V}, Reps K w.H w.μ x v → Reps K w.H (w.show D).μ x v
  | _, _, .nil => .nil
  | _, _, .cons h r => .cons (rep_show h) (reps_show r)
end
theorem repk_show {κ : Type} {D : Addr} : ∀ {x : List (κ × PV)} {v : List (κ × V)}, RepK K w.H w.μ x v → RepK K w.H (w.show D).μ x v
  | _, _, .nil => .nil
  | _, _, .cons h r => .cons (rep_show h) (repk_show r)
theorem Ok.show (o : Ok K w) {D : Addr} : Ok K (w.show D) := by
  refine ⟨o.len, o.nd, fun n a x h1 h2 => ?_, fun a ha => o.hid a ha.1⟩
  have r := o.ob n a x h1 h2
  cases x with
  | lst xs => obtain ⟨vs, e, r⟩ := r; exact ⟨vs, e, reps_show r⟩
  | dK xs => obtain ⟨vs, e, r⟩ := r; exact ⟨vs, e, repk_show r⟩
  | dT xs => obtain ⟨vs, e, r⟩ := r; exact ⟨vs, e, repk_show r⟩
end
section
variable {K : PySem.W.Frag} {w : Wd} {n : Nat} {a : Addr} {u : HO}
theorem repC (hn : w.μ.num[n]? = some a) (o : Ok K w) {x : PV} {v : V} (r : Rep K w.H w.μ x v) : Rep K (upd w.H a u) w.μ x v := (Step.chg (u := u) (x := PO.lst []) hn).rep o r
theorem repsC (hn : w.μ.num[n]? = some a) (o : Ok K w) {x : List PV} {v : List V} (r : Reps K w.H w.μ x v) : Reps K (upd w.H a u) w.μ x v := (Step.chg (u := u) (x := PO.lst []) hn).reps o r
theorem repkC {κ : Type} (hn : w.μ.num[n]? = some a) (o : Ok K w) {x : List (κ × PV)} {v : List (κ × V)} (r : RepK K w.H w.μ x v) : RepK K (upd w.H a u) w.μ x v := (Step.chg (u := u) (x := PO.lst []) hn).repk o r
end
/-! ### the frame -/
structure REnv (K : PySem.W.Frag) (w : Wd) (env : Env) (σ : L2.St) : Prop where
  len : σ.length = env.length
  get : ∀ (i : Nat) (x : PV), env[i]? = some (some x) → ∃ v, σ[i]? = some (some v) ∧ Rep K w.H w.μ x v
section
variable {K : PySem.W.Frag} {w w' : Wd} {env : Env} {σ : L2.St}
theorem REnv.step (r : REnv K w env σ) (s : Step w w') (o : Ok K w) : REnv K w' env σ :=
  ⟨r.len, fun i x h => let ⟨v, e, q⟩ := r.get i x h; ⟨v, e, s.rep o q⟩⟩
theorem REnv.set (r : REnv K w env σ) {i : Nat} {x : PV} {v : V} (h : Rep K w.H w.μ x v) : REnv K w (env.set i (some x)) (σ.set i (some v)) := by
  refine ⟨by simp [r.len], fun j y e => ?_⟩
  by_cases hj : j = i
  · subst hj
    have hl : j < env.length := by
      have := (List.getElem?_eq_some_iff.mp e).1
      simpa using this
    rw [List.getElem?_set_self hl] at e
    cases e
    exact ⟨v, List.getElem?_set_self (by rw [r.len]; exact hl), h⟩
  · rw [List.getElem?_set_ne (Ne.symm hj)] at e
    rw [List.getElem?_set_ne (Ne.symm hj)]
    exact r.get j y e
theorem REnv.unset (r : REnv K w env σ) {i : Nat} : REnv K w (env.set i none) (σ.set i none) := by
  refine ⟨by simp [r.len], fun j y e => ?_⟩
  by_cases hj : j = i
  · subst hj
    have hl : j < env.length := by
      have := (List.getElem?_eq_some_iff.mp e).1
      simpa using this
    rw [List.getElem?_set_self hl] at e
    cases e
  · rw [List.getElem?_set_ne (Ne.symm hj)] at e
    rw [List.getElem?_set_ne (Ne.symm hj)]
    exact r.get j y e
theorem REnv.wipe (r : REnv K w env σ) : ∀ l : List Nat, REnv K w (wipeE env l) (L2.wipe σ l)
  | [] => r
  | i :: l => (REnv.wipe r l).unset
end
end RL

/-! RLPrim: the operations, by the layer's rules. -/
namespace RL
open PySem PySem.Spec PyProof.Rows L2

def Post (K : PySem.W.Frag) (w : Wd) (Q : QV) (Q' : VK) : Prop := ∀ w' x v, Step w w' → Ok K w' → Rep K w'.H w'.μ x v → Q x w'.ph → Q' v w'.H
section
variable {K : PySem.W.Frag} {w : Wd} {Q : QV} {Q' : VK}
theorem Post.here (p : Post K w Q Q') (o : Ok K w) {x : PV} {v : V} (r : Rep K w.H w.μ x v) (q : Q x w.ph) : Q' v w.H := p w x v (Step.refl w) o r q
theorem Post.put (p : Post K w Q Q') (o : Ok K w) {x : PV} {v : V} {u : HO} (q : Q x w.ph) (r : ∀ a, w.H a = none → Rep K (upd w.H a u) w.μ x (.ref a)) : ∀ a, w.H a = none → Q' (.ref a) (upd w.H a u) := fun a h =>
  p (w.put a u) x _ (Step.put h) (o.put h) (r a h) q
theorem Post.tup (p : Post K w Q Q') (o : Ok K w) {xs : List PV} {vs : List V} (r : Reps K w.H w.μ xs vs) (q : Q (.tup xs) w.ph) : ∀ a, w.H a = none → Q' (.ref a) (upd w.H a (.tup vs)) := fun a h =>
  p (w.put a (.tup vs)) (.tup xs) _ (Step.put h) (o.put h) (.tup upd_same ((Step.put h).reps o r)) q
theorem Post.lst (p : Post K w Q Q') (o : Ok K w) {own : Bool} {xs : List PV} {vs : List V} (r : Reps K w.H w.μ xs vs) (q : newL own xs w.ph Q) : ∀ a, w.H a = none → Q' (.ref a) (upd w.H a (.lst vs)) := fun a h => by
  obtain ⟨_, q⟩ := q
  cases own with
  | true =>
    refine p (w.new a (.lst vs) (.lst xs)) (.ref w.ph.length) _ (Step.new h) (o.new h ⟨vs, upd_same, ?_⟩) (.ref ?_) q
    · exact (Step.new (x := PO.lst xs) h).reps o r
    · show (w.μ.num ++ [a])[w.ph.length]? = some a
      rw [← o.len, List.getElem?_append_right (Nat.le_refl _), Nat.sub_self]; rfl
  | false =>
    exact p (w.put a (.lst vs)) (.lst xs) _ (Step.put h) (o.put h) (.lst upd_same (o.notin h) ((Step.put h).reps o r)) q
/-- a numbered object changed -/
theorem Post.chg (p : Post K w Q Q') (o : Ok K w) {x : PV} {v : V} {n : Nat} {a : Addr} {u : HO} {y : PO} (hn : w.μ.num[n]? = some a) (r : RepO K (upd w.H a u) w.μ a y) (rx : Rep K (upd w.H a u) w.μ x v) (q : Q x (setO w.ph n y)) : Q' v (upd w.H a u) :=
  p (w.chg n a u y) x v (Step.chg hn) (o.chg hn r) rx q
theorem lst_at (o : Ok K w) {a : PV} {v : V} {xs : List PV} (h : lstOf w.ph a = some xs) (r : Rep K w.H w.μ a v) : ∃ p vs, v = .ref p ∧ w.H p = some (.lst vs) ∧ Reps K w.H w.μ xs vs := by
  cases r with
  | lst h1 h2 h3 =>
    simp only [lstOf, Option.some.injEq] at h
    subst h
    exact ⟨_, _, rfl, h1, h3⟩
  | @ref n a hn =>
    simp only [lstOf] at h
    cases q : w.ph[n]? with
    | none => rw [q] at h; cases h
    | some ob =>
      rw [q] at h
      cases ob with
      | lst ys =>
        cases h
        obtain ⟨vs, e, rr⟩ := o.ob n a _ hn q
        exact ⟨_, vs, rfl, e, rr⟩
      | dK _ => cases h
      | dT _ => cases h
  | _ => cases h
theorem seq_at (o : Ok K w) {a : PV} {v : V} {xs : List PV} (h : seqOf w.ph a = some xs) (r : Rep K w.H w.μ a v) : ∃ p vs, v = .ref p ∧ (SqL K w.H p vs ∨ SqT K w.H p vs) ∧ Reps K w.H w.μ xs vs := by
  cases r with
  | tup h1 h2 =>
    simp only [seqOf, Option.some.injEq] at h
    subst h
    exact ⟨_, _, rfl, .inr (SqT.of h1), h2⟩
  | scr h1 =>
    simp only [seqOf, Option.some.injEq] at h
    subst h
    exact ⟨_, _, rfl, .inl h1.l, Reps.ofInts _⟩
  | lst h1 h2 h3 =>
    obtain ⟨p, vs, e, q, rr⟩ := lst_at o (show lstOf w.ph (PV.lst _) = some xs from h) (.lst h1 h2 h3)
    exact ⟨p, vs, e, .inl (SqL.of q), rr⟩
  | ref hn =>
    obtain ⟨p, vs, e, q, rr⟩ := lst_at o (show lstOf w.ph (PV.ref _) = some xs from h) (.ref hn)
    exact ⟨p, vs, e, .inl (SqL.of q), rr⟩
  | _ => cases h
end
def lift1 (K : PySem.W.Frag) (r : PV → PHp → QV → Prop) : V → Hp → VK → Prop := fun x H Q' => ∃ w a Q, w.H = H ∧ Ok K w ∧ Rep K w.H w.μ a x ∧ r a w.ph Q ∧ Post K w Q Q'
def lift2 (K : PySem.W.Frag) (r : PV → PV → PHp → QV → Prop) : R2 := fun x y H Q' => ∃ w a b Q, w.H = H ∧ Ok K w ∧ Rep K w.H w.μ a x ∧ Rep K w.H w.μ b y ∧ r a b w.ph Q ∧ Post K w Q Q'
def liftN (K : PySem.W.Frag) (r : List PV → PHp → QV → Prop) : List V → Hp → VK → Prop := fun xs H Q' => ∃ w as Q, w.H = H ∧ Ok K w ∧ Reps K w.H w.μ as xs ∧ r as w.ph Q ∧ Post K w Q Q'
def liftM (K : PySem.W.Frag) (r : PV → List PV → PHp → QV → Prop) : V → List V → Hp → VK → Prop := fun x xs H Q' => ∃ w a as Q, w.H = H ∧ Ok K w ∧ Rep K w.H w.μ a x ∧ Reps K w.H w.μ as xs ∧ r a as w.ph Q ∧ Post K w Q Q'

/-! ### data -/
section
variable {K : PySem.W.Frag} {w : Wd}
mutual
theorem dat_dp (o : Ok K w) : ∀ {a : PV} {d : PyData} {v : V}, Dat w.ph a d → d.hasDict = false → Rep K w.H w.μ a v → Dp K w.H v d
  | _, _, _, .non, _, r => by cases r; exact .non
  | _, _, _, .bl b, _, r => by cases r; exact .bl b
  | _, _, _, .int b, _, r => by cases r; exact .int b
  | _, _, _, .str b, _, r => by cases r; exact .str b
  | _, _, _, .tup h, hd, r => by
    cases r with
    | tup h1 h2 => exact .tup (SqT.of h1) (dats_dp o h (by simpa only [PyData.hasDict] using hd) h2)
  | _, _, _, .lst h, hd, r => by
    cases r with
    | lst h1 _ h2 => exact .lst (SqL.of h1) (dats_dp o h (by simpa only [PyData.hasDict] using hd) h2)
  | _, _, _, .ref hn h, hd, r => by
    cases r with
    | ref hm =>
      obtain ⟨vs, e, rr⟩ := o.ob _ _ _ hm hn
      exact .lst (SqL.of e) (dats_dp o h (by simpa only [PyData.hasDict] using hd) rr)
  | _, _, _, .dict hn h, hd, r => by simp [PyData.hasDict] at hd
theorem dats_dp (o : Ok K w) : ∀ {a : List PV} {d : List PyData} {v : List V}, DatAll w.ph a d → PyData.hasDictAll d = false → Reps K w.H w.μ a v → DpAll K w.H v d
  | _, _, _, .nil, _, r => by cases r; exact .nil
  | _, _, _, .cons h t, hd, r => by
    cases r with
    | cons h1 h2 =>
      simp only [PyData.hasDictAll, Bool.or_eq_false_iff] at hd
      exact .cons (dat_dp o h hd.1 h1) (dats_dp o t hd.2 h2)
end
theorem shaped_noDict {d : PyData} (h : SeqAt.shaped d = true) : d.hasDict = false := PyData.hasDict_of_canLay d (SeqAt.canLay_of_shaped h)
end

/-! ### the operators -/
def op2F : Op2 → Value → Value → Sem Value
  | .add => binaryOp .Add | .sub => binaryOp .Sub | .mul => binaryOp .Mult | .fdiv => binaryOp .FloorDiv | .mod => binaryOp .Mod | .pow => binaryOp .Pow
  | .band => binaryOp .BitAnd | .shl => binaryOp .LShift | .shr => binaryOp .RShift
  | .eq => compareOp .Eq | .ne => compareOp .NotEq | .lt => compareOp .Lt | .le => compareOp .LtE | .gt => compareOp .Gt | .ge => compareOp .GtE
  | .is => compareOp .Is | .isnot => compareOp .IsNot | .in_ => compareOp .In | .notin => compareOp .NotIn
section
variable {X : Cx}
theorem OpR.imp {f : Value → Value → Sem Value} {r r' : R2} (h : OpR X f r) (k : ∀ x y H Q, r' x y H Q → r x y H Q) : OpR X f r' := fun pins s σ H x y v u Q I rx ry q => h pins s σ H x y v u Q I rx ry (k x y H Q q)
theorem OpR.none {f : Value → Value → Sem Value} : OpR X f (fun _ _ _ _ => False) := fun _ _ _ _ _ _ _ _ _ _ _ _ h => h.elim
/-- by the cases of the left one, the right one -/
theorem add_ok (own : Bool) : OpR X (binaryOp .Add) (lift2 X.K (op2S .add own)) := by
  refine OpR.imp ((op_add (X := X)).or ((op_add_str (X := X)).or ((op_catA (X := X)).or (op_cat (X := X))))) ?_
  rintro x y H Q' ⟨w, a, b, Q, rfl, o, ra, rb, h, p⟩
  have lists : ∀ {a b : PV}, (∃ xs ys, lstOf w.ph a = some xs ∧ lstOf w.ph b = some ys ∧ xs.length + ys.length ≤ sizeLine ∧ newL own (xs ++ ys) w.ph Q) → Rep X.K w.H w.μ a x → Rep X.K w.H w.μ b y → rCat x y w.H Q' := by
    rintro a b ⟨xs, ys, h1, h2, hz, q⟩ ra rb
    obtain ⟨l1, v1, rfl, e1, r1⟩ := lst_at o h1 ra
    obtain ⟨l2, v2, rfl, e2, r2⟩ := lst_at o h2 rb
    exact ⟨l1, l2, v1, v2, rfl, rfl, e1, e2, by rw [r1.length, r2.length]; exact hz, p.lst o (r1.append r2) q⟩
  cases ra with
  | int i =>
    cases rb with
    | int j => exact .inl ⟨i, j, rfl, rfl, p.here o (.int _) h⟩
    | _ => obtain ⟨xs, ys, h1, _⟩ := h; cases h1
  | str i =>
    cases rb with
    | str j => exact .inr (.inl ⟨i, j, rfl, rfl, h.1, p.here o (.str _) h.2⟩)
    | _ => obtain ⟨xs, ys, h1, _⟩ := h; cases h1
  | tup h1 r1 =>
    cases rb with
    | tup h2 r2 =>
      refine .inr (.inr (.inl ⟨_, _, _, _, rfl, rfl, SqT.of h1, SqT.of h2, by rw [r1.length, r2.length]; exact h.1, fun e => ?_, fun _ e => ?_, fun _ _ => p.tup o (r1.append r2) h.2⟩))
      · subst e; cases r1
        exact p.here o (.tup h2 r2) h.2
      · subst e; cases r2
        refine p.here o (.tup h1 r1) ?_
        have := h.2
        rwa [List.append_nil] at this
    | _ => obtain ⟨xs, ys, h1, _⟩ := h; cases h1
  | lst h1 h2 h3 => exact .inr (.inr (.inr (lists (by cases rb <;> exact h) (.lst h1 h2 h3) rb)))
  | ref h1 => exact .inr (.inr (.inr (lists (by cases rb <;> exact h) (.ref h1) rb)))
  | non => cases rb <;> (obtain ⟨xs, ys, h1, _⟩ := h; cases h1)
  | bl b => cases rb <;> (obtain ⟨xs, ys, h1, _⟩ := h; cases h1)
  | scr b => cases rb <;> (obtain ⟨xs, ys, h1, _⟩ := h; cases h1)
/-- two ints -/
theorem ints_ok {f : Value → Value → Sem Value} {C : Int → Int → Prop} {g : Int → Int → PV} {gv : Int → Int → V} {r : PV → PV → PHp → QV → Prop} (h : OpR X f (rI C gv)) (hg : ∀ i j (K : PySem.W.Frag) H μ, Rep K H μ (g i j) (gv i j))
    (hr : ∀ a b ph Q, r a b ph Q → ∃ i j, a = .int i ∧ b = .int j ∧ C i j ∧ Q (g i j) ph) : OpR X f (lift2 X.K r) := by
  refine OpR.imp h ?_
  rintro x y H Q' ⟨w, a, b, Q, rfl, o, ra, rb, h, p⟩
  obtain ⟨i, j, rfl, rfl, c, q⟩ := hr _ _ _ _ h
  cases ra
  cases rb
  exact ⟨i, j, rfl, rfl, c, p.here o (hg _ _ _ _ _) q⟩
theorem rI0_I {g : Int → Int → V} {f : Value → Value → Sem Value} (h : OpR X f (rI0 g)) : OpR X f (rI (fun _ _ => True) g) := OpR.imp h fun x y H Q ⟨i, j, e1, e2, _, q⟩ => ⟨i, j, e1, e2, q⟩
theorem sub_ok (own : Bool) : OpR X (binaryOp .Sub) (lift2 X.K (op2S .sub own)) := by
  refine ints_ok (g := fun i j => .int (i - j)) (rI0_I op_sub) (fun _ _ _ _ _ => .int _) fun a b ph Q h => ?_
  cases a <;> cases b <;> first | exact h.elim | exact ⟨_, _, rfl, rfl, trivial, h⟩
theorem fdiv_ok (own : Bool) : OpR X (binaryOp .FloorDiv) (lift2 X.K (op2S .fdiv own)) := by
  have h : OpR X (binaryOp .FloorDiv) (rI (fun _ j => (0 < j ∧ j.natAbs.log2 < 9000) ∨ (j ≠ 0 ∧ j.natAbs < 1073741824)) fun i j => .int (i.fdiv j)) := by
    refine OpR.imp ((op_fdivW (X := X)).or (op_fdivN (X := X))) ?_
    rintro x y H Q ⟨i, j, e1, e2, c | c, q⟩
    · refine .inl ⟨i, j, e1, e2, c, ?_⟩
      show Q (.int (i / j)) H
      rw [← Int.fdiv_eq_ediv_of_nonneg i (by omega)]; exact q
    · exact .inr ⟨i, j, e1, e2, c, q⟩
  refine ints_ok (g := fun i j => .int (i.fdiv j)) h (fun _ _ _ _ _ => .int _) fun a b ph Q h => ?_
  cases a <;> cases b <;> first | exact h.elim | exact ⟨_, _, rfl, rfl, h.1, h.2⟩
theorem mod_ok (own : Bool) : OpR X (binaryOp .Mod) (lift2 X.K (op2S .mod own)) := by
  refine ints_ok (g := fun i j => .int (i.fmod j)) op_modN (fun _ _ _ _ _ => .int _) fun a b ph Q h => ?_
  cases a <;> cases b <;> first | exact h.elim | exact ⟨_, _, rfl, rfl, h.1, h.2⟩
theorem pow_ok (own : Bool) : OpR X (binaryOp .Pow) (lift2 X.K (op2S .pow own)) := by
  refine ints_ok (g := fun i j => .int (i ^ j.toNat)) op_pow (fun _ _ _ _ _ => .int _) fun a b ph Q h => ?_
  cases a <;> cases b <;> first | exact h.elim | exact ⟨_, _, rfl, rfl, h.1, h.2⟩
theorem band_ok (own : Bool) : OpR X (binaryOp .BitAnd) (lift2 X.K (op2S .band own)) := by
  refine ints_ok (g := fun i j => .int (Builtin.bitAnd i j)) (rI0_I op_and) (fun _ _ _ _ _ => .int _) fun a b ph Q h => ?_
  cases a <;> cases b <;> first | exact h.elim | exact ⟨_, _, rfl, rfl, trivial, h⟩
theorem shl_ok (own : Bool) : OpR X (binaryOp .LShift) (lift2 X.K (op2S .shl own)) := by
  refine ints_ok (g := fun i j => .int (i * 2 ^ j.toNat)) op_shl (fun _ _ _ _ _ => .int _) fun a b ph Q h => ?_
  cases a <;> cases b <;> first | exact h.elim | exact ⟨_, _, rfl, rfl, h.1, h.2⟩
theorem shr_ok (own : Bool) : OpR X (binaryOp .RShift) (lift2 X.K (op2S .shr own)) := by
  refine ints_ok (g := fun i j => .int (i / 2 ^ j.toNat)) op_shr (fun _ _ _ _ _ => .int _) fun a b ph Q h => ?_
  cases a <;> cases b <;> first | exact h.elim | exact ⟨_, _, rfl, rfl, h.1, h.2⟩
theorem le_ok (own : Bool) : OpR X (compareOp .LtE) (lift2 X.K (op2S .le own)) := by
  refine ints_ok (g := fun i j => .bl (decide (i ≤ j))) (rI0_I op_le) (fun _ _ _ _ _ => .bl _) fun a b ph Q h => ?_
  cases a <;> cases b <;> first | exact h.elim | exact ⟨_, _, rfl, rfl, trivial, h⟩
theorem gt_ok (own : Bool) : OpR X (compareOp .Gt) (lift2 X.K (op2S .gt own)) := by
  refine ints_ok (g := fun i j => .bl (decide (j < i))) (rI0_I op_gt) (fun _ _ _ _ _ => .bl _) fun a b ph Q h => ?_
  cases a <;> cases b <;> first | exact h.elim | exact ⟨_, _, rfl, rfl, trivial, h⟩
theorem ge_ok (own : Bool) : OpR X (compareOp .GtE) (lift2 X.K (op2S .ge own)) := by
  refine ints_ok (g := fun i j => .bl (decide (j ≤ i))) (rI0_I op_ge) (fun _ _ _ _ _ => .bl _) fun a b ph Q h => ?_
  cases a <;> cases b <;> first | exact h.elim | exact ⟨_, _, rfl, rfl, trivial, h⟩
theorem lexLt_eq : ∀ xs ys : List Int, lexLt xs ys = HT.lexLt xs ys
  | [], [] => rfl
  | _ :: _, [] => rfl
  | [], _ :: _ => rfl
  | x :: xs, y :: ys => by
    rw [HT.lexLt_cons, lexLt, lexLt_eq xs ys]
theorem lt_ok (hu : X.A.units < cLine) (own : Bool) : OpR X (compareOp .Lt) (lift2 X.K (op2S .lt own)) := by
  refine OpR.imp ((op_lt (X := X)).or (op_ltT (X := X) hu)) ?_
  rintro x y H Q' ⟨w, a, b, Q, rfl, o, ra, rb, h, p⟩
  cases ra with
  | int i =>
    cases rb with
    | int j => exact .inl ⟨i, j, rfl, rfl, p.here o (.bl _) h⟩
    | _ => exact h.elim
  | tup h1 r1 =>
    cases rb with
    | tup h2 r2 =>
      obtain ⟨ns, ms, e1, e2, q⟩ := h
      have e1' := Reps.ints e1 r1
      have e2' := Reps.ints e2 r2
      subst e1' e2'
      refine .inr ⟨_, _, ns, ms, rfl, rfl, SqT.of h1, SqT.of h2, ?_⟩
      rw [← lexLt_eq]
      exact p.here o (.bl _) q
    | _ => exact h.elim
  | _ => cases rb <;> exact h.elim
theorem eqP_ok {f : Value → Value → Sem Value} {g : Bool → Bool} (h1 : OpR X f (fun x y H Q => scal x y = true ∧ Q (.bl (g (decide (x = y)))) H))
    (h2 : OpR X f (fun x y H Q => ∃ d e, Dp X.K H x d ∧ Dp X.K H y e ∧ SeqAt.shaped d = true ∧ SeqAt.shaped e = true ∧ Q (.bl (g (PyData.eqv d e))) H)) :
    OpR X f (lift2 X.K fun a b ph Q => eqP a b ph fun k => Q (.bl (g k)) ph) := by
  refine OpR.imp (h1.or h2) ?_
  rintro x y H Q' ⟨w, a, b, Q, rfl, o, ra, rb, h, p⟩
  have gen : (∃ d e, Dat w.ph a d ∧ Dat w.ph b e ∧ SeqAt.shaped d = true ∧ SeqAt.shaped e = true ∧ Q (.bl (g (PyData.eqv d e))) w.ph) →
      ∃ d e, Dp X.K w.H x d ∧ Dp X.K w.H y e ∧ SeqAt.shaped d = true ∧ SeqAt.shaped e = true ∧ Q' (.bl (g (PyData.eqv d e))) w.H := by
    rintro ⟨d, e, hd, he, s1, s2, q⟩
    exact ⟨d, e, dat_dp o hd (shaped_noDict s1) ra, dat_dp o he (shaped_noDict s2) rb, s1, s2, p.here o (.bl _) q⟩
  cases a with
  | int i =>
    cases b with
    | int j =>
      cases ra; cases rb
      refine .inl ⟨rfl, ?_⟩
      have e : decide (V.int i = V.int j) = decide (i = j) := by
        by_cases hh : i = j
        · subst hh; simp
        · rw [decide_eq_false hh, decide_eq_false fun z => hh (V.int.inj z)]
      rw [e]
      exact p.here o (.bl _) h
    | _ => exact .inr (gen h)
  | non =>
    cases b with
    | non =>
      cases ra; cases rb
      exact .inl ⟨rfl, p.here o (.bl _) h⟩
    | _ => exact .inr (gen h)
  | str i =>
    cases b with
    | str j =>
      cases ra; cases rb
      refine .inl ⟨rfl, ?_⟩
      have e : decide (V.str i = V.str j) = decide (i = j) := by
        by_cases hh : i = j
        · subst hh; simp
        · rw [decide_eq_false hh, decide_eq_false fun z => hh (V.str.inj z)]
      rw [e]
      exact p.here o (.bl _) h
    | _ => exact .inr (gen h)
  | bl i =>
    cases b with
    | bl j =>
      cases ra; cases rb
      refine .inl ⟨rfl, ?_⟩
      have e : decide (V.bl i = V.bl j) = decide (i = j) := by
        by_cases hh : i = j
        · subst hh; simp
        · rw [decide_eq_false hh, decide_eq_false fun z => hh (V.bl.inj z)]
      rw [e]
      exact p.here o (.bl _) h
    | _ => exact .inr (gen h)
  | tup _ => exact .inr (gen (by cases b <;> exact h))
  | lst _ => exact .inr (gen (by cases b <;> exact h))
  | ref _ => exact .inr (gen (by cases b <;> exact h))
  | scr _ => exact .inr (gen (by cases b <;> exact h))
theorem eq_ok (hu : X.A.units + 64 < cLine) (own : Bool) : OpR X (compareOp .Eq) (lift2 X.K (op2S .eq own)) := eqP_ok (g := fun k => k) op_eq (op_eqD hu)
theorem ne_ok (hu : X.A.units + 64 < cLine) (own : Bool) : OpR X (compareOp .NotEq) (lift2 X.K (op2S .ne own)) := eqP_ok (g := fun k => !k) op_ne (op_neD hu)
theorem isNon_eq {K : PySem.W.Frag} {H : Hp} {μ : Mu} {a : PV} {x : V} (r : Rep K H μ a x) : decide (x = .non) = isNon a := by cases r <;> rfl
theorem is_ok (own : Bool) : OpR X (compareOp .Is) (lift2 X.K (op2S .is own)) := by
  refine OpR.imp (op_isN (X := X)) ?_
  rintro x y H Q' ⟨w, a, b, Q, rfl, o, ra, rb, h, p⟩
  cases rb with
  | non => refine ⟨rfl, ?_⟩; rw [isNon_eq ra]; exact p.here o (.bl _) h
  | _ => exact h.elim
theorem isnot_ok (own : Bool) : OpR X (compareOp .IsNot) (lift2 X.K (op2S .isnot own)) := by
  refine OpR.imp (op_notN (X := X)) ?_
  rintro x y H Q' ⟨w, a, b, Q, rfl, o, ra, rb, h, p⟩
  cases rb with
  | non => refine ⟨rfl, ?_⟩; rw [isNon_eq ra]; exact p.here o (.bl _) h
  | _ => exact h.elim
end
end RL

/-! RLPrim2: products, membership, items, slices. -/
namespace RL
open PySem PySem.Spec PyProof.Rows L2
/-- tuple * 1, () * n: the tuple itself -/
theorem tupMulSame (l : Addr) (items : Array Value) (n : Nat) (dd : Option Addr) (sl : Array (Option Value)) (x : Int) (u : Tok) (c0 : (decide (x < -(2 ^ 63)) || decide (x ≥ 2 ^ 63)) = false) (c1 : (items.isEmpty || x == 1) = true) :
    Meets (Builtin.«tuple.__mul__» ⟨[.ref l, .int x u], []⟩) (fun _ R s => s.heap.get? l = some { cls := .type "tuple", dict := dd, data := .seq items n, slots := sl } ∧ R (.ok (.ret (Value.ref l))) s) :=
  .of_wp fun prog w A R s h => by
    obtain ⟨hp, g, d, tk, os'⟩ := s
    obtain ⟨hl, h⟩ := h
    have f1 := AutoSeq1.idx_int
    wp_walk using wpAny_loadPart' hl
    repeat (first
      | (refine wpAny_ite_false (decide_eq_false (by rw [c0]; exact Bool.false_ne_true)) ?_; wp_walk using wpAny_loadPart' hl)
      | (refine wpAny_ite_true (decide_eq_true c1) ?_; wp_walk using wpAny_loadPart' hl))
    exact ⟨_, rfl, h⟩
theorem tupMulNone (l : Addr) (items : Array Value) (n : Nat) (dd : Option Addr) (sl : Array (Option Value)) (x : Int) (u : Tok) (c0 : (decide (x < -(2 ^ 63)) || decide (x ≥ 2 ^ 63)) = false) (c1 : (items.isEmpty || x == 1) = false) (c2 : (decide (x ≤ 0) || items.isEmpty) = true) :
    Meets (Builtin.«tuple.__mul__» ⟨[.ref l, .int x u], []⟩) (fun _ R s => s.heap.get? l = some { cls := .type "tuple", dict := dd, data := .seq items n, slots := sl } ∧
      R (.ok (.ret (Value.ref s.heap.objs.size))) { s with heap := s.heap.push { cls := Value.type "tuple", data := Data.seq #[] }, toks := s.toks }) :=
  .of_wp fun prog w A R s h => by
    obtain ⟨hp, g, d, tk, os'⟩ := s
    obtain ⟨hl, h⟩ := h
    have f1 := AutoSeq1.idx_int
    wp_walk using wpAny_loadPart' hl
    repeat (first
      | (refine wpAny_ite_false (decide_eq_false (by rw [c0]; exact Bool.false_ne_true)) ?_; wp_walk using wpAny_loadPart' hl)
      | (refine wpAny_ite_false (decide_eq_false (by rw [c1]; exact Bool.false_ne_true)) ?_; wp_walk using wpAny_loadPart' hl)
      | (refine wpAny_ite_true (decide_eq_true c2) ?_; wp_walk using wpAny_loadPart' hl))
    exact ⟨_, rfl, h⟩
section
variable {X : Cx}
/-- a tuple times 1, times nothing -/
def rRepS (K : PySem.W.Frag) : R2 := fun x y H Q => ∃ l k xs, x = .ref l ∧ y = .int k ∧ SqT K H l xs ∧ k ≤ 1000 ∧ -(2 ^ 62) ≤ k ∧ (((xs = [] ∨ k = 1) ∧ Q (.ref l) H) ∨ (xs ≠ [] ∧ k ≤ 0 ∧ ∀ p, H p = none → Q (.ref p) (upd H p (.tup []))))
theorem op_repS : OpR X (binaryOp .Mult) (rRepS X.K) := by
  intro pins s σ H x y v u Q I rx ry h
  obtain ⟨l, k, xs, rfl, rfl, hT, h1, h2, h⟩ := h
  cases rx
  obtain ⟨t, rfl⟩ := ry
  obtain ⟨its, r, ⟨⟨cls, dd, data, sl⟩, ho, hc, n, hd⟩, hs⟩ := I.tuple hT
  simp only at hc hd
  subst hc hd
  have hle : its.length = xs.length := r.length.symm
  have c0 : (decide (k < -(2 ^ 63)) || decide (k ≥ 2 ^ 63)) = false := by
    rw [decide_eq_false (by omega), decide_eq_false (by omega)]; rfl
  rcases h with ⟨h, q⟩ | ⟨hne, hk, q⟩
  · have c1 : (its.toArray.isEmpty || k == 1) = true := by
      rcases h with h | h
      · subst h
        have : its = [] := List.eq_nil_of_length_eq_zero hle
        subst this; rfl
      · subst h; simp
    exact wpAny_binaryOp_repeat_ref (T := "tuple") (U := "int") (by decide) ⟨_, ho, rfl⟩ (fun s' => typeIs_int s' k t) noFill_tuple_mul F.fills_int_mul F.slot_int_rmul repeat_tuple F.slot_int_index.lookup
      (call_meets F.slot_int_rmul (typeIs_int s k t) F.entry_int_rmul (F.args_int_rmul_2 _ _) (int_rmul_tuple k t l its.toArray n dd sl)
        ⟨ho, rfl, ⟨_, ho, rfl⟩, call_meets F.slot_tuple_mul ⟨_, ho, rfl⟩ F.entry_tuple_mul (F.args_tuple_mul_2 _ _) (tupMulSame l its.toArray n dd sl k t c0 c1) ⟨ho, ⟨.ref l, H, I, rfl, q⟩⟩⟩)
  · have c1 : (its.toArray.isEmpty || k == 1) = false := by
      have : its ≠ [] := fun e => hne (by rw [e] at hle; exact List.eq_nil_of_length_eq_zero hle.symm)
      cases its with
      | nil => exact absurd rfl this
      | cons a b => rw [beq_eq_false_iff_ne.mpr (by omega)]; rfl
    have c2 : (decide (k ≤ 0) || its.toArray.isEmpty) = true := by rw [decide_eq_true hk]; rfl
    refine wpAny_binaryOp_repeat_ref (T := "tuple") (U := "int") (by decide) ⟨_, ho, rfl⟩ (fun s' => typeIs_int s' k t) noFill_tuple_mul F.fills_int_mul F.slot_int_rmul repeat_tuple F.slot_int_index.lookup
      (call_meets F.slot_int_rmul (typeIs_int s k t) F.entry_int_rmul (F.args_int_rmul_2 _ _) (int_rmul_tuple k t l its.toArray n dd sl)
        ⟨ho, rfl, ⟨_, ho, rfl⟩, call_meets F.slot_tuple_mul ⟨_, ho, rfl⟩ F.entry_tuple_mul (F.args_tuple_mul_2 _ _) (tupMulNone l its.toArray n dd sl k t c0 c1 c2) ⟨ho, ?_⟩⟩)
    refine ⟨.ref s.heap.objs.size, _, I.laid (t' := s.toks) (o := .tup []) (fun b ob q => Heap.get?_push_of_some _ q) (Nat.le_refl _) ⟨Nat.zero_le _, [], .nil, IsTup.new _ _⟩, rfl, q _ (I.hok.fresh (Nat.le_refl _))⟩
/-- a text so many times -/
def rRepStr : R2 := fun x y H Q => ∃ z k, x = .str z ∧ y = .int k ∧ -(2 ^ 62) ≤ k ∧ k ≤ 1000 ∧ z.length ≤ 1000 ∧ Q (.str ⟨(List.replicate k.toNat z.cps.toList).flatten.toArray⟩) H
theorem strFlat (z : Str) : ∀ (m : Nat) (acc : Array Nat), (List.replicate m z.cps).foldl (· ++ ·) acc = acc ++ (List.replicate m z.cps.toList).flatten.toArray
  | 0, acc => by simp
  | m + 1, acc => by
    rw [List.replicate_succ, List.foldl_cons, strFlat z m, List.replicate_succ, List.flatten_cons]
    exact Array.ext' (by simp)
theorem op_repStr : OpR X (binaryOp .Mult) rRepStr := by
  intro pins s σ H x y v u Q I rx ry h
  obtain ⟨z, k, rfl, rfl, h1, h2, hz, q⟩ := h
  obtain ⟨t, rfl⟩ := rx
  obtain ⟨t', rfl⟩ := ry
  have sl : (sizeLine : Nat) = 16777216 := sizeLine_eq
  have hlen : z.cps.size = z.length := rfl
  have e0 : (List.replicate k.toNat z.cps).foldl (· ++ ·) #[] = (List.replicate k.toNat z.cps.toList).flatten.toArray := by
    rw [strFlat]; simp
  refine PySem.P.mul_str (by rw [decide_eq_false (by omega), decide_eq_false (by omega)]; rfl) (fun a b c => ?_) (fun a b => ?_) ?_
  · have h3 : (z.length : Int) * k ≤ 1000 * 1000 := Int.mul_le_mul (by omega) h2 (by omega) (by omega)
    have h4 : (z.length : Int) ≤ (2 ^ 63 - 1) / k := Int.le_ediv_of_mul_le (by omega) (by omega)
    omega
  · have : z.length * k.toNat ≤ 1000 * 1000 := Nat.mul_le_mul hz (by omega)
    unfold Builtin.Str.tooLong
    exact decide_eq_false (by omega)
  · by_cases hk : k < 1
    · rw [if_pos hk]
      have e : k.toNat = 0 := by omega
      rw [e] at q
      refine ⟨by decide, ⟨.str Str.empty, H, I.tok _, ⟨_, rfl⟩, ?_⟩⟩
      have e2 : (⟨(List.replicate 0 z.cps.toList).flatten.toArray⟩ : Str) = Str.empty := rfl
      rw [e2] at q
      exact q
    · rw [if_neg hk]
      by_cases h1' : (k == 1 || z.length == 0) = true
      · rw [if_pos h1']
        refine ⟨.str z, H, I, ⟨_, rfl⟩, ?_⟩
        have : (⟨(List.replicate k.toNat z.cps.toList).flatten.toArray⟩ : Str) = z := by
          rcases Bool.or_eq_true_iff.mp h1' with e | e
          · have e : k = 1 := by simpa using e
            subst e
            simp
          · have e : z.length = 0 := by simpa using e
            obtain ⟨c⟩ := z
            have : c = #[] := Array.eq_empty_of_size_eq_zero (show c.size = 0 from e)
            subst this
            simp
        rw [this] at q
        exact q
      · rw [if_neg h1']
        refine ⟨?_, ⟨.str _, H, I.tok _, ⟨_, rfl⟩, ?_⟩⟩
        · rw [e0]
          show (List.replicate k.toNat z.cps.toList).flatten.toArray.size ≤ sizeLine
          rw [List.size_toArray, PyProof.Rows.lm_len_rep_flat]
          have : k.toNat * z.cps.toList.length ≤ 1000 * 1000 := Nat.mul_le_mul (by omega) (by rw [Array.length_toList]; exact hz)
          omega
        · rw [e0]; exact q
end
end RL

/-! RLPrim3: products, membership, all operators. -/
namespace RL
open PySem PySem.Spec PyProof.Rows L2
section
variable {X : Cx}
theorem mul_ok (own : Bool) : OpR X (binaryOp .Mult) (lift2 X.K (op2S .mul own)) := by
  refine OpR.imp ((op_mulW (X := X)).or ((op_repT (X := X)).or ((op_repS (X := X)).or ((op_repStr (X := X)).or (op_rep (X := X)))))) ?_
  rintro x y H Q' ⟨w, a, b, Q, rfl, o, ra, rb, h, p⟩
  have lists : ∀ {a : PV} {k : Int}, (∃ xs, lstOf w.ph a = some xs ∧ (-1000 ≤ k ∧ k ≤ 1000) ∧ xs.length ≤ 1000 ∧ newL own (List.replicate k.toNat xs).flatten w.ph Q) → Rep X.K w.H w.μ a x → rRep x (.int k) w.H Q' := by
    rintro a k ⟨xs, h1, hk, hz, q⟩ ra
    obtain ⟨l1, v1, rfl, e1, r1⟩ := lst_at o h1 ra
    refine ⟨l1, k, v1, rfl, rfl, e1, by omega, by omega, ?_, p.lst o (r1.rep _) q⟩
    have : v1.length * k.toNat ≤ 1000 * 1000 := Nat.mul_le_mul (by rw [r1.length]; exact hz) (by omega)
    have := sizeLine_eq
    omega
  cases ra with
  | int i =>
    cases rb with
    | int j => exact .inl ⟨i, j, rfl, rfl, h.1, p.here o (.int _) h.2⟩
    | _ => exact h.elim
  | str s =>
    cases rb with
    | int k => exact .inr (.inr (.inr (.inl ⟨s, k, rfl, rfl, by have := h.1; omega, by have := h.1; omega, h.2.1, p.here o (.str _) h.2.2⟩)))
    | _ => exact h.elim
  | @tup a xs vs h1 r1 =>
    cases rb with
    | int k =>
      obtain ⟨hk, hz, q⟩ := h
      by_cases hx : xs = []
      · subst hx
        cases r1
        refine .inr (.inr (.inl ⟨_, k, [], rfl, rfl, SqT.of h1, by omega, by omega, .inl ⟨.inl rfl, ?_⟩⟩))
        refine p.here o (.tup h1 .nil) ?_
        have e : (List.replicate k.toNat ([] : List PV)).flatten = [] := by simp
        rwa [e] at q
      · have hv : vs ≠ [] := fun e => by
          have := r1.length
          rw [e] at this
          exact hx (List.eq_nil_of_length_eq_zero this.symm)
        by_cases h0 : k ≤ 0
        · refine .inr (.inr (.inl ⟨_, k, vs, rfl, rfl, SqT.of h1, by omega, by omega, .inr ⟨hv, h0, ?_⟩⟩))
          have e : k.toNat = 0 := by omega
          rw [e] at q
          exact p.tup o .nil q
        · by_cases h1' : k = 1
          · refine .inr (.inr (.inl ⟨_, k, vs, rfl, rfl, SqT.of h1, by omega, by omega, .inl ⟨.inr h1', ?_⟩⟩))
            refine p.here o (.tup h1 r1) ?_
            have e : k.toNat = 1 := by omega
            rw [e] at q
            simpa using q
          · exact .inr (.inl ⟨_, k, vs, rfl, rfl, SqT.of h1, hv, by omega, by omega, by rw [r1.length]; exact hz, p.tup o (r1.rep _) q⟩)
    | _ => exact h.elim
  | lst h1 h2 h3 =>
    cases rb with
    | int k => exact .inr (.inr (.inr (.inr (lists h (.lst h1 h2 h3)))))
    | _ => exact h.elim
  | ref h1 =>
    cases rb with
    | int k => exact .inr (.inr (.inr (.inr (lists h (.ref h1)))))
    | _ => exact h.elim
  | non => cases rb <;> first | exact h.elim | (obtain ⟨xs, h1, _⟩ := h; cases h1)
  | bl b => cases rb <;> first | exact h.elim | (obtain ⟨xs, h1, _⟩ := h; cases h1)
  | scr b => cases rb <;> first | exact h.elim | (obtain ⟨xs, h1, _⟩ := h; cases h1)

/-! ### membership -/
def rInT (K : PySem.W.Frag) (g : Bool → Bool) : R2 := fun x y H Q => ∃ d a vs ds, Dp K H x d ∧ y = .ref a ∧ SqT K H a vs ∧ DpAll K H vs ds ∧ SeqAt.shaped d = true ∧ SeqAt.shaped (.tuple ds) = true ∧ Q (.bl (g (ds.any fun z => PyData.eqv z d))) H
theorem any_read {h : Heap} {ds : List PyData} {vs : List Value} {as : List Addr} {d : PyData} (r : ReadsAll h vs ds as) (hc : PyData.canLayAll0 ds = true) : (vs.toArray.any fun u => PyData.eqv (SeqAt.readOf h u) d) = ds.any fun z => PyData.eqv z d := by
  have e := SeqAt.readsAll_map ds vs as hc r
  rw [← e, List.any_map]
  simp [Function.comp_def]
theorem op_inT (hu : X.A.units + 65 < cLine) : OpR X (compareOp .In) (rInT X.K id) := by
  intro pins s σ H x y v u Q I rx ry h
  obtain ⟨d, a, xs, ds, hd, rfl, ht, hds, sd, se, q⟩ := h
  obtain ⟨as, r1⟩ := Dp.reads I d x v hd rx
  cases ry
  obtain ⟨its, rv, pl, _⟩ := I.tuple ht
  obtain ⟨bs, r2⟩ := Dp.readsAll I ds _ its hds rv
  have hc : PyData.canLayAll0 ds = true := by simpa only [PyData.canLay0] using SeqAt.canLay_of_shaped se
  refine SeqAt.in_tupleAt _ pl (SeqAt.items_eqAt (vs := its.toArray) (show ReadsAll s.heap its.toArray.toList ds bs from r2) r1 hc (SeqAt.canLay_of_shaped sd) (room_in_shaped sd hu)) ⟨.bl _, H, I, rfl, ?_⟩
  rw [any_read r2 hc]; exact q
theorem op_ninT (hu : X.A.units + 65 < cLine) : OpR X (compareOp .NotIn) (rInT X.K fun b => !b) := by
  intro pins s σ H x y v u Q I rx ry h
  obtain ⟨d, a, xs, ds, hd, rfl, ht, hds, sd, se, q⟩ := h
  obtain ⟨as, r1⟩ := Dp.reads I d x v hd rx
  cases ry
  obtain ⟨its, rv, pl, _⟩ := I.tuple ht
  obtain ⟨bs, r2⟩ := Dp.readsAll I ds _ its hds rv
  have hc : PyData.canLayAll0 ds = true := by simpa only [PyData.canLay0] using SeqAt.canLay_of_shaped se
  refine SeqAt.notIn_tupleAt _ pl (SeqAt.items_eqAt (vs := its.toArray) (show ReadsAll s.heap its.toArray.toList ds bs from r2) r1 hc (SeqAt.canLay_of_shaped sd) (room_in_shaped sd hu)) ⟨.bl _, H, I, rfl, ?_⟩
  rw [any_read r2 hc]; exact q
theorem op_inDict (hu : X.A.units + 1 < cLine) : OpR X (compareOp .In) (fun y x H Q => ∃ a o, x = .ref a ∧ DGet H a y o ∧ Q (.bl o.isSome) H) := by
  intro pins s σ H x y v u Q I rx ry h
  obtain ⟨a, o, rfl, g, q⟩ := h
  cases ry
  exact d_in hu I g rx fun s' I' => ⟨.bl _, H, I', rfl, q⟩
theorem op_ninDict (hu : X.A.units + 1 < cLine) : OpR X (compareOp .NotIn) (fun y x H Q => ∃ a o, x = .ref a ∧ DGet H a y o ∧ Q (.bl (!o.isSome)) H) := by
  intro pins s σ H x y v u Q I rx ry h
  obtain ⟨a, o, rfl, g, q⟩ := h
  cases ry
  exact d_notIn hu I g rx fun s' I' => ⟨.bl _, H, I', rfl, q⟩
/-! dicts -/
section
variable {K : PySem.W.Frag} {H : Hp} {μ : Mu}
theorem RepK.look {κ : Type} [DecidableEq κ] {k : κ} : ∀ {kvs : List (κ × PV)} {l : List (κ × V)}, RepK K H μ kvs l → (pkLook kvs k = none ∧ valV l k = none) ∨ ∃ x v, pkLook kvs k = some x ∧ valV l k = some v ∧ Rep K H μ x v
  | _, _, .nil => .inl ⟨rfl, rfl⟩
  | _, _, @RepK.cons _ _ _ _ k' x v xs vs h t => by
    by_cases e : k' = k
    · refine .inr ⟨x, v, ?_, valV_pos e, h⟩
      simp [pkLook, e]
    · have h1 : pkLook ((k', x) :: xs) k = pkLook xs k := by simp [pkLook, List.find?_cons, e]
      have h2 : valV ((k', v) :: vs) k = valV vs k := valV_neg e
      rw [h1, h2]
      exact RepK.look t
theorem RepK.length {κ : Type} : ∀ {kvs : List (κ × PV)} {l : List (κ × V)}, RepK K H μ kvs l → l.length = kvs.length
  | _, _, .nil => rfl
  | _, _, .cons _ t => by simp [RepK.length t]
theorem RepK.anyKey {κ : Type} [DecidableEq κ] {k : κ} : ∀ {kvs : List (κ × PV)} {l : List (κ × V)}, RepK K H μ kvs l → (l.any fun kv => decide (kv.1 = k)) = kvs.any fun kv => decide (kv.1 = k)
  | _, _, .nil => rfl
  | _, _, .cons _ t => by rw [List.any_cons, List.any_cons, RepK.anyKey t]
theorem RepK.mapPut {κ : Type} [DecidableEq κ] {k : κ} {x : PV} {v : V} (h : Rep K H μ x v) : ∀ {kvs : List (κ × PV)} {l : List (κ × V)}, RepK K H μ kvs l →
    RepK K H μ (kvs.map fun kv => if kv.1 = k then (kv.1, x) else kv) (l.map fun kv => if kv.1 = k then (kv.1, v) else kv)
  | _, _, .nil => .nil
  | _, _, @RepK.cons _ _ _ _ k' y u ys us h' t => by
    rw [List.map_cons, List.map_cons]
    by_cases e : k' = k
    · rw [if_pos e, if_pos e]; exact .cons h (RepK.mapPut h t)
    · rw [if_neg e, if_neg e]; exact .cons h' (RepK.mapPut h t)
theorem RepK.append {κ : Type} : ∀ {a b : List (κ × PV)} {c d : List (κ × V)}, RepK K H μ a c → RepK K H μ b d → RepK K H μ (a ++ b) (c ++ d)
  | _, _, _, _, .nil, r => r
  | _, _, _, _, .cons h t, r => .cons h (RepK.append t r)
theorem RepK.put {κ : Type} [DecidableEq κ] {k : κ} {x : PV} {v : V} (h : Rep K H μ x v) {kvs : List (κ × PV)} {l : List (κ × V)} (r : RepK K H μ kvs l) : RepK K H μ (pkPut kvs k x) (putK l k v) := by
  unfold pkPut putK
  rw [r.anyKey]
  split
  · exact r.mapPut h
  · exact r.append (.cons h .nil)
theorem key_at {a : PV} {k : Key} {x : V} (h : keyOf a = some k) (r : Rep K H μ a x) : x = kV k := by
  cases r with
  | int i => simp [keyOf] at h; subst h; rfl
  | str i => simp [keyOf] at h; subst h; rfl
  | _ => cases h
theorem keys_at : ∀ {xs : List PV} {ks : List Key} {vs : List V}, keysOf xs = some ks → Reps K H μ xs vs → vs = ks.map kV
  | _, _, _, h, .nil => by simp [keysOf] at h; subst h; rfl
  | x :: xs, _, _, h, .cons r t => by
    cases e1 : keyOf x with
    | none => simp [keysOf, e1] at h
    | some k =>
      cases e2 : keysOf xs with
      | none => simp [keysOf, e1, e2] at h
      | some l =>
        simp [keysOf, e1, e2] at h
        subst h
        rw [key_at e1 r, keys_at e2 t]; rfl
theorem tkey_at {a : PV} {k : List Key} {x : V} (h : tkeyOf a = some k) (r : Rep K H μ a x) : ∃ b, x = .ref b ∧ H b = some (.tup (k.map kV)) := by
  cases r with
  | tup h1 r1 =>
    have h' : keysOf _ = some k := h
    exact ⟨_, rfl, by rw [← keys_at h' r1]; exact h1⟩
  | _ => cases h
end
theorem isIn_gen {K : PySem.W.Frag} {w : Wd} (o : Ok K w) {a b : PV} {x y : V} (ra : Rep K w.H w.μ a x) (rb : Rep K w.H w.μ b y) {k : Bool → Prop} (h : isIn a b w.ph k) :
    (∃ a' ob, y = .ref a' ∧ DGet w.H a' x ob ∧ k ob.isSome) ∨
    (∃ d ds, Dp K w.H x d ∧ Dp K w.H y (.list ds) ∧ SeqAt.shaped d = true ∧ SeqAt.shaped (.list ds) = true ∧ k (ds.any fun z => PyData.eqv z d)) ∨
    (∃ d a vs ds, Dp K w.H x d ∧ y = .ref a ∧ SqT K w.H a vs ∧ DpAll K w.H vs ds ∧ SeqAt.shaped d = true ∧ SeqAt.shaped (.tuple ds) = true ∧ k (ds.any fun z => PyData.eqv z d)) := by
  have gen : (∃ d ds, Dat w.ph a d ∧ Dat w.ph b (.list ds) ∧ SeqAt.shaped d = true ∧ SeqAt.shaped (.list ds) = true ∧ k (ds.any fun z => PyData.eqv z d)) →
      ∃ d ds, Dp K w.H x d ∧ Dp K w.H y (.list ds) ∧ SeqAt.shaped d = true ∧ SeqAt.shaped (.list ds) = true ∧ k (ds.any fun z => PyData.eqv z d) := by
    rintro ⟨d, ds, h1, h2, s1, s2, q⟩
    exact ⟨d, ds, dat_dp o h1 (shaped_noDict s1) ra, dat_dp o h2 (shaped_noDict s2) rb, s1, s2, q⟩
  cases rb with
  | tup h1 r1 =>
    obtain ⟨d, ds, hd, hds, s1, s2, q⟩ := h
    exact .inr (.inr ⟨d, _, _, ds, dat_dp o hd (shaped_noDict s1) ra, rfl, SqT.of h1, dats_dp o hds (by simpa only [PyData.hasDict] using shaped_noDict s2) r1, s1, s2, q⟩)
  | @ref n p hn =>
    cases q : w.ph[n]? with
    | none => simp only [isIn, q] at h; exact .inr (.inl (gen h))
    | some ob =>
      cases ob with
      | lst xs => simp only [isIn, q] at h; exact .inr (.inl (gen h))
      | dK kvs =>
        simp only [isIn, q] at h
        obtain ⟨key, hk, q'⟩ := h
        obtain ⟨l, e, r⟩ := o.ob _ _ _ hn q
        have ek := key_at hk ra
        subst ek
        refine .inl ⟨p, valV l key, rfl, DGet.k e, ?_⟩
        rcases r.look (k := key) with ⟨e1, e2⟩ | ⟨x1, v1, e1, e2, _⟩ <;> (rw [e1] at q'; rw [e2]; exact q')
      | dT kvs =>
        simp only [isIn, q] at h
        obtain ⟨key, hk, q'⟩ := h
        obtain ⟨l, e, r⟩ := o.ob _ _ _ hn q
        obtain ⟨b', rfl, eb⟩ := tkey_at hk ra
        refine .inl ⟨p, valV l key, rfl, DGet.t e eb, ?_⟩
        rcases r.look (k := key) with ⟨e1, e2⟩ | ⟨x1, v1, e1, e2, _⟩ <;> (rw [e1] at q'; rw [e2]; exact q')
  | lst h1 h2 h3 => exact .inr (.inl (gen h))
  | _ => exact .inr (.inl (gen h))
theorem in_ok (hu : X.A.units + 65 < cLine) (own : Bool) : OpR X (compareOp .In) (lift2 X.K (op2S .in_ own)) := by
  refine OpR.imp ((op_inDict (X := X) (by omega)).or ((op_inD (X := X) hu).or (op_inT (X := X) hu))) ?_
  rintro x y H Q' ⟨w, a, b, Q, rfl, o, ra, rb, h, p⟩
  rcases isIn_gen (k := fun t => Q (.bl t) w.ph) o ra rb h with ⟨a', ob, e, g, q⟩ | ⟨d, ds, h1, h2, s1, s2, q⟩ | ⟨d, a', vs, ds, h1, h2, h3, h4, s1, s2, q⟩
  · exact .inl ⟨a', ob, e, g, p.here o (.bl _) q⟩
  · exact .inr (.inl ⟨d, ds, h1, h2, s1, s2, p.here o (.bl _) q⟩)
  · exact .inr (.inr ⟨d, a', vs, ds, h1, h2, h3, h4, s1, s2, p.here o (.bl _) q⟩)
theorem notin_ok (hu : X.A.units + 65 < cLine) (own : Bool) : OpR X (compareOp .NotIn) (lift2 X.K (op2S .notin own)) := by
  refine OpR.imp ((op_ninDict (X := X) (by omega)).or ((op_notInD (X := X) hu).or (op_ninT (X := X) hu))) ?_
  rintro x y H Q' ⟨w, a, b, Q, rfl, o, ra, rb, h, p⟩
  rcases isIn_gen (k := fun t => Q (.bl (!t)) w.ph) o ra rb h with ⟨a', ob, e, g, q⟩ | ⟨d, ds, h1, h2, s1, s2, q⟩ | ⟨d, a', vs, ds, h1, h2, h3, h4, s1, s2, q⟩
  · exact .inl ⟨a', ob, e, g, p.here o (.bl _) q⟩
  · exact .inr (.inl ⟨d, ds, h1, h2, s1, s2, p.here o (.bl _) q⟩)
  · exact .inr (.inr ⟨d, a', vs, ds, h1, h2, h3, h4, s1, s2, p.here o (.bl _) q⟩)
theorem op2_ok (hu : X.A.units + 65 < cLine) : ∀ (o : Op2) (own : Bool), OpR X (op2F o) (lift2 X.K (op2S o own))
  | .add, own => add_ok own
  | .sub, own => sub_ok own
  | .mul, own => mul_ok own
  | .fdiv, own => fdiv_ok own
  | .mod, own => mod_ok own
  | .pow, own => pow_ok own
  | .band, own => band_ok own
  | .shl, own => shl_ok own
  | .shr, own => shr_ok own
  | .eq, own => eq_ok (by omega) own
  | .ne, own => ne_ok (by omega) own
  | .lt, own => lt_ok (by omega) own
  | .le, own => le_ok own
  | .gt, own => gt_ok own
  | .ge, own => ge_ok own
  | .is, own => is_ok own
  | .isnot, own => isnot_ok own
  | .in_, own => in_ok hu own
  | .notin, own => notin_ok hu own
end
end RL

/-! RLPrim4: items, slices, built-in functions, methods. -/
namespace RL
open PySem PySem.Spec PyProof.Rows L2
theorem IxR.imp {X : Cx} {r r' : R2} (h : IxR X r) (k : ∀ x y H Q, r' x y H Q → r x y H Q) : IxR X r' := fun value slice pins s σ H x y v u Q I rx ry q hs => h value slice pins s σ H x y v u Q I rx ry (k x y H Q q) hs
theorem SlR.imp {X : Cx} {r r' : V → Option Int → Option Int → Hp → VK → Prop} (h : SlR X r) (k : ∀ x lo hi H Q, r' x lo hi H Q → r x lo hi H Q) : SlR X r' := fun pins s σ H x v vl vu lo hi sl Q I rx hs pl pu q => h pins s σ H x v vl vu lo hi sl Q I rx hs pl pu (k _ _ _ _ _ q)
theorem CallR.imp {X : Cx} {f : Value} {r r' : List V → Hp → VK → Prop} (h : CallR X f r) (k : ∀ x H Q, r' x H Q → r x H Q) : CallR X f r' := fun pins s σ H xs us Q I rx q => h pins s σ H xs us Q I rx (k _ _ _ q)
theorem ixN_lt {n : Nat} {i : Int} {j : Nat} (h : ixN n i = some j) : j < n := (ixN_seq h).2.1
theorem Reps.at {K : PySem.W.Frag} {H : Hp} {μ : Mu} {xs : List PV} {vs : List V} {i : Int} {x : PV} (r : Reps K H μ xs vs) (h : atI xs i = some x) : ∃ v, atI vs i = some v ∧ Rep K H μ x v := by
  unfold atI at h ⊢
  rw [r.length]
  cases e : ixN xs.length i with
  | none => rw [e] at h; cases h
  | some j =>
    rw [e] at h
    exact r.get h
section
variable {X : Cx}
theorem ix_dict (hu : X.A.units + 1 < cLine) : IxR X (fun x y H Q => ∃ a v, x = .ref a ∧ DGet H a y (some v) ∧ Q v H) := by
  intro value slice pins s σ H x y v u Q I rx ry h hs
  obtain ⟨a, z, rfl, g, q⟩ := h
  cases rx
  exact tail_any (dict_typeIs I g) PySem.F.slot_dict_getitem.lookup (d_getItem hu I g ry fun w' s3 I3 rw' => ⟨z, H, I3, rw', q⟩) hs
theorem idx_ok (hu : X.A.units + 1 < cLine) : IxR X (lift2 X.K idxS) := by
  refine IxR.imp ((ix_seq (X := X)).or (ix_dict (X := X) hu)) ?_
  rintro x y H Q' ⟨w, a, b, Q, rfl, o, ra, rb, h, p⟩
  cases ra with
  | tup h1 r1 =>
    cases rb with
    | int i =>
      obtain ⟨v, e, q⟩ := h
      obtain ⟨z, e2, rz⟩ := r1.at e
      exact .inl (.inr (.inl ⟨_, _, i, z, rfl, rfl, SqT.of h1, e2, p.here o rz q⟩))
    | _ => exact h.elim
  | lst h1 h2 r1 =>
    cases rb with
    | int i =>
      obtain ⟨v, e, q⟩ := h
      obtain ⟨z, e2, rz⟩ := r1.at e
      exact .inl (.inl ⟨_, _, i, z, rfl, rfl, SqL.of h1, e2, p.here o rz q⟩)
    | _ => exact h.elim
  | str s =>
    cases rb with
    | int i =>
      obtain ⟨c, hz, e, q⟩ := h
      exact .inl (.inr (.inr ⟨s, i, c, rfl, rfl, hz, e, p.here o (.str _) q⟩))
    | _ => exact h.elim
  | @ref n pa hn =>
    have h' : (match w.ph[n]? with
      | some (.lst xs) => match b with
        | .int i => ∃ v, L2.atI xs i = some v ∧ Q v w.ph
        | _ => False
      | some (.dK kvs) => ∃ key v, keyOf b = some key ∧ pkLook kvs key = some v ∧ Q v w.ph
      | some (.dT kvs) => ∃ key v, tkeyOf b = some key ∧ pkLook kvs key = some v ∧ Q v w.ph
      | none => False) := by cases b <;> exact h
    cases q : w.ph[n]? with
    | none => rw [q] at h'; exact h'.elim
    | some ob =>
      rw [q] at h'
      cases ob with
      | lst xs =>
        cases rb with
        | int i =>
          obtain ⟨v, e, q'⟩ := h'
          obtain ⟨vs, e1, r1⟩ := o.ob _ _ _ hn q
          obtain ⟨z, e2, rz⟩ := r1.at e
          exact .inl (.inl ⟨_, _, i, z, rfl, rfl, SqL.of e1, e2, p.here o rz q'⟩)
        | _ => exact h'.elim
      | dK kvs =>
        obtain ⟨key, v, hk, hl, q'⟩ := h'
        obtain ⟨l, e, r⟩ := o.ob _ _ _ hn q
        have ek := key_at hk rb
        subst ek
        rcases r.look (k := key) with ⟨e1, e2⟩ | ⟨x1, v1, e1, e2, rx⟩
        · rw [hl] at e1; cases e1
        · rw [hl] at e1; cases e1
          exact .inr ⟨_, v1, rfl, by rw [← e2]; exact DGet.k e, p.here o rx q'⟩
      | dT kvs =>
        obtain ⟨key, v, hk, hl, q'⟩ := h'
        obtain ⟨l, e, r⟩ := o.ob _ _ _ hn q
        obtain ⟨b', rfl, eb⟩ := tkey_at hk rb
        rcases r.look (k := key) with ⟨e1, e2⟩ | ⟨x1, v1, e1, e2, rx⟩
        · rw [hl] at e1; cases e1
        · rw [hl] at e1; cases e1
          exact .inr ⟨_, v1, rfl, by rw [← e2]; exact DGet.t e eb, p.here o rx q'⟩
  | non => cases rb <;> exact h.elim
  | bl _ => cases rb <;> exact h.elim
  | int _ => cases rb <;> exact h.elim
  | scr _ => cases rb <;> exact h.elim
theorem sIx_eq : ∀ (n d : Nat) (o : Option Int), sIx n d o = HT.sIx n d o
  | _, _, none => rfl
  | n, d, some v => by
    have h := HT.clip_eq v n d
    show (if v < 0 then (max (v + (n : Int)) 0).toNat else (min v (n : Int)).toNat) = _
    split at h
    · rename_i hv
      rw [if_pos hv, h]; rfl
    · rename_i hv
      rw [if_neg hv, h]; rfl
theorem cutV_eq (vs : List V) (lo hi : Option Int) : cutV vs lo hi = cut vs lo hi := by
  unfold cutV cut
  rw [sIx_eq, sIx_eq]
theorem Reps.cut {K : PySem.W.Frag} {H : Hp} {μ : Mu} {xs : List PV} {vs : List V} (lo hi : Option Int) (r : Reps K H μ xs vs) : Reps K H μ (RL.cut xs lo hi) (cutV vs lo hi) := by
  rw [cutV_eq]
  unfold RL.cut
  rw [r.length]
  exact (r.drop _).take _
def liftS (K : PySem.W.Frag) (own : Bool) : V → Option Int → Option Int → Hp → VK → Prop := fun x lo hi H Q' => ∃ w a Q, w.H = H ∧ Ok K w ∧ Rep K w.H w.μ a x ∧ slS own a lo hi w.ph Q ∧ Post K w Q Q'
theorem sl_ok (own : Bool) : SlR X (liftS X.K own) := by
  refine SlR.imp ((sl_tupA (X := X)).or ((sl_list (X := X)).or (sl_str (X := X)))) ?_
  rintro x lo hi H Q' ⟨w, a, Q, rfl, o, ra, h, p⟩
  have lists : ∀ {a : PV}, (∃ xs, lstOf w.ph a = some xs ∧ newL own (cut xs lo hi) w.ph Q) → Rep X.K w.H w.μ a x → rSlL X.K x lo hi w.H Q' := by
    rintro a ⟨xs, h1, q⟩ ra
    obtain ⟨l1, v1, rfl, e1, r1⟩ := lst_at o h1 ra
    exact ⟨l1, v1, rfl, SqL.of e1, p.lst o (r1.cut lo hi) q⟩
  cases ra with
  | @tup a xs vs h1 r1 =>
    refine .inl ⟨_, vs, rfl, SqT.of h1, fun e => ?_, fun _ => p.tup o (r1.cut lo hi) h⟩
    refine p.here o (.tup h1 r1) ?_
    have e2 : cut xs lo hi = xs := by
      unfold cut
      rw [sIx_eq, sIx_eq, ← r1.length, e.1, e.2, List.drop_zero, Nat.sub_zero, List.take_of_length_le (by rw [r1.length]; exact Nat.le_refl _)]
    have h' : Q (.tup (cut xs lo hi)) w.ph := h
    rwa [e2] at h'
  | str s =>
    refine .inr (.inr ⟨s, rfl, h.1, ?_⟩)
    have e : cutS s lo hi = ⟨(cut s.cps.toList lo hi).toArray⟩ := by
      unfold cutS cut
      rw [sIx_eq, sIx_eq]
      have el : s.cps.toList.length = s.length := Array.length_toList
      rw [el]
    rw [e]
    exact p.here o (.str _) h.2
  | scr hs =>
    refine .inr (.inl ⟨_, _, rfl, hs.l, p.lst o ((Reps.ofInts _).cut lo hi) h⟩)
  | lst h1 h2 h3 => exact .inr (.inl (lists h (.lst h1 h2 h3)))
  | ref h1 => exact .inr (.inl (lists h (.ref h1)))
  | non => obtain ⟨xs, h1, _⟩ := h; cases h1
  | bl _ => obtain ⟨xs, h1, _⟩ := h; cases h1
  | int _ => obtain ⟨xs, h1, _⟩ := h; cases h1
/-! ### stores -/
def liftSet (K : PySem.W.Frag) : TSet := fun x i v H Q' => ∃ w a b c Q, w.H = H ∧ Ok K w ∧ Rep K w.H w.μ a x ∧ Rep K w.H w.μ b i ∧ Rep K w.H w.μ c v ∧ setiS a b c w.ph Q ∧ ∀ w', Step w w' → Ok K w' → Q w'.ph → Q' w'.H
theorem set_dict (hu : X.A.units + 1 < cLine) : PSet X (fun x i v H Q => ∃ a H', x = .ref a ∧ DPut H a i v H' ∧ Q H') := by
  intro pins s σ H o i v ov iv u Q I ro ri rv h
  obtain ⟨a, H', rfl, g, q⟩ := h
  cases ro
  exact d_setItem hu I g ri rv fun s' I' => ⟨H', I', q⟩
theorem PSet.or {r r' : TSet} (h : PSet X r) (h' : PSet X r') : PSet X (fun x y v H Q => r x y v H Q ∨ r' x y v H Q) := by
  intro pins s σ H o i v ov iv u Q I ro ri rv q
  rcases q with q | q
  · exact h pins s σ H o i v ov iv u Q I ro ri rv q
  · exact h' pins s σ H o i v ov iv u Q I ro ri rv q
/-- a dict without pairs is a dict of either kind -/
theorem toT {pins : List (Addr × Obj)} {σ : L2.St} {H : Hp} {s : Shared} {a : Addr} (I : Inv X pins σ H s) (h : H a = some (.dK [])) : Inv X pins σ (upd H a (.dT [])) s := by
  have hk : ObjOk X.prog X.w H s.heap a (.dK []) := I.hok a _ h
  obtain ⟨z, hs, vs, rv, ob, es, ep, h1, h2, h3, h4⟩ := hk
  cases rv
  have e0 : es.toList = [] := by
    have h5 := h4.2.1
    generalize es.toList = l at h5
    cases h5
    rfl
  have I1 := I.write (x := a) (e := a) (o := .dT []) (h' := s.heap) (t' := s.toks) (by rw [h]; exact trivial) (.inl rfl) (fun b u _ q => q) ⟨ob, h1⟩ ⟨z, hs, [], .nil, ob, es, ep, h1, h2, h3, by rw [e0]; rfl, by simp⟩
  exact I1
theorem set_first (hu : X.A.units + 1 < cLine) : PSet X (fun x i v H Q => ∃ a b k, x = .ref a ∧ H a = some (.dK []) ∧ i = .ref b ∧ H b = some (.tup (List.map kV k)) ∧ Q (upd H a (.dT [(k, v)]))) := by
  intro pins s σ H o i v ov iv u Q I ro ri rv h
  obtain ⟨a, b, k, rfl, ha, rfl, hb, q⟩ := h
  cases ro
  have I2 := toT I ha
  have ne : b ≠ a := ne_of hb ha (by simp)
  refine d_setItem hu I2 (DPut.t (k := k) (upd_same) (by rw [upd_ne ne]; exact hb) (by rw [List.length_nil, sizeLine_eq]; decide)) ri rv fun s' I' => ⟨_, I', ?_⟩
  rw [upd_upd]
  exact q
theorem seti_ok (hu : X.A.units + 1 < cLine) : PSet X (liftSet X.K) := by
  have base := RL.PSet.or (set_list (X := X)) (RL.PSet.or (set_dict (X := X) hu) (set_first (X := X) hu))
  intro pins s σ H o i v ov iv u Q I ro ri rv h
  refine base pins s σ H o i v ov iv u Q I ro ri rv ?_
  obtain ⟨w, a, b, c, Q0, rfl, ok, ra, rb, rc, h, p⟩ := h
  cases ra with
  | @ref n pa hn =>
    simp only [setiS] at h
    cases q : w.ph[n]? with
    | none => rw [q] at h; exact h.elim
    | some ob =>
      rw [q] at h
      cases ob with
      | lst xs =>
        cases rb with
        | int k =>
          obtain ⟨j, hj, q'⟩ := h
          obtain ⟨vs, e, r⟩ := ok.ob _ _ _ hn q
          refine .inl ⟨_, vs, k, j, rfl, rfl, e, by rw [r.length]; exact hj, ?_⟩
          exact p (w.chg n _ _ (.lst (xs.set j c))) (Step.chg hn) (ok.chg hn ⟨_, upd_same, repsC hn ok (r.set rc j)⟩) q'
        | _ => exact h.elim
      | dK kvs =>
        obtain ⟨l, e, r⟩ := ok.ob _ _ _ hn q
        have go : (∃ key, keyOf b = some key ∧ kvs.length < sizeLine ∧ Q0 (setO w.ph n (.dK (pkPut kvs key c)))) → ∃ a H', V.ref pa = .ref a ∧ DPut w.H a i v H' ∧ Q H' := by
          rintro ⟨key, hk, hz, q'⟩
          have ek := key_at hk rb
          subst ek
          refine ⟨_, _, rfl, DPut.k e (by rw [r.length]; exact hz), ?_⟩
          exact p (w.chg n _ _ (.dK (pkPut kvs key c))) (Step.chg hn) (ok.chg hn ⟨_, upd_same, repkC hn ok (r.put rc)⟩) q'
        cases kvs with
        | nil =>
          cases r
          cases rb with
          | @tup tb ys ws h1 r1 =>
            obtain ⟨key, hk, q'⟩ := h
            have ek := keys_at hk r1
            refine .inr (.inr ⟨_, _, key, rfl, e, rfl, by rw [← ek]; exact h1, ?_⟩)
            exact p (w.chg n _ _ (.dT [(key, c)])) (Step.chg hn) (ok.chg hn ⟨_, upd_same, .cons (repC hn ok rc) .nil⟩) q'
          | _ => exact .inr (.inl (go h))
        | cons kv kvs =>
          refine .inr (.inl (go ?_))
          cases b <;> exact h
      | dT kvs =>
        obtain ⟨l, e, r⟩ := ok.ob _ _ _ hn q
        obtain ⟨key, hk, hz, q'⟩ := h
        obtain ⟨b', rfl, eb⟩ := tkey_at hk rb
        refine .inr (.inl ⟨_, _, rfl, DPut.t e eb (by rw [r.length]; exact hz), ?_⟩)
        exact p (w.chg n _ _ (.dT (pkPut kvs key c))) (Step.chg hn) (ok.chg hn ⟨_, upd_same, repkC hn ok (r.put rc)⟩) q'
  | _ => exact h.elim
end
end RL

/-! RLPrim5: built-in functions. -/
namespace RL
open PySem PySem.Spec PyProof.Rows L2
section
variable {prog : Program} {w : World} {A : Around} {E : Value → Shared → Prop} {s : Shared} {l : Addr} {its : List Value} {ns : List Int} {Q : Value → Shared → Prop} {xs : Array (Int × Tok)}
theorem iterTup {Q : Value → Shared → Prop} (hl : s.heap.IsTuple l (intItems xs))
    (h : ∀ s₂ : Shared, s₂ = { s with heap := s.heap.push { cls := .type "tuple_iterator", data := .fields #[.ref l, .int 0 0] } } →
      (s₂.heap.IsTupleIter s.heap.objs.size l 0 ∧ s₂.heap.IsTuple l (intItems xs)) → (∀ b ∈ [s.heap.objs.size, l], b < s₂.heap.objs.size) → l ≠ s.heap.objs.size → Q (.ref s.heap.objs.size) s₂) :
    wpAny (model prog w) A (pyIter (.ref l)) Q E s := by
  have hlt : l < s.heap.objs.size := by obtain ⟨_, e, _⟩ := hl; exact Heap.lt_size e
  refine wpAny_pyIter_tuple hl (h _ rfl ⟨⟨_, Heap.get?_push_size _ rfl, rfl, rfl⟩, hl.push _⟩ (fun b hb => ?_) (Nat.ne_of_lt hlt))
  show b < (s.heap.push _).objs.size
  rw [Heap.size_push]
  rcases List.mem_cons.mp hb with e | hb
  · rw [e]; exact Nat.lt_succ_self _
  · rw [List.mem_singleton.mp hb]; exact Nat.lt_succ_of_lt hlt
theorem keptNew {o : Obj} {h' : Heap} (hk : ∀ b ob, b ∉ [s.heap.objs.size] → (s.heap.push o).get? b = some ob → h'.get? b = some ob) : ∀ b ob, s.heap.get? b = some ob → h'.get? b = some ob := fun b ob e => by
  refine hk b ob (fun hm => ?_) (Heap.get?_push_of_some _ e)
  have : b = s.heap.objs.size := by simpa using hm
  exact absurd (this ▸ Heap.lt_size e) (Nat.lt_irrefl _)
theorem sumTup (hh : A.handled = none) (hl : s.heap.IsTuple l its.toArray) (hi : IntsAre its ns)
    (h : ∀ h' tk t', (∀ b o, s.heap.get? b = some o → h'.get? b = some o) → Q (.int ns.sum t') { s with heap := h', toks := tk }) : wpAny (model prog w) A (call (.builtin "sum") [.ref l]) Q E s := by
  obtain ⟨xs, e⟩ := hi.allInts.items
  have hn : numsOf (intItems xs).toList = ns := by rw [← e]; exact hi.numsOf
  rw [nums_intItems] at hn
  rw [e] at hl
  refine call_sum_walkG (iterTup hl fun s₂ e st hfp hlI => ?_)
  subst e
  refine ⟨_, _, _, _, _, _, numAt xs, rfl, Walks.tuple (A := A.in1) hh _ l hlI (intItems xs), st, hfp, (fun _ _ => intItems_at), fun h' tk t' hk => ?_⟩
  have := h h' tk t' (keptNew hk)
  rw [show (intItems xs).size = xs.size by simp [intItems], preSum_eq, List.take_of_length_le (by simp), hn]
  exact this
theorem maxTup (hh : A.handled = none) (hl : s.heap.IsTuple l its.toArray) (hi : IntsAre its ns) (hne : 0 < ns.length)
    (h : ∀ h' tk M t', (∀ b o, s.heap.get? b = some o → h'.get? b = some o) → M ∈ ns → (∀ a, a ∈ ns → a ≤ M) → Q (.int M t') { s with heap := h', toks := tk }) : wpAny (model prog w) A (call (.builtin "max") [.ref l]) Q E s := by
  obtain ⟨xs, e⟩ := hi.allInts.items
  have hn : numsOf (intItems xs).toList = ns := by rw [← e]; exact hi.numsOf
  rw [nums_intItems] at hn
  subst hn
  rw [e] at hl
  have hsz : 0 < xs.size := by simpa using hne
  refine call_max_walk (iterTup hl fun s₂ e st hfp hlI => ?_)
  subst e
  refine ⟨_, _, _, _, _, _, _, rfl, Walks.tuple (A := A.in1) hh _ l hlI (intItems xs), st, hfp, by simpa [intItems] using hsz, CmpOf.ints_gt (numAt xs) (fun _ _ => intItems_at), fun v h' tk hv hk => ?_⟩
  have hv' : (intItems xs)[argBest (fun i j => decide (numAt xs i > numAt xs j)) (xs.size - 1)]? = some v := by simpa [intItems] using hv
  obtain ⟨t, rfl⟩ := intItems_at hv'
  obtain ⟨h1, h2⟩ := argBest_gt (numAt xs) (xs.size - 1)
  refine h h' tk _ t (keptNew hk) ?_ fun a ha => ?_
  · rw [numAt_eq]; exact PySem.getD_mem (by rw [List.length_map, Array.length_toList]; omega)
  · obtain ⟨j, hj, rfl⟩ := mem_getD ha
    rw [List.length_map, Array.length_toList] at hj
    rw [← numAt_eq]; exact h2 j (by omega)
theorem minTup (hh : A.handled = none) (hl : s.heap.IsTuple l its.toArray) (hi : IntsAre its ns) (hne : 0 < ns.length)
    (h : ∀ h' tk M t', (∀ b o, s.heap.get? b = some o → h'.get? b = some o) → M ∈ ns → (∀ a, a ∈ ns → M ≤ a) → Q (.int M t') { s with heap := h', toks := tk }) : wpAny (model prog w) A (call (.builtin "min") [.ref l]) Q E s := by
  obtain ⟨xs, e⟩ := hi.allInts.items
  have hn : numsOf (intItems xs).toList = ns := by rw [← e]; exact hi.numsOf
  rw [nums_intItems] at hn
  subst hn
  rw [e] at hl
  have hsz : 0 < xs.size := by simpa using hne
  refine call_min_walk (iterTup hl fun s₂ e st hfp hlI => ?_)
  subst e
  refine ⟨_, _, _, _, _, _, _, rfl, Walks.tuple (A := A.in1) hh _ l hlI (intItems xs), st, hfp, by simpa [intItems] using hsz, CmpOf.ints_lt (numAt xs) (fun _ _ => intItems_at), fun v h' tk hv hk => ?_⟩
  have hv' : (intItems xs)[argBest (fun i j => decide (numAt xs i < numAt xs j)) (xs.size - 1)]? = some v := by simpa [intItems] using hv
  obtain ⟨t, rfl⟩ := intItems_at hv'
  obtain ⟨h1, h2⟩ := argBest_lt (numAt xs) (xs.size - 1)
  refine h h' tk _ t (keptNew hk) ?_ fun a ha => ?_
  · rw [numAt_eq]; exact PySem.getD_mem (by rw [List.length_map, Array.length_toList]; omega)
  · obtain ⟨j, hj, rfl⟩ := mem_getD ha
    rw [List.length_map, Array.length_toList] at hj
    rw [← numAt_eq]; exact h2 j (by omega)
end
section
variable {X : Cx}
theorem cr_sumT (hc : X.calm = true) : CallR X (.builtin "sum") (fun vs H Q => ∃ (a : Addr) (ns : List Int), vs = [V.ref a] ∧ SqT X.K H a (ns.map V.int) ∧ Q (.int ns.sum) H) := by
  intro pins s σ H vs us Q I r h
  obtain ⟨a, ns, rfl, hs, q⟩ := h
  obtain ⟨its, rv, hl, _⟩ := I.tuple hs
  rw [Vals.ref1 r]
  exact sumTup (I.ok.hd hc) hl rv.ints fun h' tk t' hk => ⟨.int _, H, I.kept hk, ⟨_, rfl⟩, q⟩
theorem cr_maxT (hc : X.calm = true) : CallR X (.builtin "max") (fun vs H Q => ∃ (a : Addr) (ns : List Int), vs = [V.ref a] ∧ SqT X.K H a (ns.map V.int) ∧ 0 < ns.length ∧ ∀ m, m ∈ ns → (∀ y, y ∈ ns → y ≤ m) → Q (.int m) H) := by
  intro pins s σ H vs us Q I r h
  obtain ⟨a, ns, rfl, hs, hne, q⟩ := h
  obtain ⟨its, rv, hl, _⟩ := I.tuple hs
  rw [Vals.ref1 r]
  exact maxTup (I.ok.hd hc) hl rv.ints hne fun h' tk m t' hk h1 h2 => ⟨.int _, H, I.kept hk, ⟨_, rfl⟩, q m h1 h2⟩
theorem cr_minT (hc : X.calm = true) : CallR X (.builtin "min") (fun vs H Q => ∃ (a : Addr) (ns : List Int), vs = [V.ref a] ∧ SqT X.K H a (ns.map V.int) ∧ 0 < ns.length ∧ ∀ m, m ∈ ns → (∀ y, y ∈ ns → m ≤ y) → Q (.int m) H) := by
  intro pins s σ H vs us Q I r h
  obtain ⟨a, ns, rfl, hs, hne, q⟩ := h
  obtain ⟨its, rv, hl, _⟩ := I.tuple hs
  rw [Vals.ref1 r]
  exact minTup (I.ok.hd hc) hl rv.ints hne fun h' tk m t' hk h1 h2 => ⟨.int _, H, I.kept hk, ⟨_, rfl⟩, q m h1 h2⟩
end
theorem datAll_length {ph : PHp} : ∀ {xs : List PV} {ds : List PyData}, DatAll ph xs ds → ds.length = xs.length
  | _, _, .nil => rfl
  | _, _, .cons _ t => by simp [datAll_length t]

/-! ### repr -/
/-- sys.modules is one of the written-out objects -/
def HasSys (X : Cx) : Prop := ∃ o, X.K.lookup sysModules = some o
theorem notSys {X : Cx} {pins : List (Addr × Obj)} {σ : L2.St} {H : Hp} {s : Shared} (hs : HasSys X) (I : Inv X pins σ H s) {u : HO} (h : H sysModules = some u) : False := by
  obtain ⟨o, e⟩ := hs
  have h1 := I.bs _ _ (I.ok.mod.kin _ _ e)
  rw [h1.2] at h
  cases h
theorem keys_read {h : Heap} {prog : Program} {w : World} : ∀ {es : List DictEntry} {kvs : List (L2.Key × Value)}, PySem.Pairs (mixKind prog w) es kvs → ReadsAll h (es.map (·.key)) (kvs.map fun p => keyD p.1) [] ∧ es.map (·.val) = kvs.map (·.2)
  | _, _, .nil => ⟨.nil, rfl⟩
  | _, _, .cons h1 h2 t => by
    obtain ⟨r, e⟩ := keys_read t
    refine ⟨?_, by simp [h2, e]⟩
    rcases keyIs_shape h1 with ⟨i, t, e1, e2⟩ | ⟨i, t, e1, e2⟩
    · simp only [List.map_cons, e1, e2]
      exact .cons (as := []) (.int i t) r
    · simp only [List.map_cons, e1, e2]
      exact .cons (as := []) (.str i t) r
theorem kv_vals : ∀ {l : List (L2.Key × V)} {vs : List (L2.Key × Value)}, KV l vs → vs.map (·.1) = l.map (·.1) ∧ Vals (l.map (·.2)) (vs.map (·.2))
  | _, _, .nil => ⟨rfl, .nil⟩
  | _, _, .cons h t => by
    obtain ⟨a, b⟩ := kv_vals t
    exact ⟨by simp [a, h.1], .cons h.2 b⟩
theorem repk_vals {κ : Type} {K : PySem.W.Frag} {H : Hp} {μ : Mu} : ∀ {l : List (κ × PV)} {vs : List (κ × V)}, RepK K H μ l vs → vs.map (·.1) = l.map (·.1) ∧ Reps K H μ (l.map (·.2)) (vs.map (·.2))
  | _, _, .nil => ⟨rfl, .nil⟩
  | _, _, .cons h t => by
    obtain ⟨a, b⟩ := repk_vals t
    exact ⟨by simp [a], .cons h b⟩
mutual
theorem dat_reads {X : Cx} {pins : List (Addr × Obj)} {σ : L2.St} {w : Wd} {s : Shared} (hs : HasSys X) (I : Inv X pins σ w.H s) (o : Ok X.K w) : ∀ {a : PV} {d : PyData} {v : V} {u : Value}, Dat w.ph a d → Rep X.K w.H w.μ a v → RelV v u → ∃ as, Reads s.heap u d as ∧ (sysModules ∉ as)
  | _, _, _, _, .non, r, q => by cases r; cases q; exact ⟨_, .none, by simp⟩
  | _, _, _, _, .bl b, r, q => by cases r; cases q; exact ⟨_, .bool b, by simp⟩
  | _, _, _, _, .int b, r, q => by cases r; obtain ⟨t, rfl⟩ := q; exact ⟨_, .int b t, by simp⟩
  | _, _, _, _, .str b, r, q => by cases r; obtain ⟨t, rfl⟩ := q; exact ⟨_, .str b t, by simp⟩
  | _, _, _, _, .tup h, r, q => by
    cases r with
    | tup h1 h2 =>
      cases q
      obtain ⟨its, rv, ⟨ob, ho, hc, n, hd⟩, _⟩ := I.tuple (SqT.of h1)
      obtain ⟨as, h3, h4⟩ := dats_reads hs I o h h2 rv
      exact ⟨_, .tuple ho hc hd h3, h4⟩
  | _, _, _, _, .lst h, r, q => by
    cases r with
    | lst h1 _ h2 =>
      cases q
      obtain ⟨z, its, n, rv, hl, e⟩ := I.lstM h1
      obtain ⟨as, h3, h4⟩ := dats_reads hs I o h h2 rv
      refine ⟨_, .list e rfl rfl h3, fun hm => ?_⟩
      rcases List.mem_cons.mp hm with e1 | hm
      · exact notSys hs I (by rw [← e1] at h1; exact h1) 
      · exact h4 hm
  | _, _, _, _, .ref hn h, r, q => by
    cases r with
    | ref hm =>
      cases q
      obtain ⟨vs, e1, rr⟩ := o.ob _ _ _ hm hn
      obtain ⟨z, its, n, rv, hl, e⟩ := I.lstM e1
      obtain ⟨as, h3, h4⟩ := dats_reads hs I o h rr rv
      refine ⟨_, .list e rfl rfl h3, fun hm => ?_⟩
      rcases List.mem_cons.mp hm with e2 | hm
      · exact notSys hs I (by rw [← e2] at e1; exact e1)
      · exact h4 hm
  | _, _, _, _, .dict hn h, r, q => by
    rename_i kvs ds
    cases r with
    | ref hm =>
      cases q
      obtain ⟨l, e1, rr⟩ := o.ob _ _ _ hm hn
      obtain ⟨_, hsm, vs, kv, ob, es, ep, hg, hx, hd, _, hp, _⟩ := (show ObjOk X.prog X.w w.H s.heap _ (.dK l) from I.hok _ _ e1)
      obtain ⟨k1, k2⟩ := keys_read (h := s.heap) hp
      obtain ⟨v1, v2⟩ := kv_vals kv
      obtain ⟨w1, w2⟩ := repk_vals rr
      obtain ⟨as, h3, h4⟩ := dats_reads hs I o h w2 v2
      have hlen : ds.length = kvs.length := by
        have := datAll_length h
        simpa using this
      refine ⟨_, .dict hg hx.1 hd (as := []) (bs := as) ?_ ?_, ?_⟩
      · rw [List.map_fst_zip (by simp [hlen])]
        have e : (vs.map fun p => keyD p.1) = kvs.map fun p => keyD p.1 := by
          have e2 : (vs.map fun p => keyD p.1) = (vs.map (·.1)).map keyD := by simp
          have e3 : (kvs.map fun p => keyD p.1) = (kvs.map (·.1)).map keyD := by simp
          rw [e2, v1, w1, e3]
        rw [← e]
        exact k1
      · rw [List.map_snd_zip (by simp [hlen]), k2]
        exact h3
      · intro z
        have z' : sysModules ∈ _ :: ([] ++ as) := z
        rcases List.mem_cons.mp z' with e2 | z'
        · rw [← e2] at hsm
          simp at hsm
        · exact h4 (by simpa using z')
theorem dats_reads {X : Cx} {pins : List (Addr × Obj)} {σ : L2.St} {w : Wd} {s : Shared} (hs : HasSys X) (I : Inv X pins σ w.H s) (o : Ok X.K w) : ∀ {a : List PV} {d : List PyData} {v : List V} {u : List Value}, DatAll w.ph a d → Reps X.K w.H w.μ a v → Vals v u → ∃ as, ReadsAll s.heap u d as ∧ (sysModules ∉ as)
  | _, _, _, _, .nil, r, q => by cases r; cases q; exact ⟨_, .nil, by simp⟩
  | _, _, _, _, .cons h t, r, q => by
    cases r with
    | cons h1 h2 =>
      cases q with
      | cons q1 q2 =>
        obtain ⟨as, a1, a2⟩ := dat_reads hs I o h h1 q1
        obtain ⟨bs, b1, b2⟩ := dats_reads hs I o t h2 q2
        exact ⟨_, .cons a1 b1, by simp [a2, b2]⟩
end
end RL

/-! RLPrim6: built-in functions, by plain data. -/
namespace RL
open PySem PySem.Spec PyProof.Rows L2
open PySem.W (EachIs AllAlike Sortable dataLe dataLt)
section
variable {X : Cx}
/-! ### sorted -/
theorem vals_each : ∀ {ns : List Int} {us : List Value}, Vals (ns.map V.int) us → EachIs (fun u n => RelV (V.int n) u) us ns
  | [], _, h => by cases h; exact .nil
  | n :: ns, _, h => by
    cases h with
    | cons a b => exact .cons a (vals_each b)
theorem each_vals {β : Type} {f : β → V} : ∀ {bs : List β} {us : List Value}, EachIs (fun u b => RelV (f b) u) us bs → Vals (bs.map f) us
  | _, _, .nil => .nil
  | _, _, .cons a b => .cons a (each_vals b)
theorem vals_eachB {β : Type} {f : β → V} : ∀ {bs : List β} {us : List Value}, Vals (bs.map f) us → EachIs (fun u b => RelV (f b) u) us bs
  | [], _, h => by cases h; exact .nil
  | n :: ns, _, h => by
    cases h with
    | cons a b => exact .cons a (vals_eachB b)
theorem cr_sortI (hu : X.A.units + 3 < cLine) : CallR X (.builtin "sorted") (fun vs H Q => ∃ (a : Addr) (ns : List Int), vs = [V.ref a] ∧ SqL X.K H a (ns.map V.int) ∧ ∀ p, H p = none → Q (.ref p) (upd H p (.lst ((ns.mergeSort fun a b => decide (a ≤ b)).map V.int)))) := by
  intro pins s σ H vs us Q I r h
  obtain ⟨a, ns, rfl, hs, q⟩ := h
  obtain ⟨its, rv, hl, hz⟩ := I.list hs
  rw [Vals.ref1 r]
  have e := vals_each rv
  refine PySem.W.sorted_data (enc := fun n => PyData.int n) hl.isList e (e.mono fun u n hu => ?_) (AllAlike.of fun b b' => by simp [PySem.W.alike]) (Sortable.others fun b => ⟨by simp, by simp⟩) (by rw [List.length_map] at hz; exact hz) (fun b _ => by simp [PyData.depth]; omega) fun out ho h1 => ?_
  · obtain ⟨t, rfl⟩ := hu
    exact ⟨_, .int n t⟩
  · obtain ⟨ep, he'⟩ := PyProof.Rows.sortedAll_at s.heap its out.toArray
    have hv := each_vals h1
    rw [PySem.W.dataLe_int] at hv
    have hlen : ((ns.mergeSort fun a b => decide (a ≤ b)).map V.int).length ≤ sizeLine := by
      rw [List.length_map, List.length_mergeSort]
      rw [List.length_map] at hz; exact hz
    exact ⟨.ref _, upd H (s.heap.objs.size + 1) (.lst ((ns.mergeSort fun a b => decide (a ≤ b)).map V.int)), I.laid (t' := s.toks) (fun _ _ => PyProof.Rows.sortedAll_old) (Nat.le_succ _) ⟨hlen, out, ep, hv, he'⟩, rfl, q _ (I.hok.fresh (Nat.le_succ _))⟩
theorem dataLe_tups {β : Type} (x : β → List Int) : dataLe false (fun b => .tuple ((x b).map .int)) = fun p q => !decide (x q < x p) := by
  funext p q
  show (!dataLt (.tuple ((x q).map .int)) (.tuple ((x p).map .int))) = _
  rw [PySem.W.dataLt_tuple]
  show (!PySem.W.rowLt ((x q).map .int) ((x p).map .int)) = _
  rw [PySem.W.dataLt_ints]
theorem ints_reads {h : Heap} : ∀ {ns : List Int} {its : List Value}, Vals (ns.map V.int) its → ReadsAll h its (ns.map .int) []
  | [], _, r => by cases r; exact .nil
  | n :: ns, _, r => by
    cases r with
    | cons a b =>
      obtain ⟨t, rfl⟩ := a
      exact .cons (as := []) (.int n t) (ints_reads b)
theorem cr_sortR (hu : X.A.units + 5 < cLine) : CallR X (.builtin "sorted") (fun vs H Q => ∃ (a : Addr) (bs : List (List Int × V)), vs = [V.ref a] ∧ SqL X.K H a (bs.map (·.2)) ∧ (∀ b ∈ bs, b.1 ≠ [] ∧ ∃ p, b.2 = .ref p ∧ SqT X.K H p (b.1.map V.int)) ∧
    ∀ p, H p = none → Q (.ref p) (upd H p (.lst ((bs.mergeSort fun a b => !decide (b.1 < a.1)).map (·.2))))) := by
  intro pins s σ H vs us Q I r h
  obtain ⟨a, bs, rfl, hs, hb, q⟩ := h
  obtain ⟨its, rv, hl, hz⟩ := I.list hs
  rw [Vals.ref1 r]
  have e := vals_eachB (f := fun b : List Int × V => b.2) rv
  have er : EachIs (fun v (b : List Int × V) => ∃ as, Reads s.heap v (.tuple (b.1.map .int)) as) its bs := by
    have key : ∀ {us : List Value} {cs : List (List Int × V)}, EachIs (fun u (b : List Int × V) => RelV b.2 u) us cs → (∀ b ∈ cs, b.1 ≠ [] ∧ ∃ p, b.2 = .ref p ∧ SqT X.K H p (b.1.map V.int)) → EachIs (fun v (b : List Int × V) => ∃ as, Reads s.heap v (.tuple (b.1.map .int)) as) us cs := by
      intro us cs hh
      induction hh with
      | nil => intro _; exact .nil
      | cons h1 h2 ih =>
        intro hc
        refine .cons ?_ (ih fun b hb => hc b (List.mem_cons_of_mem _ hb))
        obtain ⟨_, p, e1, e2⟩ := hc _ (List.mem_cons_self ..)
        rw [e1] at h1
        cases h1
        obtain ⟨its, rv, ⟨ob, ho, hc, n, hd⟩, _⟩ := I.tuple e2
        exact ⟨_, .tuple ho hc hd (ints_reads rv)⟩
    exact key e hb
  have hdep : ∀ b : List Int × V, (PyData.tuple (b.1.map .int)).depth ≤ 1 := fun b => by
    simp [PyData.depth, PySem.W.depth_ints]
  refine PySem.W.sorted_data (enc := fun b : List Int × V => PyData.tuple (b.1.map .int)) hl.isList e er (AllAlike.of fun b b' => by simp [PySem.W.alike, PySem.W.alike_ints]) (.inl fun d hd => ?_) (by rw [List.length_map] at hz; exact hz) (fun b _ => by have := hdep b; omega) fun out ho h1 => ?_
  · obtain ⟨b, hm, rfl⟩ := List.mem_map.mp hd
    obtain ⟨ne, _⟩ := hb b hm
    obtain ⟨⟨⟩ | ⟨x, r⟩, v⟩ := b
    · exact absurd rfl ne
    · exact ⟨_, _, rfl⟩
  · obtain ⟨ep, he'⟩ := PyProof.Rows.sortedAll_at s.heap its out.toArray
    have hv := each_vals (f := fun b : List Int × V => b.2) h1
    rw [dataLe_tups] at hv
    have hlen : ((bs.mergeSort fun a b => !decide (b.1 < a.1)).map (·.2)).length ≤ sizeLine := by
      rw [List.length_map, List.length_mergeSort]
      rw [List.length_map] at hz; exact hz
    exact ⟨.ref _, upd H (s.heap.objs.size + 1) (.lst ((bs.mergeSort fun a b => !decide (b.1 < a.1)).map (·.2))), I.laid (t' := s.toks) (fun _ _ => PyProof.Rows.sortedAll_old) (Nat.le_succ _) ⟨hlen, out, ep, hv, he'⟩, rfl, q _ (I.hok.fresh (Nat.le_succ _))⟩
theorem rows_reps {K : PySem.W.Frag} {H : Hp} {μ : Mu} : ∀ {xs : List PV} {rs : List (List Int)} {vs : List V}, rowsOf xs = some rs → Reps K H μ xs vs →
    ∃ bs : List (List Int × V), bs.map (·.1) = rs ∧ bs.map (·.2) = vs ∧ ∀ b ∈ bs, Rep K H μ (.tup (b.1.map PV.int)) b.2 ∧ ∃ p, b.2 = .ref p ∧ SqT K H p (b.1.map V.int)
  | _, _, _, e, .nil => by simp [rowsOf] at e; subst e; exact ⟨[], rfl, rfl, by simp⟩
  | _, rs, _, e, .cons h t => by
    cases h with
    | @tup a xs vs h1 h2 =>
      simp only [rowsOf] at e
      cases e1 : intsOf xs with
      | none => rw [e1] at e; simp at e
      | some ns =>
        rename_i xs' vs'
        cases e2 : rowsOf xs' with
        | none => rw [e1, e2] at e; simp at e
        | some ls =>
          rw [e1, e2] at e
          simp at e
          subst e
          obtain ⟨bs, b1, b2, b3⟩ := rows_reps e2 t
          refine ⟨(ns, .ref a) :: bs, by simp [b1], by simp [b2], fun b hb => ?_⟩
          rcases List.mem_cons.mp hb with rfl | hb
          · have := Reps.ints e1 h2
            subst this
            exact ⟨.tup h1 (Reps.ofInts _), a, rfl, SqT.of h1⟩
          · exact b3 b hb
    | _ => simp [rowsOf] at e

/-! ### all built-in functions -/
def biF : Bi → Value
  | .len => .builtin "len" | .tuple => .type "tuple" | .list => .type "list" | .int => .type "int" | .repr => .builtin "repr" | .sum => .builtin "sum" | .min => .builtin "min" | .max => .builtin "max"
  | .abs => .builtin "abs" | .sorted => .builtin "sorted" | .all => .builtin "all" | .any => .builtin "any" | .str => .type "str" | .set => .type "set"
theorem len_ok (own : Bool) : CallR X (.builtin "len") (liftN X.K (biS .len own)) := by
  refine CallR.imp (((call_len_seq (X := X)).or (call_len_str (X := X))).or ((call_lenD (X := X)).or (call_len_dT (X := X)))) ?_
  rintro xs H Q' ⟨w, as, Q, rfl, o, r, h, p⟩
  cases r with
  | nil => exact h.elim
  | cons ra rt =>
    cases rt with
    | cons _ _ => cases ra <;> exact h.elim
    | nil =>
      cases ra with
      | str s => exact .inl (.inr ⟨s, rfl, h.1, p.here o (.int _) h.2⟩)
      | tup h1 r1 => exact .inl (.inl ⟨_, _, rfl, .inr (SqT.of h1), by rw [r1.length]; exact p.here o (.int _) h⟩)
      | lst h1 h2 r1 => exact .inl (.inl ⟨_, _, rfl, .inl (SqL.of h1), by rw [r1.length]; exact p.here o (.int _) h⟩)
      | scr h1 => exact .inl (.inl ⟨_, _, rfl, .inl h1.l, by rw [List.length_map]; exact p.here o (.int _) h⟩)
      | @ref n a hn =>
        have h' : (match w.ph[n]? with
          | some (.lst xs) => Q (.int xs.length) w.ph
          | some (.dK kvs) => Q (.int kvs.length) w.ph
          | some (.dT kvs) => Q (.int kvs.length) w.ph
          | none => False) := h
        cases q : w.ph[n]? with
        | none => rw [q] at h'; exact h'.elim
        | some ob =>
          rw [q] at h'
          cases ob with
          | lst ys =>
            obtain ⟨vs, e1, r1⟩ := o.ob _ _ _ hn q
            exact .inl (.inl ⟨_, _, rfl, .inl (SqL.of e1), by rw [r1.length]; exact p.here o (.int _) h'⟩)
          | dK ys =>
            obtain ⟨vs, e1, r1⟩ := o.ob _ _ _ hn q
            exact .inr (.inl ⟨_, _, rfl, e1, by rw [r1.length]; exact p.here o (.int _) h'⟩)
          | dT ys =>
            obtain ⟨vs, e1, r1⟩ := o.ob _ _ _ hn q
            exact .inr (.inr ⟨_, _, rfl, e1, by rw [r1.length]; exact p.here o (.int _) h'⟩)
      | _ => exact h.elim
/-- one argument -/
theorem one_arg {K : PySem.W.Frag} {w : Wd} {as : List PV} {xs : List V} (r : Reps K w.H w.μ as xs) {a : PV} (e : as = [a]) : ∃ v, xs = [v] ∧ Rep K w.H w.μ a v := by
  subst e
  cases r with
  | cons h t => cases t; exact ⟨_, rfl, h⟩
theorem bx_tuple {own : Bool} {vs : List PV} {ph : PHp} {Q : QV} (h : biS .tuple own vs ph Q) : (∃ xs, vs = [.tup xs] ∧ Q (.tup xs) ph) ∨ ∃ v xs, vs = [v] ∧ lstOf ph v = some xs ∧ Q (.tup xs) ph := by
  have h : bi_tuple own vs ph Q := h
  unfold bi_tuple at h
  split at h <;> first | exact h.elim | skip
  · exact .inl ⟨_, rfl, h⟩
  · obtain ⟨xs, e, q⟩ := h
    exact .inr ⟨_, xs, rfl, e, q⟩
theorem tuple_ok (own : Bool) : CallR X (.type "tuple") (liftN X.K (biS .tuple own)) := by
  refine CallR.imp (call_tuple_of (X := X)) ?_
  rintro xs H Q' ⟨w, as, Q, rfl, o, r, h, p⟩
  rcases bx_tuple h with ⟨ys, rfl, q⟩ | ⟨v, ys, rfl, e, q⟩
  · obtain ⟨v, rfl, rv⟩ := one_arg r rfl
    cases rv with
    | tup h1 r1 => exact ⟨_, _, rfl, .inr ⟨SqT.of h1, p.here o (.tup h1 r1) q⟩⟩
  · obtain ⟨v, rfl, rv⟩ := one_arg r rfl
    obtain ⟨a, vs, rfl, e1, r1⟩ := lst_at o e rv
    exact ⟨_, _, rfl, .inl ⟨SqL.of e1, p.tup o r1 q⟩⟩
theorem bx_list {own : Bool} {vs : List PV} {ph : PHp} {Q : QV} (h : biS .list own vs ph Q) : ∃ v xs, vs = [v] ∧ seqOf ph v = some xs ∧ newL own xs ph Q := by
  have h : bi_list own vs ph Q := h
  unfold bi_list at h
  split at h <;> first | exact h.elim | skip
  obtain ⟨xs, e, q⟩ := h
  exact ⟨_, xs, rfl, e, q⟩
theorem list_ok (own : Bool) : CallR X (.type "list") (liftN X.K (biS .list own)) := by
  refine CallR.imp (call_list_of (X := X)) ?_
  rintro xs H Q' ⟨w, as, Q, rfl, o, r, h, p⟩
  obtain ⟨v, ys, rfl, e, q⟩ := bx_list h
  obtain ⟨v, rfl, rv⟩ := one_arg r rfl
  obtain ⟨a, vs, rfl, e1, r1⟩ := seq_at o e rv
  exact ⟨_, _, rfl, e1, p.lst o r1 q⟩
theorem bx_int {own : Bool} {vs : List PV} {ph : PHp} {Q : QV} (h : biS .int own vs ph Q) : (∃ i, vs = [.int i] ∧ Q (.int i) ph) ∨ ∃ k, vs = [.bl k] ∧ Q (.int (if k then 1 else 0)) ph := by
  have h : bi_int own vs ph Q := h
  unfold bi_int at h
  split at h <;> first | exact h.elim | skip
  · exact .inl ⟨_, rfl, h⟩
  · exact .inr ⟨_, rfl, h⟩
theorem int_ok (own : Bool) : CallR X (.type "int") (liftN X.K (biS .int own)) := by
  refine CallR.imp (call_int1 (X := X)) ?_
  rintro xs H Q' ⟨w, as, Q, rfl, o, r, h, p⟩
  rcases bx_int h with ⟨i, rfl, q⟩ | ⟨i, rfl, q⟩
  · obtain ⟨v, rfl, rv⟩ := one_arg r rfl
    cases rv
    exact .inl ⟨_, rfl, p.here o (.int _) q⟩
  · obtain ⟨v, rfl, rv⟩ := one_arg r rfl
    cases rv
    exact .inr ⟨_, rfl, p.here o (.int _) q⟩
theorem bx_abs {own : Bool} {vs : List PV} {ph : PHp} {Q : QV} (h : biS .abs own vs ph Q) : ∃ i, vs = [.int i] ∧ Q (.int (if i < 0 then -i else i)) ph := by
  have h : bi_abs own vs ph Q := h
  unfold bi_abs at h
  split at h <;> first | exact h.elim | skip
  exact ⟨_, rfl, h⟩
theorem abs_ok (own : Bool) : CallR X (.builtin "abs") (liftN X.K (biS .abs own)) := by
  refine CallR.imp (call_abs (X := X)) ?_
  rintro xs H Q' ⟨w, as, Q, rfl, o, r, h, p⟩
  obtain ⟨i, rfl, q⟩ := bx_abs h
  obtain ⟨v, rfl, rv⟩ := one_arg r rfl
  cases rv
  exact ⟨_, rfl, p.here o (.int _) q⟩
theorem bx_str {own : Bool} {vs : List PV} {ph : PHp} {Q : QV} (h : biS .str own vs ph Q) : ∃ i : Int, vs = [.int i] ∧ i.natAbs.log2 < 1920 ∧ Q (.str (toString i)) ph := by
  have h : bi_str own vs ph Q := h
  unfold bi_str at h
  split at h <;> first | exact h.elim | skip
  exact ⟨_, rfl, h⟩
theorem str_ok (own : Bool) : CallR X (.type "str") (liftN X.K (biS .str own)) := by
  refine CallR.imp (call_str_int (X := X)) ?_
  rintro xs H Q' ⟨w, as, Q, rfl, o, r, h, p⟩
  obtain ⟨i, rfl, hz, q⟩ := bx_str h
  obtain ⟨v, rfl, rv⟩ := one_arg r rfl
  cases rv
  exact ⟨_, rfl, hz, p.here o (.str _) q⟩
theorem bx_sum {own : Bool} {vs : List PV} {ph : PHp} {Q : QV} (h : biS .sum own vs ph Q) : ∃ v xs ns, vs = [v] ∧ seqOf ph v = some xs ∧ intsOf xs = some ns ∧ Q (.int ns.sum) ph := by
  have h : bi_sum own vs ph Q := h
  unfold bi_sum at h
  split at h <;> first | exact h.elim | skip
  obtain ⟨xs, ns, e, q⟩ := h
  exact ⟨_, xs, ns, rfl, e, q⟩
theorem sum_ok (hc : X.calm = true) (own : Bool) : CallR X (.builtin "sum") (liftN X.K (biS .sum own)) := by
  refine CallR.imp ((cr_sum hc).or (cr_sumT hc)) ?_
  rintro xs H Q' ⟨w, as, Q, rfl, o, r, h, p⟩
  obtain ⟨v, ys, ns, rfl, e, ei, q⟩ := bx_sum h
  obtain ⟨v, rfl, rv⟩ := one_arg r rfl
  obtain ⟨a, vs, rfl, e1, r1⟩ := seq_at o e rv
  have := Reps.ints ei r1
  subst this
  rcases e1 with e1 | e1
  · exact .inl ⟨_, ns, rfl, e1, p.here o (.int _) q⟩
  · exact .inr ⟨_, ns, rfl, e1, p.here o (.int _) q⟩
theorem bx_min {own : Bool} {vs : List PV} {ph : PHp} {Q : QV} (h : biS .min own vs ph Q) : (∃ i j, vs = [.int i, .int j] ∧ Q (.int (if j < i then j else i)) ph) ∨
    ∃ v xs ns, vs = [v] ∧ seqOf ph v = some xs ∧ intsOf xs = some ns ∧ 0 < ns.length ∧ ∀ m, m ∈ ns → (∀ y, y ∈ ns → m ≤ y) → Q (.int m) ph := by
  have h : bi_min own vs ph Q := h
  unfold bi_min at h
  split at h <;> first | exact h.elim | skip
  · exact .inl ⟨_, _, rfl, h⟩
  · obtain ⟨xs, ns, e, q⟩ := h
    exact .inr ⟨_, xs, ns, rfl, e, q⟩
theorem bx_max {own : Bool} {vs : List PV} {ph : PHp} {Q : QV} (h : biS .max own vs ph Q) : (∃ i j, vs = [.int i, .int j] ∧ Q (.int (if j > i then j else i)) ph) ∨
    ∃ v xs ns, vs = [v] ∧ seqOf ph v = some xs ∧ intsOf xs = some ns ∧ 0 < ns.length ∧ ∀ m, m ∈ ns → (∀ y, y ∈ ns → y ≤ m) → Q (.int m) ph := by
  have h : bi_max own vs ph Q := h
  unfold bi_max at h
  split at h <;> first | exact h.elim | skip
  · exact .inl ⟨_, _, rfl, h⟩
  · obtain ⟨xs, ns, e, q⟩ := h
    exact .inr ⟨_, xs, ns, rfl, e, q⟩
theorem two_ints {K : PySem.W.Frag} {w : Wd} {i j : Int} {xs : List V} (r : Reps K w.H w.μ [.int i, .int j] xs) : xs = [.int i, .int j] := by
  cases r with
  | cons h t =>
    cases h
    cases t with
    | cons h t => cases h; cases t; rfl
theorem min_ok (hc : X.calm = true) (own : Bool) : CallR X (.builtin "min") (liftN X.K (biS .min own)) := by
  refine CallR.imp ((call_min2 hc).or ((cr_min hc).or (cr_minT hc))) ?_
  rintro xs H Q' ⟨w, as, Q, rfl, o, r, h, p⟩
  rcases bx_min h with ⟨i, j, rfl, q⟩ | ⟨v, ys, ns, rfl, e, ei, hn, q⟩
  · exact .inl ⟨i, j, two_ints r, p.here o (.int _) q⟩
  · obtain ⟨v, rfl, rv⟩ := one_arg r rfl
    obtain ⟨a, vs, rfl, e1, r1⟩ := seq_at o e rv
    have := Reps.ints ei r1
    subst this
    rcases e1 with e1 | e1
    · exact .inr (.inl ⟨_, ns, rfl, e1, hn, fun m h1 h2 => p.here o (.int _) (q m h1 h2)⟩)
    · exact .inr (.inr ⟨_, ns, rfl, e1, hn, fun m h1 h2 => p.here o (.int _) (q m h1 h2)⟩)
theorem max_ok (hc : X.calm = true) (own : Bool) : CallR X (.builtin "max") (liftN X.K (biS .max own)) := by
  refine CallR.imp ((call_max2 hc).or ((cr_max hc).or (cr_maxT hc))) ?_
  rintro xs H Q' ⟨w, as, Q, rfl, o, r, h, p⟩
  rcases bx_max h with ⟨i, j, rfl, q⟩ | ⟨v, ys, ns, rfl, e, ei, hn, q⟩
  · exact .inl ⟨i, j, two_ints r, p.here o (.int _) q⟩
  · obtain ⟨v, rfl, rv⟩ := one_arg r rfl
    obtain ⟨a, vs, rfl, e1, r1⟩ := seq_at o e rv
    have := Reps.ints ei r1
    subst this
    rcases e1 with e1 | e1
    · exact .inr (.inl ⟨_, ns, rfl, e1, hn, fun m h1 h2 => p.here o (.int _) (q m h1 h2)⟩)
    · exact .inr (.inr ⟨_, ns, rfl, e1, hn, fun m h1 h2 => p.here o (.int _) (q m h1 h2)⟩)
theorem bx_any {own : Bool} {vs : List PV} {ph : PHp} {Q : QV} (h : biS .any own vs ph Q) : ∃ v xs bs, vs = [v] ∧ lstOf ph v = some xs ∧ blsOf xs = some bs ∧ Q (.bl (bs.any id)) ph := by
  have h : bi_any own vs ph Q := h
  unfold bi_any at h
  split at h <;> first | exact h.elim | skip
  obtain ⟨xs, ns, e, q⟩ := h
  exact ⟨_, xs, ns, rfl, e, q⟩
theorem bx_all {own : Bool} {vs : List PV} {ph : PHp} {Q : QV} (h : biS .all own vs ph Q) : ∃ v xs bs, vs = [v] ∧ lstOf ph v = some xs ∧ blsOf xs = some bs ∧ Q (.bl (bs.all id)) ph := by
  have h : bi_all own vs ph Q := h
  unfold bi_all at h
  split at h <;> first | exact h.elim | skip
  obtain ⟨xs, ns, e, q⟩ := h
  exact ⟨_, xs, ns, rfl, e, q⟩
theorem any_ok (hc : X.calm = true) (own : Bool) : CallR X (.builtin "any") (liftN X.K (biS .any own)) := by
  refine CallR.imp (cr_any hc) ?_
  rintro xs H Q' ⟨w, as, Q, rfl, o, r, h, p⟩
  obtain ⟨v, ys, ns, rfl, e, ei, q⟩ := bx_any h
  obtain ⟨v, rfl, rv⟩ := one_arg r rfl
  obtain ⟨a, vs, rfl, e1, r1⟩ := lst_at o e rv
  have := Reps.bls ei r1
  subst this
  exact ⟨_, ns, rfl, SqL.of e1, p.here o (.bl _) q⟩
theorem all_ok (hc : X.calm = true) (own : Bool) : CallR X (.builtin "all") (liftN X.K (biS .all own)) := by
  refine CallR.imp (cr_all hc) ?_
  rintro xs H Q' ⟨w, as, Q, rfl, o, r, h, p⟩
  obtain ⟨v, ys, ns, rfl, e, ei, q⟩ := bx_all h
  obtain ⟨v, rfl, rv⟩ := one_arg r rfl
  obtain ⟨a, vs, rfl, e1, r1⟩ := lst_at o e rv
  have := Reps.bls ei r1
  subst this
  exact ⟨_, ns, rfl, SqL.of e1, p.here o (.bl _) q⟩
theorem bx_sorted {own : Bool} {vs : List PV} {ph : PHp} {Q : QV} (h : biS .sorted own vs ph Q) : ∃ v xs, vs = [v] ∧ lstOf ph v = some xs ∧ ((∃ ns, intsOf xs = some ns ∧ newL own ((ns.mergeSort fun a b => decide (a ≤ b)).map .int) ph Q) ∨
      (∃ rs, rowsOf xs = some rs ∧ (∀ r ∈ rs, r ≠ []) ∧ newL own ((rs.mergeSort fun a b => !decide (b < a)).map fun r => .tup (r.map .int)) ph Q)) := by
  have h : bi_sorted own vs ph Q := h
  unfold bi_sorted at h
  split at h <;> first | exact h.elim | skip
  obtain ⟨xs, e, q⟩ := h
  exact ⟨_, xs, rfl, e, q⟩
theorem reps_map {K : PySem.W.Frag} {H : Hp} {μ : Mu} {β : Type} {f : β → PV} {g : β → V} : ∀ {bs : List β}, (∀ b ∈ bs, Rep K H μ (f b) (g b)) → Reps K H μ (bs.map f) (bs.map g)
  | [], _ => .nil
  | b :: bs, h => .cons (h b (List.mem_cons_self ..)) (reps_map fun c hc => h c (List.mem_cons_of_mem _ hc))
theorem sorted_ok (hu : X.A.units + 5 < cLine) (own : Bool) : CallR X (.builtin "sorted") (liftN X.K (biS .sorted own)) := by
  refine CallR.imp ((cr_sortI (X := X) (by omega)).or (cr_sortR (X := X) hu)) ?_
  rintro xs H Q' ⟨w, as, Q, rfl, o, r, h, p⟩
  obtain ⟨v, ys, rfl, e, h⟩ := bx_sorted h
  obtain ⟨v, rfl, rv⟩ := one_arg r rfl
  obtain ⟨a, vs, rfl, e1, r1⟩ := lst_at o e rv
  rcases h with ⟨ns, ei, q⟩ | ⟨rs, ei, hn, q⟩
  · have := Reps.ints ei r1
    subst this
    exact .inl ⟨_, ns, rfl, SqL.of e1, p.lst o (Reps.ofInts _) q⟩
  · obtain ⟨bs, rfl, rfl, hb⟩ := rows_reps ei r1
    refine .inr ⟨_, bs, rfl, SqL.of e1, fun b hm => ⟨hn _ (List.mem_map_of_mem hm), (hb b hm).2⟩, p.lst o (own := own) ?_ q⟩
    rw [← List.map_mergeSort (f := fun b : List Int × V => b.1) (r := fun a b => !decide (b.1 < a.1)) (fun _ _ _ _ => rfl), List.map_map]
    refine reps_map fun b hm => ?_
    rw [List.mem_mergeSort] at hm
    exact (hb b hm).1
end
end RL

/-! RLPrim7: repr, isinstance, methods. -/
namespace RL
open PySem PySem.Spec PyProof.Rows L2
section
variable {X : Cx}
theorem repr_ok (hs : HasSys X) (hg : X.A.guards = some []) (hu : X.A.units + 64 < cLine) (own : Bool) : CallR X (.builtin "repr") (liftN X.K (biS .repr own)) := by
  rintro pins s σ H xs us Q' I r ⟨w, as, Q, rfl, o, ra, h, p⟩
  have h : bi_repr own as w.ph Q := h
  unfold bi_repr at h
  split at h
  · obtain ⟨d, hd, ⟨h1, h2, h3⟩, q⟩ := h
    obtain ⟨v, rfl, rv⟩ := one_arg ra rfl
    obtain ⟨u, rfl, ru⟩ := vals1 r
    have fin : ∀ (h' : Heap) (u' : Tok) (tk : Nat), (∀ b o, s.heap.get? b = some o → h'.get? b = some o) → EP X pins σ Q' (Value.str d.shown u') { s with heap := h', toks := tk } := fun h' u' tk hk =>
      ⟨.str d.shown, _, I.kept hk, ⟨_, rfl⟩, p.here o (.str _) q⟩
    have big : ∀ a, u = .ref a → wpAny (model X.prog X.w) X.A (call (.builtin "repr") [u]) (EP X pins σ Q') X.xe s := by
      rintro a rfl
      obtain ⟨bs, r1, r2⟩ := dat_reads hs I o hd rv ru
      exact repr_of_reads' r1 h1 (fun _ => r2) hg (by omega) (fun _ _ e => e) (fun h' u tk hk => fin h' u tk hk) h2
    cases rv with
    | non =>
      cases hd; cases ru
      refine PySem.P.repr_of_none ?_
      simp only [PyData.shown] at fin
      exact fin s.heap _ _ fun _ _ e => e
    | bl b =>
      cases hd; cases ru
      refine PySem.P.repr_of_bool ?_
      simp only [PyData.shown] at fin
      exact fin s.heap _ _ fun _ _ e => e
    | int i =>
      cases hd; obtain ⟨t, rfl⟩ := ru
      simp only [PyData.showable, decide_eq_true_eq] at h1
      refine PySem.P.repr_of_int h1 ?_
      simp only [PyData.shown] at fin
      exact fin s.heap _ _ fun _ _ e => e
    | str i =>
      cases hd; obtain ⟨t, rfl⟩ := ru
      simp only [PyData.shown] at fin h2
      refine PySem.P.repr_of_str ?_ h2
      exact fin s.heap _ _ fun _ _ e => e
    | tup => cases ru; exact big _ rfl
    | lst => cases ru; exact big _ rfl
    | scr => cases ru; exact big _ rfl
    | ref => cases ru; exact big _ rfl
  · exact h.elim
/-! ### isinstance -/
def tyN : Ty → String
  | .int => "int" | .bool => "bool" | .str => "str" | .tuple => "tuple" | .list => "list" | .dict => "dict"
/-- a value's class -/
def pvT (ph : PHp) : PV → Option String
  | .non => some "NoneType" | .bl _ => some "bool" | .int _ => some "int" | .str _ => some "str" | .tup _ => some "tuple" | .lst _ => some "list" | .scr _ => some "list"
  | .ref n => match ph[n]? with
    | some (.lst _) => some "list"
    | some _ => some "dict"
    | none => none
def tyTab (t : String) (ty : Ty) : Bool := if t = "int" then ty == .int else if t = "bool" then ty == .int || ty == .bool else if t = "str" then ty == .str else if t = "tuple" then ty == .tuple else if t = "list" then ty == .list else if t = "dict" then ty == .dict else false
theorem tab_ok : ∀ t ∈ ["NoneType", "int", "bool", "str", "tuple", "list", "dict"], ∀ ty ∈ [Ty.int, .bool, .str, .tuple, .list, .dict], kitB t (tyN ty) = some (tyTab t ty) := by decide +kernel
theorem pvT_is {ph : PHp} {a : PV} {t : String} (h : pvT ph a = some t) (ty : Ty) : kitB t (tyN ty) = some (tyIs ty ph a) := by
  have ht : ty ∈ [Ty.int, .bool, .str, .tuple, .list, .dict] := by cases ty <;> simp
  have key : ∀ t ∈ ["NoneType", "int", "bool", "str", "tuple", "list", "dict"], tyTab t ty = tyIs ty ph a → kitB t (tyN ty) = some (tyIs ty ph a) := fun t h1 h2 => by rw [← h2]; exact tab_ok t h1 ty ht
  cases a with
  | ref n =>
    simp only [pvT] at h
    simp only [tyIs] at key ⊢
    cases q : ph[n]? with
    | none => rw [q] at h; cases h
    | some ob =>
      rw [q] at h key
      cases ob <;> simp at h <;> subst h <;> exact key _ (by simp) (by simp [tyTab])
  | _ => simp only [pvT, Option.some.injEq] at h; subst h; exact key _ (by simp) (by simp [tyTab, tyIs])
theorem pvT_ty {w : Wd} {H : Hp} (o : Ok X.K w) (e : w.H = H) {a : PV} {v : V} (r : Rep X.K w.H w.μ a v) : ∃ t, pvT w.ph a = some t ∧ TyX X.K H v (.type t) := by
  subst e
  cases r with
  | non => exact ⟨_, rfl, .base .non⟩
  | bl b => exact ⟨_, rfl, .base (.bl b)⟩
  | int b => exact ⟨_, rfl, .base (.int b)⟩
  | str b => exact ⟨_, rfl, .base (.str b)⟩
  | tup h1 h2 => exact ⟨_, rfl, .base (.tup h1)⟩
  | lst h1 h2 h3 => exact ⟨_, rfl, .base (.lst h1)⟩
  | scr h1 =>
    refine ⟨_, rfl, ?_⟩
    rcases h1 with ⟨h1 | ⟨ob, h1⟩, _⟩ | ⟨ob, its, n, h1, h2, _⟩
    · exact .base (.lst h1)
    · exact .base (.frz h1)
    · exact .kList h1 h2
  | @ref n a hn =>
    have hl : n < w.ph.length := by
      rw [← o.len]; exact (List.getElem?_eq_some_iff.mp hn).1
    have h3 := o.ob n a _ hn (List.getElem?_eq_getElem hl)
    simp only [pvT, List.getElem?_eq_getElem hl]
    cases q : w.ph[n] with
    | lst xs => rw [q] at h3; obtain ⟨vs, e, _⟩ := h3; exact ⟨_, rfl, .base (.lst e)⟩
    | dK xs => rw [q] at h3; obtain ⟨vs, e, _⟩ := h3; exact ⟨_, rfl, .base (.dK e)⟩
    | dT xs => rw [q] at h3; obtain ⟨vs, e, _⟩ := h3; exact ⟨_, rfl, .base (.dT e)⟩
/-! ### methods -/
def mtN : Mt → String
  | .append => "list.append" | .pop => "list.pop" | .popAt => "list.pop" | .extend => "list.extend" | .index => "list.index" | .count => "list.count"
theorem MtR.imp {id : String} {r r' : V → List V → Hp → VK → Prop} (h : MtR X id r) (k : ∀ x xs H Q, r' x xs H Q → r x xs H Q) : MtR X id r' := fun pins s σ H x xs v us Q I rx rs q => h pins s σ H x xs v us Q I rx rs (k _ _ _ _ q)
theorem ref_lst {K : PySem.W.Frag} {w : Wd} (o : Ok K w) {n : Nat} {a : Addr} {xs : List PV} (hn : w.μ.num[n]? = some a) (h : w.ph[n]? = some (.lst xs)) : ∃ vs, w.H a = some (.lst vs) ∧ Reps K w.H w.μ xs vs := o.ob _ _ _ hn h
theorem mt_ok (hu : X.A.units + 65 < cLine) (m : Mt) : MtR X (mtN m) (liftM X.K (mtS m)) := by
  cases m with
  | append =>
    refine MtR.imp (mt_append (X := X)) ?_
    rintro x xs H Q' ⟨w, a, as, Q, rfl, o, ra, rs, h, p⟩
    unfold mtS at h
    split at h <;> first | exact h.elim | (rename_i e; cases e; done) | skip
    obtain ⟨ys, h1, h2, q⟩ := h
    cases ra with
    | ref hn =>
      obtain ⟨v, rfl, rv⟩ := one_arg rs rfl
      obtain ⟨vs, e1, r1⟩ := ref_lst o hn h1
      refine ⟨_, vs, v, rfl, rfl, e1, by rw [r1.length]; exact h2, p.chg o hn (y := .lst _) ⟨_, upd_same, (repsC hn o r1).append (.cons (repC hn o rv) .nil)⟩ .non q⟩
  | pop =>
    refine MtR.imp (mt_pop (X := X)) ?_
    rintro x xs H Q' ⟨w, a, as, Q, rfl, o, ra, rs, h, p⟩
    unfold mtS at h
    split at h <;> first | exact h.elim | (rename_i e; cases e; done) | skip
    obtain ⟨ys, y, h1, h2, q⟩ := h
    cases ra with
    | ref hn =>
      cases rs
      obtain ⟨vs, e1, r1⟩ := ref_lst o hn h1
      obtain ⟨v, hv, rv⟩ := r1.get h2
      refine ⟨_, vs, v, rfl, rfl, e1, by rw [r1.length]; exact hv, p.chg o hn (y := .lst _) ⟨_, upd_same, (repsC hn o r1).dropLast⟩ (repC hn o rv) q⟩
  | popAt =>
    refine MtR.imp (mt_popAt (X := X)) ?_
    rintro x xs H Q' ⟨w, a, as, Q, rfl, o, ra, rs, h, p⟩
    unfold mtS at h
    split at h <;> first | exact h.elim | (rename_i e; cases e; done) | skip
    obtain ⟨ys, y, h1, h3, h4, h2, q⟩ := h
    cases ra with
    | ref hn =>
      obtain ⟨v, rfl, rv⟩ := one_arg rs rfl
      cases rv
      obtain ⟨vs, e1, r1⟩ := ref_lst o hn h1
      obtain ⟨v, hv, rv⟩ := r1.get h2
      have hlt : (Int.toNat _) < vs.length := (List.getElem?_eq_some_iff.mp hv).1
      refine ⟨_, vs, _, Int.toNat _, v, rfl, rfl, e1, by omega, by omega, ?_, hv, p.chg o hn (y := .lst _) ⟨_, upd_same, (repsC hn o r1).eraseIdx _⟩ (repC hn o rv) q⟩
      unfold seqIndex?
      first | (simp; omega) | (simp only []; split <;> simp <;> omega)
  | extend =>
    refine MtR.imp (mt_extend (X := X)) ?_
    rintro x xs H Q' ⟨w, a, as, Q, rfl, o, ra, rs, h, p⟩
    unfold mtS at h
    split at h <;> first | exact h.elim | (rename_i e; cases e; done) | skip
    obtain ⟨ys, zs, h1, h2, h3, q⟩ := h
    cases ra with
    | ref hn =>
      obtain ⟨v, rfl, rv⟩ := one_arg rs rfl
      obtain ⟨vs, e1, r1⟩ := ref_lst o hn h1
      obtain ⟨b, ws, rfl, e2, r2⟩ := lst_at o h2 rv
      refine ⟨_, b, vs, ws, rfl, rfl, e1, e2, by rw [r1.length, r2.length]; exact h3, p.chg o hn (y := .lst _) ⟨_, upd_same, (repsC hn o r1).append (repsC hn o r2)⟩ .non q⟩
  | index =>
    refine MtR.imp (mt_indexD (X := X) hu) ?_
    rintro x xs H Q' ⟨w, a, as, Q, rfl, o, ra, rs, h, p⟩
    unfold mtS at h
    split at h <;> first | exact h.elim | (rename_i e; cases e; done) | skip
    obtain ⟨ys, ds, d, j, z, h1, h2, h3, h4, h5, h6, h7, h8, q⟩ := h
    obtain ⟨v, rfl, rv⟩ := one_arg rs rfl
    obtain ⟨b, ws, rfl, e2, r2⟩ := lst_at o h1 ra
    refine ⟨b, v, d, ds, j, z, rfl, rfl, .lst (SqL.of e2) (dats_dp o h2 (by have := shaped_noDict h4; simpa only [PyData.hasDict] using this) r2), dat_dp o h3 (shaped_noDict h5) rv, h4, h5, h6, h7, h8, p.here o (.int _) q⟩
  | count =>
    refine MtR.imp (mt_lcount (X := X)) ?_
    rintro x xs H Q' ⟨w, a, as, Q, rfl, o, ra, rs, h, p⟩
    unfold mtS at h
    split at h <;> first | exact h.elim | (rename_i e; cases e; done) | skip
    obtain ⟨ys, ns, h1, h2, q⟩ := h
    obtain ⟨v, rfl, rv⟩ := one_arg rs rfl
    cases rv
    obtain ⟨b, ws, rfl, e2, r2⟩ := lst_at o h1 ra
    have := Reps.ints h2 r2
    subst this
    exact ⟨b, ns, _, rfl, rfl, SqL.of e2, p.here o (.int _) q⟩
end
end RL

/-! RLSound1: expressions. -/
namespace RL
open PySem PySem.Spec PyProof.Rows L2
abbrev XF : QX := fun _ _ => False
/-- what a call of the f-th def keeps -/
def spD (K : PySem.W.Frag) (pg : Pg) (k f : Nat) : Sp := fun vs H Q' _ => ∃ w as Q, w.H = H ∧ Ok K w ∧ Reps K w.H w.μ as vs ∧ callK pg k f as w.ph Q XF ∧ Post K w Q Q'
/-- a def's promise where no printing goes on -/
structure FnG (P : Program) (w : World) (K : PySem.W.Frag) (mg : Str → Option Value) (base : Heap) (k : Nat) (f : Addr) (fd : FuncData) (ps : List Str) (sp : Sp) : Prop where
  len : ∀ vs H Q E, sp vs H Q E → vs.length = ps.length
  run : ∀ (A : Around) (outer : List PySem.Env) (s : Shared) (H : Hp) (args : Args) (us : List Value) (vs : List V) (Q : VK), A.guards = some [] → Room k A → Env0 P w K mg base A outer s H → BindsTo s fd args (ps.zip us) → Vals vs us → sp vs H Q E0 →
    codeAny (model P w) A (.call (.ref f) args) (CR CX0 outer P w H s Q E0) s
/-- the text -/
structure Lw where
  pg : Pg
  sts : List Stmt
def Lw.G (L : Lw) : List PV := L.pg.gl.map (·.2)
def bnames : List Str := ["len", "tuple", "list", "int", "repr", "sum", "min", "max", "abs", "sorted", "all", "any", "str", "isinstance", "range", "enumerate", "zip", "bool", "dict"]
def Atom.v : Atom → V
  | .non => .non | .bl b => .bl b | .int i => .int i | .str s => .str s
theorem atom_rep {K : PySem.W.Frag} {H : Hp} {μ : Mu} (a : Atom) : Rep K H μ a.pv a.v := by cases a <;> constructor
/-- where an expression stands -/
structure In (L : Lw) (k : Nat) (N : List Str) (sc : Scope) (X : Cx) : Prop where
  names : X.N = N
  scope : X.env.scope = sc
  nd : N.Nodup
  calm : X.calm = true
  guards : X.A.guards = some []
  room : Room k X.A
  sys : HasSys X
  blt : ∀ x ∈ bnames, X.mg x = none
  glb : ∀ (n : Nat) (x : Str) (v : PV), L.pg.gl[n]? = some (x, v) → ∃ (a : Atom) (u : Value), v = a.pv ∧ X.mg x = some u ∧ RelV a.v u
  calls : ∀ (f : Nat) (d : Df) (st : Stmt), L.pg.defs[f]? = some d → L.sts[f]? = some st → ∃ fa fd, X.mg d.name = some (.ref fa) ∧ Fun X.K d.name d.name st fa fd ∧ FnG X.prog X.w X.K X.mg X.base k fa fd d.ps (spD X.K L.pg k f)
def PostL (K : PySem.W.Frag) (w : Wd) (n : Nat) (Q : List PV → PHp → Prop) (Q' : List V → Hp → Prop) : Prop := ∀ w' xs vs, Step w w' → Ok K w' → Reps K w'.H w'.μ xs vs → xs.length = n → Q xs w'.ph → Q' vs w'.H
def PostB (K : PySem.W.Frag) (w : Wd) (Q : Bool → PHp → Prop) (Q' : Bool → Hp → Prop) : Prop := ∀ w' b, Step w w' → Ok K w' → Q b w'.ph → Q' b w'.H
def PostO (K : PySem.W.Frag) (w : Wd) (Q : Option Int → PHp → Prop) (Q' : Option Int → Hp → Prop) : Prop := ∀ w' b, Step w w' → Ok K w' → Q b w'.ph → Q' b w'.H
section
variable (L : Lw) (N : List Str) (sc : Scope)
/-- an expression of the text and its short form -/
def SE (x : Expr) (e : E) : Prop := ∀ k X, In L k N sc X → ∃ t, PE X x t ∧ ∀ (w : Wd) env σ Q Q', Ok X.K w → REnv X.K w env σ → wpE (callK L.pg k) L.G XF e env w.ph Q → Post X.K w Q Q' → t σ w.H Q'
def SA (xs : List Expr) (es : List E) : Prop := ∀ k X, In L k N sc X → ∃ t, PA X xs t ∧ ∀ (w : Wd) env σ Q Q', Ok X.K w → REnv X.K w env σ → wpEs (callK L.pg k) L.G XF es env w.ph Q → PostL X.K w es.length Q Q' → t σ w.H Q'
def SO (x : Option Expr) (e : Option E) : Prop := ∀ k X, In L k N sc X → ∃ t, L2.PO X x t ∧ ∀ (w : Wd) env σ Q Q', Ok X.K w → REnv X.K w env σ → wpO (callK L.pg k) L.G XF e env w.ph Q → PostO X.K w Q Q' → t σ w.H Q'
def ST (x : Expr) (e : E) : Prop := ∀ k X, In L k N sc X → ∃ t, PT X x t ∧ ∀ (w : Wd) env σ Q Q', Ok X.K w → REnv X.K w env σ → wpE (callK L.pg k) L.G XF e env w.ph (toB Q) → PostB X.K w Q Q' → t σ w.H Q'
def SW (x : Expr) (e : E) : Prop := ∀ k X, In L k N sc X → ∃ t, PW X x t ∧ ∀ (w : Wd) env σ Q Q', Ok X.K w → REnv X.K w env σ → wpE (callK L.pg k) L.G XF e env w.ph (toB Q) → PostB X.K w Q Q' → t σ w.H Q'
end
section
variable {L : Lw} {N : List Str} {sc : Scope} {a b c : Expr} {ea eb ec : E} {pos p : Pos}
theorem Post.step {K : PySem.W.Frag} {w w1 : Wd} {Q : QV} {Q' : VK} (p : Post K w Q Q') (s : Step w w1) : Post K w1 Q Q' := fun w' x v s' o r q => p w' x v (s.trans s') o r q
theorem PostL.step {K : PySem.W.Frag} {w w1 : Wd} {n : Nat} {Q : List PV → PHp → Prop} {Q' : List V → Hp → Prop} (p : PostL K w n Q Q') (s : Step w w1) : PostL K w1 n Q Q' := fun w' x v s' o r hl q => p w' x v (s.trans s') o r hl q
theorem PostB.step {K : PySem.W.Frag} {w w1 : Wd} {Q : Bool → PHp → Prop} {Q' : Bool → Hp → Prop} (p : PostB K w Q Q') (s : Step w w1) : PostB K w1 Q Q' := fun w' x s' o q => p w' x (s.trans s') o q
/-! ### atoms -/
theorem s_var (i : Nat) {x : Str} (h : N[i]? = some x) (hv : Vis sc x) (hd : (x == ("__debug__" : Str)) = false := by decide) (hcd : (x == ("__classdict__" : Str)) = false := by decide) : SE L N sc (.Name x pos) (.var i) := by
  intro k X I
  refine ⟨_, pe_var (i := i) (by rw [I.names]; exact h) (by rw [I.scope]; exact hv) hd hcd, fun w env σ Q Q' o r q p => ?_⟩
  obtain ⟨x, h1, q⟩ := q
  obtain ⟨v, h2, rv⟩ := r.get i x h1
  exact ⟨v, h2, p.here o rv q⟩
theorem s_int {i : Int} {j} : SE L N sc (.Constant (.int i) j pos) (.con (.int i)) := fun k X I => ⟨_, pe_int, fun w env σ Q Q' o r q p => p.here o (.int i) q⟩
theorem s_bl {i : Bool} {j} : SE L N sc (.Constant (.bool i) j pos) (.con (.bl i)) := fun k X I => ⟨_, pe_bl, fun w env σ Q Q' o r q p => p.here o (.bl i) q⟩
theorem s_non {j} : SE L N sc (.Constant .none j pos) (.con .non) := fun k X I => ⟨_, pe_non, fun w env σ Q Q' o r q p => p.here o .non q⟩
theorem s_str {i : Str} {j} : SE L N sc (.Constant (.str i) j pos) (.con (.str i)) := fun k X I => ⟨_, pe_str, fun w env σ Q Q' o r q p => p.here o (.str i) q⟩
theorem gl_of {k : Nat} {X : Cx} (I : In L k N sc X) {x : Str} (h : sc.names.lookup x = some .globalImplicit) : Gl X x := by
  show X.env.scope.names.lookup x = _
  rw [I.scope]; exact h
theorem s_glob (n : Nat) {x : Str} (h : L.pg.gl[n]?.map (·.1) = some x) (hg : sc.names.lookup x = some .globalImplicit) (hd : (x == ("__debug__" : Str)) = false := by decide) : SE L N sc (.Name x pos) (.glob n) := by
  intro k X I
  cases hq : L.pg.gl[n]? with
  | none => rw [hq] at h; cases h
  | some pr =>
    obtain ⟨x', v⟩ := pr
    rw [hq] at h; cases h
    obtain ⟨a, u, rfl, hm, ru⟩ := I.glb n _ _ hq
    refine ⟨_, pe_glob (gl_of I hg) hm ru hd, fun w env σ Q Q' o r q p => ?_⟩
    obtain ⟨v, hv, q⟩ := q
    have : v = a.pv := by
      simp only [Lw.G, List.getElem?_map, hq, Option.map_some, Option.some.injEq] at hv
      exact hv.symm
    subst this
    exact p.here o (atom_rep a) q
/-! ### operators -/
theorem s_bin {op : Operator} {o2 : Op2} {own : Bool} (ha : SE L N sc a ea) (hb : SE L N sc b eb) (ho : op2F o2 = binaryOp op := by rfl) : SE L N sc (.BinOp a op b pos) (.op2 o2 own ea eb) := by
  intro k X I
  obtain ⟨ta, h1, h2⟩ := ha k X I
  obtain ⟨tb, h3, h4⟩ := hb k X I
  have h := op2_ok (X := X) (by have := I.room.un; omega) o2 own
  rw [ho] at h
  refine ⟨_, pe_op h h1 h3, fun w env σ Q Q' o r q p => ?_⟩
  refine h2 w env σ _ _ o r q fun w1 x v s1 o1 rv q => ?_
  refine h4 w1 env σ _ _ o1 (r.step s1 o) q fun w2 y u s2 o2 ru q => ?_
  exact ⟨w2, x, y, Q, rfl, o2, s2.rep o1 rv, ru, q, (p.step s1).step s2⟩
theorem s_cmp {op : CmpOp} {o2 : Op2} {own : Bool} (ha : SE L N sc a ea) (hb : SE L N sc b eb) (ho : op2F o2 = compareOp op := by rfl) (hm : behindInMarks op b = false := by rfl) : SE L N sc (.Compare a [op] [b] pos) (.op2 o2 own ea eb) := by
  intro k X I
  obtain ⟨ta, h1, h2⟩ := ha k X I
  obtain ⟨tb, h3, h4⟩ := hb k X I
  have h := op2_ok (X := X) (by have := I.room.un; omega) o2 own
  rw [ho] at h
  refine ⟨_, pe_cmpR h h1 h3 hm, fun w env σ Q Q' o r q p => ?_⟩
  refine h2 w env σ _ _ o r q fun w1 x v s1 o1 rv q => ?_
  refine h4 w1 env σ _ _ o1 (r.step s1 o) q fun w2 y u s2 o2 ru q => ?_
  exact ⟨w2, x, y, Q, rfl, o2, s2.rep o1 rv, ru, q, (p.step s1).step s2⟩
theorem toB_post {K : PySem.W.Frag} {w : Wd} {Q : Bool → PHp → Prop} {Q' : Bool → Hp → Prop} (p : PostB K w Q Q') : Post K w (toB Q) (fun x H => ∃ c, x = .bl c ∧ Q' c H) := fun w' x v s o r q => by
  obtain ⟨b, rfl, q⟩ := q
  cases r
  exact ⟨b, rfl, p w' b s o q⟩
theorem t_cmp {op : CmpOp} {o2 : Op2} {own : Bool} (ha : SE L N sc a ea) (hb : SE L N sc b eb) (ho : op2F o2 = compareOp op := by rfl) (hm : behindInMarks op b = false := by rfl) : ST L N sc (.Compare a [op] [b] pos) (.op2 o2 own ea eb) := by
  intro k X I
  obtain ⟨ta, h1, h2⟩ := ha k X I
  obtain ⟨tb, h3, h4⟩ := hb k X I
  have h := op2_ok (X := X) (by have := I.room.un; omega) o2 own
  rw [ho] at h
  refine ⟨_, pt_cmpR h h1 h3 hm, fun w env σ Q Q' o r q p => ?_⟩
  refine h2 w env σ _ _ o r q fun w1 x v s1 o1 rv q => ?_
  refine h4 w1 env σ _ _ o1 (r.step s1 o) q fun w2 y u s2 o2 ru q => ?_
  exact ⟨w2, x, y, toB Q, rfl, o2, s2.rep o1 rv, ru, q, ((toB_post p).step s1).step s2⟩
theorem s_chain {op op' : CmpOp} {o1 o2 : Op2} (ha : SE L N sc a ea) (hb : SE L N sc b eb) (hc : SE L N sc c ec) (ho : op2F o1 = compareOp op := by rfl) (ho' : op2F o2 = compareOp op' := by rfl) (hm : lastMarks [op, op'] [b, c] = false := by rfl) :
    SE L N sc (.Compare a [op, op'] [b, c] pos) (.chain o1 o2 ea eb ec) := by
  intro k X I
  obtain ⟨ta, h1, h2⟩ := ha k X I
  obtain ⟨tb, h3, h4⟩ := hb k X I
  obtain ⟨tc, h5, h6⟩ := hc k X I
  have hu : X.A.units + 65 < cLine := by have := I.room.un; omega
  have g := op2_ok (X := X) hu o1 false
  have g' := op2_ok (X := X) hu o2 false
  rw [ho] at g
  rw [ho'] at g'
  refine ⟨_, pe_chain g g' h1 h3 h5 hm, fun w env σ Q Q' o r q p => ?_⟩
  refine h2 w env σ _ _ o r q fun w1 x v s1 o1 rv q => ?_
  refine h4 w1 env σ _ _ o1 (r.step s1 o) q fun w2 y u s2 o2 ru q => ?_
  refine ⟨w2, x, y, _, rfl, o2, s2.rep o1 rv, ru, q, fun w3 z z' s3 o3 rz q => ?_⟩
  obtain ⟨kk, rfl, q⟩ := q
  cases rz
  refine ⟨kk, rfl, ?_⟩
  cases kk with
  | false => exact p _ _ _ ((s1.trans s2).trans s3) o3 (.bl _) (by simpa using q)
  | true =>
    simp only [if_true] at q ⊢
    refine h6 w3 env σ _ _ o3 (((r.step s1 o).step s2 o1).step s3 o2) q fun w4 m m' s4 o4 rm q => ?_
    exact ⟨w4, y, m, Q, rfl, o4, (s3.trans s4).rep o2 ru, rm, q, (((p.step s1).step s2).step s3).step s4⟩
theorem s_neg (ha : SE L N sc a ea) : SE L N sc (.UnaryOp .USub a pos) (.neg ea) := by
  intro k X I
  obtain ⟨ta, h1, h2⟩ := ha k X I
  refine ⟨_, pe_un un_neg h1, fun w env σ Q Q' o r q p => ?_⟩
  refine h2 w env σ _ _ o r q fun w1 x v s1 o1 rv q => ?_
  obtain ⟨i, rfl, q⟩ := q
  cases rv
  exact ⟨i, rfl, p _ _ _ s1 o1 (.int _) q⟩
theorem s_not (ha : SE L N sc a ea) : SE L N sc (.UnaryOp .Not a pos) (.notE ea) := by
  intro k X I
  obtain ⟨ta, h1, h2⟩ := ha k X I
  refine ⟨_, pe_not h1, fun w env σ Q Q' o r q p => ?_⟩
  refine h2 w env σ _ _ o r q fun w1 x v s1 o1 rv q => ?_
  obtain ⟨i, rfl, q⟩ := q
  cases rv
  exact ⟨i, rfl, p _ _ _ s1 o1 (.bl _) q⟩
theorem s_and1 (ha : SE L N sc a ea) : SE L N sc (.BoolOp .And [a] pos) ea := by
  intro k X I
  obtain ⟨ta, h1, h2⟩ := ha k X I
  exact ⟨ta, pe_one h1, h2⟩
theorem s_or1 (ha : SE L N sc a ea) : SE L N sc (.BoolOp .Or [a] pos) ea := by
  intro k X I
  obtain ⟨ta, h1, h2⟩ := ha k X I
  exact ⟨ta, pe_one h1, h2⟩
theorem s_and {rest : List Expr} (ha : SE L N sc a ea) (hb : SE L N sc (.BoolOp .And (b :: rest) pos) eb) : SE L N sc (.BoolOp .And (a :: b :: rest) pos) (.andE ea eb) := by
  intro k X I
  obtain ⟨ta, h1, h2⟩ := ha k X I
  obtain ⟨tb, h3, h4⟩ := hb k X I
  refine ⟨_, pe_and h1 h3, fun w env σ Q Q' o r q p => ?_⟩
  refine h2 w env σ _ _ o r q fun w1 x v s1 o1 rv q => ?_
  obtain ⟨i, rfl, q⟩ := q
  cases rv
  refine ⟨i, rfl, ?_⟩
  cases i with
  | false => exact p _ _ _ s1 o1 (.bl _) (by simpa using q)
  | true =>
    simp only [if_true] at q ⊢
    exact h4 w1 env σ _ _ o1 (r.step s1 o) q (p.step s1)
theorem s_or {rest : List Expr} (ha : SE L N sc a ea) (hb : SE L N sc (.BoolOp .Or (b :: rest) pos) eb) : SE L N sc (.BoolOp .Or (a :: b :: rest) pos) (.orE ea eb) := by
  intro k X I
  obtain ⟨ta, h1, h2⟩ := ha k X I
  obtain ⟨tb, h3, h4⟩ := hb k X I
  refine ⟨_, pe_or h1 h3, fun w env σ Q Q' o r q p => ?_⟩
  refine h2 w env σ _ _ o r q fun w1 x v s1 o1 rv q => ?_
  obtain ⟨i, rfl, q⟩ := q
  cases rv
  refine ⟨i, rfl, ?_⟩
  cases i with
  | true => exact p _ _ _ s1 o1 (.bl _) (by simpa using q)
  | false =>
    simp at q ⊢
    exact h4 w1 env σ _ _ o1 (r.step s1 o) q (p.step s1)
/-! ### tests -/
theorem t_val (he : ∀ env whole, isTrue a env whole = (do let v ← whole; standAt a.pos; holding [v] (truthy v)) := by intro _ _; rfl) (ha : SE L N sc a ea) : ST L N sc a ea := by
  intro k X I
  obtain ⟨ta, h1, h2⟩ := ha k X I
  exact ⟨_, pt_val h1 (he _), fun w env σ Q Q' o r q p => h2 w env σ _ _ o r q (toB_post p)⟩
theorem t_not (ha : ST L N sc a ea) : ST L N sc (.UnaryOp .Not a pos) (.notE ea) := by
  intro k X I
  obtain ⟨ta, h1, h2⟩ := ha k X I
  refine ⟨_, pt_not h1, fun w env σ Q Q' o r q p => ?_⟩
  have q' : wpE (callK L.pg k) L.G XF ea env w.ph (toB fun b ph => Q (!b) ph) := by
    have q0 : wpE (callK L.pg k) L.G XF ea env w.ph (fun x ph1 => ∃ b, x = .bl b ∧ toB Q (.bl (!b)) ph1) := q
    have e : (fun x ph1 => ∃ b, x = PV.bl b ∧ toB Q (.bl (!b)) ph1) = toB fun b ph => Q (!b) ph := by
      funext x ph1
      refine propext ⟨?_, ?_⟩
      · rintro ⟨b, e, b', e', q⟩
        cases e'
        exact ⟨b, e, q⟩
      · rintro ⟨b, e, q⟩
        exact ⟨b, e, _, rfl, q⟩
    rw [← e]; exact q0
  exact h2 w env σ _ _ o r q' fun w' b s o q => p w' (!b) s o q
theorem t_w (ha : SW L N sc a ea) : ST L N sc a ea := by
  intro k X I
  obtain ⟨ta, h1, h2⟩ := ha k X I
  exact ⟨_, h1.pt, h2⟩
theorem w_and1 (ha : ST L N sc a ea) : SW L N sc (.BoolOp .And [a] pos) ea := by
  intro k X I
  obtain ⟨ta, h1, h2⟩ := ha k X I
  exact ⟨_, pw_and1 h1, h2⟩
theorem w_or1 (ha : ST L N sc a ea) : SW L N sc (.BoolOp .Or [a] pos) ea := by
  intro k X I
  obtain ⟨ta, h1, h2⟩ := ha k X I
  exact ⟨_, pw_or1 h1, h2⟩
theorem toB_if {Q : Bool → PHp → Prop} {A : PHp → Prop} {g : Bool} (A : PHp → Prop) : (fun (x : PV) ph1 => ∃ c, x = PV.bl c ∧ if c = g then A ph1 else toB Q (.bl (!g)) ph1) = toB fun c ph => if c = g then A ph else Q (!g) ph := by
  funext x ph1
  refine propext ⟨?_, ?_⟩
  · rintro ⟨b, e, q⟩
    refine ⟨b, e, ?_⟩
    by_cases h : b = g
    · rw [if_pos h] at q ⊢; exact q
    · rw [if_neg h] at q ⊢
      obtain ⟨b', e', q⟩ := q
      cases e'; exact q
  · rintro ⟨b, e, q⟩
    refine ⟨b, e, ?_⟩
    by_cases h : b = g
    · rw [if_pos h] at q ⊢; exact q
    · rw [if_neg h] at q ⊢
      exact ⟨_, rfl, q⟩
theorem w_and {rest : List Expr} (ha : ST L N sc a ea) (hb : SW L N sc (.BoolOp .And (b :: rest) pos) eb) : SW L N sc (.BoolOp .And (a :: b :: rest) pos) (.andE ea eb) := by
  intro k X I
  obtain ⟨ta, h1, h2⟩ := ha k X I
  obtain ⟨tb, h3, h4⟩ := hb k X I
  refine ⟨_, pw_and h1 h3, fun w env σ Q Q' o r q p => ?_⟩
  have q0 : wpE (callK L.pg k) L.G XF ea env w.ph (fun x ph1 => ∃ c, x = .bl c ∧ if c = true then wpE (callK L.pg k) L.G XF eb env ph1 (toB Q) else toB Q (.bl false) ph1) := q
  have e := toB_if (Q := Q) (A := fun _ => True) (g := true) fun ph1 => wpE (callK L.pg k) L.G XF eb env ph1 (toB Q)
  simp only [Bool.not_true] at e
  rw [e] at q0
  refine h2 w env σ _ _ o r q0 fun w1 c s1 o1 q => ?_
  cases c with
  | true =>
    simp only [if_true] at q ⊢
    exact h4 w1 env σ _ _ o1 (r.step s1 o) q (p.step s1)
  | false => exact p _ _ s1 o1 (by simpa using q)
theorem w_or {rest : List Expr} (ha : ST L N sc a ea) (hb : SW L N sc (.BoolOp .Or (b :: rest) pos) eb) : SW L N sc (.BoolOp .Or (a :: b :: rest) pos) (.orE ea eb) := by
  intro k X I
  obtain ⟨ta, h1, h2⟩ := ha k X I
  obtain ⟨tb, h3, h4⟩ := hb k X I
  refine ⟨_, pw_or h1 h3, fun w env σ Q Q' o r q p => ?_⟩
  have q0 : wpE (callK L.pg k) L.G XF ea env w.ph (fun x ph1 => ∃ c, x = .bl c ∧ if c = true then toB Q (.bl true) ph1 else wpE (callK L.pg k) L.G XF eb env ph1 (toB Q)) := q
  have e : (fun (x : PV) ph1 => ∃ c, x = PV.bl c ∧ if c = true then toB Q (.bl true) ph1 else wpE (callK L.pg k) L.G XF eb env ph1 (toB Q)) = toB fun c ph => if c = true then Q true ph else wpE (callK L.pg k) L.G XF eb env ph (toB Q) := by
    funext x ph1
    refine propext ⟨?_, ?_⟩
    · rintro ⟨b, e, q⟩
      refine ⟨b, e, ?_⟩
      cases b
      · simpa using q
      · simp only [if_true] at q ⊢
        obtain ⟨b', e', q⟩ := q
        cases e'; exact q
    · rintro ⟨b, e, q⟩
      refine ⟨b, e, ?_⟩
      cases b
      · simpa using q
      · simp only [if_true] at q ⊢
        exact ⟨_, rfl, q⟩
  rw [e] at q0
  refine h2 w env σ _ _ o r q0 fun w1 c s1 o1 q => ?_
  cases c with
  | false =>
    simp at q ⊢
    exact h4 w1 env σ _ _ o1 (r.step s1 o) q (p.step s1)
  | true => exact p _ _ s1 o1 (by simpa using q)
theorem s_ife (hc : ST L N sc c ec) (ha : SE L N sc a ea) (hb : SE L N sc b eb) : SE L N sc (.IfExp c a b pos) (.ife ec ea eb) := by
  intro k X I
  obtain ⟨tc, h5, h6⟩ := hc k X I
  obtain ⟨ta, h1, h2⟩ := ha k X I
  obtain ⟨tb, h3, h4⟩ := hb k X I
  refine ⟨_, pe_ifExp h5 h1 h3, fun w env σ Q Q' o r q p => ?_⟩
  refine h6 w env σ (fun kk ph1 => if kk = true then wpE (callK L.pg k) L.G XF ea env ph1 Q else wpE (callK L.pg k) L.G XF eb env ph1 Q) _ o r q fun w1 c s1 o1 q => ?_
  cases c with
  | true =>
    simp only [if_true] at q ⊢
    exact h2 w1 env σ _ _ o1 (r.step s1 o) q (p.step s1)
  | false =>
    simp at q ⊢
    exact h4 w1 env σ _ _ o1 (r.step s1 o) q (p.step s1)
end
end RL

/-! RLSound2: lists of expressions, displays, items, calls. -/
namespace RL
open PySem PySem.Spec PyProof.Rows L2
section
variable {L : Lw} {N : List Str} {sc : Scope} {a b c : Expr} {xs : List Expr} {es : List E} {ea eb ec : E} {pos p : Pos}
theorem In.hu {k : Nat} {X : Cx} (I : In L k N sc X) : X.A.units + 65 < cLine := by have := I.room.un; omega
/-! ### lists -/
theorem a_nil : SA L N sc [] [] := fun k X I => ⟨_, pa_nil, fun w env σ Q Q' o r q p => p w _ _ (Step.refl w) o .nil rfl q⟩
theorem a_cons (ha : SE L N sc a ea) (hr : SA L N sc xs es) (hs : ∀ env, starEach (a :: xs) env = (false, eval a env) :: starEach xs env := by intro _; rfl) : SA L N sc (a :: xs) (ea :: es) := by
  intro k X I
  obtain ⟨ta, h1, h2⟩ := ha k X I
  obtain ⟨tr, h3, h4⟩ := hr k X I
  refine ⟨_, pa_cons h1 h3 (hs _), fun w env σ Q Q' o r q p => ?_⟩
  refine h2 w env σ _ _ o r q fun w1 x v s1 o1 rv q => ?_
  refine h4 w1 env σ _ _ o1 (r.step s1 o) q fun w2 ys vs s2 o2 rs hl q => ?_
  exact p w2 _ _ (s1.trans s2) o2 (.cons (s2.rep o1 rv) rs) (by simp [hl]) q
theorem s_tup {k0} (h : SA L N sc xs es) : SE L N sc (.Tuple xs k0 pos) (.tup es) := by
  intro k X I
  obtain ⟨ta, h1, h2⟩ := h k X I
  refine ⟨_, pe_tup h1, fun w env σ Q Q' o r q p => ?_⟩
  refine h2 w env σ _ _ o r q fun w1 ys vs s1 o1 rs hl q => ?_
  exact ⟨by rw [rs.length]; exact q.1, (p.step s1).tup o1 rs q.2⟩
theorem s_lst {own : Bool} (h : SA L N sc xs es) : SE L N sc (.List xs pos) (.lst own es) := by
  intro k X I
  obtain ⟨ta, h1, h2⟩ := h k X I
  refine ⟨_, pe_lst h1, fun w env σ Q Q' o r q p => ?_⟩
  refine h2 w env σ _ _ o r q fun w1 ys vs s1 o1 rs hl q => ?_
  exact ⟨by rw [rs.length]; exact q.1, (p.step s1).lst o1 rs q⟩
/-! ### dicts -/
def SP (L : Lw) (N : List Str) (sc : Scope) (pos : Pos) (keys : List (Option Expr)) (vals : List Expr) (ks : List Atom) (es : List E) : Prop := ∀ k X, In L k N sc X → ∃ trs, PPs X pos keys vals trs ∧ ∀ (w : Wd) env σ Q Q', Ok X.K w → REnv X.K w env σ → wpEs (callK L.pg k) L.G XF es env w.ph Q →
  (∀ w' zs vs, Step w w' → Ok X.K w' → Reps X.K w'.H w'.μ zs vs → zs.length = ks.length → Q zs w'.ph → Q' ((ks.map Atom.v).zip vs) w'.H) → tPairs trs σ w.H Q'
theorem p_nil : SP L N sc pos [] [] [] [] := fun k X I => ⟨_, pps_nil, fun w env σ Q Q' o r q p => p w _ _ (Step.refl w) o .nil rfl q⟩
theorem p_cons {kx : Expr} {ka : Atom} {keys : List (Option Expr)} {vals : List Expr} {ks : List Atom} (hk : ∀ X : Cx, PE X kx (tC ka.v)) (ha : SE L N sc a ea) (hr : SP L N sc pos keys vals ks es) : SP L N sc pos (some kx :: keys) (a :: vals) (ka :: ks) (ea :: es) := by
  intro k X I
  obtain ⟨ta, h1, h2⟩ := ha k X I
  obtain ⟨tr, h3, h4⟩ := hr k X I
  refine ⟨_, pps_cons (hk X) h1 h3, fun w env σ Q Q' o r q p => ?_⟩
  refine h2 w env σ _ _ o r q fun w1 x v s1 o1 rv q => ?_
  refine h4 w1 env σ _ _ o1 (r.step s1 o) q fun w2 ys vs s2 o2 rs hl q => ?_
  exact p w2 _ _ (s1.trans s2) o2 (.cons (s2.rep o1 rv) rs) (by simp [hl]) q
theorem s_dict0 : SE L N sc (.Dict [] [] pos) (.dict [] []) := by
  intro k X I
  refine ⟨_, pe_dnewK, fun w env σ Q Q' o r q p => fun a ha => ?_⟩
  obtain ⟨kk, e, _, _, q⟩ := q
  cases e
  refine p (w.new a (.dK []) (.dK [])) (.ref w.ph.length) _ (Step.new ha) (o.new ha ⟨[], upd_same, .nil⟩) (.ref ?_) q
  show (w.μ.num ++ [a])[w.ph.length]? = some a
  rw [← o.len, List.getElem?_append_right (Nat.le_refl _), Nat.sub_self]; rfl
theorem merge_new : ∀ (kvs acc : List (Key × V)), (∀ p ∈ acc, p.1 ∉ kvs.map (·.1)) → (kvs.map (·.1)).Nodup → mergeK acc kvs = acc ++ kvs
  | [], acc, _, _ => by simp [mergeK]
  | p :: r, acc, h, nd => by
    have nd' := List.nodup_cons.mp (show (p.1 :: r.map (·.1)).Nodup from nd)
    have e : putK acc p.1 p.2 = acc ++ [(p.1, p.2)] := by
      unfold putK
      rw [if_neg]
      intro z
      obtain ⟨q, hq, e⟩ := List.any_eq_true.mp z
      exact h q hq (by simp [of_decide_eq_true e])
    show mergeK (putK acc p.1 p.2) r = _
    rw [e, merge_new r _ (fun q hq => ?_) nd'.2, List.append_assoc]; rfl
    rcases List.mem_append.mp hq with hq | hq
    · intro z; exact h q hq (by simp at z ⊢; exact .inr z)
    · rw [List.mem_singleton.mp hq]; exact nd'.1
theorem keys_zip {K : PySem.W.Frag} {H : Hp} {μ : Mu} : ∀ {ks : List Atom} {kk : List Key} {zs : List PV} {vs : List V}, keysOf (ks.map Atom.pv) = some kk → Reps K H μ zs vs → zs.length = ks.length →
    (ks.map Atom.v).zip vs = (kk.zip vs).map (fun kv => (kV kv.1, kv.2)) ∧ kk.length = vs.length ∧ RepK K H μ (kk.zip zs) (kk.zip vs)
  | [], _, _, _, e, .nil, _ => by simp [keysOf] at e; subst e; exact ⟨rfl, rfl, .nil⟩
  | k :: ks, kk, _, _, e, .cons h t, hl => by
    simp only [List.map_cons, keysOf] at e
    cases e1 : keyOf k.pv with
    | none => rw [e1] at e; simp at e
    | some k1 =>
      cases e2 : keysOf (ks.map Atom.pv) with
      | none => rw [e1, e2] at e; simp at e
      | some k2 =>
        rw [e1, e2] at e
        simp at e
        subst e
        obtain ⟨a1, a2, a3⟩ := keys_zip e2 t (by simpa using hl)
        refine ⟨?_, by simp [a2], .cons h a3⟩
        simp only [List.map_cons, List.zip_cons_cons, a1]
        congr 2
        cases k <;> simp [keyOf, Atom.pv] at e1 <;> subst e1 <;> rfl
theorem s_dict {keys : List (Option Expr)} {vals : List Expr} {ks : List Atom} (h : SP L N sc pos keys vals ks es) (hall : keys.all (·.isSome) = true := by rfl) (hl : keys.length = vals.length := by rfl) (h0 : keys ≠ [] := by simp) (h15 : keys.length ≤ 15 := by simp) :
    SE L N sc (.Dict keys vals pos) (.dict ks es) := by
  intro k X I
  obtain ⟨trs, h1, h2⟩ := h k X I
  refine ⟨_, pe_disp h1 hall hl h0 h15, fun w env σ Q Q' o r q p => fun D hD => ?_⟩
  have s0 := Step.put (w := w) (u := .dK []) hD
  have o0 := o.put (u := .dK []) hD
  refine h2 (w.put D (.dK [])) env σ _ _ o0 (r.step s0 o) q fun w1 zs vs s1 o1 rs hz q => ?_
  obtain ⟨kk, ek, nd, h15', q⟩ := q
  have hn : D ∉ (w.put D (.dK [])).μ.num := (o.notin hD).1
  have e1 : w1.H D = some (.dK []) := s1.keep D _ upd_same hn
  have hn1 : D ∉ w1.μ.num := by
    obtain ⟨l, el, f⟩ := s1.grow
    rw [el]
    intro z
    rcases List.mem_append.mp z with z | z
    · exact hn z
    · have e2 := f D z
      have e3 : (w.put D (.dK [])).H D = some (.dK []) := upd_same
      rw [e3] at e2; cases e2
  have bl : Blind w1 D := blind_dict o1 e1 hn1
  obtain ⟨a1, a2, a3⟩ := keys_zip ek rs hz
  refine ⟨e1, kk.zip vs, a1, by simp; omega, ?_⟩
  have hlz : kk.length = zs.length := by rw [a2, rs.length]
  have em : mergeK [] (kk.zip vs) = kk.zip vs := by
    rw [merge_new _ [] (by simp) (by rw [List.map_fst_zip (by omega)]; exact nd)]; rfl
  rw [em]
  refine p (w1.tell D (.dK (kk.zip vs)) (.dK (kk.zip zs))) (.ref w1.ph.length) _ (Step.tell o (s0.trans s1) hD) (o1.tell bl ⟨_, upd_same, repk_tell bl a3⟩) (.ref ?_) q
  show (w1.μ.num ++ [D])[w1.ph.length]? = some D
  rw [← o1.len, List.getElem?_append_right (Nat.le_refl _), Nat.sub_self]; rfl
/-! ### items -/
theorem s_idx (ha : SE L N sc a ea) (hb : SE L N sc b eb) (hp : PlainIx b := by intro _ _; rfl) : SE L N sc (.Subscript a b pos) (.idx ea eb) := by
  intro k X I
  obtain ⟨ta, h1, h2⟩ := ha k X I
  obtain ⟨tb, h3, h4⟩ := hb k X I
  refine ⟨_, pe_ix (idx_ok (X := X) (by have := I.hu; omega)) h1 h3 hp, fun w env σ Q Q' o r q p => ?_⟩
  refine h2 w env σ _ _ o r q fun w1 x v s1 o1 rv q => ?_
  refine h4 w1 env σ _ _ o1 (r.step s1 o) q fun w2 y u s2 o2 ru q => ?_
  exact ⟨w2, x, y, Q, rfl, o2, s2.rep o1 rv, ru, q, (p.step s1).step s2⟩
theorem o_none : SO L N sc none none := fun k X I => ⟨_, po_none, fun w env σ Q Q' o r q p => p w _ (Step.refl w) o q⟩
theorem o_some (ha : SE L N sc a ea) : SO L N sc (some a) (some ea) := by
  intro k X I
  obtain ⟨ta, h1, h2⟩ := ha k X I
  refine ⟨_, po_some h1, fun w env σ Q Q' o r q p => ?_⟩
  refine h2 w env σ _ _ o r q fun w1 x v s1 o1 rv q => ?_
  obtain ⟨i, rfl, q⟩ := q
  cases rv
  exact ⟨i, rfl, p _ _ s1 o1 q⟩
theorem s_sl {lo hi : Option Expr} {elo ehi : Option E} {own : Bool} {p2 : Pos} (ha : SE L N sc a ea) (hl : SO L N sc lo elo) (hh : SO L N sc hi ehi) : SE L N sc (.Subscript a (.Slice lo hi none p2) pos) (.sl own ea elo ehi) := by
  intro k X I
  obtain ⟨ta, h1, h2⟩ := ha k X I
  obtain ⟨tl, h3, h4⟩ := hl k X I
  obtain ⟨th, h5, h6⟩ := hh k X I
  refine ⟨_, pe_slice (sl_ok (X := X) own) h1 h3 h5, fun w env σ Q Q' o r q p => ?_⟩
  refine h2 w env σ _ _ o r q fun w1 x v s1 o1 rv q => ?_
  refine h4 w1 env σ _ _ o1 (r.step s1 o) q fun w2 l s2 o2 q => ?_
  refine h6 w2 env σ _ _ o2 ((r.step s1 o).step s2 o1) q fun w3 h s3 o3 q => ?_
  exact ⟨w3, x, Q, rfl, o3, (s2.trans s3).rep o1 rv, q, ((p.step s1).step s2).step s3⟩
theorem s_rev {own : Bool} {k0 : Nat} {p1 p2 p3 : Pos} (ha : SE L N sc a ea) : SE L N sc (.Subscript a (.Slice none none (some (.UnaryOp .USub (.Constant (.int 1) k0 p1) p2)) p3) pos) (.rev own ea) := by
  intro k X I
  obtain ⟨ta, h1, h2⟩ := ha k X I
  refine ⟨_, pe_revL h1, fun w env σ Q Q' o r q p => ?_⟩
  refine h2 w env σ _ _ o r q fun w1 x v s1 o1 rv q => ?_
  obtain ⟨xs, e, q⟩ := q
  obtain ⟨l, vs, rfl, e1, r1⟩ := lst_at o1 e rv
  exact ⟨l, vs, rfl, SqL.of e1, (p.step s1).lst o1 r1.reverse q⟩
/-! ### calls of defs -/
theorem run_g {X : Cx} {k : Nat} {f : Addr} {fd : FuncData} {ps : List Str} {sp : Sp} {pins : List (Addr × Obj)} {σ : L2.St} {H : Hp} {s : Shared} {Q : VK} {args : Args} {us : List Value} {vs : List V} (F : FnG X.prog X.w X.K X.mg X.base k f fd ps sp) (hg : X.A.guards = some []) (hr : Room k X.A)
    (hb : us.length = ps.length → BindsTo s fd args (ps.zip us)) (I : Inv X pins σ H s) (r : Vals vs us) (h : sp vs H Q E0) : codeAny (model X.prog X.w) X.A (.call (.ref f) args) (fun r s' => match r with | .ok (.ret u) => EP X pins σ Q u s' | _ => False) s := by
  have hl : us.length = ps.length := by rw [← r.length]; exact F.len _ _ _ _ h
  refine codeAny_mono (F.run X.A X.stack s H args us vs Q hg hr I.env0 (hb hl) r h) fun r s' hq => ?_
  cases r with
  | error e => exact hq.elim
  | ok fl =>
    cases fl with
    | ret u => exact I.after hq
    | next => exact False.elim hq
    | brk => exact False.elim hq
    | cont => exact False.elim hq
theorem run_g' {X : Cx} {k : Nat} {f : Addr} {fd : FuncData} {ps : List Str} {sp : Sp} {pins : List (Addr × Obj)} {σ : L2.St} {H : Hp} {s : Shared} {Q : VK} {us0 : List Value} {kw : List (Str × Value)} {us : List Value} {vs : List V} (F : FnG X.prog X.w X.K X.mg X.base k f fd ps sp) (hg : X.A.guards = some []) (hr : Room k X.A)
    (hb : us.length = ps.length → BindsTo s fd ⟨us0, kw⟩ (ps.zip us)) (I : Inv X pins σ H s) (r : Vals vs us) (h : sp vs H Q E0) : wpAny (model X.prog X.w) X.A (call (.ref f) us0 kw) (EP X pins σ Q) X.xe s := by
  refine wpAny_call (codeAny_mono (run_g F hg hr hb I r h) fun r s' hq => ?_)
  cases r with
  | error e => exact hq.elim
  | ok fl =>
    cases fl with
    | ret u => exact hq
    | next => exact False.elim hq
    | brk => exact False.elim hq
    | cont => exact False.elim hq
/-- how a def's arguments bind -/
def BindOk (d : Df) (st : Stmt) (n : Nat) (ks : List Str) (perm : List Nat) : Prop :=
  ∀ (kV doc pm : Value) (an : Option Addr) (cdv ct : Value) (us ws : List Value), us.length = n → ws.length = ks.length →
    ∃ as, perm.map (fun j => (us ++ ws)[j]?) = as.map some ∧ bindArgs (PySem.W.fnOf d.name d.name (defArgs st) (defBody st) (defScope st) .none kV doc pm an cdv ct) ⟨us, ks.zip ws⟩ = pure (d.ps.zip as)
theorem pick_reps {K : PySem.W.Frag} {H : Hp} {μ : Mu} {zs : List PV} {vs : List V} (r : Reps K H μ zs vs) : ∀ {perm : List Nat} {as : List PV}, pickL zs perm = some as → ∃ bs, perm.map (fun j => vs[j]?) = bs.map some ∧ Reps K H μ as bs
  | [], as, e => by cases e; exact ⟨[], rfl, .nil⟩
  | j :: l, as, e => by
    simp only [pickL] at e
    cases e1 : zs[j]? with
    | none => rw [e1] at e; simp at e
    | some x =>
      cases e2 : pickL zs l with
      | none => rw [e1, e2] at e; simp at e
      | some ls =>
        rw [e1, e2] at e; simp at e; subst e
        obtain ⟨v, hv, rv⟩ := r.get e1
        obtain ⟨bs, hb, rb⟩ := pick_reps r e2
        exact ⟨v :: bs, by simp [hv, hb], .cons rv rb⟩
theorem pick_vals {vs : List V} {us : List Value} (r : Vals vs us) : ∀ {perm : List Nat} {bs : List V} {cs : List Value}, perm.map (fun j => vs[j]?) = bs.map some → perm.map (fun j => us[j]?) = cs.map some → Vals bs cs
  | [], [], [], _, _ => .nil
  | [], [], _ :: _, _, e => by simp at e
  | [], _ :: _, _, e, _ => by simp at e
  | _ :: _, [], _, e, _ => by simp at e
  | _ :: _, _ :: _, [], _, e => by simp at e
  | j :: l, b :: bs, c :: cs, e, e' => by
    simp only [List.map_cons, List.cons.injEq] at e e'
    obtain ⟨u, hu, rv⟩ := r.get e.1
    rw [hu] at e'
    cases e'.1
    exact .cons rv (pick_vals r e.2 e'.2)
theorem map_some_inj {α : Type} : ∀ {xs ys : List α}, xs.map some = ys.map some → xs = ys
  | [], [], _ => rfl
  | [], _ :: _, e => by simp at e
  | _ :: _, [], e => by simp at e
  | x :: xs, y :: ys, e => by
    simp only [List.map_cons, List.cons.injEq, Option.some.injEq] at e
    rw [e.1, map_some_inj e.2]
theorem bind_to {K : PySem.W.Frag} {d : Df} {st : Stmt} {f : Addr} {fd : FuncData} {n : Nat} {ks : List Str} {perm : List Nat} (F : Fun K d.name d.name st f fd) (hb : BindOk d st n ks perm) {s : Shared} {us ws cs : List Value} (h1 : us.length = n) (h2 : ws.length = ks.length) (hc : perm.map (fun j => (us ++ ws)[j]?) = cs.map some) :
    BindsTo s fd ⟨us, ks.zip ws⟩ (d.ps.zip cs) := by
  obtain ⟨oc, od, kV, doc, pm, an, cdv, ct, osl, rfl, lk, hcd⟩ := F.ex
  obtain ⟨as, e1, e2⟩ := hb kV doc pm an cdv ct us ws h1 h2
  have : as = cs := map_some_inj (e1.symm.trans hc)
  subst this
  exact .of_eq e2
theorem map_get_self {α : Type} : ∀ (us : List α), (List.range us.length).map (fun j => us[j]?) = us.map some := fun us => by
  apply List.ext_getElem?
  intro i
  simp [List.getElem?_map, List.getElem?_range]
  by_cases h : i < us.length
  · simp [h]
  · simp [h]
theorem vals_len {vs : List V} {us : List Value} (r : Vals vs us) : us.length = vs.length := r.length.symm
/-- f(e, ..) -/
theorem s_call (f : Nat) {d : Df} {st : Stmt} {x : Str} (hd : L.pg.defs[f]? = some d) (hst : L.sts[f]? = some st) (hb : BindOk d st es.length [] (List.range es.length)) (hx : d.name = x) (hg : sc.names.lookup x = some .globalImplicit) (h : SA L N sc (a :: xs) es)
    (hdb : (x == ("__debug__" : Str)) = false := by decide) (he : ∀ env, starEach (a :: xs) env = (false, eval a env) :: starEach xs env := by intro _; rfl) (hpl : ∀ env, (backTo pos (starEach xs env)).any (·.1) = false := by intro _; rfl) :
    SE L N sc (.Call (.Name x p) (a :: xs) [] pos) (.call f es) := by
  intro k X I
  subst hx
  obtain ⟨ta, h1, h2⟩ := h k X I
  obtain ⟨fa, fd, hm, F, hF⟩ := I.calls f d st hd hst
  refine ⟨fun σ H Q => ta σ H fun vs H1 => vs.length = es.length ∧ spD X.K L.pg k f vs H1 Q E0, ⟨fun pins s σ H Q J hq => ?_⟩, fun w env σ Q Q' o r q p => ?_⟩
  · refine wpAny_Call_Name_kw (ld_glob J (gl_of I hg) hm ?_ hdb)
    refine PySem.W.callWith_K (h₀ := X.base) J.ok.mod.kin F.kp (thn (h1.run pos pins s σ H _ J hq) fun us s1 ⟨vs, H1, J1, r, hl, q⟩ => ⟨J1.kIn, ?_⟩) (he _) (hpl _)
    have e : us.length = es.length := by rw [vals_len r]; exact hl
    exact run_g' hF I.guards I.room (fun _ => bind_to (ws := []) F hb e rfl (by rw [← e, List.append_nil]; exact map_get_self us)) J1 r q
  · refine h2 w env σ _ _ o r q fun w1 ys vs s1 o1 rs hl q => ?_
    exact ⟨by rw [rs.length]; exact hl, w1, ys, Q, rfl, o1, rs, q, p.step s1⟩
/-- f() -/
theorem s_call0 (f : Nat) {d : Df} {st : Stmt} {x : Str} (hd : L.pg.defs[f]? = some d) (hst : L.sts[f]? = some st) (hb : BindOk d st 0 [] []) (hx : d.name = x) (hg : sc.names.lookup x = some .globalImplicit)
    (hdb : (x == ("__debug__" : Str)) = false := by decide) : SE L N sc (.Call (.Name x p) [] [] pos) (.call f []) := by
  intro k X I
  subst hx
  obtain ⟨fa, fd, hm, F, hF⟩ := I.calls f d st hd hst
  refine ⟨fun σ H Q => spD X.K L.pg k f [] H Q E0, ⟨fun pins s σ H Q J hq => ?_⟩, fun w env σ Q Q' o r q p => ?_⟩
  · refine wpAny_Call_Name_kw (ld_glob J (gl_of I hg) hm ?_ hdb)
    refine PySem.W.callWith_K0 J.kIn F.kp ?_
    exact run_g' (us := []) hF I.guards I.room (fun _ => bind_to (us := []) (ws := []) F hb rfl rfl rfl) J .nil hq
  · exact ⟨w, [], Q, rfl, o, .nil, q, p⟩
/-! keywords -/
def SK (L : Lw) (N : List Str) (sc : Scope) (kws : List Keyword) (es : List E) : Prop := ∀ k X, In L k N sc X → ∃ t, PK X kws t ∧ ∀ (w : Wd) env σ Q Q', Ok X.K w → REnv X.K w env σ → wpEs (callK L.pg k) L.G XF es env w.ph Q → PostL X.K w es.length Q Q' → t σ w.H Q'
theorem k_nil : SK L N sc [] [] := fun k X I => ⟨_, pk_nil, fun w env σ Q Q' o r q p => p w _ _ (Step.refl w) o .nil rfl q⟩
theorem k_cons {nm : Option Str} {kpos : Pos} {kws : List Keyword} (ha : SE L N sc a ea) (hr : SK L N sc kws es) : SK L N sc (⟨nm, a, kpos⟩ :: kws) (ea :: es) := by
  intro k X I
  obtain ⟨ta, h1, h2⟩ := ha k X I
  obtain ⟨tr, h3, h4⟩ := hr k X I
  refine ⟨_, pk_cons h1 h3, fun w env σ Q Q' o r q p => ?_⟩
  refine h2 w env σ _ _ o r q fun w1 x v s1 o1 rv q => ?_
  refine h4 w1 env σ _ _ o1 (r.step s1 o) q fun w2 ys vs s2 o2 rs hl q => ?_
  exact p w2 _ _ (s1.trans s2) o2 (.cons (s2.rep o1 rv) rs) (by simp [hl]) q
theorem picked {α : Type} {xs : List α} : ∀ {perm : List Nat}, (∀ j ∈ perm, j < xs.length) → ∃ cs : List α, perm.map (fun j => xs[j]?) = cs.map some
  | [], _ => ⟨[], rfl⟩
  | j :: l, h => by
    obtain ⟨cs, e⟩ := picked (perm := l) fun i hi => h i (List.mem_cons_of_mem _ hi)
    have hj := h j (List.mem_cons_self ..)
    exact ⟨xs[j] :: cs, by simp [e, hj]⟩
theorem pick_lt {zs : List PV} : ∀ {perm : List Nat} {as : List PV}, pickL zs perm = some as → ∀ j ∈ perm, j < zs.length
  | [], _, _ => by simp
  | j :: l, as, e => by
    simp only [pickL] at e
    cases e1 : zs[j]? with
    | none => rw [e1] at e; simp at e
    | some x =>
      cases e2 : pickL zs l with
      | none => rw [e1, e2] at e; simp at e
      | some ls =>
        intro i hi
        rcases List.mem_cons.mp hi with rfl | hi
        · exact (List.getElem?_eq_some_iff.mp e1).1
        · exact pick_lt e2 i hi
theorem callk_end {X : Cx} {k f : Nat} {d : Df} {st : Stmt} {fa : Addr} {fd : FuncData} {ks : List Str} {perm : List Nat} {n : Nat} (I : In L k N sc X) (F : Fun X.K d.name d.name st fa fd) (hF : FnG X.prog X.w X.K X.mg X.base k fa fd d.ps (spD X.K L.pg k f)) (hb : BindOk d st n ks perm)
    {pins : List (Addr × Obj)} {σ : L2.St} {H : Hp} {s : Shared} {Q : VK} {us ws : List Value} {vs zs : List V} (J : Inv X pins σ H s) (r : Vals vs us) (rz : Vals zs ws) (h1 : vs.length = n) (h2 : zs.length = ks.length)
    (q : ∃ bs, perm.map (fun j => (vs ++ zs)[j]?) = bs.map some ∧ spD X.K L.pg k f bs H Q E0) : wpAny (model X.prog X.w) X.A (call (.ref fa) us (ks.zip ws)) (EP X pins σ Q) X.xe s := by
  obtain ⟨bs, e, q⟩ := q
  have rr : Vals (vs ++ zs) (us ++ ws) := r.append rz
  have hlt : ∀ j ∈ perm, j < (us ++ ws).length := fun j hj => by
    have : (vs ++ zs)[j]? ∈ perm.map (fun j => (vs ++ zs)[j]?) := List.mem_map_of_mem hj
    rw [e] at this
    obtain ⟨b, _, eb⟩ := List.mem_map.mp this
    have := (List.getElem?_eq_some_iff.mp eb.symm).1
    rw [← rr.length]; exact this
  obtain ⟨cs, ec⟩ := picked hlt
  exact run_g' (us := cs) hF I.guards I.room (fun _ => bind_to F hb (by rw [vals_len r]; exact h1) (by rw [vals_len rz]; exact h2) ec) J (pick_vals rr e ec) q
/-- f(e, .., k = e, ..) -/
theorem s_callk (f : Nat) {d : Df} {st : Stmt} {x : Str} {ks : List Str} {perm : List Nat} {kes : List E} {kws : List Keyword} (hd : L.pg.defs[f]? = some d) (hst : L.sts[f]? = some st) (hb : BindOk d st es.length ks perm) (hx : d.name = x) (hg : sc.names.lookup x = some .globalImplicit) (h : SA L N sc (a :: xs) es) (hk : SK L N sc kws kes)
    (hks : ∀ env, (backToKw pos (keywordEach kws env)).filterMap (·.1) = ks := by intro _; rfl) (hl : kes.length = ks.length := by rfl) (hall : ∀ env, (backToKw pos (keywordEach kws env)).all (·.1.isSome) = true := by intro _; rfl)
    (hdb : (x == ("__debug__" : Str)) = false := by decide) (he : ∀ env, starEach (a :: xs) env = (false, eval a env) :: starEach xs env := by intro _; rfl)
    (hpl : ∀ env, ((backTo pos (starEach (a :: xs) env)).any (·.1) || (backToKw pos (keywordEach kws env)).any (·.1.isNone)) = false := by intro _; rfl) :
    SE L N sc (.Call (.Name x p) (a :: xs) kws pos) (.callk f es kes perm) := by
  intro k X I
  subst hx
  obtain ⟨ta, h1, h2⟩ := h k X I
  obtain ⟨tk, h3, h4⟩ := hk k X I
  obtain ⟨fa, fd, hm, F, hF⟩ := I.calls f d st hd hst
  refine ⟨fun σ H Q => ta σ H fun vs H1 => vs.length = es.length ∧ tk σ H1 fun zs H2 => zs.length = ks.length ∧ ∃ bs, perm.map (fun j => (vs ++ zs)[j]?) = bs.map some ∧ spD X.K L.pg k f bs H2 Q E0, ⟨fun pins s σ H Q J hq => ?_⟩, fun w env σ Q Q' o r q p => ?_⟩
  · refine wpAny_Call_Name_kw (ld_glob J (gl_of I hg) hm ?_ hdb)
    refine PySem.W.callWith_KW (h₀ := X.base) J.ok.mod.kin F.kp (hall _) (thn (h1.run pos pins s σ H _ J hq) fun us s1 ⟨vs, H1, J1, r, e1, q⟩ => ?_) (hpl _) (he _)
    refine thn (h3.run pos pins s1 σ H1 _ J1 q) fun ws s2 ⟨zs, H2, J2, rz, e2, q⟩ => ⟨J2.kIn, ?_⟩
    rw [hks]
    exact callk_end I F hF hb J2 r rz e1 e2 q
  · refine h2 w env σ _ _ o r q fun w1 ys vs s1 o1 rs e1 q => ?_
    refine ⟨by rw [rs.length]; exact e1, h4 w1 env σ _ _ o1 (r.step s1 o) q fun w2 yz zs s2 o2 rz e2 q => ?_⟩
    obtain ⟨as, e3, q⟩ := q
    obtain ⟨bs, e4, rb⟩ := pick_reps ((s2.reps o1 rs).append rz) e3
    exact ⟨by rw [rz.length, e2]; exact hl, bs, e4, w2, as, Q, rfl, o2, rb, q, (p.step s1).step s2⟩
/-- f(k = e, ..) -/
theorem s_callk0 (f : Nat) {d : Df} {st : Stmt} {x : Str} {ks : List Str} {perm : List Nat} {kes : List E} {kws : List Keyword} (hd : L.pg.defs[f]? = some d) (hst : L.sts[f]? = some st) (hb : BindOk d st 0 ks perm) (hx : d.name = x) (hg : sc.names.lookup x = some .globalImplicit) (hk : SK L N sc kws kes)
    (hks : ∀ env, (backToKw pos (keywordEach kws env)).filterMap (·.1) = ks := by intro _; rfl) (hl : kes.length = ks.length := by rfl) (hall : ∀ env, (backToKw pos (keywordEach kws env)).all (·.1.isSome) = true := by intro _; rfl)
    (hdb : (x == ("__debug__" : Str)) = false := by decide)
    (hpl : ∀ env, ((backTo pos (starEach [] env)).any (·.1) || (backToKw pos (keywordEach kws env)).any (·.1.isNone)) = false := by intro _; rfl) :
    SE L N sc (.Call (.Name x p) [] kws pos) (.callk f [] kes perm) := by
  intro k X I
  subst hx
  obtain ⟨tk, h3, h4⟩ := hk k X I
  obtain ⟨fa, fd, hm, F, hF⟩ := I.calls f d st hd hst
  refine ⟨fun σ H Q => tk σ H fun zs H2 => zs.length = ks.length ∧ ∃ bs, perm.map (fun j => (([] : List V) ++ zs)[j]?) = bs.map some ∧ spD X.K L.pg k f bs H2 Q E0, ⟨fun pins s σ H Q J hq => ?_⟩, fun w env σ Q Q' o r q p => ?_⟩
  · refine wpAny_Call_Name_kw (ld_glob J (gl_of I hg) hm ?_ hdb)
    refine PySem.W.callWith_KW0 (h₀ := X.base) J.ok.mod.kin F.kp (hall _) (thn (h3.run pos pins s σ H _ J hq) fun ws s2 ⟨zs, H2, J2, rz, e2, q⟩ => ⟨J2.kIn, ?_⟩) (hpl _)
    rw [hks]
    exact callk_end (us := []) (vs := []) I F hF hb J2 .nil rz rfl e2 q
  · have q' : wpEs (callK L.pg k) L.G XF kes env w.ph fun zs ph2 => ∃ as, pickL ([] ++ zs) perm = some as ∧ callK L.pg k f as ph2 Q XF := q
    refine h4 w env σ _ _ o r q' fun w2 yz zs s2 o2 rz e2 q => ?_
    obtain ⟨as, e3, q⟩ := q
    obtain ⟨bs, e4, rb⟩ := pick_reps (vs := [] ++ zs) rz e3
    exact ⟨by rw [rz.length, e2]; exact hl, bs, e4, w2, as, Q, rfl, o2, rb, q, p.step s2⟩
end
end RL

/-! RLSound3: built-in functions, methods. -/
namespace RL
open PySem PySem.Spec PyProof.Rows L2
section
variable {L : Lw} {N : List Str} {sc : Scope} {a b c : Expr} {xs : List Expr} {es : List E} {ea eb ec : E} {pos p : Pos}
def biT : Bi → Option String
  | .tuple => some "tuple" | .list => some "list" | .int => some "int" | .str => some "str"
  | _ => none
def biB : Bi → Option String
  | .len => some "len" | .repr => some "repr" | .sum => some "sum" | .min => some "min" | .max => some "max" | .abs => some "abs" | .sorted => some "sorted" | .all => some "all" | .any => some "any"
  | _ => none
theorem bi_ok {k : Nat} {X : Cx} (I : In L k N sc X) (b : Bi) (own : Bool) : CallR X (biF b) (liftN X.K (biS b own)) := by
  have hu := I.hu
  cases b with
  | len => exact len_ok own
  | tuple => exact tuple_ok own
  | list => exact list_ok own
  | int => exact int_ok own
  | repr => exact repr_ok I.sys I.guards (by omega) own
  | sum => exact sum_ok I.calm own
  | min => exact min_ok I.calm own
  | max => exact max_ok I.calm own
  | abs => exact abs_ok own
  | sorted => exact sorted_ok (by omega) own
  | all => exact all_ok I.calm own
  | any => exact any_ok I.calm own
  | str => exact str_ok own
  | set => exact fun pins s σ H xs us Q I r h => by obtain ⟨w, as, Q, rfl, o, r, h, p⟩ := h; exact h.elim
theorem liftN_end {X : Cx} {w w1 : Wd} {b : Bi} {own : Bool} {ys : List PV} {vs : List V} {Q : QV} {Q' : VK} (s1 : Step w w1) (o1 : Ok X.K w1) (rs : Reps X.K w1.H w1.μ ys vs) (q : biS b own ys w1.ph Q) (p : Post X.K w Q Q') : liftN X.K (biS b own) vs w1.H Q' := ⟨w1, ys, Q, rfl, o1, rs, q, p.step s1⟩
/-- len(..), .. -/
theorem s_bi (b : Bi) {own : Bool} {x : Str} {id : String} (hb : biF b = .builtin id) (hv : bootBuiltins x = some (.builtin id)) (hg : sc.names.lookup x = some .globalImplicit) (h : SA L N sc (a :: xs) es) (hx : x ∈ bnames := by decide) (hn : x ≠ "__name__" := by decide) (hdb : (x == ("__debug__" : Str)) = false := by decide)
    (he : ∀ env, starEach (a :: xs) env = (false, eval a env) :: starEach xs env := by intro _; rfl) (hpl : ∀ env, (backTo pos (starEach xs env)).any (·.1) = false := by intro _; rfl) : SE L N sc (.Call (.Name x p) (a :: xs) [] pos) (.bi b own es) := by
  intro k X I
  obtain ⟨ta, h1, h2⟩ := h k X I
  have hc := bi_ok I b own
  rw [hb] at hc
  refine ⟨_, pe_callB hc (gl_of I hg) (I.blt x hx) hv h1 hn hdb (he _) (hpl _), fun w env σ Q Q' o r q p => ?_⟩
  exact h2 w env σ _ _ o r q fun w1 ys vs s1 o1 rs _ q => liftN_end s1 o1 rs q p
theorem s_ty (b : Bi) {own : Bool} {x : Str} {id : String} (hb : biF b = .type id) (hv : bootBuiltins x = some (.type id)) (hg : sc.names.lookup x = some .globalImplicit) (h : SA L N sc (a :: xs) es) (hx : x ∈ bnames := by decide) (hn : x ≠ "__name__" := by decide) (hdb : (x == ("__debug__" : Str)) = false := by decide)
    (he : ∀ env, starEach (a :: xs) env = (false, eval a env) :: starEach xs env := by intro _; rfl) (hpl : ∀ env, (backTo pos (starEach xs env)).any (·.1) = false := by intro _; rfl) : SE L N sc (.Call (.Name x p) (a :: xs) [] pos) (.bi b own es) := by
  intro k X I
  obtain ⟨ta, h1, h2⟩ := h k X I
  have hc := bi_ok I b own
  rw [hb] at hc
  refine ⟨_, pe_callTy hc (gl_of I hg) (I.blt x hx) hv h1 hn hdb (he _) (hpl _), fun w env σ Q Q' o r q p => ?_⟩
  exact h2 w env σ _ _ o r q fun w1 ys vs s1 o1 rs _ q => liftN_end s1 o1 rs q p
theorem tyV_lst {X : Cx} {w : Wd} (o : Ok X.K w) {x : PV} {v : V} (h : (lstOf w.ph x).isSome = true) (r : Rep X.K w.H w.μ x v) : tyV X.K "list" v w.H := by
  obtain ⟨xs, e⟩ := Option.isSome_iff_exists.mp h
  obtain ⟨q, vs, rfl, e1, _⟩ := lst_at o e r
  exact .inl ⟨rfl, vs, SqL.of e1⟩
theorem mt_slot (m : Mt) : ∃ n : Str, Slot "list" n (mtN m) ∧ typeOf (.builtin (mtN m)) = pure (.type "method_descriptor") := by
  cases m with
  | append => exact ⟨_, PySem.F.slot_list_append, PySem.F.type_list_append⟩
  | pop => exact ⟨_, PySem.F.slot_list_pop, PySem.F.type_list_pop⟩
  | popAt => exact ⟨_, PySem.F.slot_list_pop, PySem.F.type_list_pop⟩
  | extend => exact ⟨_, PySem.F.slot_list_extend, PySem.F.type_list_extend⟩
  | index => exact ⟨_, PySem.F.slot_list_index, PySem.F.type_list_index⟩
  | count => exact ⟨_, PySem.F.slot_list_count, PySem.F.type_list_count⟩
/-- xs.append(..), .. -/
theorem s_mt (m : Mt) {n : Str} {apos : Pos} (slot : Slot "list" n (mtN m)) (hty : typeOf (.builtin (mtN m)) = pure (.type "method_descriptor")) (ha : SE L N sc a ea) (h : SA L N sc (b :: xs) es)
    (hbase : ∀ env, attributeBase a n env (eval a env) = eval a env := by intro _; rfl)
    (hfew : ∀ env, ((backTo pos (starEach (b :: xs) env)).all (fun x => !x.1) && (backToKw pos (keywordEach [] env)).all (fun x => x.1.isSome)
      && decide ((b :: xs).length + ([] : List Keyword).length + (if ([] : List Keyword).isEmpty then 0 else 1) < 30)) = true := by intro _; rfl)
    (hline : (apos.endLine == pos.line) = true := by rfl) (hs : ∀ env, starEach (b :: xs) env = (false, eval b env) :: starEach xs env := by intro _; rfl) (hplain : ∀ env, (backTo pos (starEach xs env)).any (·.1) = false := by intro _; rfl) :
    SE L N sc (.Call (.Attribute a n apos) (b :: xs) [] pos) (.mt m ea es) := by
  intro k X I
  obtain ⟨ta, h1, h2⟩ := ha k X I
  obtain ⟨tb, h3, h4⟩ := h k X I
  refine ⟨_, pe_bm PySem.F.plainAttrs_list slot hty (mt_ok (X := X) I.hu m) h1 h3 (hbase _) (hfew _) hline (hs _) (hplain _), fun w env σ Q Q' o r q p => ?_⟩
  refine h2 w env σ _ _ o r q fun w1 x v s1 o1 rv q => ⟨tyV_lst o1 q.1 rv, ?_⟩
  refine h4 w1 env σ _ _ o1 (r.step s1 o) q.2 fun w2 ys vs s2 o2 rs hl q => ?_
  exact ⟨w2, x, ys, Q, rfl, o2, s2.rep o1 rv, rs, q, (p.step s1).step s2⟩
theorem s_mt0 (m : Mt) {n : Str} {apos : Pos} (slot : Slot "list" n (mtN m)) (hty : typeOf (.builtin (mtN m)) = pure (.type "method_descriptor")) (ha : SE L N sc a ea)
    (hbase : ∀ env, attributeBase a n env (eval a env) = eval a env := by intro _; rfl) (hline : (apos.endLine == pos.line) = true := by rfl) :
    SE L N sc (.Call (.Attribute a n apos) [] [] pos) (.mt m ea []) := by
  intro k X I
  obtain ⟨ta, h1, h2⟩ := ha k X I
  refine ⟨_, pe_bm0 PySem.F.plainAttrs_list slot hty (mt_ok (X := X) I.hu m) h1 (hbase _) hline, fun w env σ Q Q' o r q p => ?_⟩
  refine h2 w env σ _ _ o r q fun w1 x v s1 o1 rv q => ⟨tyV_lst o1 q.1 rv, ?_⟩
  exact ⟨w1, x, [], Q, rfl, o1, rv, .nil, q.2, p.step s1⟩
/-- isinstance(x, T) -/
theorem s_isin (ty : Ty) {x : Str} {pt : Pos} (hg : sc.names.lookup ("isinstance" : Str) = some .globalImplicit) (hgt : sc.names.lookup x = some .globalImplicit) (hv : bootBuiltins x = some (.type (tyN ty))) (ha : SE L N sc a ea) (hx : x ∈ bnames := by decide) (hn : x ≠ "__name__" := by decide) (hdb : (x == ("__debug__" : Str)) = false := by decide)
    (he : ∀ env, starEach [a, .Name x pt] env = (false, eval a env) :: starEach [.Name x pt] env := by intro _; rfl) : SE L N sc (.Call (.Name "isinstance" p) [a, .Name x pt] [] pos) (.isin ea ty) := by
  intro k X I
  obtain ⟨ta, h1, h2⟩ := ha k X I
  have hT : PE X (.Name x pt) (tC (.ty (tyN ty))) := pe_bltn (gl_of I hgt) (I.blt x hx) hv rfl hn hdb
  refine ⟨_, pe_callB call_isi (gl_of I hg) (I.blt "isinstance" (by decide)) PyProof.Rows.boot_isinstance (pa_cons h1 (pa_cons hT pa_nil (by rfl)) (he _)) (by decide) (by decide) (he _) (by rfl), fun w env σ Q Q' o r q p => ?_⟩
  refine h2 w env σ _ _ o r q fun w1 y v s1 o1 rv q => ?_
  obtain ⟨t, e1, ty1⟩ := pvT_ty o1 rfl rv
  exact ⟨v, .ty (tyN ty), .type t, .type (tyN ty), tyIs ty w1.ph y, rfl, .ty _, ty1, kit_ty (pvT_is e1 ty), p _ _ _ s1 o1 (.bl _) q⟩
/-! ### list(range(..)) -/
theorem rg_items {i j : Int} (h : rOk i j) : (rngL i j 1).length = (j - i).toNat ∧ ∀ (K : PySem.W.Frag) (H : Hp) (μ : Mu), Reps K H μ (rngL i j 1) (rgV i j) := by
  have e : (Builtin.Range.rangeSize i j 1).toNat = (j - i).toNat := by rw [rangeSize_one]; split <;> omega
  refine ⟨by simp [rngL, e], fun K H μ => ?_⟩
  unfold rngL rgV
  rw [e]
  refine reps_map fun b _ => ?_
  rw [Int.mul_one]
  exact .int _
theorem rg_ok {i j : Int} (h : rOk i j) (hl : (rngL i j 1).length ≤ 1000000) : RgOk i j := by
  rw [(rg_items h).1] at hl
  obtain ⟨a, b, c, d⟩ := h
  exact ⟨a, b, c, d, by omega⟩
def rgS (vs : List PV) (Q : Int → Int → Prop) : Prop := match vs with
  | [.int j] => Q 0 j
  | [.int i, .int j] => Q i j
  | _ => False
theorem rgS_of {vs : List PV} {items : List PV} {Q : Int → Int → Prop} (h1 : rng12 vs = some items) (h2 : ∀ i j, rOk i j → items = rngL i j 1 → Q i j) : rgS vs Q := by
  unfold rng12 at h1
  split at h1
  · split at h1
    · rename_i hr; cases h1; exact h2 _ _ hr rfl
    · cases h1
  · split at h1
    · rename_i hr; cases h1; exact h2 _ _ hr rfl
    · cases h1
  · cases h1
/-- range(a), range(a, b) -/
def SG (L : Lw) (N : List Str) (sc : Scope) (x : Expr) (es : List E) : Prop := ∀ k X, In L k N sc X → ∃ t, PRg X x t ∧ ∀ (w : Wd) env σ Q Q', Ok X.K w → REnv X.K w env σ → wpEs (callK L.pg k) L.G XF es env w.ph Q →
  (∀ w' vs, Step w w' → Ok X.K w' → Q vs w'.ph → rgS vs fun i j => Q' i j w'.H) → t σ w.H Q'
theorem g_1 (hg : sc.names.lookup ("range" : Str) = some .globalImplicit) (ha : SE L N sc a ea) (na : ∀ env, starEach [a] env = (false, eval a env) :: starEach [] env := by intro _; rfl) : SG L N sc (.Call (.Name "range" p) [a] [] pos) [ea] := by
  intro k X I
  obtain ⟨ta, h1, h2⟩ := ha k X I
  refine ⟨_, prg_1 (gl_of I hg) (I.blt "range" (by decide)) h1 (na _), fun w env σ Q Q' o r q p => ?_⟩
  refine h2 w env σ _ _ o r q fun w1 y v s1 o1 rv q => ?_
  have := p w1 [y] s1 o1 q
  unfold rgS at this
  cases rv <;> first | exact this.elim | exact ⟨_, rfl, this⟩
theorem g_2 (hg : sc.names.lookup ("range" : Str) = some .globalImplicit) (ha : SE L N sc a ea) (hb : SE L N sc b eb) (na : ∀ env, starEach [a, b] env = (false, eval a env) :: starEach [b] env := by intro _; rfl)
    (nb : ∀ env, starEach [b] env = (false, eval b env) :: starEach [] env := by intro _; rfl) (hp : ∀ env, (backTo pos (starEach [b] env)).any (·.1) = false := by intro _; rfl) : SG L N sc (.Call (.Name "range" p) [a, b] [] pos) [ea, eb] := by
  intro k X I
  obtain ⟨ta, h1, h2⟩ := ha k X I
  obtain ⟨tb, h3, h4⟩ := hb k X I
  refine ⟨_, prg_2 (gl_of I hg) (I.blt "range" (by decide)) h1 h3 (na _) (nb _) (hp _), fun w env σ Q Q' o r q p => ?_⟩
  refine h2 w env σ _ _ o r q fun w1 y v s1 o1 rv q => ?_
  refine h4 w1 env σ _ _ o1 (r.step s1 o) q fun w2 z u s2 o2 ru q => ?_
  have := p w2 [y, z] (s1.trans s2) o2 q
  unfold rgS at this
  cases rv <;> first | exact this.elim | (cases ru <;> first | exact this.elim | exact ⟨_, _, rfl, rfl, this⟩)
theorem s_rngL {own : Bool} {x : Expr} (hg : sc.names.lookup ("list" : Str) = some .globalImplicit) (h : SG L N sc x es) (na : ∀ env, starEach [x] env = (false, eval x env) :: starEach [] env := by intro _; rfl) : SE L N sc (.Call (.Name "list" p) [x] [] pos) (.rng false own es) := by
  intro k X I
  obtain ⟨t, h1, h2⟩ := h k X I
  refine ⟨_, pe_listRg I.calm (gl_of I hg) (I.blt "list" (by decide)) h1 (na _), fun w env σ Q Q' o r q p => ?_⟩
  refine h2 w env σ _ _ o r q fun w1 vs s1 o1 q => ?_
  obtain ⟨xs, e, hl, q⟩ := q
  refine rgS_of e fun i j hr hx => ?_
  subst hx
  exact ⟨rg_ok hr hl, (p.step s1).lst o1 ((rg_items hr).2 _ _ _) (by simpa using q)⟩
theorem s_rngT {own : Bool} {x : Expr} (hg : sc.names.lookup ("tuple" : Str) = some .globalImplicit) (h : SG L N sc x es) (na : ∀ env, starEach [x] env = (false, eval x env) :: starEach [] env := by intro _; rfl) : SE L N sc (.Call (.Name "tuple" p) [x] [] pos) (.rng true own es) := by
  intro k X I
  obtain ⟨t, h1, h2⟩ := h k X I
  refine ⟨_, pe_tupRg I.calm (gl_of I hg) (I.blt "tuple" (by decide)) h1 (na _), fun w env σ Q Q' o r q p => ?_⟩
  refine h2 w env σ _ _ o r q fun w1 vs s1 o1 q => ?_
  obtain ⟨xs, e, hl, q⟩ := q
  refine rgS_of e fun i j hr hx => ?_
  subst hx
  exact ⟨rg_ok hr hl, (p.step s1).tup o1 ((rg_items hr).2 _ _ _) (by simpa using q)⟩
end
end RL

/-! RLSound4: walks. -/
namespace RL
open PySem PySem.Spec PyProof.Rows L2

/-! ### enumerate of a tuple -/
theorem enumNew1 {v : Value} {o : Obj} {H : Heap → Prop} (B : Begins v o H) :
    Meets (Builtin.«enumerate.__new__» ⟨[.type "enumerate", v], []⟩) (fun _ R s => H s.heap ∧
      R (.ok (.ret (.ref (s.heap.push o).objs.size))) { s with heap := (s.heap.push o).push { cls := .type "enumerate", data := .fields #[.none, .bool false, .ref s.heap.objs.size, rawInt 0, .none, .none] } }) :=
  .of_wp fun prog w A R s h => by
    obtain ⟨hp, g, d, tk, os⟩ := s
    obtain ⟨h1, h⟩ := h
    have hsub := sub_enumerate
    have q1 : ∀ {A' : Around} {E : Value → Shared → Prop} {Q : Value → Shared → Prop}, Q (.ref hp.objs.size) ⟨hp.push o, g, d, tk, os⟩ → wpAny (model prog w) A' (pyIter v) Q E ⟨hp, g, d, tk, os⟩ :=
      fun q => B.iter prog w _ _ ⟨hp, g, d, tk, os⟩ _ h1 q
    wp_walk using q1
    refine wpAny_stack_any fun st => wpAny_pure ?_
    split
    · rename_i c _ _ _ _ _
      cases (c == Value.type "enumerate") <;> (wp_walk using q1; exact ⟨_, rfl, h⟩)
    · wp_walk using q1
      exact ⟨_, rfl, h⟩
section
variable {prog : Program} {w : World} {A : Around} {E : Value → Shared → Prop} {s : Shared}
theorem enumCall1 {v : Value} {o : Obj} {H : Heap → Prop} {Q : Value → Shared → Prop} (B : Begins v o H) (h1 : H s.heap)
    (h : ∀ h', IsEnum h' (s.heap.objs.size + 1) s.heap.objs.size 0 .none → h'.get? s.heap.objs.size = some o → (∀ b o, s.heap.get? b = some o → h'.get? b = some o) → Q (.ref (s.heap.objs.size + 1)) { s with heap := h' }) :
    wpAny (model prog w) A (call (.type "enumerate") [v]) Q E s := by
  refine callType_new F.called_enumerate (by decide) (F.typeCall_enumerate_1 _) (F.newCall_enumerate_1 _) (fun obj => F.args_object_init_2 obj _) F.entry_enumerate_new (enumNew1 B) ⟨h1, ?_⟩
  have hz : (s.heap.push o).objs.size = s.heap.objs.size + 1 := Heap.size_push ..
  show _ ∧ _
  rw [hz]
  have he : ((s.heap.push o).push { cls := .type "enumerate", data := .fields #[.none, .bool false, .ref s.heap.objs.size, rawInt 0, .none, .none] }).get? (s.heap.push o).objs.size = some { cls := .type "enumerate", data := .fields #[.none, .bool false, .ref s.heap.objs.size, rawInt 0, .none, .none] } := Heap.get?_push_size _ rfl
  rw [hz] at he
  exact ⟨⟨_, he, rfl⟩, h _ he (Heap.get?_push_of_some _ (Heap.get?_push_size _ B.free)) fun b o x => Heap.get?_push_of_some _ (Heap.get?_push_of_some _ x)⟩
end
/-- the items of the tuple at a, in pairs -/
def IteT (K : PySem.W.Frag) (a : Addr) : It :=
  ⟨fun i H => ∃ (xs : List V) (x : V), SqT K H a xs ∧ xs[i]? = some x, fun i H v H' => ∃ T x, v = .ref T ∧ H T = none ∧ H' = upd H T (.tup [.int (i : Nat), x]) ∧ ∀ xs, SqT K H a xs → xs[i]? = some x, fun i H => ∃ xs : List V, SqT K H a xs ∧ xs.length = i⟩
theorem fp_out {X : Cx} {pins : List (Addr × Obj)} {σ : L2.St} {H : Hp} {s : Shared} (I : Inv X pins σ H s) {a it : Addr} {its : Array Value} (h : s.heap.IsTuple a its) {o : Obj} {c : String} (hi : s.heap.get? it = some o) (hc : o.cls = .type c) (ne : c ≠ "tuple") : a ≠ it := by
  rintro rfl
  obtain ⟨o', e, e2, _⟩ := h
  rw [hi] at e
  cases e
  rw [hc] at e2
  injection e2 with e2
  exact ne e2
theorem turn_enumT {P : Program} {w : World} {K : PySem.W.Frag} {elts : List Expr} {kk : Nat} {tpos : Pos} (a e it : Addr) :
    Turn P w K (.Tuple elts kk tpos) (IteT K a) [e, it] e (fun i h => (∃ old, IsEnum h e it ((i : Nat) : Int) old) ∧ h.IsTupleIter it a i ∧ e ≠ it) where
  mem := by simp
  obj := fun i h st b hb => by
    obtain ⟨⟨old, he⟩, ⟨o, ho, hc, hd⟩, _⟩ := st
    have e' : b = e ∨ b = it := by simpa using hb
    rcases e' with z | z
    · rw [z]; exact ⟨_, he, fun v q => nomatch q⟩
    · rw [z]; exact ⟨o, ho, fun v q => by rw [hd] at q; cases q⟩
  keep := fun i h h' st k => let ⟨⟨old, he⟩, hi, hne⟩ := st; ⟨⟨old, k e (by simp) _ he⟩, hi.at fun o q => k it (by simp) o q, hne⟩
  item := by
    intro X hP hw hK hc i pins s σ H E I hf st hg
    subst hP hw hK
    obtain ⟨⟨old, he⟩, hit, hne⟩ := st
    obtain ⟨xs, x, hq, hx⟩ := hg
    obtain ⟨its, rv, p, hz⟩ := I.tuple hq
    have hlt : i < its.toArray.size := by
      have := (List.getElem?_eq_some_iff.mp hx).1
      rw [List.size_toArray, ← rv.length]; exact this
    have hel : e < s.heap.objs.size := Heap.lt_size he
    have hne1 : a ≠ it := by obtain ⟨o, q, c, _⟩ := hit; exact fp_out I (show s.heap.IsTuple a its.toArray from p) q c (by decide)
    have hne2 : a ≠ e := fp_out I (show s.heap.IsTuple a its.toArray from p) (show s.heap.get? e = some _ from he) rfl (by decide)
    have D := Draws.tuple (prog := X.prog) (w := X.w) (A := X.A.in1) (I.ok.hd hc) it a hne1 its.toArray
    refine wpAny_pyNext_enum_itemD D he ⟨hit, p⟩ hlt hne (by simp; exact ⟨hne, Ne.symm hne2⟩) fun u h' tk hu ho hst hT hsz hk => ?_
    obtain ⟨hit', _⟩ := hst
    have hu' : its[i]? = some u := by simpa using hu
    have ru : RelV x u := by
      obtain ⟨u2, e2, r2⟩ := rv.get hx
      rw [hu'] at e2; cases e2; exact r2
    refine ⟨_, rfl, wpAny_letOwnedTupleGo_enum (s := { s with heap := h', toks := tk + 1 }) ho fun h'' he' sb => ?_⟩
    have hT2 : h''.get? s.heap.objs.size = some { cls := .type "tuple", data := .seq #[.int i tk, u] } := (sb.2 _ (Nat.ne_of_gt hel)).trans hT
    have new : ObjOk X.prog X.w (upd H s.heap.objs.size (.tup [.int (i : Nat), x])) h'' s.heap.objs.size (.tup [.int (i : Nat), x]) :=
      ⟨by show 2 ≤ sizeLine; decide, [.int i tk, u], .cons ⟨_, rfl⟩ (.cons ru .nil), ⟨_, hT2, rfl, _, rfl⟩⟩
    have I1 : Inv X pins σ (upd H s.heap.objs.size (.tup [.int (i : Nat), x])) { s with heap := h'', toks := tk + 1 } :=
      I.turnedNew (ch := [e, it]) (fun b ob hb q => (sb.2 b (fun z => hb (by simp [z]))).trans (hk b ob (fun z => hb (by simp [z])) (fun z => hb (by simp [z])) q)) hf (Nat.le_refl _) new
    refine ⟨.ref s.heap.objs.size, _, I1, rfl, ⟨_, x, rfl, I.hok.fresh (Nat.le_refl _), rfl, fun ys hy => by rw [I.tuple_inj hy hq]; exact hx⟩, ⟨⟨u, ?_⟩, hit'.at fun o q => (sb.2 it (Ne.symm hne)).trans q, hne⟩, fun b hb => ?_⟩
    · have e1 : ((i + 1 : Nat) : Int) = (i : Int) + 1 := by omega
      rw [e1]; exact he'
    · have hil : it < s.heap.objs.size := by obtain ⟨_, q, _⟩ := hit; exact Heap.lt_size q
      have hb' : b < s.heap.objs.size := by
        have e' : b = e ∨ b = it := by simpa using hb
        rcases e' with z | z
        · rw [z]; exact hel
        · rw [z]; exact hil
      rw [upd_ne (Nat.ne_of_lt hb')]
      exact (hf b hb).1
  done := by
    intro X hP hw hK hc i pins s σ H E I hf st hg
    subst hP hw hK
    obtain ⟨⟨old, he⟩, hit, hne⟩ := st
    obtain ⟨xs, hq, hx⟩ := hg
    obtain ⟨its, rv, p, hz⟩ := I.tuple hq
    obtain ⟨f0, f1, f2, f3, f4, f5⟩ := hf it (by simp)
    have hne1 : a ≠ it := by obtain ⟨o, q, c, _⟩ := hit; exact fp_out I (show s.heap.IsTuple a its.toArray from p) q c (by decide)
    have D := Draws.tuple (prog := X.prog) (w := X.w) (A := X.A.in1) (I.ok.hd hc) it a hne1 its.toArray
    have hi : i = its.toArray.size := by rw [List.size_toArray, ← rv.length]; omega
    exact wpAny_pyNext_enum_endD D he ⟨hi ▸ hit, p⟩ fun h' eb => ⟨rfl, I.turned (t' := s.toks) (fun b o hb q => eb b o hb q) f0 f1 f3 f4 f5⟩
  self := fun A i s Q E st h => let ⟨⟨_, he⟩, _⟩ := st; wpAny_pyIter_enum he h
/-- enumerate(list or tuple) -/
def iEnumA (K : PySem.W.Frag) (ta : TA) : L2.TI := fun σ H R => ta σ H fun vs H1 => ∃ a xs, vs = [.ref a] ∧ ((SqL K H1 a xs ∧ R (Ite K a) H1) ∨ (SqT K H1 a xs ∧ R (IteT K a) H1))
theorem pi_enumA {X : Cx} {e : Expr} {ta : TA} {p pos tpos : Pos} {elts : List Expr} {kk : Nat} (hg : Gl X "enumerate") (hm : X.mg "enumerate" = none) (ha : PA X [e] ta) (hs : starEach [e] X.env = [(false, eval e X.env)]) :
    PI X (.Tuple elts kk tpos) (.Call (.Name "enumerate" p) [e] [] pos) (iEnumA X.K ta) := by
  refine ⟨fun pins s σ H R I h => ?_⟩
  refine Call_ (ld_blt I hg hm boot_enumerate (PyProof.Rows.callWith_type1 (thn (ha.run pos pins s σ H _ I h) fun us s1 ⟨vs, H1, I1, r1, q1⟩ => ?_) hs rfl))
  obtain ⟨a, xs, ex, q1⟩ := q1
  subst ex
  obtain ⟨u, rfl, ru⟩ := vals1 r1
  cases ru
  have fresh2 : ∀ b ∈ [s1.heap.objs.size + 1, s1.heap.objs.size], FpOk X pins H1 b := fun b hb => by
    have e' : b = s1.heap.objs.size + 1 ∨ b = s1.heap.objs.size := by simpa using hb
    have hle : s1.heap.objs.size ≤ b := by
      rcases e' with z | z
      · rw [z]; exact Nat.le_add_right _ _
      · rw [z]; exact Nat.le_refl _
    exact I1.fpOk hle (I1.hok.fresh hle)
  rcases q1 with ⟨hq, q⟩ | ⟨hq, q⟩
  · obtain ⟨its, rv, p', hz⟩ := I1.list hq
    refine call_enumerate_list p'.isList fun h' he hit hsz hk => wpAny_pyIter_enum he ?_
    exact ⟨s1.heap.objs.size + 1, [s1.heap.objs.size + 1, s1.heap.objs.size], _, _, H1, rfl, I1.kept (t' := s1.toks) hk, turn_enum a (s1.heap.objs.size + 1) s1.heap.objs.size, ⟨⟨.none, he⟩, hit, Nat.succ_ne_self _⟩, fresh2, q⟩
  · obtain ⟨its, rv, p', hz⟩ := I1.tuple hq
    refine enumCall1 (begins_tuple a its.toArray) (show s1.heap.IsTuple a its.toArray from p') fun h' he hit hk => wpAny_pyIter_enum he ?_
    exact ⟨s1.heap.objs.size + 1, [s1.heap.objs.size + 1, s1.heap.objs.size], _, _, H1, rfl, I1.kept (t' := s1.toks) hk, turn_enumT a (s1.heap.objs.size + 1) s1.heap.objs.size, ⟨⟨.none, he⟩, ⟨_, hit, rfl, rfl⟩, Nat.succ_ne_self _⟩, fresh2, q⟩
/-- a list, a tuple, a text -/
def iSeq (K : PySem.W.Frag) (tl : TE) : L2.TI := fun σ H R => tl σ H fun x H1 => (∃ a xs, x = .ref a ∧ SqL K H1 a xs ∧ R (Itl K a) H1) ∨ (∃ a xs, x = .ref a ∧ SqT K H1 a xs ∧ R (Itt K a) H1) ∨ ∃ z, x = .str z ∧ R (Its z) H1
theorem pi_seqA {X : Cx} {tg l : Expr} {tl : TE} (hl : PE X l tl) : PI X tg l (iSeq X.K tl) := by
  refine ⟨fun pins s σ H R I h => ?_⟩
  refine thn (hl.run pins s σ H _ I h) fun v s1 ⟨x, H1, I1, r1, q1⟩ => ?_
  rcases q1 with ⟨a, xs, rfl, hq, q⟩ | ⟨a, xs, rfl, hq, q⟩ | ⟨z, rfl, q⟩
  · cases r1
    obtain ⟨its, rv, p, hz⟩ := I1.list hq
    exact wpAny_pyIter_list p.isList (pi_one (tk := s1.toks) I1 _ (turn_list a _) ⟨_, Heap.get?_push_size _ rfl, rfl, rfl⟩ q)
  · cases r1
    obtain ⟨its, rv, p, hz⟩ := I1.tuple hq
    exact wpAny_pyIter_tuple (show s1.heap.IsTuple a its.toArray from p) (pi_one (tk := s1.toks) I1 _ (turn_tuple a _) ⟨_, Heap.get?_push_size _ rfl, rfl, rfl⟩ q)
  · obtain ⟨t, rfl⟩ := r1
    cases ha : z.cps.all (· < 128)
    · exact wpAny_pyIter_wide ha (pi_one (tk := s1.toks) I1 _ (turn_str _ z t "str_iterator" (.inr rfl)) ⟨_, Heap.get?_push_size _ rfl, rfl, rfl⟩ q)
    · exact wpAny_pyIter_ascii ha (pi_one (tk := s1.toks) I1 _ (turn_str _ z t "str_ascii_iterator" (.inl rfl)) ⟨_, Heap.get?_push_size _ rfl, rfl, rfl⟩ q)
end RL

/-! RLSound5: walks, by plain data. -/
namespace RL
open PySem PySem.Spec PyProof.Rows L2
/-- the iterator J walks through the items of args -/
def IOk (K : PySem.W.Frag) (J : It) (k : ItK) (args : List PV) (us : List V) : Prop :=
  ∀ w, Ok K w → Reps K w.H w.μ args us → ∀ items, itItems k args w.ph = some items →
    (∀ (i : Nat) (x : PV), items[i]? = some x → J.go i w.H ∧ ∀ v H', J.yld i w.H v H' → ∃ w', Step w w' ∧ Ok K w' ∧ w'.H = H' ∧ w'.ph = w.ph ∧ Rep K w'.H w'.μ x v) ∧ J.stop items.length w.H
section
variable {K : PySem.W.Frag}
theorem one_rep {H : Hp} {μ : Mu} {a : PV} {us : List V} (r : Reps K H μ [a] us) : ∃ v, us = [v] ∧ Rep K H μ a v := by
  cases r with
  | cons h t => cases t; exact ⟨_, rfl, h⟩
theorem iok_l {a : PV} {l : Addr} (ha : ∀ w, Ok K w → Rep K w.H w.μ a (.ref l) → ∀ items, seqOf w.ph a = some items → ∃ vs, SqL K w.H l vs ∧ Reps K w.H w.μ items vs) (hs : ∀ s, a ≠ .str s) : IOk K (Itl K l) .seq [a] [.ref l] := by
  intro w o r items h
  have h' : seqOf w.ph a = some items := by
    have h0 : seqIt w.ph [a] = some items := h
    unfold seqIt at h0
    split at h0
    · rename_i e; simp at e; exact absurd e (hs _)
    · rename_i e; simp at e; rw [e]; exact h0
    · rename_i e _ _; cases h0
  obtain ⟨v, e, rv⟩ := one_rep r
  cases e
  obtain ⟨vs, h1, h2⟩ := ha w o rv items h'
  refine ⟨fun i x hx => ?_, vs, h1, by rw [h2.length]; exact Nat.le_refl _⟩
  obtain ⟨u, hu, ru⟩ := h2.get hx
  refine ⟨⟨vs, u, h1, hu⟩, fun v H' hy => ?_⟩
  obtain ⟨rfl, hy⟩ := hy
  have := hy vs h1
  rw [hu] at this; cases this
  exact ⟨w, Step.refl w, o, rfl, rfl, ru⟩
theorem iok_t {xs : List PV} {l : Addr} : IOk K (Itt K l) .seq [.tup xs] [.ref l] := by
  intro w o r items h
  have h' : some xs = some items := h
  cases h'
  obtain ⟨v, e, rv⟩ := one_rep r
  cases e
  cases rv with
  | @tup a xs vs h1 h2 =>
    refine ⟨fun i x hx => ?_, vs, SqT.of h1, by rw [h2.length]; exact Nat.le_refl _⟩
    obtain ⟨u, hu, ru⟩ := h2.get hx
    refine ⟨⟨vs, u, SqT.of h1, hu⟩, fun v H' hy => ?_⟩
    obtain ⟨rfl, hy⟩ := hy
    have := hy vs (SqT.of h1)
    rw [hu] at this; cases this
    exact ⟨w, Step.refl w, o, rfl, rfl, ru⟩
theorem iok_s {s : Str} : IOk K (Its s) .seq [.str s] [.str s] := by
  intro w o r items h
  have h' : some (signsL s) = some items := h
  cases h'
  refine ⟨fun i x hx => ?_, by show s.cps.size ≤ _; simp [signsL]⟩
  simp only [signsL, List.getElem?_map, Option.map_eq_some_iff] at hx
  obtain ⟨c, hc, rfl⟩ := hx
  have hi : i < s.cps.size := by
    have := (List.getElem?_eq_some_iff.mp hc).1
    simpa using this
  refine ⟨hi, fun v H' hy => ?_⟩
  obtain ⟨rfl, c', hc', rfl⟩ := hy
  have : c' = c := by
    have e : s.cps[i]? = some c := by rw [← hc]; simp
    rw [e] at hc'; cases hc'; rfl
  subst this
  exact ⟨w, Step.refl w, o, rfl, rfl, .str _⟩
theorem enumL_get : ∀ {xs : List PV} {i j : Nat} {x : PV}, (enumL j xs)[i]? = some x → ∃ y, xs[i]? = some y ∧ x = .tup [.int (((j + i : Nat)) : Int), y]
  | [], i, j, x, h => by simp [enumL] at h
  | y :: ys, 0, j, x, h => by simp [enumL] at h; exact ⟨y, rfl, h.symm⟩
  | y :: ys, i + 1, j, x, h => by
    simp only [enumL, List.getElem?_cons_succ] at h
    obtain ⟨z, h1, h2⟩ := enumL_get h
    refine ⟨z, by simpa using h1, ?_⟩
    rw [h2]
    have : j + 1 + i = j + (i + 1) := by omega
    rw [this]
theorem enumL_length : ∀ (xs : List PV) (j : Nat), (enumL j xs).length = xs.length
  | [], _ => rfl
  | x :: xs, j => by simp [enumL, enumL_length xs]
theorem enum_items {a : PV} {ph : PHp} {items : List PV} (h : itItems .enum [a] ph = some items) : ∃ xs, seqOf ph a = some xs ∧ items = enumL 0 xs := by
  have h0 : (seqOf ph a).map (enumL 0) = some items := h
  simp only [Option.map_eq_some_iff] at h0
  obtain ⟨xs, h1, h2⟩ := h0
  exact ⟨xs, h1, h2.symm⟩
theorem pair_step {w : Wd} (o : Ok K w) {x y : PV} {u v : V} {T : Addr} (hT : w.H T = none) (rx : Rep K w.H w.μ x u) (ry : Rep K w.H w.μ y v) : ∃ w', Step w w' ∧ Ok K w' ∧ w'.H = upd w.H T (.tup [u, v]) ∧ w'.ph = w.ph ∧ Rep K w'.H w'.μ (.tup [x, y]) (.ref T) :=
  ⟨w.put T (.tup [u, v]), Step.put hT, o.put hT, rfl, rfl, .tup upd_same (.cons ((Step.put hT).rep o rx) (.cons ((Step.put hT).rep o ry) .nil))⟩
theorem iok_el {a : PV} {l : Addr} (ha : ∀ w, Ok K w → Rep K w.H w.μ a (.ref l) → ∀ items, seqOf w.ph a = some items → ∃ vs, SqL K w.H l vs ∧ Reps K w.H w.μ items vs) : IOk K (Ite K l) .enum [a] [.ref l] := by
  intro w o r items h
  obtain ⟨xs, h', rfl⟩ := enum_items h
  obtain ⟨v, e, rv⟩ := one_rep r
  cases e
  obtain ⟨vs, h1, h2⟩ := ha w o rv xs h'
  refine ⟨fun i x hx => ?_, vs, h1, by rw [h2.length, enumL_length]; exact Nat.le_refl _⟩
  obtain ⟨y, hy, rfl⟩ := enumL_get hx
  obtain ⟨u, hu, ru⟩ := h2.get hy
  refine ⟨⟨vs, u, h1, hu⟩, fun v H' hz => ?_⟩
  obtain ⟨T, u', rfl, hT, rfl, hz⟩ := hz
  have := hz vs h1
  rw [hu] at this; cases this
  rw [Nat.zero_add]
  exact pair_step o hT (.int _) ru
theorem iok_et {xs : List PV} {l : Addr} : IOk K (IteT K l) .enum [.tup xs] [.ref l] := by
  intro w o r items h
  obtain ⟨xs', h', rfl⟩ := enum_items h
  have h'' : some xs = some xs' := h'
  cases h''
  obtain ⟨v, e, rv⟩ := one_rep r
  cases e
  cases rv with
  | @tup a xs vs h1 h2 =>
    refine ⟨fun i x hx => ?_, vs, SqT.of h1, by rw [h2.length, enumL_length]⟩
    obtain ⟨y, hy, rfl⟩ := enumL_get hx
    obtain ⟨u, hu, ru⟩ := h2.get hy
    refine ⟨⟨vs, u, SqT.of h1, hu⟩, fun v H' hz => ?_⟩
    obtain ⟨T, u', rfl, hT, rfl, hz⟩ := hz
    have := hz vs (SqT.of h1)
    rw [hu] at this; cases this
    rw [Nat.zero_add]
    exact pair_step o hT (.int _) ru
/-- a list, read -/
theorem seq_l {a : PV} {v : V} {w : Wd} {xs : List PV} (o : Ok K w) (r : Rep K w.H w.μ a v) (h : seqOf w.ph a = some xs) : (isTup a = false ∧ ∃ l vs, v = .ref l ∧ SqL K w.H l vs ∧ Reps K w.H w.μ xs vs ∧ ∀ w', Ok K w' → Rep K w'.H w'.μ a (.ref l) → ∀ items, seqOf w'.ph a = some items → ∃ vs, SqL K w'.H l vs ∧ Reps K w'.H w'.μ items vs) ∨ ∃ l vs, v = .ref l ∧ a = .tup xs ∧ SqT K w.H l vs ∧ Reps K w.H w.μ xs vs := by
  have gen : (∀ ys, a ≠ .tup ys) → (∃ l vs, v = .ref l ∧ SqL K w.H l vs ∧ Reps K w.H w.μ xs vs) → ∃ l vs, v = .ref l ∧ SqL K w.H l vs ∧ Reps K w.H w.μ xs vs ∧ ∀ w', Ok K w' → Rep K w'.H w'.μ a (.ref l) → ∀ items, seqOf w'.ph a = some items → ∃ vs, SqL K w'.H l vs ∧ Reps K w'.H w'.μ items vs := by
    rintro nt ⟨l, vs, rfl, h1, h2⟩
    refine ⟨l, vs, rfl, h1, h2, fun w' o' r' items h' => ?_⟩
    obtain ⟨l', vs', e, h3, h4⟩ := seq_at o' h' r'
    cases e
    rcases h3 with h3 | h3
    · exact ⟨vs', h3, h4⟩
    · -- a tuple is no list
      cases a with
      | tup ys => exact absurd rfl (nt ys)
      | scr ns =>
        have h'' : some (ns.map PV.int) = some items := h'
        cases h''
        cases r' with
        | scr q => exact ⟨_, q.l, Reps.ofInts _⟩
      | lst ys =>
        have h'' : some ys = some items := h'
        cases h''
        cases r' with
        | lst q _ q2 => exact ⟨_, SqL.of q, q2⟩
      | ref n =>
        have h'' : lstOf w'.ph (.ref n) = some items := h'
        obtain ⟨l2, vs2, e, q, q2⟩ := lst_at o' h'' r'
        cases e
        exact ⟨_, SqL.of q, q2⟩
      | non => cases h'
      | bl _ => cases h'
      | int _ => cases h'
      | str _ => cases h'
  cases r with
  | @tup l ys vs h1 h2 =>
    have h' : some ys = some xs := h
    cases h'
    exact .inr ⟨l, vs, rfl, rfl, SqT.of h1, h2⟩
  | scr q =>
    have h' : some (_) = some xs := h
    cases h'
    exact .inl ⟨rfl, gen (by simp) ⟨_, _, rfl, q.l, Reps.ofInts _⟩⟩
  | lst h1 h2 h3 =>
    obtain ⟨l, vs, e, q, q2⟩ := lst_at o (show lstOf w.ph (PV.lst _) = some xs from h) (.lst h1 h2 h3)
    exact .inl ⟨rfl, gen (by simp) ⟨l, vs, e, SqL.of q, q2⟩⟩
  | ref hn =>
    obtain ⟨l, vs, e, q, q2⟩ := lst_at o (show lstOf w.ph (PV.ref _) = some xs from h) (.ref hn)
    exact .inl ⟨rfl, gen (by simp) ⟨l, vs, e, SqL.of q, q2⟩⟩
  | non => cases h
  | bl _ => cases h
  | int _ => cases h
  | str _ => cases h
/-! ranges -/
theorem rng_get {a b c : Int} {i : Nat} {x : PV} (h : (rngL a b c)[i]? = some x) : x = .int (a + (i : Nat) * c) ∧ i < (Builtin.Range.rangeSize a b c).toNat := by
  unfold rngL at h
  rw [List.getElem?_map, Option.map_eq_some_iff] at h
  obtain ⟨j, hj, rfl⟩ := h
  have hi := (List.getElem?_eq_some_iff.mp hj).1
  rw [List.length_range] at hi
  rw [List.getElem?_range hi] at hj
  cases hj
  exact ⟨rfl, hi⟩
theorem iok_r {i j : Int} {args : List PV} {us : List V} (he : rng12 args = some (rngL i j 1)) (hc : rngIt args = rng12 args) : IOk K (Itr i (j - i).toNat) .range args us := by
  intro w o r items h
  have h' : rngIt args = some items := h
  rw [hc, he] at h'
  cases h'
  have e : (Builtin.Range.rangeSize i j 1).toNat = (j - i).toNat := by rw [rangeSize_one]; split <;> omega
  refine ⟨fun m x hx => ?_, by show _ ≤ _; simp [rngL, e]⟩
  obtain ⟨rfl, hm⟩ := rng_get hx
  refine ⟨by rw [e] at hm; exact hm, fun v H' hy => ?_⟩
  obtain ⟨rfl, rfl⟩ := hy
  rw [Int.mul_one]
  exact ⟨w, Step.refl w, o, rfl, rfl, .int _⟩
theorem iok_c {i j c : Int} {us : List V} {n : Nat} (hn : Builtin.Range.rangeSize i j c = n) : IOk K (Itc i c n) .range [.int i, .int j, .int c] us := by
  intro w o r items h
  have h' : (if rOk i j ∧ c = -1 then some (rngL i j c) else none) = some items := h
  split at h'
  · cases h'
    refine ⟨fun m x hx => ?_, by show _ ≤ _; simp [rngL, hn]⟩
    obtain ⟨rfl, hm⟩ := rng_get hx
    refine ⟨by show m < n; rw [hn] at hm; simpa using hm, fun v H' hy => ?_⟩
    obtain ⟨rfl, rfl⟩ := hy
    exact ⟨w, Step.refl w, o, rfl, rfl, .int _⟩
  · cases h'
/-! zip -/
theorem zip2_get : ∀ {xs ys : List PV} {i : Nat} {x : PV}, (zip2L xs ys)[i]? = some x → ∃ a b, xs[i]? = some a ∧ ys[i]? = some b ∧ x = .tup [a, b]
  | [], _, i, x, h => by simp [zip2L] at h
  | _ :: _, [], i, x, h => by simp [zip2L] at h
  | a :: xs, b :: ys, 0, x, h => by simp [zip2L] at h; exact ⟨a, b, rfl, rfl, h.symm⟩
  | a :: xs, b :: ys, i + 1, x, h => by
    simp only [zip2L, List.getElem?_cons_succ] at h
    obtain ⟨a', b', h1, h2, h3⟩ := zip2_get h
    exact ⟨a', b', by simpa using h1, by simpa using h2, h3⟩
theorem zip2_length : ∀ xs ys : List PV, (zip2L xs ys).length = min xs.length ys.length
  | [], _ => by simp [zip2L]
  | _ :: _, [] => by simp [zip2L]
  | x :: xs, y :: ys => by simp [zip2L, zip2_length xs ys]
theorem zip_items {a b : PV} {ph : PHp} {items : List PV} (h : itItems .zip [a, b] ph = some items) : ∃ xs ys, seqOf ph a = some xs ∧ seqOf ph b = some ys ∧ isTup a = isTup b ∧ items = zip2L xs ys := by
  have h0 : zipIt ph [a, b] = some items := h
  unfold zipIt at h0
  simp only at h0
  cases e1 : seqOf ph a with
  | none => rw [e1] at h0; simp at h0
  | some xs =>
    cases e2 : seqOf ph b with
    | none => rw [e1, e2] at h0; simp at h0
    | some ys =>
      rw [e1, e2] at h0
      simp at h0
      exact ⟨xs, ys, rfl, rfl, h0.1, h0.2.symm⟩
theorem two_rep {H : Hp} {μ : Mu} {a b : PV} {us : List V} (r : Reps K H μ [a, b] us) : ∃ v w, us = [v, w] ∧ Rep K H μ a v ∧ Rep K H μ b w := by
  cases r with
  | cons h t =>
    cases t with
    | cons h2 t => cases t; exact ⟨_, _, rfl, h, h2⟩
theorem iok_zl {a b : PV} {l m : Addr} (ha : ∀ w, Ok K w → Rep K w.H w.μ a (.ref l) → ∀ items, seqOf w.ph a = some items → ∃ vs, SqL K w.H l vs ∧ Reps K w.H w.μ items vs)
    (hb : ∀ w, Ok K w → Rep K w.H w.μ b (.ref m) → ∀ items, seqOf w.ph b = some items → ∃ vs, SqL K w.H m vs ∧ Reps K w.H w.μ items vs) : IOk K (Itz K l m) .zip [a, b] [.ref l, .ref m] := by
  intro w o r items h
  obtain ⟨xs, ys, hx, hy, _, rfl⟩ := zip_items h
  obtain ⟨v, v', e, rv, rv'⟩ := two_rep r
  cases e
  obtain ⟨vs, h1, h2⟩ := ha w o rv xs hx
  obtain ⟨vs', h1', h2'⟩ := hb w o rv' ys hy
  refine ⟨fun i x hi => ?_, vs, vs', h1, h1', by rw [h2.length, h2'.length, zip2_length]; omega⟩
  obtain ⟨p, q, e1, e2, rfl⟩ := zip2_get hi
  obtain ⟨u, hu, ru⟩ := h2.get e1
  obtain ⟨u', hu', ru'⟩ := h2'.get e2
  refine ⟨⟨vs, vs', u, u', h1, h1', hu, hu'⟩, fun v H' hz => ?_⟩
  obtain ⟨T, z, z', rfl, hT, rfl, hz1, hz2⟩ := hz
  have := hz1 vs h1
  rw [hu] at this; cases this
  have := hz2 vs' h1'
  rw [hu'] at this; cases this
  exact pair_step o hT ru ru'
theorem iok_zt {xs0 ys0 : List PV} {l m : Addr} : IOk K (RZ.ItzT K l m) .zip [.tup xs0, .tup ys0] [.ref l, .ref m] := by
  intro w o r items h
  obtain ⟨xs, ys, hx, hy, _, rfl⟩ := zip_items h
  have hx' : some xs0 = some xs := hx
  have hy' : some ys0 = some ys := hy
  cases hx'
  cases hy'
  obtain ⟨v, v', e, rv, rv'⟩ := two_rep r
  cases e
  cases rv with
  | @tup _ _ vs h1 h2 =>
    cases rv' with
    | @tup _ _ vs' h1' h2' =>
      refine ⟨fun i x hi => ?_, vs, vs', SqT.of h1, SqT.of h1', by rw [h2.length, h2'.length, zip2_length]; omega⟩
      obtain ⟨p, q, e1, e2, rfl⟩ := zip2_get hi
      obtain ⟨u, hu, ru⟩ := h2.get e1
      obtain ⟨u', hu', ru'⟩ := h2'.get e2
      refine ⟨⟨vs, vs', u, u', SqT.of h1, SqT.of h1', hu, hu'⟩, fun v H' hz => ?_⟩
      obtain ⟨T, z, z', rfl, hT, rfl, hz1, hz2⟩ := hz
      have := hz1 vs (SqT.of h1)
      rw [hu] at this; cases this
      have := hz2 vs' (SqT.of h1')
      rw [hu'] at this; cases this
      exact pair_step o hT ru ru'
end
/-! ### the rules -/
def SI (L : Lw) (N : List Str) (sc : Scope) (tg x : Expr) (k : ItK) (es : List E) : Prop := ∀ kk X, In L kk N sc X → ∃ wi, PI X tg x wi ∧ ∀ (w : Wd) env σ (Q : List PV → List PV → PHp → Prop) R, Ok X.K w → REnv X.K w env σ →
  wpEs (callK L.pg kk) L.G XF es env w.ph (fun vs ph1 => ∃ items, itItems k vs ph1 = some items ∧ Q items vs ph1) →
  (∀ w' args us items, Step w w' → Ok X.K w' → Reps X.K w'.H w'.μ args us → itItems k args w'.ph = some items → Q items args w'.ph → ∀ J, IOk X.K J k args us → R J w'.H) → wi σ w.H R
section
variable {L : Lw} {N : List Str} {sc : Scope} {tg a b c : Expr} {es : List E} {ea eb ec : E} {pos p : Pos}
theorem i_seq (ha : SE L N sc a ea) : SI L N sc tg a .seq [ea] := by
  intro kk X I
  obtain ⟨ta, h1, h2⟩ := ha kk X I
  refine ⟨_, pi_seqA h1, fun w env σ Q R o r q p => ?_⟩
  refine h2 w env σ _ _ o r q fun w1 x v s1 o1 rv q => ?_
  obtain ⟨items, e, q⟩ := q
  by_cases hs : ∃ s, x = .str s
  · obtain ⟨s, rfl⟩ := hs
    cases rv
    exact .inr (.inr ⟨s, rfl, p w1 [.str s] [.str s] items s1 o1 (.cons (.str s) .nil) e q _ iok_s⟩)
  · have e' : seqOf w1.ph x = some items := by
      have e0 : seqIt w1.ph [x] = some items := e
      unfold seqIt at e0
      split at e0
      · rename_i q; simp at q; exact absurd ⟨_, q⟩ hs
      · rename_i q; simp at q; rw [q]; exact e0
      · cases e0
    rcases seq_l o1 rv e' with ⟨_, l, vs, rfl, h3, h4, h5⟩ | ⟨l, vs, rfl, rfl, h3, h4⟩
    · exact .inl ⟨l, vs, rfl, h3, p w1 [x] [.ref l] items s1 o1 (.cons rv .nil) e q _ (iok_l h5 fun s z => hs ⟨s, z⟩)⟩
    · exact .inr (.inl ⟨l, vs, rfl, h3, p w1 [_] [.ref l] items s1 o1 (.cons rv .nil) e q _ iok_t⟩)
theorem i_enum {elts : List Expr} {kk : Nat} {tpos : Pos} (hg : sc.names.lookup ("enumerate" : Str) = some .globalImplicit) (ha : SE L N sc a ea) (hs : ∀ env, starEach [a] env = [(false, eval a env)] := by intro _; rfl) : SI L N sc (.Tuple elts kk tpos) (.Call (.Name "enumerate" p) [a] [] pos) .enum [ea] := by
  intro kk X I
  obtain ⟨ta, h1, h2⟩ := ha kk X I
  refine ⟨_, pi_enumA (gl_of I hg) (I.blt "enumerate" (by decide)) (pa_cons h1 pa_nil (by rw [hs]; rfl)) (hs _), fun w env σ Q R o r q p => ?_⟩
  refine h2 w env σ _ _ o r q fun w1 x v s1 o1 rv q => ?_
  obtain ⟨items, e, q⟩ := q
  obtain ⟨xs, e', _⟩ := enum_items e
  rcases seq_l o1 rv e' with ⟨_, l, vs, rfl, h3, h4, h5⟩ | ⟨l, vs, rfl, rfl, h3, h4⟩
  · exact ⟨l, vs, rfl, .inl ⟨h3, p w1 [x] [.ref l] items s1 o1 (.cons rv .nil) e q _ (iok_el h5)⟩⟩
  · exact ⟨l, vs, rfl, .inr ⟨h3, p w1 [_] [.ref l] items s1 o1 (.cons rv .nil) e q _ iok_et⟩⟩
theorem i_r1 (hg : sc.names.lookup ("range" : Str) = some .globalImplicit) (ha : SE L N sc a ea) (hs : ∀ env, starEach [a] env = [(false, eval a env)] := by intro _; rfl) : SI L N sc tg (.Call (.Name "range" p) [a] [] pos) .range [ea] := by
  intro kk X I
  obtain ⟨ta, h1, h2⟩ := ha kk X I
  refine ⟨_, pi_range1 (gl_of I hg) (I.blt "range" (by decide)) (pa_cons h1 pa_nil (by rw [hs]; rfl)) (hs _), fun w env σ Q R o r q p => ?_⟩
  refine h2 w env σ _ _ o r q fun w1 x v s1 o1 rv q => ?_
  obtain ⟨items, e, q⟩ := q
  have e0 : rngIt [x] = some items := e
  cases rv with
  | int j =>
    have e1 : (if rOk 0 j then some (rngL 0 j 1) else none) = some items := e0
    split at e1
    · rename_i hr
      cases e1
      refine ⟨j, rfl, hr.2.2.1, hr.2.2.2, ?_⟩
      have := p w1 [.int j] [.int j] _ s1 o1 (.cons (.int j) .nil) e q (Itr 0 (j - 0).toNat) (iok_r (by show (if rOk 0 j then some (rngL 0 j 1) else none) = _; rw [if_pos hr]) rfl)
      simpa using this
    · cases e1
  | _ => cases e0
theorem i_r2 (hg : sc.names.lookup ("range" : Str) = some .globalImplicit) (ha : SE L N sc a ea) (hb : SE L N sc b eb) (hs : ∀ env, starEach [a, b] env = [(false, eval a env), (false, eval b env)] := by intro _; rfl) (hs2 : ∀ env, starEach [b] env = [(false, eval b env)] := by intro _; rfl) : SI L N sc tg (.Call (.Name "range" p) [a, b] [] pos) .range [ea, eb] := by
  intro kk X I
  obtain ⟨ta, h1, h2⟩ := ha kk X I
  obtain ⟨tb, h3, h4⟩ := hb kk X I
  refine ⟨_, pi_range2 (gl_of I hg) (I.blt "range" (by decide)) (pa_cons h1 (pa_cons h3 pa_nil (by rw [hs2]; rfl)) (by rw [hs, hs2])) (hs _) (hs2 _), fun w env σ Q R o r q p => ?_⟩
  refine h2 w env σ _ _ o r q fun w1 x v s1 o1 rv q => ?_
  refine h4 w1 env σ _ _ o1 (r.step s1 o) q fun w2 y u s2 o2 ru q => ?_
  obtain ⟨items, e, q⟩ := q
  have e0 : rngIt [x, y] = some items := e
  cases rv with
  | int i =>
    cases ru with
    | int j =>
      have e1 : (if rOk i j then some (rngL i j 1) else none) = some items := e0
      split at e1
      · rename_i hr
        cases e1
        refine ⟨i, j, rfl, hr, ?_⟩
        exact p w2 [.int i, .int j] [.int i, .int j] _ (s1.trans s2) o2 (.cons (.int i) (.cons (.int j) .nil)) e q _ (iok_r (by show (if rOk i j then some (rngL i j 1) else none) = _; rw [if_pos hr]) rfl)
      · cases e1
    | _ => cases e0
  | _ => cases e0
theorem i_r3 (hg : sc.names.lookup ("range" : Str) = some .globalImplicit) (ha : SE L N sc a ea) (hb : SE L N sc b eb) (hc : SE L N sc c ec) (hs : ∀ env, starEach [a, b, c] env = (false, eval a env) :: starEach [b, c] env := by intro _; rfl) (hs2 : ∀ env, starEach [b, c] env = (false, eval b env) :: starEach [c] env := by intro _; rfl)
    (hs3 : ∀ env, starEach [c] env = (false, eval c env) :: starEach [] env := by intro _; rfl) (hpl : ∀ env, (backTo pos (starEach [b, c] env)).any (·.1) = false := by intro _; rfl) : SI L N sc tg (.Call (.Name "range" p) [a, b, c] [] pos) .range [ea, eb, ec] := by
  intro kk X I
  obtain ⟨ta, h1, h2⟩ := ha kk X I
  obtain ⟨tb, h3, h4⟩ := hb kk X I
  obtain ⟨tc, h5, h6⟩ := hc kk X I
  refine ⟨_, pi_range3 (gl_of I hg) (I.blt "range" (by decide)) (pa_cons h1 (pa_cons h3 (pa_cons h5 pa_nil (hs3 _)) (hs2 _)) (hs _)) (hs _) (hpl _), fun w env σ Q R o r q p => ?_⟩
  refine h2 w env σ _ _ o r q fun w1 x v s1 o1 rv q => ?_
  refine h4 w1 env σ _ _ o1 (r.step s1 o) q fun w2 y u s2 o2 ru q => ?_
  refine h6 w2 env σ _ _ o2 ((r.step s1 o).step s2 o1) q fun w3 z t s3 o3 rt q => ?_
  obtain ⟨items, e, q⟩ := q
  have e0 : rngIt [x, y, z] = some items := e
  cases rv with
  | int i =>
    cases ru with
    | int j =>
      cases rt with
      | int c =>
        have e1 : (if rOk i j ∧ c = -1 then some (rngL i j c) else none) = some items := e0
        split at e1
        · rename_i hr
          obtain ⟨hr, rfl⟩ := hr
          cases e1
          have rg := RgC.neg (i := i) (j := j) hr.1 hr.2.1 hr.2.2.1 hr.2.2.2
          refine ⟨i, j, -1, _, rfl, rg, ?_⟩
          exact p w3 [.int i, .int j, .int (-1)] [.int i, .int j, .int (-1)] _ ((s1.trans s2).trans s3) o3 (.cons (.int i) (.cons (.int j) (.cons (.int _) .nil))) e q _ (iok_c rg.2.2.2)
        · cases e1
      | _ => cases e0
    | _ => cases rt <;> cases e0
  | _ => cases ru <;> cases rt <;> cases e0
theorem i_zip {elts : List Expr} {kk : Nat} {tpos : Pos} (hg : sc.names.lookup ("zip" : Str) = some .globalImplicit) (ha : SE L N sc a ea) (hb : SE L N sc b eb) (hs : ∀ env, starEach [a, b] env = (false, eval a env) :: starEach [b] env := by intro _; rfl) (hs2 : ∀ env, starEach [b] env = (false, eval b env) :: starEach [] env := by intro _; rfl)
    (hpl : ∀ env, (backTo pos (starEach [b] env)).any (·.1) = false := by intro _; rfl) : SI L N sc (.Tuple elts kk tpos) (.Call (.Name "zip" p) [a, b] [] pos) .zip [ea, eb] := by
  intro kk X I
  obtain ⟨ta, h1, h2⟩ := ha kk X I
  obtain ⟨tb, h3, h4⟩ := hb kk X I
  refine ⟨_, RZ.pi_zipA (gl_of I hg) (I.blt "zip" (by decide)) (pa_cons h1 (pa_cons h3 pa_nil (hs2 _)) (hs _)) (hs _) (hpl _), fun w env σ Q R o r q p => ?_⟩
  refine h2 w env σ _ _ o r q fun w1 x v s1 o1 rv q => ?_
  refine h4 w1 env σ _ _ o1 (r.step s1 o) q fun w2 y u s2 o2 ru q => ?_
  obtain ⟨items, e, q⟩ := q
  obtain ⟨xs, ys, e1, e2, et, _⟩ := zip_items e
  have rv2 := s2.rep o1 rv
  have rr : Reps X.K w2.H w2.μ [x, y] [v, u] := .cons rv2 (.cons ru .nil)
  rcases seq_l o2 rv2 e1 with ⟨n1, l, vs, rfl, h5, h6, h7⟩ | ⟨l, vs, rfl, rfl, h5, h6⟩
  · rcases seq_l o2 ru e2 with ⟨n2, m, us, rfl, h8, h9, h10⟩ | ⟨m, us, rfl, rfl, h8, h9⟩
    · exact ⟨l, m, vs, us, rfl, .inl ⟨h5, h8, p w2 _ _ items (s1.trans s2) o2 rr e q _ (iok_zl h7 h10)⟩⟩
    · rw [n1] at et; cases et
  · rcases seq_l o2 ru e2 with ⟨n2, m, us, rfl, h8, h9, h10⟩ | ⟨m, us, rfl, rfl, h8, h9⟩
    · rw [n2] at et; cases et
    · exact ⟨l, m, vs, us, rfl, .inr ⟨h5, h8, p w2 _ _ items (s1.trans s2) o2 rr e q _ iok_zt⟩⟩
end
end RL

/-! RLSound6: targets, comprehensions. -/
namespace RL
open PySem PySem.Spec PyProof.Rows L2
theorem wipe_set {σ : L2.St} {i : Nat} {x : Option V} : ∀ {vs : List Nat}, i ∈ vs → L2.wipe (σ.set i x) vs = L2.wipe σ vs
  | v :: vs, h => by
    unfold L2.wipe
    by_cases hv : i ∈ vs
    · rw [wipe_set hv]
    · have e : i = v := by
        rcases List.mem_cons.mp h with e | e
        · exact e
        · exact absurd e hv
      subst e
      have key : ∀ (l : List Nat), i ∉ l → L2.wipe (σ.set i x) l = (L2.wipe σ l).set i x := by
        intro l
        induction l with
        | nil => intro _; rfl
        | cons a l ih =>
          intro hn
          unfold L2.wipe
          rw [ih fun z => hn (List.mem_cons_of_mem _ z)]
          exact List.set_comm _ _ fun z => hn (by rw [z]; exact List.mem_cons_self ..)
      rw [key vs hv]
      exact List.set_set ..
theorem wipe_wipe {σ : L2.St} : ∀ {vs ws : List Nat}, (∀ i ∈ vs, i ∈ ws) → L2.wipe (L2.wipe σ vs) ws = L2.wipe σ ws
  | [], ws, _ => rfl
  | v :: vs, ws, h => by
    show L2.wipe ((L2.wipe σ vs).set v none) ws = _
    rw [wipe_set (h v (List.mem_cons_self ..)), wipe_wipe fun i hi => h i (List.mem_cons_of_mem _ hi)]
section
variable (L : Lw) (N : List Str) (sc : Scope) (fl : Str → Bool)
/-- a target of the text and its short form -/
def STg (x : Expr) (t : Tg) : Prop := ∀ k X, In L k N sc X → (∀ y, fl y = true → X.fn y = true) → ∃ g, PG X x g ∧ ∀ (w : Wd) env σ (z : PV) (v : V) (K : Env → Prop) Q', Ok X.K w → REnv X.K w env σ → Rep X.K w.H w.μ z v → bindT t z env K →
  (∀ env' σ', REnv X.K w env' σ' → K env' → (∀ vs : List Nat, (∀ i ∈ t.slots, i ∈ vs) → L2.wipe σ' vs = L2.wipe σ vs) → Q' σ' w.H) → g v σ w.H Q'
def STgs (xs : List Expr) (ts : List Tg) : Prop := ∀ k X, In L k N sc X → (∀ y, fl y = true → X.fn y = true) → ∃ g, PGs X xs g ∧ ∀ (w : Wd) env σ (zs : List PV) (vs : List V) (K : Env → Prop) Q', Ok X.K w → REnv X.K w env σ → Reps X.K w.H w.μ zs vs → zs.length = ts.length → bindTs ts zs env K →
  (∀ env' σ', REnv X.K w env' σ' → K env' → (∀ vs : List Nat, (∀ i ∈ slotsAll ts, i ∈ vs) → L2.wipe σ' vs = L2.wipe σ vs) → Q' σ' w.H) → g vs σ w.H Q'
end
section
variable {L : Lw} {N : List Str} {sc : Scope} {fl : Str → Bool} {a : Expr} {xs : List Expr} {t : Tg} {ts : List Tg} {pos p : Pos}
theorem g_name (i : Nat) {x : Str} (hi : N[i]? = some x) (hx : Loc sc x) (hf : fl x = true ∨ sc.names.lookup x = some .local) : STg L N sc fl (.Name x pos) (.name i) := by
  intro k X I hX
  refine ⟨_, pg_name (i := i) (by rw [I.names]; exact I.nd) (by rw [I.names]; exact hi) (by rw [I.scope]; exact hx) (by rw [I.scope]; exact hf.imp (hX _) id), fun w env σ z v K Q' o r rz q p => ?_⟩
  refine p _ _ (r.set rz) q.2 fun vs h => wipe_set (h i ?_)
  simp [Tg.slots]
theorem gs_nil : STgs L N sc fl [] [] := fun k X I hX => ⟨_, pgs_nil, fun w env σ zs vs K Q' o r rz hl q p => by
  cases rz with
  | nil => exact ⟨rfl, p _ _ r q fun _ _ => rfl⟩
  | cons _ _ => cases hl⟩
theorem gs_cons (h1 : STg L N sc fl a t) (h2 : STgs L N sc fl xs ts) (hs : ∀ env, (assignEach (a :: xs) env).map (·.2) = assign a env :: (assignEach xs env).map (·.2) := by intro _; rfl) : STgs L N sc fl (a :: xs) (t :: ts) := by
  intro k X I hX
  obtain ⟨g, p1, q1⟩ := h1 k X I hX
  obtain ⟨g2, p2, q2⟩ := h2 k X I hX
  refine ⟨_, pgs_cons p1 p2 (hs _), fun w env σ zs vs K Q' o r rz hl q p => ?_⟩
  cases rz with
  | nil => cases hl
  | cons ra rr =>
    refine ⟨_, _, rfl, q1 w env σ _ _ _ _ o r ra q fun env' σ' r' q' hw => ?_⟩
    refine q2 w env' σ' _ _ _ _ o r' rr (by simpa using hl) q' fun env2 σ2 r2 q3 hw2 => ?_
    refine p _ _ r2 q3 fun vs h => ?_
    simp only [slotsAll, List.mem_append] at h
    rw [hw2 vs fun i hi => h i (.inr hi), hw vs fun i hi => h i (.inl hi)]
theorem g_tup {kk : Nat} (h : STgs L N sc fl xs ts) (hn : ∀ env, (assignEach xs env).length = ts.length := by intro _; rfl) (hst : ∀ env, (assignEach xs env).findIdx? (·.1) = none := by intro _; rfl) : STg L N sc fl (.Tuple xs kk pos) (.tup ts) := by
  intro k X I hX
  obtain ⟨g, p1, q1⟩ := h k X I hX
  refine ⟨_, pg_tup (n := ts.length) I.calm p1 (hn _) (hst _), fun w env σ z v K Q' o r rz q p => ?_⟩
  obtain ⟨zs, rfl, hl, q⟩ := q
  cases rz with
  | tup e rr =>
    refine ⟨_, _, rfl, SqT.of e, by rw [rr.length]; exact hl, ?_⟩
    exact q1 w env σ _ _ _ _ o r rr hl q fun env' σ' r' q' hw => p _ _ r' q' fun vs h => hw vs (by simpa [Tg.slots] using h)
/-! ### comprehensions -/
/-- a block's names, as they stand in the block -/
def relS (scope sc : Scope) : Scope := { scope with names := scope.names.map fun (n, k) => if (k == .free && sc.kind == .function && sc.names.lookup n == some .cell) then (n, .cell) else (n, k) }
theorem In.blk {k : Nat} {X : Cx} (I : In L k N sc X) (s : Shared) (H : Hp) (scope : Scope) (C : Addr) (cl : List (Str × Addr)) (fp : List Addr) : In L k N (relS scope sc) (X.blk s H scope (compEnvC scope cl C X.env) fp) := by
  refine ⟨I.names, ?_, I.nd, I.calm, I.guards, I.room, I.sys, I.blt, I.glb, I.calls⟩
  show relabel scope X.env = relS scope sc
  unfold relabel relS Env.kindOf
  rw [I.scope]
def SC (L : Lw) (N : List Str) (sc : Scope) (ifs : List Expr) (cond : Option E) : Prop := ∀ k X, In L k N sc X → ∃ t, PTs X ifs t ∧ ∀ (w : Wd) env σ Q Q', Ok X.K w → REnv X.K w env σ → wpC (callK L.pg k) L.G XF cond env w.ph Q → PostB X.K w Q Q' → t σ w.H Q'
theorem c_nil : SC L N sc [] none := fun k X I => ⟨_, pts_nil, fun w env σ Q Q' o r q p => p w true (Step.refl w) o q⟩
theorem c_one {ea : E} (ha : ST L N sc a ea) : SC L N sc [a] (some ea) := by
  intro k X I
  obtain ⟨ta, h1, h2⟩ := ha k X I
  exact ⟨_, pts_one h1, h2⟩
theorem compL_still {still : PHp → Prop} {bind : PV → (Env → Prop) → Prop} {cnd : Env → PHp → (Bool → PHp → Prop) → Prop} {el : Env → PHp → QV → Prop} {l acc : List PV} {ph : PHp} {Q : List PV → PHp → Prop} (h : compL still bind cnd el l acc ph Q) : still ph := by
  cases l with
  | nil => exact h.1
  | cons v r => exact h.1
section
variable {X : Cx} {k : Nat} {elt tg iter : Expr} {ifs : List Expr} {scope : Scope} {own : List (Str × Nat)} {wi : L2.TI} {g : TG} {tt : TT} {te : TE} {kk : ItK} {its : List E} {tgs : Tg} {cond : Option E} {eelt : E} {o1 : Bool}
theorem comp_ok (slots : List Nat) (htg : ∀ i ∈ tgs.slots, i ∈ slots)
    (hi : ∀ (w : Wd) env σ (Q : List PV → List PV → PHp → Prop) R, Ok X.K w → REnv X.K w env σ → wpEs (callK L.pg k) L.G XF its env w.ph (fun vs ph1 => ∃ items, itItems kk vs ph1 = some items ∧ Q items vs ph1) →
      (∀ w' args us items, Step w w' → Ok X.K w' → Reps X.K w'.H w'.μ args us → itItems kk args w'.ph = some items → Q items args w'.ph → ∀ J, IOk X.K J kk args us → R J w'.H) → wi σ w.H R)
    (hg : ∀ (w : Wd) env σ (z : PV) (v : V) (K : Env → Prop) Q', Ok X.K w → REnv X.K w env σ → Rep X.K w.H w.μ z v → bindT tgs z env K →
      (∀ env' σ', REnv X.K w env' σ' → K env' → (∀ vs : List Nat, (∀ i ∈ tgs.slots, i ∈ vs) → L2.wipe σ' vs = L2.wipe σ vs) → Q' σ' w.H) → g v σ w.H Q')
    (ht : ∀ (w : Wd) env σ Q Q', Ok X.K w → REnv X.K w env σ → wpC (callK L.pg k) L.G XF cond env w.ph Q → PostB X.K w Q Q' → tt σ w.H Q')
    (he : ∀ (w : Wd) env σ Q Q', Ok X.K w → REnv X.K w env σ → wpE (callK L.pg k) L.G XF eelt env w.ph Q → Post X.K w Q Q' → te σ w.H Q')
    (w : Wd) (env : Env) (σ : L2.St) (Q : QV) (Q' : VK) (o : Ok X.K w) (r : REnv X.K w env σ) (q : wpE (callK L.pg k) L.G XF (.comp o1 eelt tgs kk its cond slots) env w.ph Q) (p : Post X.K w Q Q') : tLc wi g tt te slots σ w.H Q' := by
  refine hi w env σ (fun items vs ph1 => compL (fun h => itItems kk vs h = some items) (fun v K => bindT tgs v (wipeE env slots) K) (fun env' h K => wpC (callK L.pg k) L.G XF cond env' h K) (fun env' h K => wpE (callK L.pg k) L.G XF eelt env' h K) items [] ph1 fun xs ph2 => newL o1 xs ph2 Q) _ o r q ?_
  intro w1 args us items s1 ok1 rs e1 q J hJ D hD
  have r1 := r.step s1 o
  let P := fun (l acc : List PV) (ph1 : PHp) => compL (fun h => itItems kk args h = some items) (fun v K => bindT tgs v (wipeE env slots) K) (fun env' h K => wpC (callK L.pg k) L.G XF cond env' h K) (fun env' h K => wpE (callK L.pg k) L.G XF eelt env' h K) l acc ph1 fun xs ph2 => newL o1 xs ph2 Q
  refine ⟨fun i m H => i + m = items.length ∧ ∃ w2, w2.H = H ∧ Ok X.K w2 ∧ Step w1 w2 ∧ w2.μ.hid D ∧ ∃ accP accV, w2.H D = some (.lst accV) ∧ Reps X.K w2.H w2.μ accP accV ∧ P (items.drop i) accP w2.ph, ⟨items.length, ?_⟩, ?_⟩
  · exact ⟨by omega, w1.hide D [], rfl, ok1.hide hD, Step.hide hD, .inr rfl, [], [], upd_same, .nil, q⟩
  · rintro i m H ⟨him, w2, rfl, ok2, s2, hh, accP, accV, eD, ra, q⟩
    have hst : itItems kk args w2.ph = some items := compL_still q
    have rs2 := s2.reps ok1 rs
    obtain ⟨j1, j2⟩ := hJ w2 ok2 rs2 items hst
    have hDn : D ∉ w2.μ.num := (ok2.hid D hh).1
    cases hd : items.drop i with
    | nil =>
      have hl : items.length ≤ i := List.drop_eq_nil_iff.mp hd
      have hi' : i = items.length := by omega
      refine .inl ⟨by rw [hi']; exact j2, ?_⟩
      rw [hd] at q
      obtain ⟨_, q⟩ := q
      obtain ⟨_, q⟩ := q
      cases o1 with
      | true =>
        have := p (w2.tell D (.lst accV) (.lst accP)) (.ref w2.ph.length) (.ref D) (s1.trans (Step.tell ok1 s2 hD)) (ok2.tell (ok2.blind hh) ⟨accV, upd_same, reps_tell (ok2.blind hh) ra⟩) (.ref (by
          show (w2.μ.num ++ [D])[w2.ph.length]? = some D
          rw [← ok2.len, List.getElem?_append_right (Nat.le_refl _), Nat.sub_self]; rfl)) (by simp only [if_true] at q; exact q)
        have e : (w2.tell D (.lst accV) (.lst accP)).H = w2.H := upd_self eD
        rw [e] at this
        exact this
      | false =>
        exact p (w2.show D) (.lst accP) (.ref D) (s1.trans (Step.show' ok1 s2 hD)) ok2.show (.lst eD ⟨hDn, fun z => z.2 rfl⟩ (reps_show ra)) (by rw [if_neg (by decide)] at q; exact q)
    | cons z rest =>
      have hlt : i < items.length := by
        apply Nat.lt_of_not_le
        intro z
        rw [List.drop_eq_nil_of_le z] at hd; cases hd
      have hz : items[i]? = some z := by
        have h0 : (items.drop i)[0]? = some z := by rw [hd]; rfl
        rw [List.getElem?_drop] at h0; simpa using h0
      have hrest : items.drop (i + 1) = rest := by
        have : (items.drop i).drop 1 = rest := by rw [hd]; rfl
        rw [List.drop_drop] at this; exact this
      obtain ⟨jgo, jy⟩ := j1 i z hz
      refine .inr ⟨jgo, fun H' => ∃ m', m' < m ∧ (i + 1 + m' = items.length ∧ ∃ w2, w2.H = H' ∧ Ok X.K w2 ∧ Step w1 w2 ∧ w2.μ.hid D ∧ ∃ accP accV, w2.H D = some (.lst accV) ∧ Reps X.K w2.H w2.μ accP accV ∧ P (items.drop (i + 1)) accP w2.ph), fun H' h => h, fun v H' hy => ?_⟩
      obtain ⟨w3, s3, ok3, rfl, eph, rz⟩ := jy v H' hy
      rw [hd] at q
      obtain ⟨_, q⟩ := q
      have r3 : REnv X.K w3 (wipeE env slots) (L2.wipe σ slots) := ((r1.step s2 ok1).step s3 ok2).wipe slots
      refine hg w3 _ _ z v _ _ ok3 r3 rz q fun env' σ' r' q' hw => ⟨?_, ?_⟩
      · rw [hw slots htg, wipe_wipe fun i hi => hi]
      · rw [← eph] at q'
        refine ht w3 env' σ' _ _ ok3 r' q' fun w4 b s4 ok4 q4 => ?_
        have hh4 : w4.μ.hid D := s4.hidk D (s3.hidk D hh)
        have e3 : w3.H D = some (.lst accV) := s3.keep D _ eD hDn
        have e4 : w4.H D = some (.lst accV) := s4.keep D _ e3 (ok3.hid D (s3.hidk D hh)).1
        cases b with
        | false =>
          simp only [Bool.false_eq_true, if_false] at q4 ⊢
          exact ⟨m - 1, by omega, by omega, w4, rfl, ok4, (s2.trans s3).trans s4, hh4, accP, accV, e4, s4.reps ok3 (s3.reps ok2 ra), by rw [hrest]; exact q4⟩
        | true =>
          simp only [if_true] at q4 ⊢
          refine he w4 env' σ' _ _ ok4 (r'.step s4 ok3) q4 fun w5 y u s5 ok5 ru q5 => ?_
          obtain ⟨hlen, q5⟩ := q5
          have hh5 : w5.μ.hid D := s5.hidk D hh4
          have e5 : w5.H D = some (.lst accV) := s5.keep D _ e4 (ok4.hid D hh4).1
          have ra5 := s5.reps ok4 (s4.reps ok3 (s3.reps ok2 ra))
          refine ⟨accV, e5, by rw [ra5.length]; exact hlen, m - 1, by omega, by omega, w5.more D (.lst (accV ++ [u])), rfl, ok5.more hh5, Step.more (((s2.trans s3).trans s4).trans s5) hD, hh5, accP ++ [y], accV ++ [u], upd_same, ?_, by rw [hrest]; exact q5⟩
          exact reps_more (ok5.blind hh5) (ra5.append (.cons ru .nil))
end
/-- the same reading in every block -/
def gCan (K : PySem.W.Frag) (tgs : Tg) : TG := fun v σ H Q' => ∃ (w : Wd) (env : Env) (z : PV) (P : Env → Prop), w.H = H ∧ Ok K w ∧ REnv K w env σ ∧ Rep K w.H w.μ z v ∧ bindT tgs z env P ∧
  ∀ env' σ', REnv K w env' σ' → P env' → (∀ vs : List Nat, (∀ i ∈ tgs.slots, i ∈ vs) → L2.wipe σ' vs = L2.wipe σ vs) → Q' σ' w.H
def tCan (K : PySem.W.Frag) (L : Lw) (k : Nat) (cond : Option E) : TT := fun σ H Q' => ∃ (w : Wd) (env : Env) (Q : Bool → PHp → Prop), w.H = H ∧ Ok K w ∧ REnv K w env σ ∧ wpC (callK L.pg k) L.G XF cond env w.ph Q ∧ PostB K w Q Q'
def eCan (K : PySem.W.Frag) (L : Lw) (k : Nat) (e : E) : TE := fun σ H Q' => ∃ (w : Wd) (env : Env) (Q : QV), w.H = H ∧ Ok K w ∧ REnv K w env σ ∧ wpE (callK L.pg k) L.G XF e env w.ph Q ∧ Post K w Q Q'
theorem lc_parts {k : Nat} {X : Cx} (I : In L k N sc X) {elt tg iter : Expr} {ifs : List Expr} {scope : Scope} {kk : ItK} {its : List E} {tgs : Tg} {cond : Option E} {eelt : E} (hi : SI L N sc tg iter kk its)
    (hg : STg L N (relS scope sc) (fun x => scope.names.lookup x == some .cell) tg tgs) (ht : SC L N (relS scope sc) ifs cond) (he : SE L N (relS scope sc) elt eelt) :
    ∃ wi, PI X tg iter wi ∧ (∀ (s : Shared) (H : Hp) (C : Addr) (cl : List (Str × Addr)) (fp : List Addr), PG (X.blk s H scope (compEnvC scope cl C X.env) fp) tg (gCan X.K tgs)) ∧
      (∀ (s : Shared) (H : Hp) (C : Addr) (cl : List (Str × Addr)) (fp : List Addr), PTs (X.blk s H scope (compEnvC scope cl C X.env) fp) ifs (tCan X.K L k cond)) ∧
      (∀ (s : Shared) (H : Hp) (C : Addr) (cl : List (Str × Addr)) (fp : List Addr), PE (X.blk s H scope (compEnvC scope cl C X.env) fp) elt (eCan X.K L k eelt)) ∧
      ∀ (slots : List Nat) (o1 : Bool), (∀ i ∈ tgs.slots, i ∈ slots) → ∀ (w : Wd) (env : Env) (σ : L2.St) (Q : QV) (Q' : VK), Ok X.K w → REnv X.K w env σ → wpE (callK L.pg k) L.G XF (.comp o1 eelt tgs kk its cond slots) env w.ph Q → Post X.K w Q Q' → tLc wi (gCan X.K tgs) (tCan X.K L k cond) (eCan X.K L k eelt) slots σ w.H Q' := by
  obtain ⟨wi, h1, h2⟩ := hi k X I
  refine ⟨wi, h1, fun s H C cl fp => ?_, fun s H C cl fp => ?_, fun s H C cl fp => ?_, fun slots o1 hs w env σ Q Q' o r q p => ?_⟩
  · obtain ⟨g, p1, q1⟩ := hg k _ (I.blk s H scope C cl fp) fun y hy => hy
    refine ⟨fun pins s σ H v u Q J r h => p1.run pins s σ H v u Q J r ?_⟩
    obtain ⟨w, env, z, P, rfl, o, re, rz, b, c⟩ := h
    exact q1 w env σ z v P Q o re rz b c
  · obtain ⟨g, p1, q1⟩ := ht k _ (I.blk s H scope C cl fp)
    refine ⟨fun pins s σ H Q J h => p1.run pins s σ H Q J ?_⟩
    obtain ⟨w, env, P, rfl, o, re, b, c⟩ := h
    exact q1 w env σ P Q o re b c
  · obtain ⟨g, p1, q1⟩ := he k _ (I.blk s H scope C cl fp)
    refine ⟨fun pins s σ H Q J h => p1.run pins s σ H Q J ?_⟩
    obtain ⟨w, env, P, rfl, o, re, b, c⟩ := h
    exact q1 w env σ P Q o re b c
  · exact comp_ok slots hs h2 (fun w env σ z v P Q' o re rz b c => ⟨w, env, z, P, rfl, o, re, rz, b, c⟩) (fun w env σ P Q' o re b c => ⟨w, env, P, rfl, o, re, b, c⟩) (fun w env σ P Q' o re b c => ⟨w, env, P, rfl, o, re, b, c⟩) w env σ Q Q' o r q p
theorem slots_in {tgs : Tg} {slots : List Nat} (h : (tgs.slots.all fun i => slots.contains i) = true) : ∀ i ∈ tgs.slots, i ∈ slots := fun i hi => by
  have := List.all_eq_true.mp h i hi
  simpa using this
theorem s_comp {elt tg iter : Expr} {ifs : List Expr} {scope : Scope} (own : List (Str × Nat)) {kk : ItK} {its : List E} {tgs : Tg} {cond : Option E} {eelt : E} {o1 : Bool} {slots : List Nat} (hi : SI L N sc tg iter kk its) (hb : blkC N sc scope own = true) (hsl : own.map (·.2) = slots) (htg : (tgs.slots.all fun i => slots.contains i) = true)
    (hg : STg L N (relS scope sc) (fun x => scope.names.lookup x == some .cell) tg tgs) (ht : SC L N (relS scope sc) ifs cond) (he : SE L N (relS scope sc) elt eelt) (hs : ∀ env x, foldedSetIterable iter env x = pure x := by intro _ _; rfl) :
    SE L N sc (.ListComp elt [⟨tg, iter, ifs, 0⟩] scope pos) (.comp o1 eelt tgs kk its cond slots) := by
  intro k X I
  subst hsl
  obtain ⟨wi, h1, h2, h3, h4, h5⟩ := lc_parts I hi hg ht he
  have hB : BlkOk X.N X.env.scope scope own := by rw [I.names, I.scope]; exact blkOk_by hb
  exact ⟨_, pe_lc I.calm (by rw [I.names]; exact I.nd) h1 hB h2 h3 h4 (hs _), h5 _ o1 (slots_in htg)⟩
end
end RL

/-! RLSound7: statements. -/
namespace RL
open PySem PySem.Spec PyProof.Rows L2
structure InS (L : Lw) (k : Nat) (N : List Str) (sc : Scope) (X : Cx) : Prop where
  base : In L k N sc X
  fn : ∀ x, X.fn x = true
  own : PassesOwn (model X.prog X.w) X.A X.env X.xe
def PostN (K : PySem.W.Frag) (w : Wd) (Q : Env → PHp → Prop) (Q' : L2.St → Hp → Prop) : Prop := ∀ w' env' σ', Step w w' → Ok K w' → REnv K w' env' σ' → Q env' w'.ph → Q' σ' w'.H
structure DPost (K : PySem.W.Frag) (w : Wd) (D : Dn) (D' : Ends) : Prop where
  nx : PostN K w D.nx D'.nx
  rt : Post K w D.rt D'.rt
  bk : PostN K w D.bk D'.bk
  ct : PostN K w D.ct D'.ct
theorem PostN.step {K : PySem.W.Frag} {w w1 : Wd} {Q : Env → PHp → Prop} {Q' : L2.St → Hp → Prop} (p : PostN K w Q Q') (s : Step w w1) : PostN K w1 Q Q' := fun w' e σ s' o r q => p w' e σ (s.trans s') o r q
theorem DPost.step {K : PySem.W.Frag} {w w1 : Wd} {D : Dn} {D' : Ends} (p : DPost K w D D') (s : Step w w1) : DPost K w1 D D' := ⟨p.nx.step s, p.rt.step s, p.bk.step s, p.ct.step s⟩
section
variable (L : Lw) (N : List Str) (sc : Scope)
def SS (st : Stmt) (s : S) : Prop := ∀ k X, InS L k N sc X → ∃ t, PS X st t ∧ ∀ (w : Wd) env σ D D', Ok X.K w → REnv X.K w env σ → wpS (callK L.pg k) L.G XF s D env w.ph → DPost X.K w D D' → t D' σ w.H
def SB (sts : List Stmt) (ss : List S) : Prop := ∀ k X, InS L k N sc X → ∃ t, PSs X sts t ∧ ∀ (w : Wd) env σ D D', Ok X.K w → REnv X.K w env σ → wpB (callK L.pg k) L.G XF ss D env w.ph → DPost X.K w D D' → t D' σ w.H
end
section
variable {L : Lw} {N : List Str} {sc : Scope} {a b c tgx : Expr} {ea eb ec : E} {xs : List Expr} {es : List E} {st : Stmt} {s : S} {sts sts' : List Stmt} {ss ss' : List S} {pos p : Pos}
theorem b_nil : SB L N sc [] [] := fun k X I => ⟨_, pss_nil, fun w env σ D D' o r q p => p.nx w env σ (Step.refl w) o r q⟩
theorem b_cons (h1 : SS L N sc st s) (h2 : SB L N sc sts ss) : SB L N sc (st :: sts) (s :: ss) := by
  intro k X I
  obtain ⟨t, p1, q1⟩ := h1 k X I
  obtain ⟨u, p2, q2⟩ := h2 k X I
  refine ⟨_, pss_cons p1 p2, fun w env σ D D' o r q p => ?_⟩
  exact q1 w env σ _ _ o r q ⟨fun w' e' σ' s' o' r' q' => q2 w' e' σ' _ _ o' r' q' (p.step s'), p.rt, p.bk, p.ct⟩
theorem st_pass : SS L N sc (.Pass pos) .pass := fun k X I => ⟨_, ps_pass, fun w env σ D D' o r q p => p.nx w env σ (Step.refl w) o r q⟩
theorem st_brk : SS L N sc (.Break pos) .brk := fun k X I => ⟨_, ps_break, fun w env σ D D' o r q p => p.bk w env σ (Step.refl w) o r q⟩
theorem st_cont : SS L N sc (.Continue pos) .cont := fun k X I => ⟨_, ps_continue, fun w env σ D D' o r q p => p.ct w env σ (Step.refl w) o r q⟩
theorem st_retN : SS L N sc (.Return none pos) .retN := fun k X I => ⟨_, ps_retN, fun w env σ D D' o r q p => p.rt.here o .non q⟩
theorem st_raise {cls : Str} : SS L N sc st (.raise_ cls es) := fun k X I => ⟨fun _ _ _ => False, ⟨fun _ _ _ _ _ _ h => h.elim⟩, fun w env σ D D' o r q p => q⟩
theorem st_ret (ha : SE L N sc a ea) : SS L N sc (.Return (some a) pos) (.ret ea) := by
  intro k X I
  obtain ⟨t, p1, q1⟩ := ha k X I.base
  exact ⟨_, ps_ret p1, fun w env σ D D' o r q p => q1 w env σ _ _ o r q p.rt⟩
theorem st_expr (ha : SE L N sc a ea) (hs : ∀ l env, swapsWith a none l env = pure false := by intro _ _; rfl) : SS L N sc (.Expr a pos) (.expr ea) := by
  intro k X I
  obtain ⟨t, p1, q1⟩ := ha k X I.base
  refine ⟨_, ps_expr p1 (hs _ _), fun w env σ D D' o r q p => ?_⟩
  exact q1 w env σ _ _ o r q fun w' x v s' o' rv q' => p.nx w' env σ s' o' (r.step s' o) q'
theorem st_set (i : Nat) {x : Str} {px : Pos} (hi : N[i]? = some x) (hx : Loc sc x) (ha : SE L N sc a ea) (hs : ∀ l env, swapsWith a (some (.Name x px)) l env = pure false := by intro _ _; rfl) : SS L N sc (.Assign [.Name x px] a pos) (.set i ea) := by
  intro k X I
  obtain ⟨t, p1, q1⟩ := ha k X I.base
  refine ⟨_, ps_set (i := i) (by rw [I.base.names]; exact I.base.nd) (by rw [I.base.names]; exact hi) (by rw [I.base.scope]; exact hx) p1 (hs _ _) (.inl (I.fn _)), fun w env σ D D' o r q p => ?_⟩
  exact q1 w env σ _ _ o r q fun w' x v s' o' rv q' => p.nx w' _ _ s' o' ((r.step s' o).set rv) q'.2
theorem swaps_lc {elt : Expr} {cs : List Comprehension} {scope : Scope} {y : Str} {py lp : Pos} {l : Nat} {env : PySem.Env} : swapsWith (.ListComp elt cs scope lp) (some (.Name y py)) l env =
    pure (env.blockKind == .function && env.kindOf y == some .local && py.line == lp.line && !(scope.names.any fun (n, k) => n == y && (k == .local || k == .cell))) := rfl
def swapB (sc scope : Scope) (y : Str) (l l' : Nat) : Bool := sc.kind == .function && sc.names.lookup y == some .local && l == l' && !(scope.names.any fun (n, k) => n == y && (k == .local || k == .cell))
theorem In.swap {k : Nat} {X : Cx} (I : In L k N sc X) {elt : Expr} {cs : List Comprehension} {scope : Scope} {y : Str} {py lp : Pos} {l : Nat} (hk : sc.kind = .function) : swapsWith (.ListComp elt cs scope lp) (some (.Name y py)) l X.env = pure (swapB sc scope y py.line lp.line) := by
  rw [swaps_lc]
  unfold swapB
  have e1 : X.env.blockKind = sc.kind := by
    unfold PySem.Env.blockKind
    rw [I.scope, hk]; rfl
  have e2 : X.env.kindOf y = sc.names.lookup y := by
    unfold PySem.Env.kindOf
    rw [I.scope]
  rw [e1, e2]
/-- x = [..], the list stored as it is made, or behind -/
theorem st_setC (i : Nat) {x : Str} {px : Pos} {elt tg iter : Expr} {ifs : List Expr} {scope : Scope} (own : List (Str × Nat)) {kk : ItK} {its : List E} {tgs : Tg} {cond : Option E} {eelt : E} {o1 : Bool} {slots : List Nat} {lp : Pos} (hi : N[i]? = some x) (hx : Loc sc x) (hk : sc.kind = .function)
    (hit : SI L N sc tg iter kk its) (hb : blkC N sc scope own = true) (hsl : own.map (·.2) = slots) (htg : (tgs.slots.all fun i => slots.contains i) = true)
    (hg : STg L N (relS scope sc) (fun x => scope.names.lookup x == some .cell) tg tgs) (ht : SC L N (relS scope sc) ifs cond) (he : SE L N (relS scope sc) elt eelt) (hs : ∀ env x, foldedSetIterable iter env x = pure x := by intro _ _; rfl) :
    SS L N sc (.Assign [.Name x px] (.ListComp elt [⟨tg, iter, ifs, 0⟩] scope lp) pos) (.set i (.comp o1 eelt tgs kk its cond slots)) := by
  intro k X I
  subst hsl
  obtain ⟨wi, h1, h2, h3, h4, h5⟩ := lc_parts I.base hit hg ht he
  have hB : BlkOk X.N X.env.scope scope own := by rw [I.base.names, I.base.scope]; exact blkOk_by hb
  have hN : X.N.Nodup := by rw [I.base.names]; exact I.base.nd
  have hi' : X.N[i]? = some x := by rw [I.base.names]; exact hi
  cases hw : swapB sc scope x px.line lp.line with
  | true =>
    have hsw := I.base.swap (elt := elt) (cs := [⟨tg, iter, ifs, 0⟩]) (scope := scope) (y := x) (py := px) (lp := lp) (l := pos.line) hk
    rw [hw] at hsw
    have hloc : sc.names.lookup x = some .local := by
      unfold swapB at hw
      simp only [Bool.and_eq_true, beq_iff_eq] at hw
      exact hw.1.1.2
    refine ⟨_, ps_setLc (i := i) I.base.calm hN hi' (by rw [I.base.scope]; exact hloc) hsw h1 hB h2 h3 h4 (hs _), fun w env σ D D' o r q p => ?_⟩
    exact h5 _ o1 (slots_in htg) w env σ _ _ o r q fun w' x v s' o' rv q' => p.nx w' _ _ s' o' ((r.step s' o).set rv) q'.2
  | false =>
    have hsw := I.base.swap (elt := elt) (cs := [⟨tg, iter, ifs, 0⟩]) (scope := scope) (y := x) (py := px) (lp := lp) (l := pos.line) hk
    rw [hw] at hsw
    refine ⟨_, ps_set (i := i) hN hi' (by rw [I.base.scope]; exact hx) (pe_lc I.base.calm hN h1 hB h2 h3 h4 (hs _)) hsw (.inl (I.fn _)), fun w env σ D D' o r q p => ?_⟩
    exact h5 _ o1 (slots_in htg) w env σ _ _ o r q fun w' x v s' o' rv q' => p.nx w' _ _ s' o' ((r.step s' o).set rv) q'.2
theorem st_setT {t : Tg} (ha : SE L N sc a ea) (hg : STg L N sc (fun _ => true) tgx t) (hs : ∀ l env, swapsWithSole [tgx] a l env = pure false := by intro _ _; rfl) (hw : ∀ env, env.scope = sc → swappedStores [tgx] a env = pure none) (h1 : ∀ env, (assignEach [tgx] env).map (·.2) = [assign tgx env] := by intro _; rfl) :
    SS L N sc (.Assign [tgx] a pos) (.setT t ea) := by
  intro k X I
  obtain ⟨ta, p1, q1⟩ := ha k X I.base
  obtain ⟨g, p2, q2⟩ := hg k X I.base fun y _ => I.fn y
  refine ⟨_, ps_asg p1 p2 (hs _ _) (hw _ I.base.scope) (h1 _), fun w env σ D D' o r q p => ?_⟩
  refine q1 w env σ _ _ o r q fun w' x v s' o' rv q' => ?_
  exact q2 w' env σ x v _ _ o' (r.step s' o) rv q' fun env' σ' r' q'' _ => p.nx w' _ _ s' o' r' q''
theorem st_par2 (i j : Nat) {x y : Str} {px py pt pt2 : Pos} {kt k2} (hi : N[i]? = some x) (hj : N[j]? = some y) (hij : i ≠ j) (hx : sc.names.lookup x = some .local) (hy : sc.names.lookup y = some .local) (h : SA L N sc [a, b] [ea, eb])
    (hw : ∀ env, env.scope = sc → swappedStores [.Tuple [.Name x px, .Name y py] kt pt] (.Tuple [a, b] k2 pt2) env = pure (some [x, y]))
    (hs : ∀ l env, swapsWithSole [.Tuple [.Name x px, .Name y py] kt pt] (.Tuple [a, b] k2 pt2) l env = pure false := by intro _ _; rfl) : SS L N sc (.Assign [.Tuple [.Name x px, .Name y py] kt pt] (.Tuple [a, b] k2 pt2) pos) (.par [i, j] [ea, eb]) := by
  intro k X I
  obtain ⟨ta, p1, q1⟩ := h k X I.base
  refine ⟨_, ps_par (i := i) (j := j) I.base.calm (by rw [I.base.names]; exact I.base.nd) (by rw [I.base.names]; exact hi) (by rw [I.base.names]; exact hj) hij (by rw [I.base.scope]; exact hx) (by rw [I.base.scope]; exact hy) p1 (hw _ I.base.scope) (hs _ _), fun w env σ D D' o r q p => ?_⟩
  refine q1 w env σ (fun vs ph1 => D.nx (setSl [i, j] vs env) ph1) _ o r q fun w' zs vs s' o' rs hl q' => ?_
  cases rs with
  | nil => cases hl
  | cons r1 rs =>
    cases rs with
    | nil => cases hl
    | cons r2 rs =>
      cases rs with
      | cons _ _ => cases hl
      | nil => exact ⟨_, _, rfl, p.nx w' _ _ s' o' (((r.step s' o).set r1).set r2) q'⟩
theorem st_par3 (i j l : Nat) {x y z : Str} {px py pz pt pt2 : Pos} {kt k2} (hi : N[i]? = some x) (hj : N[j]? = some y) (hl : N[l]? = some z) (hij : i ≠ j) (hil : i ≠ l) (hjl : j ≠ l) (hx : sc.names.lookup x = some .local) (hy : sc.names.lookup y = some .local) (hz : sc.names.lookup z = some .local) (h : SA L N sc [a, b, c] [ea, eb, ec])
    (hw : ∀ env, env.scope = sc → swappedStores [.Tuple [.Name x px, .Name y py, .Name z pz] kt pt] (.Tuple [a, b, c] k2 pt2) env = pure (some [x, y, z]))
    (hs : ∀ l env, swapsWithSole [.Tuple [.Name x px, .Name y py, .Name z pz] kt pt] (.Tuple [a, b, c] k2 pt2) l env = pure false := by intro _ _; rfl) : SS L N sc (.Assign [.Tuple [.Name x px, .Name y py, .Name z pz] kt pt] (.Tuple [a, b, c] k2 pt2) pos) (.par [i, j, l] [ea, eb, ec]) := by
  intro k X I
  obtain ⟨ta, p1, q1⟩ := h k X I.base
  refine ⟨_, ps_par3 (i := i) (j := j) (l := l) I.base.calm (by rw [I.base.names]; exact I.base.nd) (by rw [I.base.names]; exact hi) (by rw [I.base.names]; exact hj) (by rw [I.base.names]; exact hl) hij hil hjl (by rw [I.base.scope]; exact hx) (by rw [I.base.scope]; exact hy) (by rw [I.base.scope]; exact hz) p1 (hw _ I.base.scope) (hs _ _), fun w env σ D D' o r q p => ?_⟩
  refine q1 w env σ (fun vs ph1 => D.nx (setSl [i, j, l] vs env) ph1) _ o r q fun w' zs vs s' o' rs hl q' => ?_
  cases rs with
  | nil => cases hl
  | cons r1 rs =>
    cases rs with
    | nil => cases hl
    | cons r2 rs =>
      cases rs with
      | nil => cases hl
      | cons r3 rs =>
        cases rs with
        | cons _ _ => cases hl
        | nil => exact ⟨_, _, _, rfl, p.nx w' _ _ s' o' ((((r.step s' o).set r1).set r2).set r3) q'⟩
/-! ### items -/
def setF (env : PySem.Env) (o i : Expr) (pos : Pos) : Prop := ∀ v, assign (.Subscript o i pos) env v = (do
      let ov ← holding [v] (eval o env)
      let iv ← holding [v, ov] (eval i env)
      standAt pos
      holding [v, ov, iv] (setItem ov iv v)
      release [v, ov, iv] [])
theorem st_seti {o i : Expr} {eo ei : E} {ps : Pos} (ha : SE L N sc a ea) (ho : SE L N sc o eo) (hi : SE L N sc i ei) (hf : ∀ env, setF env o i ps := by intro _ _; rfl) (hs : ∀ l env, swapsWithSole [.Subscript o i ps] a l env = pure false := by intro _ _; rfl)
    (hw : ∀ env, swappedStores [.Subscript o i ps] a env = pure none := by intro _; rfl) (h1 : ∀ env, (assignEach [.Subscript o i ps] env).map (·.2) = [assign (.Subscript o i ps) env] := by intro _; rfl) : SS L N sc (.Assign [.Subscript o i ps] a pos) (.seti eo ei ea) := by
  intro k X I
  obtain ⟨ta, p1, q1⟩ := ha k X I.base
  obtain ⟨to, p2, q2⟩ := ho k X I.base
  obtain ⟨ti, p3, q3⟩ := hi k X I.base
  refine ⟨_, ps_asg p1 (pg_sub p2 p3 (seti_ok (X := X) (by have := I.base.hu; omega)) (hf _)) (hs _ _) (hw _) (h1 _), fun w env σ D D' ok r q p => ?_⟩
  refine q1 w env σ _ _ ok r q fun w1 x v s1 o1 rv q => ?_
  refine q2 w1 env σ _ _ o1 (r.step s1 ok) q fun w2 y u s2 o2 ru q => ?_
  refine q3 w2 env σ _ _ o2 ((r.step s1 ok).step s2 o1) q fun w3 z t s3 o3 rt q => ?_
  refine ⟨w3, y, z, x, fun ph4 => D.nx env ph4, rfl, o3, s3.rep o2 ru, rt, (s2.trans s3).rep o1 rv, q, fun w4 s4 o4 q => ?_⟩
  exact p.nx w4 env σ (((s1.trans s2).trans s3).trans s4) o4 ((((r.step s1 ok).step s2 o1).step s3 o2).step s4 o3) q
def SIs (L : Lw) (N : List Str) (sc : Scope) (tgs : List Expr) (is : List (E × E)) : Prop := ∀ k X, InS L k N sc X → ∃ g, PGs X tgs g ∧ ∀ (w : Wd) env σ (zs : List PV) (vs : List V) (K : PHp → Prop) Q', Ok X.K w → REnv X.K w env σ → Reps X.K w.H w.μ zs vs → zs.length = is.length → wpIs (callK L.pg k) L.G XF is zs env w.ph K →
  (∀ w', Step w w' → Ok X.K w' → K w'.ph → Q' σ w'.H) → g vs σ w.H Q'
theorem is_nil : SIs L N sc [] [] := fun k X I => ⟨_, pgs_nil, fun w env σ zs vs K Q' o r rz hl q p => by
  cases rz with
  | nil => exact ⟨rfl, p w (Step.refl w) o q⟩
  | cons _ _ => cases hl⟩
theorem is_cons {o i : Expr} {eo ei : E} {ps : Pos} {tgs : List Expr} {is : List (E × E)} (ho : SE L N sc o eo) (hi : SE L N sc i ei) (h : SIs L N sc tgs is) (hf : ∀ env, setF env o i ps := by intro _ _; rfl)
    (hs : ∀ env, (assignEach (.Subscript o i ps :: tgs) env).map (·.2) = assign (.Subscript o i ps) env :: (assignEach tgs env).map (·.2) := by intro _; rfl) : SIs L N sc (.Subscript o i ps :: tgs) ((eo, ei) :: is) := by
  intro k X I
  obtain ⟨to, p2, q2⟩ := ho k X I.base
  obtain ⟨ti, p3, q3⟩ := hi k X I.base
  obtain ⟨g, p4, q4⟩ := h k X I
  refine ⟨_, pgs_cons (pg_sub p2 p3 (seti_ok (X := X) (by have := I.base.hu; omega)) (hf _)) p4 (hs _), fun w env σ zs vs K Q' ok r rz hl q p => ?_⟩
  cases rz with
  | nil => cases hl
  | cons rv rr =>
    refine ⟨_, _, rfl, ?_⟩
    refine q2 w env σ _ _ ok r q fun w2 y u s2 o2 ru q => ?_
    refine q3 w2 env σ _ _ o2 (r.step s2 ok) q fun w3 z t s3 o3 rt q => ?_
    refine ⟨w3, y, z, _, _, rfl, o3, s3.rep o2 ru, rt, (s2.trans s3).rep ok rv, q, fun w4 s4 o4 q => ?_⟩
    refine q4 w4 env σ _ _ _ _ o4 (((r.step s2 ok).step s3 o2).step s4 o3) (((s2.trans s3).trans s4).reps ok rr) (by simpa using hl) q fun w5 s5 o5 q => ?_
    exact p w5 (((s2.trans s3).trans s4).trans s5) o5 q
theorem st_setis {tgs : List Expr} {is : List (E × E)} {kt k2} {pt pt2 : Pos} (h : SA L N sc xs es) (hg : SIs L N sc tgs is) (hl : is.length = es.length := by rfl) (hsz : es.length ≤ sizeLine := by decide) (hn : ∀ env, (assignEach tgs env).length = is.length := by intro _; rfl) (hst : ∀ env, (assignEach tgs env).findIdx? (·.1) = none := by intro _; rfl)
    (hs : ∀ l env, swapsWithSole [.Tuple tgs kt pt] (.Tuple xs k2 pt2) l env = pure false := by intro _ _; rfl) (hw : ∀ env, env.scope = sc → swappedStores [.Tuple tgs kt pt] (.Tuple xs k2 pt2) env = pure none) (h1 : ∀ env, (assignEach [.Tuple tgs kt pt] env).map (·.2) = [assign (.Tuple tgs kt pt) env] := by intro _; rfl) :
    SS L N sc (.Assign [.Tuple tgs kt pt] (.Tuple xs k2 pt2) pos) (.setis is es) := by
  intro k X I
  obtain ⟨ta, p1, q1⟩ := h k X I.base
  obtain ⟨g, p2, q2⟩ := hg k X I
  refine ⟨_, ps_asg (pe_tup p1) (pg_tup (n := is.length) I.base.calm p2 (hn _) (hst _)) (hs _ _) (hw _ I.base.scope) (h1 _), fun w env σ D D' ok r q p => ?_⟩
  refine q1 w env σ _ _ ok r q fun w1 zs vs s1 o1 rs hz q => ⟨by rw [rs.length, hz]; exact hsz, fun T hT => ?_⟩
  have s2 := Step.put (w := w1) (u := .tup vs) hT
  have o2 := o1.put (u := .tup vs) hT
  refine ⟨T, vs, rfl, SqT.of upd_same, by rw [rs.length, hz, hl], ?_⟩
  refine q2 (w1.put T (.tup vs)) env σ zs vs _ _ o2 ((r.step s1 ok).step s2 o1) (s2.reps o1 rs) (by rw [hz, hl]) q fun w3 s3 o3 q => ?_
  exact p.nx w3 env σ ((s1.trans s2).trans s3) o3 (((r.step s1 ok).step s2 o1).step s3 o2) q
/-! ### branches, loops -/
theorem st_ife (hc : ST L N sc c ec) (ha : SB L N sc sts ss) (hb : SB L N sc sts' ss') : SS L N sc (.If c sts sts' pos) (.ife ec ss ss') := by
  intro k X I
  obtain ⟨tc, p1, q1⟩ := hc k X I.base
  obtain ⟨ta, p2, q2⟩ := ha k X I
  obtain ⟨tb, p3, q3⟩ := hb k X I
  refine ⟨_, ps_if p1 p2 p3, fun w env σ D D' o r q p => ?_⟩
  refine q1 w env σ (fun kk ph1 => if kk = true then wpB (callK L.pg k) L.G XF ss D env ph1 else wpB (callK L.pg k) L.G XF ss' D env ph1) _ o r q fun w1 b s1 o1 q => ?_
  cases b with
  | true =>
    simp only [if_true] at q ⊢
    exact q2 w1 env σ _ _ o1 (r.step s1 o) q (p.step s1)
  | false =>
    simp only [Bool.false_eq_true, if_false] at q ⊢
    exact q3 w1 env σ _ _ o1 (r.step s1 o) q (p.step s1)
theorem st_while (hc : ST L N sc c ec) (ha : SB L N sc sts ss) : SS L N sc (.While c sts [] pos) (.while_ ec ss) := by
  intro k X I
  obtain ⟨tc, p1, q1⟩ := hc k X I.base
  obtain ⟨ta, p2, q2⟩ := ha k X I
  refine ⟨_, ps_while I.own p1 p2, fun w env σ D D' o r q p => ?_⟩
  obtain ⟨n, q⟩ := q
  refine ⟨fun m σ' H' => ∃ w' env', w'.H = H' ∧ Step w w' ∧ Ok X.K w' ∧ REnv X.K w' env' σ' ∧ whl (fun env' h K => wpE (callK L.pg k) L.G XF ec env' h fun v h1 => ∃ b, v = .bl b ∧ K b h1) (fun D' env' h => wpB (callK L.pg k) L.G XF ss D' env' h) D m env' w'.ph, ⟨n, w, env, rfl, Step.refl w, o, r, q⟩, ?_⟩
  rintro m σ' H' ⟨w1, env1, rfl, s1, o1, r1, q⟩
  cases m with
  | zero => exact q.elim
  | succ m =>
    refine q1 w1 env1 σ' _ _ o1 r1 q fun w2 b s2 o2 q => ?_
    cases b with
    | false =>
      simp only [Bool.false_eq_true, if_false] at q ⊢
      exact p.nx w2 env1 σ' (s1.trans s2) o2 (r1.step s2 o1) q
    | true =>
      simp only [if_true] at q ⊢
      refine ⟨fun σ'' H'' => ∃ m', m' < m + 1 ∧ ∃ w' env', w'.H = H'' ∧ Step w w' ∧ Ok X.K w' ∧ REnv X.K w' env' σ'' ∧ whl (fun env' h K => wpE (callK L.pg k) L.G XF ec env' h fun v h1 => ∃ b, v = .bl b ∧ K b h1) (fun D' env' h => wpB (callK L.pg k) L.G XF ss D' env' h) D m' env' w'.ph, fun _ _ h => h, ?_⟩
      refine q2 w2 env1 σ' _ _ o2 (r1.step s2 o1) q ⟨?_, p.rt.step (s1.trans s2), p.nx.step (s1.trans s2), ?_⟩
      · exact fun w3 env3 σ3 s3 o3 r3 q3 => ⟨m, Nat.lt_succ_self _, w3, env3, rfl, (s1.trans s2).trans s3, o3, r3, q3⟩
      · exact fun w3 env3 σ3 s3 o3 r3 q3 => ⟨m, Nat.lt_succ_self _, w3, env3, rfl, (s1.trans s2).trans s3, o3, r3, q3⟩
theorem forL_still {still : PHp → Prop} {t : Tg} {bd : Dn → Env → PHp → Prop} {D : Dn} {l : List PV} {env : Env} {ph : PHp} (h : forL still t bd D l env ph) : still ph := by
  cases l with
  | nil => exact h.1
  | cons v r => exact h.1
theorem st_for {tg iter : Expr} {t : Tg} {kk : ItK} {its : List E} (hi : SI L N sc tg iter kk its) (hg : STg L N sc (fun _ => true) tg t) (hb : SB L N sc sts ss) (hs : ∀ env x, foldedSetIterable iter env x = pure x := by intro _ _; rfl) : SS L N sc (.For tg iter sts [] pos) (.for_ t kk its ss) := by
  intro k X I
  obtain ⟨wi, p1, q1⟩ := hi k X I.base
  obtain ⟨g, p2, q2⟩ := hg k X I.base fun y _ => I.fn y
  obtain ⟨tb, p3, q3⟩ := hb k X I
  refine ⟨_, ps_for I.own I.base.calm p1 p2 p3 (hs _), fun w env σ D D' o r q p => ?_⟩
  refine q1 w env σ (fun items vs ph1 => forL (fun h => itItems kk vs h = some items) t (fun D' env' h => wpB (callK L.pg k) L.G XF ss D' env' h) D items env ph1) _ o r q ?_
  intro w1 args us items s1 o1 rs e1 q J hJ
  let P := fun (l : List PV) (env' : Env) (ph1 : PHp) => forL (fun h => itItems kk args h = some items) t (fun D' env' h => wpB (callK L.pg k) L.G XF ss D' env' h) D l env' ph1
  refine ⟨fun i m σ' H' => i + m = items.length ∧ ∃ w2 env2, w2.H = H' ∧ Ok X.K w2 ∧ Step w1 w2 ∧ REnv X.K w2 env2 σ' ∧ P (items.drop i) env2 w2.ph, ⟨items.length, by omega, w1, env, rfl, o1, Step.refl w1, r.step s1 o, q⟩, ?_⟩
  rintro i m σ' H' ⟨him, w2, env2, rfl, o2, s2, r2, q⟩
  have hst : itItems kk args w2.ph = some items := forL_still q
  obtain ⟨j1, j2⟩ := hJ w2 o2 (s2.reps o1 rs) items hst
  cases hd : items.drop i with
  | nil =>
    have hl : items.length ≤ i := List.drop_eq_nil_iff.mp hd
    have hi' : i = items.length := by omega
    rw [hd] at q
    exact .inl ⟨by rw [hi']; exact j2, p.nx w2 env2 σ' (s1.trans s2) o2 r2 q.2⟩
  | cons z rest =>
    have hlt : i < items.length := by
      apply Nat.lt_of_not_le
      intro z
      rw [List.drop_eq_nil_of_le z] at hd; cases hd
    have hz : items[i]? = some z := by
      have h0 : (items.drop i)[0]? = some z := by rw [hd]; rfl
      rw [List.getElem?_drop] at h0; simpa using h0
    have hrest : items.drop (i + 1) = rest := by
      have : (items.drop i).drop 1 = rest := by rw [hd]; rfl
      rw [List.drop_drop] at this; exact this
    obtain ⟨jgo, jy⟩ := j1 i z hz
    refine .inr ⟨jgo, fun σ'' H'' => ∃ m', m' < m ∧ (i + 1 + m' = items.length ∧ ∃ w2 env2, w2.H = H'' ∧ Ok X.K w2 ∧ Step w1 w2 ∧ REnv X.K w2 env2 σ'' ∧ P (items.drop (i + 1)) env2 w2.ph), fun _ _ h => h, fun v H'' hy => ?_⟩
    obtain ⟨w3, s3, o3, rfl, eph, rz⟩ := jy v H'' hy
    rw [hd] at q
    obtain ⟨_, q⟩ := q
    refine q2 w3 env2 σ' z v _ _ o3 (r2.step s3 o2) rz q fun env' σ'' r' q' _ => ?_
    rw [← eph] at q'
    have hnx : PostN X.K w3 (P rest) (fun σ'' H'' => ∃ m', m' < m ∧ (i + 1 + m' = items.length ∧ ∃ w2 env2, w2.H = H'' ∧ Ok X.K w2 ∧ Step w1 w2 ∧ REnv X.K w2 env2 σ'' ∧ P (items.drop (i + 1)) env2 w2.ph)) := fun w4 env4 σ4 s4 o4 r4 q4 =>
      ⟨m - 1, by omega, by omega, w4, env4, rfl, o4, (s2.trans s3).trans s4, r4, by rw [hrest]; exact q4⟩
    exact q3 w3 env' σ'' _ _ o3 r' q' ⟨hnx, p.rt.step ((s1.trans s2).trans s3), p.nx.step ((s1.trans s2).trans s3), hnx⟩
end
end RL

/-! RLSound8: defs. -/
namespace RL
open PySem PySem.Spec PyProof.Rows L2
/-! ### behind a body: new numbers are let go -/
def Wd.cutoff (w : Wd) (n : Nat) : Wd := ⟨⟨w.μ.num.take n, w.μ.hid⟩, w.ph.take n, w.H⟩
section
variable {K : PySem.W.Frag} {w : Wd} {n : Nat}
theorem out_cut {a : Addr} (h : w.μ.out a) : (w.cutoff n).μ.out a := ⟨fun z => h.1 (List.mem_of_mem_take z), h.2⟩
theorem num_cut {m : Nat} {a : Addr} (h : w.μ.num[m]? = some a) (hm : m < n) : (w.cutoff n).μ.num[m]? = some a := by
  show (w.μ.num.take n)[m]? = some a
  rw [List.getElem?_take_of_lt hm]; exact h
mutual
theorem rep_old : ∀ {x : PV} {v : V}, Old n x → Rep K w.H w.μ x v → Rep K w.H (w.cutoff n).μ x v
  | _, _, _, .non => .non
  | _, _, _, .bl b => .bl b
  | _, _, _, .int b => .int b
  | _, _, _, .str b => .str b
  | _, _, h, .tup e r => by cases h with | tup h => exact .tup e (reps_old h r)
  | _, _, h, .lst e o r => by cases h with | lst h => exact .lst e (out_cut o) (reps_old h r)
  | _, _, _, .scr h => .scr (by
      rcases h with ⟨h, o⟩ | h
      · exact .inl ⟨h, out_cut o⟩
      · exact .inr h)
  | _, _, h, .ref e => by cases h with | ref h => exact .ref (num_cut e h)
theorem reps_old : ∀ {x : List PV} {v : List V}, OldL n x → Reps K w.H w.μ x v → Reps K w.H (w.cutoff n).μ x v
  | _, _, _, .nil => .nil
  | _, _, h, .cons r t => by cases h with | cons h1 h2 => exact .cons (rep_old h1 r) (reps_old h2 t)
end
theorem repk_old {κ : Type} : ∀ {x : List (κ × PV)} {v : List (κ × V)}, OldL n (x.map (·.2)) → RepK K w.H w.μ x v → RepK K w.H (w.cutoff n).μ x v
  | _, _, _, .nil => .nil
  | _, _, h, .cons r t => by cases h with | cons h1 h2 => exact .cons (rep_old h1 r) (repk_old h2 t)
theorem gone (o : Ok K w) {m : Nat} {a : Addr} (h : w.μ.num[m]? = some a) (hm : n ≤ m) : (w.cutoff n).μ.out a := by
  refine ⟨fun z => ?_, fun z => (o.hid a z).1 (List.mem_of_getElem? h)⟩
  obtain ⟨i, hi, e⟩ := List.getElem_of_mem z
  have hi' : i < w.μ.num.length ∧ i < n := by
    have : i < (w.μ.num.take n).length := hi
    rw [List.length_take] at this; omega
  have e2 : w.μ.num[i]? = some a := by
    have : (w.μ.num.take n)[i]? = some a := by
      have q : (w.cutoff n).μ.num[i]? = some a := by rw [List.getElem?_eq_getElem hi, e]
      exact q
    rwa [List.getElem?_take_of_lt hi'.2] at this
  obtain ⟨j1, f1⟩ := List.getElem?_eq_some_iff.mp e2
  obtain ⟨j2, f2⟩ := List.getElem?_eq_some_iff.mp h
  have := (List.getElem_inj o.nd).mp (f1.trans f2.symm)
  omega
mutual
theorem rep_frz (o : Ok K w) : ∀ {x y : PV} {v : V}, Frz n w.ph x y → Rep K w.H w.μ x v → Rep K w.H (w.cutoff n).μ y v
  | _, _, _, .non, r => by cases r; exact .non
  | _, _, _, .bl b, r => by cases r; exact .bl b
  | _, _, _, .int b, r => by cases r; exact .int b
  | _, _, _, .str b, r => by cases r; exact .str b
  | _, _, _, .scr b, r => by
    cases r with
    | scr h =>
      refine .scr ?_
      rcases h with ⟨h, o⟩ | h
      · exact .inl ⟨h, out_cut o⟩
      · exact .inr h
  | _, _, _, .tup h, r => by cases r with | tup e r => exact .tup e (reps_frz o h r)
  | _, _, _, .lst h, r => by cases r with | lst e o' r => exact .lst e (out_cut o') (reps_frz o h r)
  | _, _, _, .old h, r => by cases r with | ref e => exact .ref (num_cut e h)
  | _, _, _, .ref hm hx h, r => by
    cases r with
    | ref e =>
      obtain ⟨vs, e1, r1⟩ := o.ob _ _ _ e hx
      exact .lst e1 (gone o e hm) (reps_frz o h r1)
theorem reps_frz (o : Ok K w) : ∀ {x y : List PV} {v : List V}, FrzL n w.ph x y → Reps K w.H w.μ x v → Reps K w.H (w.cutoff n).μ y v
  | _, _, _, .nil, r => by cases r; exact .nil
  | _, _, _, .cons h t, r => by cases r with | cons a b => exact .cons (rep_frz o h a) (reps_frz o t b)
end
mutual
theorem old_rep {H : Hp} {μ : Mu} : ∀ {x : PV} {v : V}, Rep K H μ x v → Old μ.num.length x
  | _, _, .non => .non
  | _, _, .bl b => .bl b
  | _, _, .int b => .int b
  | _, _, .str b => .str b
  | _, _, .tup e r => .tup (old_reps r)
  | _, _, .lst e o r => .lst (old_reps r)
  | _, _, .scr h => .scr _
  | _, _, .ref e => .ref (List.getElem?_eq_some_iff.mp e).1
theorem old_reps {H : Hp} {μ : Mu} : ∀ {x : List PV} {v : List V}, Reps K H μ x v → OldL μ.num.length x
  | _, _, .nil => .nil
  | _, _, .cons a b => .cons (old_rep a) (old_reps b)
end
theorem old_repk {κ : Type} {H : Hp} {μ : Mu} : ∀ {x : List (κ × PV)} {v : List (κ × V)}, RepK K H μ x v → OldL μ.num.length (x.map (·.2))
  | _, _, .nil => .nil
  | _, _, .cons a b => .cons (old_rep a) (old_repk b)
theorem old_ob (o : Ok K w) {i : Nat} {x : PO} (h : w.ph[i]? = some x) : OldO w.ph.length x := by
  have hi := (List.getElem?_eq_some_iff.mp h).1
  have hn : i < w.μ.num.length := by rw [o.len]; exact hi
  have r := o.ob i _ x (List.getElem?_eq_getElem hn) h
  rw [← o.len]
  cases x with
  | lst xs => obtain ⟨_, _, r⟩ := r; exact old_reps r
  | dK xs => obtain ⟨_, _, r⟩ := r; exact old_repk r
  | dT xs => obtain ⟨_, _, r⟩ := r; exact old_repk r
theorem ret_ok {w0 : Wd} (o0 : Ok K w0) {gc : Bool} {Q : QV} {Q' : VK} (p : Post K w0 Q Q') : Post K w0 (retS gc w0.ph Q) Q' := by
  intro w x v s o r q
  unfold retS at q
  split at q
  · obtain ⟨y, hf, hold, q⟩ := q
    obtain ⟨l, el, hl⟩ := s.grow
    have e0 : w.μ.num.take w0.ph.length = w0.μ.num := by
      rw [el, ← o0.len, List.take_left']; rfl
    have s2 : Step w0 (w.cutoff w0.ph.length) := ⟨⟨[], by show w.μ.num.take _ = _; rw [e0, List.append_nil], fun _ h => absurd h (by simp)⟩, s.keep, s.some_, s.hidn, s.hidk⟩
    have o2 : Ok K (w.cutoff w0.ph.length) := by
      refine ⟨?_, ?_, fun i a z h1 h2 => ?_, fun a ha => ?_⟩
      · show (w.μ.num.take _).length = (w.ph.take _).length
        rw [List.length_take, List.length_take, o.len]
      · exact o.nd.sublist (List.take_sublist ..)
      · have hi : i < w0.ph.length := by
          have : (w.ph.take w0.ph.length)[i]? = some z := h2
          have := (List.getElem?_eq_some_iff.mp this).1
          rw [List.length_take] at this; omega
        have h2' : w.ph[i]? = some z := by
          have : (w.ph.take w0.ph.length)[i]? = some z := h2
          rwa [List.getElem?_take_of_lt hi] at this
        have h1' : w.μ.num[i]? = some a := by
          have : (w.μ.num.take w0.ph.length)[i]? = some a := h1
          rwa [List.getElem?_take_of_lt hi] at this
        have old : OldO w0.ph.length z := by
          rcases hold i z hi h2' with h | h
          · exact old_ob o0 h
          · exact h
        have r := o.ob i a z h1' h2'
        cases z with
        | lst xs => obtain ⟨vs, e, r⟩ := r; exact ⟨vs, e, reps_old old r⟩
        | dK xs => obtain ⟨vs, e, r⟩ := r; exact ⟨vs, e, repk_old old r⟩
        | dT xs => obtain ⟨vs, e, r⟩ := r; exact ⟨vs, e, repk_old old r⟩
      · obtain ⟨h1, vs, e⟩ := o.hid a ha
        exact ⟨fun z => h1 (List.mem_of_mem_take z), vs, e⟩
    exact p (w.cutoff w0.ph.length) y v s2 o2 (rep_frz o hf r) q
  · exact p w x v s o r q
end
/-! ### defs -/
/-- a def of the text and its short form -/
structure DefS (L : Lw) (d : Df) (st : Stmt) : Prop where
  scope : FnScope d.N d.ps (defScope st)
  body : SB L d.N (defScope st) (defBody st) d.body
structure Ground0 (L : Lw) (K : PySem.W.Frag) (mg : Str → Option Value) : Prop where
  sys : ∃ o, K.lookup sysModules = some o
  blt : ∀ x ∈ bnames, mg x = none
  glb : ∀ (n : Nat) (x : Str) (v : PV), L.pg.gl[n]? = some (x, v) → ∃ (a : Atom) (u : Value), v = a.pv ∧ mg x = some u ∧ RelV a.v u
  fns : ∀ (f : Nat) (d : Df) (st : Stmt), L.pg.defs[f]? = some d → L.sts[f]? = some st → ∃ fa fd, mg d.name = some (.ref fa) ∧ Fun K d.name d.name st fa fd
theorem start_env {K : PySem.W.Frag} {w : Wd} {N : List Str} {n : Nat} {as : List PV} {vs : List V} (r : Reps K w.H w.μ as vs) : REnv K w (as.map some ++ List.replicate (N.length - as.length) none) (L2.start N vs) := by
  have hl := r.length
  refine ⟨by simp [L2.start, hl], fun i x h => ?_⟩
  by_cases hi : i < as.length
  · rw [List.getElem?_append_left (by simpa using hi), List.getElem?_map] at h
    cases e : as[i]? with
    | none => rw [e] at h; cases h
    | some y =>
      rw [e] at h; cases h
      obtain ⟨v, hv, rv⟩ := r.get e
      refine ⟨v, ?_, rv⟩
      unfold L2.start
      rw [List.getElem?_append_left (by simp [hl]; exact hi), List.getElem?_map, hv]; rfl
  · rw [List.getElem?_append_right (by simpa using hi), List.getElem?_replicate] at h
    split at h <;> cases h
theorem guards_deeper {A : Around} {env : PySem.Env} (h : A.guards = some []) : (A.deeper env).guards = some [] := h
theorem fn_all {L : Lw} {P : Program} {wd : World} {K : PySem.W.Frag} {mg : Str → Option Value} {base : Heap} (B : Ground0 L K mg) (D : ∀ (f : Nat) (d : Df) (st : Stmt), L.pg.defs[f]? = some d → L.sts[f]? = some st → DefS L d st) :
    ∀ (k f : Nat) (d : Df) (st : Stmt), L.pg.defs[f]? = some d → L.sts[f]? = some st → ∀ (fa : Addr) (fd : FuncData), Fun K d.name d.name st fa fd → FnG P wd K mg base k fa fd d.ps (spD K L.pg k f)
  | 0, f, d, st, hd, hst, fa, fd, F => ⟨fun vs H Q E h => by obtain ⟨w, as, Q, rfl, o, r, h, p⟩ := h; exact h.elim, fun A outer s H args us vs Q _ _ _ _ _ h => by obtain ⟨w, as, Q, rfl, o, r, h, p⟩ := h; exact h.elim⟩
  | k + 1, f, d, st, hd, hst, fa, fd, F => by
    have unf : ∀ (as : List PV) (ph : PHp) (Q : QV), callK L.pg (k + 1) f as ph Q XF → bodyS (callK L.pg k) L.G XF d as ph Q := fun as ph Q h => by
      have h' : (match L.pg.defs[f]? with
        | some d => bodyS (callK L.pg k) (L.pg.gl.map (·.2)) XF d as ph Q
        | none => False) := h
      rw [hd] at h'
      exact h'
    have len : ∀ (vs : List V) (H : Hp) (Q : VK) (E : XK), spD K L.pg (k + 1) f vs H Q E → vs.length = d.ps.length := fun vs H Q E h => by
      obtain ⟨w, as, Q, rfl, o, r, h, p⟩ := h
      rw [r.length]; exact (unf as _ _ h).1
    refine ⟨len, fun A outer s H args us vs Q hg hr e0 hb r hsp => ?_⟩
    have hl := len _ _ _ _ hsp
    obtain ⟨S, hbody⟩ := D f d st hd hst
    obtain ⟨oc, od, kV, doc, pm, an, cdv, ct, osl, rfl, lk, hcd⟩ := F.ex
    have KX : K.In s.heap := e0.mod.kin.keeps fun b o e => (e0.bs b o e).1
    have lim : s.heap.NoLimit := e0.mod.nolimit.keeps fun b o e => (e0.bs b o e).1
    have kinds : ∀ y ∈ d.ps.zip us, (defScope st).names.lookup y.1 = some .local ∨ ((defScope st).names.lookup y.1 = some .cell ∧ ((cellsFrom (s.heap.objs.size + 1) (defScope st).names []).lookup y.1).isSome = true) := by
      rintro ⟨y, v⟩ hy
      exact (S.par y (List.of_mem_zip hy).1).imp id fun q => ⟨q, PySem.W.cellsFrom_some _ _ _ (.inl q)⟩
    refine codeAny_call_function hr.depth (KX _ _ lk) rfl S.co S.gen rfl (PySem.W.codeRec_of KX hcd) (hb _ _ _ _ (wpAny_newFunctionEnv_cells S.kind kinds fun env he s1 x => ?_))
    subst he
    refine ⟨lim.keeps x.toInCall.keep, codeAny_func ?_⟩
    have I0 := inv_start (CX := CX0) (E := E0) S hr.hd e0 hl r x
    -- where the body stands
    have hX : InS L k d.N (defScope st) (cxOf CX0 P wd K mg base d.N d.name (defScope st) fa cdv A outer s H E0).nox :=
      ⟨⟨rfl, rfl, S.nd, rfl, guards_deeper hg, hr.deeper _, B.sys, B.blt, B.glb, fun f' d' st' h1 h2 => by
        obtain ⟨fa', fd', m1, F'⟩ := B.fns f' d' st' h1 h2
        exact ⟨fa', fd', m1, F', fn_all B D k f' d' st' h1 h2 fa' fd' F'⟩⟩, fun _ => rfl, PassesOwn.never⟩
    obtain ⟨t, ht, hq⟩ := hbody k _ hX
    obtain ⟨w, as, Qp, rfl, o, ra, hc, p⟩ := hsp
    obtain ⟨_, hc⟩ := unf as _ _ hc
    have post : Post K w (retS d.gc w.ph Qp) Q := ret_ok o p
    have hrun := hq w _ (L2.start d.N vs) { nx := fun _ h => retS d.gc w.ph Qp .non h, rt := retS d.gc w.ph Qp } { nx := fun _ H' => Q .non H', rt := Q } o (start_env (n := 0) ra) hc
      ⟨fun w' e' σ' s' o' r' q' => post w' .non .non s' o' .non q', post, fun w' e' σ' s' o' r' q' => q'.elim, fun w' e' σ' s' o' r' q' => q'.elim⟩
    refine wpAny_mono (ht.nox.run [] s1 (L2.start d.N vs) w.H _ I0 hrun) (fun fl s' hs => ?_) fun e s' hs => hs
    cases fl with
    | ret u =>
      obtain ⟨v, σ', H', J, rv, q⟩ := hs
      exact ⟨v, H', J.os, J.bare, J.base, J.hok, rv, q⟩
    | next =>
      obtain ⟨σ', H', J, q⟩ := hs
      exact ⟨.non, H', J.os, J.bare, J.base, J.hok, rfl, q⟩
    | brk =>
      obtain ⟨_, _, _, q⟩ := hs
      exact q.elim
    | cont =>
      obtain ⟨_, _, _, q⟩ := hs
      exact q.elim
end RL

/-! RLSound9: the law's call. -/
namespace RL
open PySem PySem.Spec PySem.W PySem.Calls PyProof.Rows L2
/-- the script, as it lies -/
def scrO (us : List Value) : Obj := { cls := .type "list", data := .seq us.toArray }
section
variable {P : Program} {wd : World} {K : PySem.W.Frag} {mg mb : Str → Option Value} {k : Nat} {fa a : Addr} {fd : FuncData} {x : Str} {sp : Sp} {s1 : Shared} {us : List Value} {ns : List Int}
theorem begin_at (H : Hp) (only : ∀ b u, H b = some u → b = a ∧ u = .frz (scrO us) (.lst (ns.map V.int)) ∧ K.lookup a = none) (hS : SqL K H a (ns.map V.int)) (KX : K.In s1.heap) (hns : s1.heap.Ns mainGlobals mg) (hb : s1.heap.Ns builtinsNs mb) (hbb : ∀ x : Str, x ≠ "__name__" → mb x = bootBuiltins x)
    (hlim : s1.heap.NoLimit) (hg : s1.gens = #[]) (ha : s1.heap.get? a = some (scrO us)) (hi : IntsAre us ns) (hl : ns.length ≤ sizeLine) (hr : Room k callerA) (F : ∀ base : Heap, FnG P wd K mg base k fa fd [x] sp) (hbind : ∀ (s : Shared) (u : Value), BindsTo s fd ⟨[u], []⟩ [(x, u)])
    (hsp : sp [.ref a] H (fun v _ => v = .bl true) E0) : codeAny (model P wd) callerA (.call (.ref fa) ⟨[.ref a], []⟩) (fun r s' => r = .ok (.ret (.bool true)) ∧ OldK s1.heap s'.heap ∧ s'.os = s1.os ∧ AllBare s'.gens) s1 := by
  have free : ∀ {b : Addr} {o : Obj} {es : Array DictEntry} {ep : Nat}, s1.heap.get? b = some o → o.data = .dict es ep → H b = none := fun {b o es ep} e d => by
    cases q : H b with
    | none => rfl
    | some u =>
      obtain ⟨rfl, _⟩ := only b u q
      rw [ha] at e
      cases e
      cases d
  have ns' : ∀ {b : Addr} {m : Str → Option Value}, s1.heap.Ns b m → (hidT s1.heap H).Ns b m := fun ⟨o, es, ep, e, d, r⟩ => ⟨o, es, ep, hidT_get e (free e d), d, r⟩
  have hKb : K.In (hidT s1.heap H) := fun b o e => hidT_get (KX b o e) (by
    cases q : H b with
    | none => rfl
    | some u =>
      obtain ⟨rfl, _, z⟩ := only b u q
      rw [e] at z; cases z)
  have hok : HOk P wd H s1.heap := fun b u q => by
    obtain ⟨rfl, rfl, _⟩ := only b u q
    exact ⟨ha, by rw [List.length_map]; exact hl, us, _, vals_ints hi, ha⟩
  obtain ⟨mc, c1, c2⟩ := hlim
  have e0 : Env0 P wd K mg (hidT s1.heap H) callerA [] s1 H := ⟨rfl, ⟨hKb, ns' hns, ⟨mb, ns' hb, hbb⟩, ⟨mc, ns' c1, c2⟩⟩, fun b o e => of_hidT e, Nat.le_of_eq (hidT_size _ _), trivial, fun b z => absurd z (by simp [frs]), hok, AllBare.of_eq hg⟩
  refine codeAny_mono ((F (hidT s1.heap H)).run callerA [] s1 H ⟨[.ref a], []⟩ [.ref a] [.ref a] _ rfl hr e0 (hbind s1 (.ref a)) (.cons rfl .nil) hsp) fun r s' h => ?_
  rcases r with e | fl
  · exact h.elim
  · cases fl with
    | ret u =>
      obtain ⟨v, H', os, bare, un, hok', r', q⟩ := h
      obtain rfl : v = .bl true := q
      obtain rfl : u = Value.bool true := r'
      refine ⟨rfl, OldK.of_keep fun b o e => ?_, os, bare⟩
      cases q : H b with
      | none => exact un.keep b o e q (by simp [frs]) (by simp)
      | some u =>
        obtain ⟨rfl, rfl, _⟩ := only b u q
        have := (hok' b _ (un.frzs b _ _ q)).1
        rw [ha] at e; cases e
        exact this
    | next => exact h.elim
    | brk => exact h.elim
    | cont => exact h.elim
theorem begin_law (KX : K.In s1.heap) (hns : s1.heap.Ns mainGlobals mg) (hb : s1.heap.Ns builtinsNs mb) (hbb : ∀ x : Str, x ≠ "__name__" → mb x = bootBuiltins x)
    (hlim : s1.heap.NoLimit) (hg : s1.gens = #[]) (ha : s1.heap.get? a = some (scrO us)) (hi : IntsAre us ns) (hl : ns.length ≤ sizeLine) (hr : Room k callerA) (F : ∀ base : Heap, FnG P wd K mg base k fa fd [x] sp) (hbind : ∀ (s : Shared) (u : Value), BindsTo s fd ⟨[u], []⟩ [(x, u)])
    (hsp : ∀ H : Hp, SqL K H a (ns.map V.int) → sp [.ref a] H (fun v _ => v = .bl true) E0) : codeAny (model P wd) callerA (.call (.ref fa) ⟨[.ref a], []⟩) (fun r s' => r = .ok (.ret (.bool true)) ∧ OldK s1.heap s'.heap ∧ s'.os = s1.os ∧ AllBare s'.gens) s1 := by
  cases hk : K.lookup a with
  | some o =>
    have e := KX a o hk
    rw [ha] at e
    cases e
    have hS : SqL K (fun _ => none) a (ns.map V.int) := .inr ⟨_, us.toArray, _, hk, rfl, rfl, rfl, by rw [List.size_toArray, hi.length]; exact hl, by simpa using vals_ints hi⟩
    exact begin_at (fun _ => none) (fun b u z => absurd (show (none : Option HO) = some u from z) (by simp)) hS KX hns hb hbb hlim hg ha hi hl hr F hbind (hsp _ hS)
  | none =>
    have hS : SqL K (upd (fun _ => none) a (.frz (scrO us) (.lst (ns.map V.int)))) a (ns.map V.int) := .inl (.inr ⟨scrO us, upd_same⟩)
    refine begin_at (upd (fun _ => none) a (.frz (scrO us) (.lst (ns.map V.int)))) (fun b u z => ?_) hS KX hns hb hbb hlim hg ha hi hl hr F hbind (hsp _ hS)
    by_cases e : b = a
    · subst e
      rw [upd_same] at z
      cases z
      exact ⟨rfl, rfl, hk⟩
    · rw [upd_ne e] at z
      exact absurd (show (none : Option HO) = some u from z) (by simp)
end
/-- THE END: a law by its short form -/
theorem walk {l : PySem.W.OpenLaw} {n k f : Nat} {q : Program} {loose : List Str} {XP : (Str → Option Value) → Heap → Prop} {YP : World → Heap → Prop} {dr : DefRec} {K : Params → PySem.W.Frag} {x : Str} (L : Lw) (d : Df) (st : Stmt)
    (hn : l.most = some n) (hn2 : n ≤ sizeLine) (hdf : dr.params.defaults = []) (hr : Room k callerA) (hd : L.pg.defs[f]? = some d) (hst : L.sts[f]? = some st) (hname : d.name = dr.name) (hps : d.ps = [x]) (hbo : BindOk d st 1 [] [0])
    (D : ∀ (f : Nat) (d : Df) (st : Stmt), L.pg.defs[f]? = some d → L.sts[f]? = some st → DefS L d st)
    (law : ∀ ns : List Int, ns.length ≤ n → (∀ z ∈ ns, Builtin.Int.intBits z ≤ 1048576) → callK L.pg k f [.scr ns] [] (fun v _ => v = .bl true) XF)
    (hY : ∀ (w : World) (h : Heap), YP w h → (K w.params).In h)
    (B : ∀ (w : World) (mg : Str → Option Value) (h : Heap), (K w.params).In h → h.Ns mainGlobals mg → Ground0 L (K w.params) mg) :
    PySem.W.WalkO q loose XP YP l.row.toRowW dr [] (fun f vs => PySem.call f vs) := by
  refine Att.attach_callB hn hdf fun w s₀ s₁ mg mb fa o pm cd doc a vs ns G Y ho hdd hcd hmg hobj hints hlen hbits hg => ?_
  have KX := hY w _ Y
  have b := B w mg _ KX G.T.g
  obtain ⟨fa', fd, m1, F⟩ := b.fns f d st hd hst
  rw [hname, hmg] at m1
  cases m1
  refine begin_law KX G.T.g G.T.b G.T.builtins G.T.nolimit hg hobj hints (Nat.le_trans hlen hn2) hr (x := x) (fd := fd) (sp := spD (K w.params) L.pg k f) (fun base => ?_) (fun s u => ?_) fun H hS => ?_
  · have := fn_all (P := l.prog) (wd := w) (base := base) b D k f d st hd hst fa fd F
    rw [hps] at this
    exact this
  · have := bind_to F hbo (s := s) (us := [u]) (ws := []) (cs := [u]) rfl rfl rfl
    rw [hps] at this
    exact this
  · have o0 : Ok (K w.params) ⟨⟨[], fun _ => False⟩, [], H⟩ := ⟨rfl, List.nodup_nil, fun n a o h _ => by simp at h, fun a h => h.elim⟩
    refine ⟨⟨⟨[], fun _ => False⟩, [], H⟩, [.scr ns], fun v _ => v = .bl true, rfl, o0, .cons (.scr ?_) .nil, law ns hlen hbits, fun w' y v _ _ r e => ?_⟩
    · rcases hS with h | h
      · exact .inl ⟨h, by simp [Mu.out]⟩
      · exact .inr h
    · subst e
      cases r
      rfl
end RL

/-! RLSoundA: side conditions as looks. -/
namespace RL
open PySem PySem.Spec PyProof.Rows L2
def visB (sc : Scope) (x : Str) : Bool := match sc.names.lookup x with
  | some .local => true
  | some .cell => true
  | some .free => true
  | _ => false
theorem vis_of {sc : Scope} {x : Str} (h : visB sc x = true) : Vis sc x := by
  unfold visB at h
  unfold Vis
  split at h <;> first | (exact .inl (by assumption)) | (exact .inr (.inl (by assumption))) | (exact .inr (.inr (by assumption))) | cases h
def locB (sc : Scope) (x : Str) : Bool := match sc.names.lookup x with
  | some .local => true
  | some .cell => true
  | _ => false
theorem loc_of {sc : Scope} {x : Str} (h : locB sc x = true) : L2.Loc sc x := by
  unfold locB at h
  unfold L2.Loc
  split at h <;> first | (exact .inl (by assumption)) | (exact .inr (by assumption)) | cases h
def envS (sc : Scope) : PySem.Env := { scope := sc, locals := 0, globals := 0, cells := [] }
theorem swap_env (t : List Expr) (v : Expr) (env : PySem.Env) : swappedStores t v env = swappedStores t v (envS env.scope) := rfl
theorem swap_of {sc : Scope} {t : List Expr} {v : Expr} {r : Sem (Option (List Str))} (h : swappedStores t v (envS sc) = r) : ∀ env : PySem.Env, env.scope = sc → swappedStores t v env = r := fun env e => by rw [swap_env, e]; exact h
section
variable {L : Lw} {N : List Str} {sc : Scope} {fl : Str → Bool} {a : Expr} {ea : E} {pos : Pos}
theorem s_v (i : Nat) {x : Str} (h : N[i]? = some x) (hv : visB sc x = true) (hd : (x == ("__debug__" : Str)) = false := by decide) (hcd : (x == ("__classdict__" : Str)) = false := by decide) : SE L N sc (.Name x pos) (.var i) := s_var i h (vis_of hv) hd hcd
theorem g_n (i : Nat) {x : Str} (hi : N[i]? = some x) (hx : locB sc x = true) (hf : (fl x || decide (sc.names.lookup x = some .local)) = true) : STg L N sc fl (.Name x pos) (.name i) := g_name i hi (loc_of hx) (by
  rcases Bool.or_eq_true_iff.mp hf with h | h
  · exact .inl h
  · exact .inr (of_decide_eq_true h))
theorem st_s (i : Nat) {x : Str} {px : Pos} (hi : N[i]? = some x) (hx : locB sc x = true) (ha : SE L N sc a ea) (hs : ∀ l env, swapsWith a (some (.Name x px)) l env = pure false := by intro _ _; rfl) : SS L N sc (.Assign [.Name x px] a pos) (.set i ea) := st_set i hi (loc_of hx) ha hs
end
end RL

/-! RLSoundB: what a law's end asks. -/
namespace RL
open PySem PySem.Spec PyProof.Rows L2
def FnsOk (K : PySem.W.Frag) (mg : Str → Option Value) : List Df → List Stmt → Prop
  | d :: ds, s :: ss => (∃ fa fd, mg d.name = some (.ref fa) ∧ Fun K d.name d.name s fa fd) ∧ FnsOk K mg ds ss
  | _, _ => True
theorem FnsOk.get {K : PySem.W.Frag} {mg : Str → Option Value} : ∀ {ds : List Df} {ss : List Stmt}, FnsOk K mg ds ss → ∀ (f : Nat) (d : Df) (s : Stmt), ds[f]? = some d → ss[f]? = some s → ∃ fa fd, mg d.name = some (.ref fa) ∧ Fun K d.name d.name s fa fd
  | [], _, _, f, d, s, h, _ => by simp at h
  | _ :: _, [], _, f, d, s, _, h => by simp at h
  | d :: ds, s :: ss, h, 0, d', s', h1, h2 => by simp at h1 h2; subst h1 h2; exact h.1
  | d :: ds, s :: ss, h, f + 1, d', s', h1, h2 => FnsOk.get h.2 f d' s' (by simpa using h1) (by simpa using h2)
def DsOk (L : Lw) : List Df → List Stmt → Prop
  | d :: ds, s :: ss => DefS L d s ∧ DsOk L ds ss
  | _, _ => True
theorem DsOk.get {L : Lw} : ∀ {ds : List Df} {ss : List Stmt}, DsOk L ds ss → ∀ (f : Nat) (d : Df) (s : Stmt), ds[f]? = some d → ss[f]? = some s → DefS L d s
  | [], _, _, f, d, s, h, _ => by simp at h
  | _ :: _, [], _, f, d, s, _, h => by simp at h
  | d :: ds, s :: ss, h, 0, d', s', h1, h2 => by simp at h1 h2; subst h1 h2; exact h.1
  | d :: ds, s :: ss, h, f + 1, d', s', h1, h2 => DsOk.get h.2 f d' s' (by simpa using h1) (by simpa using h2)
theorem fun_at {K : PySem.W.Frag} {mg : Str → Option Value} {h : Heap} (X : K.In h) (G : h.Ns mainGlobals mg) {x : Str} {st : Stmt} {f : Addr} {oc : Value} {od an : Option Addr} {osl : Array (Option Value)} {kV doc pm cdv ct : Value}
    (a : PySem.W.nsIn K mainGlobals x = some (some (.ref f))) (l : K.lookup f = some ⟨oc, od, .func (PySem.W.fnOf x x (defArgs st) (defBody st) (defScope st) .none kV doc pm an cdv ct), osl⟩) (c : PySem.W.codeIn K cdv x = true) (k : PySem.W.keepIn K (.ref f) = true) :
    ∃ fa fd, mg x = some (.ref fa) ∧ Fun K x x st fa fd := ⟨f, _, PySem.W.mg_of X G a, fun_mk l c k⟩
theorem blt_of {K : PySem.W.Frag} {mg : Str → Option Value} {h : Heap} (X : K.In h) (G : h.Ns mainGlobals mg) (z : bnames.all (fun x => decide (PySem.W.nsIn K mainGlobals x = some none)) = true) : ∀ x ∈ bnames, mg x = none := fun x hx => PySem.W.mg_none_of X G (of_decide_eq_true (List.all_eq_true.mp z x hx))
def GlOk (mg : Str → Option Value) : List (Str × PV) → Prop
  | [] => True
  | (x, v) :: r => (∃ (a : Atom) (u : Value), v = a.pv ∧ mg x = some u ∧ RelV a.v u) ∧ GlOk mg r
theorem GlOk.get {mg : Str → Option Value} : ∀ {l : List (Str × PV)}, GlOk mg l → ∀ (n : Nat) (x : Str) (v : PV), l[n]? = some (x, v) → ∃ (a : Atom) (u : Value), v = a.pv ∧ mg x = some u ∧ RelV a.v u
  | [], _, n, x, v, h => by simp at h
  | (x', v') :: r, g, 0, x, v, h => by simp at h; obtain ⟨rfl, rfl⟩ := h; exact g.1
  | (x', v') :: r, g, n + 1, x, v, h => GlOk.get g.2 n x v (by simpa using h)
end RL

/-! RLLib: reasoning about the short form. -/
namespace RL
open PySem L2
/-! ### calls -/
theorem callK_def {pg : Pg} {k f : Nat} {d : Df} {vs : List PV} {ph : PHp} {Q : QV} {X : QX} (h : pg.defs[f]? = some d) (hb : bodyS (callK pg k) (pg.gl.map (·.2)) X d vs ph Q) : callK pg (k + 1) f vs ph Q X := by
  show (match pg.defs[f]? with
    | some d => bodyS (callK pg k) (pg.gl.map (·.2)) X d vs ph Q
    | none => False)
  rw [h]; exact hb
/-! ### loops -/
theorem forL_rule {still : PHp → Prop} {t : Tg} {bd : Dn → Env → PHp → Prop} {D : Dn} (Inv : Nat → Env → PHp → Prop) {items : List PV}
    (hs : ∀ (i : Nat) (v : PV) (env : Env) (ph : PHp), items[i]? = some v → Inv i env ph → still ph ∧ ∀ N : Env → PHp → Prop, (∀ env ph, Inv (i + 1) env ph → N env ph) → bindT t v env fun env' => bd { D with nx := N, ct := N, bk := D.nx } env' ph)
    (he : ∀ env ph, Inv items.length env ph → still ph ∧ D.nx env ph) {env : Env} {ph : PHp} (h0 : Inv 0 env ph) : forL still t bd D items env ph := by
  have key : ∀ (n i : Nat), i + n = items.length → ∀ env ph, Inv i env ph → forL still t bd D (items.drop i) env ph := by
    intro n
    induction n with
    | zero =>
      intro i hi env ph h
      have : i = items.length := by omega
      subst this
      rw [List.drop_length]
      exact he env ph h
    | succ n ih =>
      intro i hi env ph h
      have hlt : i < items.length := by omega
      have e : items.drop i = items[i] :: items.drop (i + 1) := List.drop_eq_getElem_cons hlt
      rw [e]
      obtain ⟨h1, h2⟩ := hs i items[i] env ph (List.getElem?_eq_getElem hlt) h
      exact ⟨h1, h2 _ fun env' ph' h' => ih (i + 1) (by omega) env' ph' h'⟩
  have := key items.length 0 (by omega) env ph h0
  rwa [List.drop_zero] at this
theorem whl_rule {cnd : Env → PHp → (Bool → PHp → Prop) → Prop} {bd : Dn → Env → PHp → Prop} {D : Dn} (Inv : Env → PHp → Prop) (μ : Env → PHp → Nat)
    (hs : ∀ (env : Env) (ph : PHp), Inv env ph → ∀ N : Env → PHp → Prop, (∀ env' ph', Inv env' ph' → μ env' ph' < μ env ph → N env' ph') → cnd env ph fun b ph1 => if b = true then bd { D with nx := N, ct := N, bk := D.nx } env ph1 else D.nx env ph1)
    {env : Env} {ph : PHp} (h0 : Inv env ph) : ∃ n, whl cnd bd D n env ph := by
  refine ⟨μ env ph + 1, ?_⟩
  have key : ∀ (n : Nat) (env : Env) (ph : PHp), Inv env ph → μ env ph < n → whl cnd bd D n env ph := by
    intro n
    induction n with
    | zero => intro _ _ _ h; omega
    | succ n ih =>
      intro env ph h hn
      exact hs env ph h _ fun env' ph' h' hlt => ih env' ph' h' (by omega)
  exact key _ env ph h0 (Nat.lt_succ_self _)
theorem compL_rule {still : PHp → Prop} {bind : PV → (Env → Prop) → Prop} {cnd : Env → PHp → (Bool → PHp → Prop) → Prop} {el : Env → PHp → QV → Prop} {Q : List PV → PHp → Prop} (Inv : Nat → List PV → PHp → Prop) {items : List PV}
    (hs : ∀ (i : Nat) (v : PV) (acc : List PV) (ph : PHp), items[i]? = some v → Inv i acc ph → still ph ∧ ∀ N : List PV → PHp → Prop, (∀ acc ph, Inv (i + 1) acc ph → N acc ph) →
      bind v fun env' => cnd env' ph fun b ph1 => if b = true then el env' ph1 fun x ph2 => acc.length < sizeLine ∧ N (acc ++ [x]) ph2 else N acc ph1)
    (he : ∀ acc ph, Inv items.length acc ph → still ph ∧ Q acc ph) {ph : PHp} (h0 : Inv 0 [] ph) : compL still bind cnd el items [] ph Q := by
  have key : ∀ (n i : Nat), i + n = items.length → ∀ acc ph, Inv i acc ph → compL still bind cnd el (items.drop i) acc ph Q := by
    intro n
    induction n with
    | zero =>
      intro i hi acc ph h
      have : i = items.length := by omega
      subst this
      rw [List.drop_length]
      exact he acc ph h
    | succ n ih =>
      intro i hi acc ph h
      have hlt : i < items.length := by omega
      have e : items.drop i = items[i] :: items.drop (i + 1) := List.drop_eq_getElem_cons hlt
      rw [e]
      obtain ⟨h1, h2⟩ := hs i items[i] acc ph (List.getElem?_eq_getElem hlt) h
      exact ⟨h1, h2 _ fun acc' ph' h' => ih (i + 1) (by omega) acc' ph' h'⟩
  have := key items.length 0 (by omega) [] ph h0
  rwa [List.drop_zero] at this
section
variable {still : PHp → Prop} {bind : PV → (Env → Prop) → Prop} {cnd : Env → PHp → (Bool → PHp → Prop) → Prop} {el : Env → PHp → QV → Prop} {Q : List PV → PHp → Prop} {items : List PV} {ph : PHp}
/-- a comprehension that leaves the heap alone -/
theorem comp_filter (p : PV → Bool) (f : PV → PV) (hst : still ph) (hl : items.length ≤ sizeLine)
    (hs : ∀ v ∈ items, ∀ (K : QV) (R : PHp → Prop), (p v = true → K (f v) ph) → (p v = false → R ph) → bind v fun env' => cnd env' ph fun b ph1 => if b = true then el env' ph1 K else R ph1)
    (hq : Q ((items.filter p).map f) ph) : compL still bind cnd el items [] ph Q := by
  refine compL_rule (fun i acc ph' => ph' = ph ∧ acc = ((items.take i).filter p).map f) ?_ ?_ ⟨rfl, by simp⟩
  · rintro i v acc ph' hv ⟨rfl, rfl⟩
    refine ⟨hst, fun N hN => hs v (List.mem_of_getElem? hv) _ _ (fun hp => ?_) fun hp => ?_⟩
    · have hi := (List.getElem?_eq_some_iff.mp hv).1
      have e : ((items.take (i + 1)).filter p).map f = ((items.take i).filter p).map f ++ [f v] := by
        rw [List.take_add_one, hv]; simp [List.filter_append, hp]
      refine ⟨?_, hN _ _ ⟨rfl, e.symm⟩⟩
      have h1 : (((items.take i).filter p).map f).length ≤ (items.take i).length := by
        rw [List.length_map]; exact List.length_filter_le _ _
      rw [List.length_take] at h1
      omega
    · have e : ((items.take (i + 1)).filter p).map f = ((items.take i).filter p).map f := by
        rw [List.take_add_one, hv]; simp [List.filter_append, hp]
      exact hN _ _ ⟨rfl, e.symm⟩
  · rintro acc ph' ⟨rfl, rfl⟩
    rw [List.take_length]
    exact ⟨hst, hq⟩
theorem comp_map (f : PV → PV) (hst : still ph) (hl : items.length ≤ sizeLine)
    (hs : ∀ v ∈ items, ∀ (K : QV) (R : PHp → Prop), K (f v) ph → bind v fun env' => cnd env' ph fun b ph1 => if b = true then el env' ph1 K else R ph1)
    (hq : Q (items.map f) ph) : compL still bind cnd el items [] ph Q :=
  comp_filter (fun _ => true) f hst hl (fun v hv K R h _ => hs v hv K R (h rfl)) (by rw [List.filter_eq_self.mpr (by simp)]; exact hq)
end
/-! ### unfolding -/
theorem wpE_var {C : CallS} {G : List PV} {X : QX} {i : Nat} {env : Env} {ph : PHp} {Q : QV} {v : PV} (h : env[i]? = some (some v)) (q : Q v ph) : wpE C G X (.var i) env ph Q := ⟨v, h, q⟩
theorem ex_some {P : PV → Prop} {a : PV} : (∃ v, some (some a) = some (some v) ∧ P v) ↔ P a := ⟨fun ⟨v, e, h⟩ => by cases e; exact h, fun h => ⟨a, rfl, h⟩⟩
theorem ex_some1 {α : Type} {P : α → Prop} {a : α} : (∃ v, some a = some v ∧ P v) ↔ P a := ⟨fun ⟨v, e, h⟩ => by cases e; exact h, fun h => ⟨a, rfl, h⟩⟩
theorem ex_bl {P : Bool → Prop} {a : Bool} : (∃ v, PV.bl a = .bl v ∧ P v) ↔ P a := ⟨fun ⟨v, e, h⟩ => by cases e; exact h, fun h => ⟨a, rfl, h⟩⟩
theorem ex_int {P : Int → Prop} {a : Int} : (∃ v, PV.int a = .int v ∧ P v) ↔ P a := ⟨fun ⟨v, e, h⟩ => by cases e; exact h, fun h => ⟨a, rfl, h⟩⟩
theorem ex_tup {P : List PV → Prop} {a : List PV} : (∃ v, PV.tup a = .tup v ∧ P v) ↔ P a := ⟨fun ⟨v, e, h⟩ => by cases e; exact h, fun h => ⟨a, rfl, h⟩⟩
end RL
namespace RL
open PySem L2
section
variable {C : CallS} {G : List PV} {X : QX} {env : Env} {ph : PHp}
theorem atI_0 {α : Type} {x : α} {xs : List α} : atI (x :: xs) 0 = some x := atI_nat (j := 0) rfl
theorem atI_1 {α : Type} {x y : α} {xs : List α} : atI (x :: y :: xs) 1 = some y := atI_nat (j := 1) rfl
theorem atI_2 {α : Type} {x y z : α} {xs : List α} : atI (x :: y :: z :: xs) 2 = some z := atI_nat (j := 2) rfl
theorem ixN_0 {n : Nat} : ixN (n + 1) 0 = some 0 := by unfold ixN; simp
theorem ixN_1 {n : Nat} : ixN (n + 1 + 1) 1 = some 1 := by unfold ixN; rw [if_pos (by decide), if_pos (by omega)]; rfl
theorem ixN_2 {n : Nat} : ixN (n + 1 + 1 + 1) 2 = some 2 := by unfold ixN; rw [if_pos (by decide), if_pos (by omega)]; rfl
theorem eqP_int {i j : Int} {k : Bool → Prop} : eqP (.int i) (.int j) ph k = k (decide (i = j)) := rfl
theorem eqP_str {i j : Str} {k : Bool → Prop} : eqP (.str i) (.str j) ph k = k (decide (i = j)) := rfl
theorem eqP_of {a b : PV} {d e : PyData} {k : Bool → Prop} (hd : Dat ph a d) (he : Dat ph b e) (s1 : SeqAt.shaped d = true) (s2 : SeqAt.shaped e = true) (hk : k (PyData.eqv d e)) : eqP a b ph k := by
  unfold eqP
  split
  · cases hd; cases he; exact hk
  · cases hd; cases he; exact hk
  · cases hd; cases he
    simp only [PyData.eqv] at hk
    exact (show k (decide (_ = _)) from by
      rename_i s t
      have : (s == t) = decide (s = t) := by
        by_cases h : s = t
        · subst h; simp
        · rw [decide_eq_false h]; simpa using h
      rw [this] at hk; exact hk)
  · cases hd; cases he
    simp only [PyData.eqv] at hk
    exact (show k (decide (_ = _)) from by
      rename_i s t
      have : (s == t) = decide (s = t) := by cases s <;> cases t <;> rfl
      rw [this] at hk; exact hk)
  · exact ⟨d, e, hd, he, s1, s2, hk⟩
theorem e_var {i : Nat} {Q : QV} : wpE C G X (.var i) env ph Q = ∃ v, env[i]? = some (some v) ∧ Q v ph := rfl
theorem e_con {a : Atom} {Q : QV} : wpE C G X (.con a) env ph Q = Q a.pv ph := rfl
theorem e_op {o : Op2} {own : Bool} {a b : E} {Q : QV} : wpE C G X (.op2 o own a b) env ph Q = wpE C G X a env ph fun x ph1 => wpE C G X b env ph1 fun y ph2 => op2S o own x y ph2 Q := rfl
theorem add_i {own : Bool} {i j : Int} {Q : QV} : op2S .add own (.int i) (.int j) ph Q = Q (.int (i + j)) ph := rfl
theorem sub_i {own : Bool} {i j : Int} {Q : QV} : op2S .sub own (.int i) (.int j) ph Q = Q (.int (i - j)) ph := rfl
theorem mul_i {own : Bool} {i j : Int} {Q : QV} : op2S .mul own (.int i) (.int j) ph Q = (mulOk i j ∧ Q (.int (i * j)) ph) := rfl
theorem mod_i {own : Bool} {i j : Int} {Q : QV} : op2S .mod own (.int i) (.int j) ph Q = (j ≠ 0 ∧ Q (.int (i.fmod j)) ph) := rfl
theorem fdiv_i {own : Bool} {i j : Int} {Q : QV} : op2S .fdiv own (.int i) (.int j) ph Q = (((0 < j ∧ j.natAbs.log2 < 9000) ∨ (j ≠ 0 ∧ j.natAbs < 1073741824)) ∧ Q (.int (i.fdiv j)) ph) := rfl
theorem pow_i {own : Bool} {i j : Int} {Q : QV} : op2S .pow own (.int i) (.int j) ph Q = ((0 ≤ j ∧ j ≤ 1000000 ∧ i.natAbs < 2 ^ 64) ∧ Q (.int (i ^ j.toNat)) ph) := rfl
theorem lt_i {own : Bool} {i j : Int} {Q : QV} : op2S .lt own (.int i) (.int j) ph Q = Q (.bl (decide (i < j))) ph := rfl
theorem le_i {own : Bool} {i j : Int} {Q : QV} : op2S .le own (.int i) (.int j) ph Q = Q (.bl (decide (i ≤ j))) ph := rfl
theorem gt_i {own : Bool} {i j : Int} {Q : QV} : op2S .gt own (.int i) (.int j) ph Q = Q (.bl (decide (j < i))) ph := rfl
theorem ge_i {own : Bool} {i j : Int} {Q : QV} : op2S .ge own (.int i) (.int j) ph Q = Q (.bl (decide (j ≤ i))) ph := rfl
theorem eq_ {own : Bool} {a b : PV} {Q : QV} : op2S .eq own a b ph Q = eqP a b ph fun k => Q (.bl k) ph := rfl
theorem ne_ {own : Bool} {a b : PV} {Q : QV} : op2S .ne own a b ph Q = eqP a b ph fun k => Q (.bl (!k)) ph := rfl
theorem in_e {own : Bool} {a b : PV} {Q : QV} : op2S .in_ own a b ph Q = isIn a b ph fun k => Q (.bl k) ph := rfl
theorem nin_e {own : Bool} {a b : PV} {Q : QV} : op2S .notin own a b ph Q = isIn a b ph fun k => Q (.bl (!k)) ph := rfl
theorem is_n {own : Bool} {a : PV} {Q : QV} : op2S .is own a .non ph Q = Q (.bl (isNon a)) ph := rfl
theorem isnot_n {own : Bool} {a : PV} {Q : QV} : op2S .isnot own a .non ph Q = Q (.bl (!isNon a)) ph := rfl
theorem idx_tup {xs : List PV} {i : Int} {Q : QV} : idxS (.tup xs) (.int i) ph Q = ∃ v, atI xs i = some v ∧ Q v ph := rfl
theorem idx_lst {xs : List PV} {i : Int} {Q : QV} : idxS (.lst xs) (.int i) ph Q = ∃ v, atI xs i = some v ∧ Q v ph := rfl
theorem idx_ref {n : Nat} {i : Int} {xs : List PV} {Q : QV} (h : ph[n]? = some (.lst xs)) : idxS (.ref n) (.int i) ph Q = ∃ v, atI xs i = some v ∧ Q v ph := by
  show (match ph[n]? with
    | some (.lst xs) => ∃ v, L2.atI xs i = some v ∧ Q v ph
    | some (.dK kvs) => ∃ key v, keyOf (.int i) = some key ∧ pkLook kvs key = some v ∧ Q v ph
    | some (.dT kvs) => ∃ key v, tkeyOf (.int i) = some key ∧ pkLook kvs key = some v ∧ Q v ph
    | none => False) = _
  rw [h]
theorem seti_ref {n : Nat} {i : Int} {v : PV} {xs : List PV} {Q : PHp → Prop} (h : ph[n]? = some (.lst xs)) : setiS (.ref n) (.int i) v ph Q = ∃ j, ixN xs.length i = some j ∧ Q (setO ph n (.lst (xs.set j v))) := by
  show (match ph[n]? with
    | some (.lst xs) => ∃ j, L2.ixN xs.length i = some j ∧ Q (setO ph n (.lst (xs.set j v)))
    | some (.dK kvs) => _
    | some (.dT kvs) => _
    | none => False) = _
  rw [h]
end
end RL
namespace RL
open PySem L2
section
variable {ph : PHp} {Q : QV}
theorem newL_f {xs : List PV} (h : xs.length ≤ sizeLine) (q : Q (.lst xs) ph) : newL false xs ph Q := ⟨h, by rw [if_neg (by decide)]; exact q⟩
theorem newL_t {xs : List PV} (h : xs.length ≤ sizeLine) (q : Q (.ref ph.length) (ph ++ [.lst xs])) : newL true xs ph Q := ⟨h, by rw [if_pos rfl]; exact q⟩
theorem rng12_1 {n : Int} (h : rOk 0 n) : rng12 [.int n] = some (rngL 0 n 1) := by show (if rOk 0 n then some (rngL 0 n 1) else none) = _; rw [if_pos h]
theorem it_r1 {n : Int} (h : rOk 0 n) : itItems .range [.int n] ph = some (rngL 0 n 1) := rng12_1 h
theorem it_r2 {i j : Int} (h : rOk i j) : itItems .range [.int i, .int j] ph = some (rngL i j 1) := by show (if rOk i j then some (rngL i j 1) else none) = _; rw [if_pos h]
theorem rOk_small {i j : Int} (h1 : 0 ≤ i) (h2 : i ≤ 1000000) (h3 : 0 ≤ j) (h4 : j ≤ 1000000) : rOk i j := by unfold rOk; omega
end
end RL
namespace RL
open PySem L2
section
variable {ph : PHp} {Q : QV} {own : Bool}
theorem tuple_l {xs : List PV} {v : PV} (h : lstOf ph v = some xs) (q : Q (.tup xs) ph) : biS .tuple own [v] ph Q := by
  show RL.bi_tuple own [v] ph Q
  unfold RL.bi_tuple
  split
  · rename_i e; cases e; cases h
  · rename_i e; cases e; exact ⟨xs, h, q⟩
  · rename_i h1 h2; exact absurd rfl (h2 v)
theorem repr_of {v : PV} {d : PyData} (h : Dat ph v d) (hr : reprS d) (q : Q (.str d.shown) ph) : biS .repr own [v] ph Q := ⟨d, h, hr, q⟩
theorem int_bl {b : Bool} : biS .int own [.bl b] ph Q = Q (.int (if b then 1 else 0)) ph := rfl
theorem add_l {xs ys : List PV} {a b : PV} (h1 : lstOf ph a = some xs) (h2 : lstOf ph b = some ys) (hl : xs.length + ys.length ≤ sizeLine) (q : newL own (xs ++ ys) ph Q) : op2S .add own a b ph Q := by
  have g : ∃ xs ys, lstOf ph a = some xs ∧ lstOf ph b = some ys ∧ xs.length + ys.length ≤ sizeLine ∧ newL own (xs ++ ys) ph Q := ⟨xs, ys, h1, h2, hl, q⟩
  cases a <;> first | cases h1; done | (cases b <;> first | cases h2; done | exact g)
theorem mul_l {xs : List PV} {a : PV} {k : Int} (h1 : lstOf ph a = some xs) (hk : -1000 ≤ k ∧ k ≤ 1000) (hl : xs.length ≤ 1000) (q : newL own (List.replicate k.toNat xs).flatten ph Q) : op2S .mul own a (.int k) ph Q := by
  have g : ∃ xs, lstOf ph a = some xs ∧ (-1000 ≤ k ∧ k ≤ 1000) ∧ xs.length ≤ 1000 ∧ newL own (List.replicate k.toNat xs).flatten ph Q := ⟨xs, h1, hk, hl, q⟩
  cases a <;> first | cases h1; done | exact g
end
end RL

/-! RLRepr: texts of values that are not too long. -/
namespace RL
open PySem L2
/-- leaves of at most B signs, a weight, a depth -/
structure Sm (B w dp : Nat) (d : PyData) : Prop where
  leaf : d.leavesShort B = true
  show_ : d.showable = true
  wt : d.weight ≤ w
  dep : d.depth ≤ dp
structure SmA (B w dp : Nat) (ds : List PyData) : Prop where
  leaf : PyData.leavesShortAll B ds = true
  show_ : PyData.showableAll ds = true
  wt : PyData.weightAll ds ≤ w
  dep : PyData.depthAll ds ≤ dp
section
variable {B : Nat}
theorem sm_non {w dp : Nat} : Sm B w dp .none := ⟨rfl, rfl, by simp [PyData.weight], by simp [PyData.depth]⟩
theorem sm_bl {w dp : Nat} (b : Bool) : Sm B w dp (.bool b) := ⟨rfl, rfl, by simp [PyData.weight], by simp [PyData.depth]⟩
theorem log_lt {n k : Nat} (h : n < 2 ^ k) (hk : 0 < k) : n.log2 < k := by
  by_cases hz : n = 0
  · subst hz; simpa using hk
  · exact (Nat.log2_lt hz).mpr h
theorem sm_int {i : Int} {w dp : Nat} (k : Nat) (h : i.natAbs < 10 ^ k) (hk : 0 < k) (hB : k + 1 ≤ B) (hw : 4 * k ≤ w) (hs : k ≤ 450) : Sm B w dp (.int i) := by
  have hl : i.natAbs.log2 < 4 * k := log_lt (Nat.lt_of_lt_of_le h (by
    rw [Nat.pow_mul]
    exact Nat.pow_le_pow_left (by decide) k)) (by omega)
  refine ⟨?_, ?_, ?_, by simp [PyData.depth]⟩
  · simp only [PyData.leavesShort, decide_eq_true_eq]
    show (Str.ofString (toString i)).length ≤ B
    rw [ofString_length]
    exact Nat.le_trans (int_text_length_le10 hk h) hB
  · simp only [PyData.showable, decide_eq_true_eq]; omega
  · simp only [PyData.weight]; split <;> omega
theorem sm_str {x : Str} {w dp : Nat} (h : (x.cps.toList.all fun c => decide (c < 16 ^ 8)) = true) (hw : x.cps.size ≤ w) : Sm B w dp (.str x) := ⟨by simpa only [PyData.leavesShort] using h, rfl, by simpa only [PyData.weight] using hw, by simp [PyData.depth]⟩
theorem sma_nil {w dp : Nat} : SmA B w dp [] := ⟨rfl, rfl, by simp [PyData.weightAll], by simp [PyData.depthAll]⟩
theorem sma_cons {w1 w2 dp : Nat} {d : PyData} {ds : List PyData} (h : Sm B w1 dp d) (t : SmA B w2 dp ds) : SmA B (w1 + 1 + w2) dp (d :: ds) := by
  refine ⟨?_, ?_, ?_, ?_⟩
  · simp only [PyData.leavesShortAll, h.leaf, t.leaf]; rfl
  · simp only [PyData.showableAll, h.show_, t.show_]; rfl
  · have := h.wt; have := t.wt; simp only [PyData.weightAll]; omega
  · have := h.dep; have := t.dep; simp only [PyData.depthAll]; omega
theorem Sm.mono {w w' dp dp' : Nat} {d : PyData} (h : Sm B w dp d) (hw : w ≤ w') (hd : dp ≤ dp') : Sm B w' dp' d := ⟨h.leaf, h.show_, Nat.le_trans h.wt hw, Nat.le_trans h.dep hd⟩
theorem SmA.mono {w w' dp dp' : Nat} {d : List PyData} (h : SmA B w dp d) (hw : w ≤ w') (hd : dp ≤ dp') : SmA B w' dp' d := ⟨h.leaf, h.show_, Nat.le_trans h.wt hw, Nat.le_trans h.dep hd⟩
theorem sma_all {w dp : Nat} : ∀ {ds : List PyData}, (∀ d ∈ ds, Sm B w dp d) → SmA B ((w + 1) * ds.length) dp ds
  | [], _ => sma_nil
  | x :: xs, h => by
    have t := sma_all (ds := xs) fun y hy => h y (List.mem_cons_of_mem _ hy)
    refine (sma_cons (h x (List.mem_cons_self ..)) t).mono ?_ (Nat.le_refl _)
    rw [List.length_cons, Nat.mul_succ]; omega
theorem sma_map {α : Type} {w dp : Nat} {f : α → PyData} {xs : List α} (h : ∀ x ∈ xs, Sm B w dp (f x)) : SmA B ((w + 1) * xs.length) dp (xs.map f) := by
  have := sma_all (B := B) (w := w) (dp := dp) (ds := xs.map f) fun d hd => by
    obtain ⟨x, hx, rfl⟩ := List.mem_map.mp hd
    exact h x hx
  rwa [List.length_map] at this
theorem sm_tup {w dp : Nat} {ds : List PyData} (h : SmA B w dp ds) : Sm B w (dp + 1) (.tuple ds) := ⟨by simpa only [PyData.leavesShort] using h.leaf, by simpa only [PyData.showable] using h.show_, by simpa only [PyData.weight] using h.wt, by have := h.dep; simp only [PyData.depth]; omega⟩
theorem sm_lst {w dp : Nat} {ds : List PyData} (h : SmA B w dp ds) : Sm B w (dp + 1) (.list ds) := ⟨by simpa only [PyData.leavesShort] using h.leaf, by simpa only [PyData.showable] using h.show_, by simpa only [PyData.weight] using h.wt, by have := h.dep; simp only [PyData.depth]; omega⟩
theorem sm_dict0 {w dp : Nat} : Sm B w (dp + 1) (.dict []) := ⟨rfl, rfl, by simp [PyData.weight, PyData.weightKv], by simp [PyData.depth, PyData.depthKv]⟩
theorem sm_dict1 {w1 w2 dp : Nat} {k v : PyData} (hk : Sm B w1 dp k) (hv : Sm B w2 dp v) : Sm B (w1 + w2 + 2) (dp + 1) (.dict [(k, v)]) := by
  refine ⟨?_, ?_, ?_, ?_⟩
  · simp only [PyData.leavesShort, PyData.leavesShortKv, hk.leaf, hv.leaf]; rfl
  · simp only [PyData.showable, PyData.showableKv, hk.show_, hv.show_]; rfl
  · have := hk.wt; have := hv.wt; simp only [PyData.weight, PyData.weightKv]; omega
  · have := hk.dep; have := hv.dep; simp only [PyData.depth, PyData.depthKv]; omega
theorem Sm.reprS {w dp : Nat} {d : PyData} (h : Sm B w dp d) (hB : 8 ≤ B) (hw : (B + 2) * w + B ≤ 16000000) (hd : dp ≤ 60) : reprS d := by
  refine ⟨h.show_, ?_, Nat.le_trans h.dep hd⟩
  have h1 := PyData.shown_le B hB d h.leaf
  have h2 : (B + 2) * d.weight ≤ (B + 2) * w := Nat.mul_le_mul_left _ h.wt
  have := sizeLine_eq
  omega
end
/-! ### data of a heap that grows -/
mutual
theorem dat_ext {ph zs : PHp} : ∀ {v : PV} {d : PyData}, Dat ph v d → Dat (ph ++ zs) v d
  | _, _, .non => .non
  | _, _, .bl b => .bl b
  | _, _, .int b => .int b
  | _, _, .str b => .str b
  | _, _, .tup h => .tup (dats_ext h)
  | _, _, .lst h => .lst (dats_ext h)
  | _, _, .ref hn h => .ref (by rw [List.getElem?_append_left (List.getElem?_eq_some_iff.mp hn).1]; exact hn) (dats_ext h)
  | _, _, .dict hn h => .dict (by rw [List.getElem?_append_left (List.getElem?_eq_some_iff.mp hn).1]; exact hn) (dats_ext h)
theorem dats_ext {ph zs : PHp} : ∀ {v : List PV} {d : List PyData}, DatAll ph v d → DatAll (ph ++ zs) v d
  | _, _, .nil => .nil
  | _, _, .cons h t => .cons (dat_ext h) (dats_ext t)
end
/-- a value that can be shown -/
def Shw (B w dp : Nat) (ph : PHp) (v : PV) : Prop := ∃ d, Dat ph v d ∧ Sm B w dp d
theorem shw_all {B w dp : Nat} {ph : PHp} : ∀ {xs : List PV}, (∀ x ∈ xs, Shw B w dp ph x) → ∃ ds, DatAll ph xs ds ∧ SmA B ((w + 1) * xs.length) dp ds
  | [], _ => ⟨[], .nil, sma_nil⟩
  | x :: xs, h => by
    obtain ⟨d, h1, h2⟩ := h x (List.mem_cons_self ..)
    obtain ⟨ds, h3, h4⟩ := shw_all (xs := xs) fun y hy => h y (List.mem_cons_of_mem _ hy)
    refine ⟨d :: ds, .cons h1 h3, (sma_cons h2 h4).mono ?_ (Nat.le_refl _)⟩
    rw [List.length_cons, Nat.mul_succ]; omega
theorem shw_tup {B w dp : Nat} {ph : PHp} {xs : List PV} (h : ∀ x ∈ xs, Shw B w dp ph x) : Shw B ((w + 1) * xs.length) (dp + 1) ph (.tup xs) := by
  obtain ⟨ds, h1, h2⟩ := shw_all h
  exact ⟨_, .tup h1, sm_tup h2⟩
theorem shw_lst {B w dp : Nat} {ph : PHp} {xs : List PV} (h : ∀ x ∈ xs, Shw B w dp ph x) : Shw B ((w + 1) * xs.length) (dp + 1) ph (.lst xs) := by
  obtain ⟨ds, h1, h2⟩ := shw_all h
  exact ⟨_, .lst h1, sm_lst h2⟩
theorem Shw.mono {B w w' dp dp' : Nat} {ph : PHp} {v : PV} (h : Shw B w dp ph v) (hw : w ≤ w') (hd : dp ≤ dp') : Shw B w' dp' ph v := by
  obtain ⟨d, h1, h2⟩ := h
  exact ⟨d, h1, h2.mono hw hd⟩
theorem Shw.ext {B w dp : Nat} {ph zs : PHp} {v : PV} (h : Shw B w dp ph v) : Shw B w dp (ph ++ zs) v := by
  obtain ⟨d, h1, h2⟩ := h
  exact ⟨d, dat_ext h1, h2⟩
theorem Shw.repr {B w dp : Nat} {ph : PHp} {v : PV} {own : Bool} {Q : QV} (h : Shw B w dp ph v) (hB : 8 ≤ B) (hw : (B + 2) * w + B ≤ 16000000) (hd : dp ≤ 60) (q : ∀ d, Dat ph v d → Q (.str d.shown) ph) : biS .repr own [v] ph Q := by
  obtain ⟨d, h1, h2⟩ := h
  exact repr_of h1 (h2.reprS hB hw hd) (q d h1)
/-- the data of a value are told once -/
theorem two_shw {B w dp : Nat} {ph : PHp} {x y : PV} (h1 : Shw B w dp ph x) (h2 : Shw B w dp ph y) : Shw B (2 * w + 2) (dp + 1) ph (.lst [x, y]) :=
  (shw_lst (xs := [x, y]) fun z hz => by
    rcases List.mem_cons.mp hz with rfl | hz
    · exact h1
    · rw [List.mem_singleton.mp hz]; exact h2).mono (by simp; omega) (Nat.le_refl _)
mutual
theorem dat_one {ph : PHp} : ∀ {v : PV} {d e : PyData}, Dat ph v d → Dat ph v e → d = e
  | _, _, _, .non, h => by cases h; rfl
  | _, _, _, .bl b, h => by cases h; rfl
  | _, _, _, .int b, h => by cases h; rfl
  | _, _, _, .str b, h => by cases h; rfl
  | _, _, _, .tup h, h' => by cases h' with | tup h' => rw [dats_one h h']
  | _, _, _, .lst h, h' => by cases h' with | lst h' => rw [dats_one h h']
  | _, _, _, .ref hn h, h' => by
    cases h' with
    | ref hn' h' => rw [hn] at hn'; cases hn'; rw [dats_one h h']
    | dict hn' h' => rw [hn] at hn'; cases hn'
  | _, _, _, .dict hn h, h' => by
    cases h' with
    | ref hn' h' => rw [hn] at hn'; cases hn'
    | dict hn' h' => rw [hn] at hn'; cases hn'; rw [dats_one h h']
theorem dats_one {ph : PHp} : ∀ {v : List PV} {d e : List PyData}, DatAll ph v d → DatAll ph v e → d = e
  | _, _, _, .nil, h => by cases h; rfl
  | _, _, _, .cons h t, h' => by cases h' with | cons h' t' => rw [dat_one h h', dats_one t t']
end
end RL

namespace RLT
open PySem PySem.Spec PyProof.Rows L2 RL
def topS (i : Nat) : Stmt := PySem.Challenge.pw_roadloans_k02_whole_lending.main.body.getD i (.Pass ⟨0, 0, 0, 0⟩)
abbrev st_0 : Stmt := topS 1
abbrev st_1 : Stmt := topS 2
abbrev st_2 : Stmt := topS 3
abbrev st_3 : Stmt := topS 4
abbrev st_4 : Stmt := topS 5
abbrev st_5 : Stmt := topS 6
abbrev st_6 : Stmt := topS 8
abbrev st_7 : Stmt := topS 9
abbrev st_8 : Stmt := topS 10
abbrev st_9 : Stmt := topS 11
abbrev st_10 : Stmt := topS 12
abbrev st_11 : Stmt := topS 13
abbrev st_12 : Stmt := topS 14
abbrev st_13 : Stmt := topS 15
abbrev st_14 : Stmt := topS 16
abbrev st_15 : Stmt := topS 17
abbrev st_16 : Stmt := topS 18
def df_0 : Df where
  name := "money"
  ps := ["purse"]
  N := ["purse"]
  gc := false
  body := [.ret (.bi .sum false [.var 0])]
def df_1 : Df where
  name := "behind"
  ps := ["town", "purse", "script"]
  N := ["town", "purse", "script", "found", "one", "other", "many"]
  gc := true
  body := [.set 3 (.bi .list true [.var 1]), .for_ (.tup [(.name 4), (.name 5)]) .seq [.idx (.var 0) (.con (.int 1))] [.set 6 (.op2 .sub false (.idx (.var 2) (.var 4)) (.idx (.var 2) (.var 5))), .seti (.var 3) (.var 4) (.op2 .sub true (.idx (.var 3) (.var 4)) (.var 6)), .seti (.var 3) (.var 5) (.op2 .add true (.idx (.var 3) (.var 5)) (.var 6))], .ret (.bi .tuple false [.var 3])]
def df_2 : Df where
  name := "lend"
  ps := ["town", "purse", "house"]
  N := ["town", "purse", "house", "own"]
  gc := false
  body := [.ret (.call 1 [.var 0, .var 1, .comp false (.bi .int false [.op2 .eq false (.var 3) (.var 2)]) (.name 3) .range [.idx (.var 0) (.con (.int 0))] none [3]])]
def df_3 : Df where
  name := "borrow"
  ps := ["town", "purse", "house"]
  N := ["town", "purse", "house", "own"]
  gc := false
  body := [.ret (.call 1 [.var 0, .var 1, .comp false (.neg (.bi .int false [.op2 .eq false (.var 3) (.var 2)])) (.name 3) .range [.idx (.var 0) (.con (.int 0))] none [3]])]
def df_4 : Df where
  name := "plain_script"
  ps := ["script"]
  N := ["script", "least", "item"]
  gc := false
  body := [.set 1 (.bi .min false [.var 0]), .ret (.bi .tuple false [.comp false (.op2 .sub false (.var 2) (.var 1)) (.name 2) .seq [.var 0] none [2]])]
def df_5 : Df where
  name := "purses_added"
  ps := ["one", "other"]
  N := ["one", "other", "here", "there"]
  gc := false
  body := [.ret (.bi .tuple false [.comp false (.op2 .add false (.var 2) (.var 3)) (.tup [(.name 2), (.name 3)]) .zip [.var 0, .var 1] none [2, 3]])]
def df_6 : Df where
  name := "_law_deck"
  ps := ["script"]
  N := ["script", "cell", "cells", "mixed"]
  gc := false
  body := [.par [2, 3] [.comp false (.bi .abs false [.var 1]) (.name 1) .seq [.sl false (.var 0) none (some (.con (.int 63)))] none [1], .op2 .add false (.con (.int 16245)) (.bi .len false [.sl false (.var 0) none (some (.con (.int 63)))])], .for_ (.name 1) .seq [.var 2] [.set 3 (.op2 .mod false (.op2 .add false (.op2 .add false (.op2 .mul false (.var 3) (.con (.int 48271))) (.op2 .mod false (.var 1) (.con (.int 2147483629)))) (.con (.int 7))) (.con (.int 2147483647)))], .ret (.lst true [.rev true (.comp false (.var 1) (.name 1) .seq [.var 2] (some (.op2 .ge false (.var 1) (.op2 .pow false (.con (.int 10)) (.con (.int 9))))) [1]), .var 3])]
def df_7 : Df where
  name := "_law_next"
  ps := ["deck", "many"]
  N := ["deck", "many", "rest"]
  gc := false
  body := [.while_ (.andE (.op2 .gt false (.var 1) (.con (.int 1))) (.op2 .ne false (.idx (.var 0) (.con (.int 0))) (.lst false []))) [.set 2 (.mt .pop (.idx (.var 0) (.con (.int 0))) []), .ife (.op2 .gt false (.var 2) (.con (.int 0))) [.expr (.mt .append (.idx (.var 0) (.con (.int 0))) [.op2 .fdiv false (.var 2) (.var 1)]), .ret (.op2 .mod false (.var 2) (.var 1))] []], .seti (.var 0) (.con (.int 1)) (.op2 .mod true (.op2 .add false (.op2 .mul false (.idx (.var 0) (.con (.int 1))) (.con (.int 48271))) (.con (.int 11))) (.con (.int 2147483647))), .ret (.op2 .mod false (.op2 .fdiv false (.op2 .mod false (.op2 .mul false (.idx (.var 0) (.con (.int 1))) (.idx (.var 0) (.con (.int 1)))) (.con (.int 2147483629))) (.con (.int 7))) (.var 1))]
def df_8 : Df where
  name := "_law_pick"
  ps := ["deck", "some"]
  N := ["deck", "some"]
  gc := false
  body := [.ret (.idx (.var 1) (.call 7 [.var 0, .bi .len false [.var 1]]))]
def df_9 : Df where
  name := "_law_mixed"
  ps := ["deck", "some"]
  N := ["deck", "some", "left", "found"]
  gc := true
  body := [.par [2, 3] [.bi .list true [.var 1], .lst true []], .while_ (.op2 .ne false (.var 2) (.lst false [])) [.expr (.mt .append (.var 3) [.mt .popAt (.var 2) [.call 7 [.var 0, .bi .len false [.var 2]]]])], .ret (.var 3)]
def df_10 : Df where
  name := "_law_pair"
  ps := ["one", "other"]
  N := ["one", "other"]
  gc := false
  body := [.ret (.ife (.op2 .lt false (.var 0) (.var 1)) (.tup [.var 0, .var 1]) (.tup [.var 1, .var 0]))]
def df_11 : Df where
  name := "_law_town"
  ps := ["deck", "most", "more"]
  N := ["deck", "most", "more", "houses", "names", "pairs", "step", "k", "one", "other"]
  gc := true
  body := [.set 3 (.op2 .add false (.con (.int 1)) (.call 7 [.var 0, .var 1])), .set 4 (.call 9 [.var 0, .rng false false [.var 3]]), .set 5 (.comp true (.call 10 [.idx (.var 4) (.var 7), .idx (.var 4) (.call 7 [.var 0, .var 7])]) (.name 7) .range [.con (.int 1), .var 3] none [7]), .for_ (.name 6) .range [.call 7 [.var 0, .op2 .add false (.var 2) (.con (.int 1))]] [.par [8, 9] [.call 7 [.var 0, .var 3], .call 7 [.var 0, .var 3]], .ife (.andE (.op2 .ne false (.var 8) (.var 9)) (.op2 .lt false (.bi .len false [.var 5]) (.con (.int 14)))) [.expr (.mt .append (.var 5) [.ife (.op2 .eq false (.call 7 [.var 0, .con (.int 4)]) (.con (.int 0))) (.call 8 [.var 0, .var 5]) (.call 10 [.var 8, .var 9])])] []], .ret (.tup [.var 3, .bi .tuple false [.bi .sorted false [.var 5]]])]
def df_12 : Df where
  name := "_law_behind"
  ps := ["town", "purse", "script"]
  N := ["town", "purse", "script", "found", "one", "other", "coins"]
  gc := true
  body := [.set 3 (.bi .list true [.var 1]), .for_ (.tup [(.name 4), (.name 5)]) .seq [.idx (.var 0) (.con (.int 1))] [.set 6 (.op2 .sub false (.idx (.var 2) (.var 4)) (.idx (.var 2) (.var 5))), .seti (.var 3) (.var 4) (.op2 .sub true (.idx (.var 3) (.var 4)) (.var 6)), .seti (.var 3) (.var 5) (.op2 .add true (.idx (.var 3) (.var 5)) (.var 6))], .ret (.bi .tuple false [.var 3])]
def df_13 : Df where
  name := "_law_plain"
  ps := ["script"]
  N := ["script", "least", "item"]
  gc := false
  body := [.set 1 (.bi .min false [.var 0]), .ret (.bi .tuple false [.comp false (.op2 .sub false (.var 2) (.var 1)) (.name 2) .seq [.var 0] none [2]])]
def df_14 : Df where
  name := "_law_purse"
  ps := ["deck", "houses", "most"]
  N := ["deck", "houses", "most", "house"]
  gc := false
  body := [.ret (.bi .tuple false [.comp false (.op2 .sub false (.call 7 [.var 0, .op2 .add false (.op2 .mul false (.con (.int 2)) (.var 2)) (.con (.int 1))]) (.var 2)) (.name 3) .range [.var 1] none [3]])]
def df_15 : Df where
  name := "_law_one_by_one"
  ps := ["deck", "town", "purse", "script"]
  N := ["deck", "town", "purse", "script", "deeds", "house", "item", "way"]
  gc := true
  body := [.set 4 (.lst true []), .for_ (.tup [(.name 5), (.name 6)]) .enum [.var 3] [.expr (.mt .extend (.var 4) [.op2 .mul false (.lst false [.tup [.var 5, .ife (.op2 .gt false (.var 6) (.con (.int 0))) (.con (.int 1)) (.neg (.con (.int 1)))]]) (.bi .abs false [.var 6])])], .for_ (.tup [(.name 5), (.name 7)]) .seq [.call 9 [.var 0, .var 4]] [.set 2 (.ife (.op2 .gt false (.var 7) (.con (.int 0))) (.call 2 [.var 1, .var 2, .var 5]) (.callk 3 [] [.var 1, .var 2, .var 5] [0, 1, 2]))], .ret (.var 2)]
def df_16 : Df where
  name := "law"
  ps := ["script"]
  N := ["script", "deck", "step", "town", "told", "house", "alone", "away", "plain", "both", "houses", "most", "purse", "one", "two", "kept", "due", "k", "item", "more"]
  gc := false
  body := [.set 1 (.call 6 [.var 0]), .for_ (.name 2) .range [.con (.int 5)] [.set 3 (.call 11 [.var 1, .call 8 [.var 1, .lst false [.con (.int 1), .con (.int 4), .con (.int 5), .con (.int 8)]], .call 8 [.var 1, .lst false [.con (.int 0), .con (.int 3), .con (.int 9)]]]), .par [10, 11] [.idx (.var 3) (.con (.int 0)), .call 8 [.var 1, .lst false [.con (.int 2), .con (.int 9), .con (.int 1000), .op2 .pow false (.con (.int 10)) (.con (.int 40))]]], .par [12, 13, 14] [.call 14 [.var 1, .var 10, .var 11], .call 14 [.var 1, .var 10, .var 11], .call 14 [.var 1, .var 10, .con (.int 3)]], .par [15, 16] [.bi .repr false [.lst false [.var 3, .var 12, .var 13, .var 14]], .call 12 [.var 3, .var 12, .var 13]], .set 4 (.lst false [.call 1 [.var 3, .var 12, .var 13], .callk 1 [] [.var 3, .var 12, .var 13] [0, 1, 2]]), .ife (.orE (.op2 .ne false (.bi .repr false [.var 4]) (.bi .repr false [.lst false [.var 16, .var 16]])) (.op2 .ne false (.bi .repr false [.lst false [.call 0 [.var 16], .callk 0 [] [.var 12] [0]]]) (.bi .repr false [.op2 .mul false (.lst false [.bi .sum false [.var 12]]) (.con (.int 2))]))) [.ret (.con (.bl false))] [], .ife (.op2 .ne false (.bi .repr false [.call 1 [.var 3, .idx (.var 4) (.con (.int 0)), .var 14]]) (.bi .repr false [.call 12 [.var 3, .var 16, .var 14]])) [.ret (.con (.bl false))] [], .ife (.op2 .ne false (.bi .repr false [.call 15 [.var 1, .var 3, .var 12, .var 14]]) (.bi .repr false [.call 12 [.var 3, .var 12, .var 14]])) [.ret (.con (.bl false))] [], .set 5 (.call 7 [.var 1, .var 10]), .set 6 (.bi .tuple false [.comp false (.bi .int false [.op2 .eq false (.var 17) (.var 5)]) (.name 17) .range [.var 10] none [17]]), .set 7 (.bi .tuple false [.comp false (.neg (.var 18)) (.name 18) .seq [.var 6] none [18]]), .ife (.op2 .ne false (.bi .repr false [.lst false [.call 2 [.var 3, .var 12, .var 5], .call 3 [.var 3, .var 12, .var 5]]]) (.bi .repr false [.lst false [.call 12 [.var 3, .var 12, .var 6], .call 12 [.var 3, .var 12, .var 7]]])) [.ret (.con (.bl false))] [], .set 8 (.call 13 [.var 13]), .ife (.op2 .ne false (.bi .repr false [.lst false [.call 4 [.var 13], .callk 4 [] [.var 13] [0], .call 4 [.var 8]]]) (.bi .repr false [.op2 .mul false (.lst false [.var 8]) (.con (.int 3))])) [.ret (.con (.bl false))] [], .ife (.orE (.op2 .ne false (.bi .repr false [.call 1 [.var 3, .var 12, .var 8]]) (.bi .repr false [.var 16])) (.op2 .ne false (.bi .repr false [.call 1 [.var 3, .var 12, .op2 .mul false (.tup [.con (.int 7)]) (.var 10)]]) (.bi .repr false [.var 12]))) [.ret (.con (.bl false))] [], .set 9 (.bi .tuple false [.comp false (.op2 .add false (.var 18) (.var 19)) (.tup [(.name 18), (.name 19)]) .zip [.var 13, .var 14] none [18, 19]]), .ife (.op2 .ne false (.bi .repr false [.lst false [.call 5 [.var 13, .var 14], .callk 5 [] [.var 14, .var 13] [0, 1]]]) (.bi .repr false [.lst false [.var 9, .var 9]])) [.ret (.con (.bl false))] [], .ife (.op2 .ne false (.bi .repr false [.call 1 [.var 3, .var 12, .var 9]]) (.bi .repr false [.call 12 [.var 3, .var 16, .var 14]])) [.ret (.con (.bl false))] [], .ife (.op2 .ne false (.bi .repr false [.lst false [.var 3, .var 12, .var 13, .var 14]]) (.var 15)) [.ret (.con (.bl false))] []], .ret (.con (.bl true))]
def pgm : Pg := ⟨[df_0, df_1, df_2, df_3, df_4, df_5, df_6, df_7, df_8, df_9, df_10, df_11, df_12, df_13, df_14, df_15, df_16], []⟩
def lw : Lw := ⟨pgm, [st_0, st_1, st_2, st_3, st_4, st_5, st_6, st_7, st_8, st_9, st_10, st_11, st_12, st_13, st_14, st_15, st_16]⟩
theorem bd_0_0_purse : BindOk df_0 st_0 0 ["purse"] [0] := fun _ _ _ _ _ _ us ws h1 h2 => match us, ws, h1, h2 with | [], [a0], _, _ => ⟨[a0], rfl, rfl⟩
theorem bd_0_1 : BindOk df_0 st_0 1 [] (List.range 1) := fun _ _ _ _ _ _ us ws h1 h2 => match us, ws, h1, h2 with | [a0], [], _, _ => ⟨[a0], rfl, rfl⟩
theorem bd_1_0_town_purse_script : BindOk df_1 st_1 0 ["town", "purse", "script"] [0, 1, 2] := fun _ _ _ _ _ _ us ws h1 h2 => match us, ws, h1, h2 with | [], [a0, a1, a2], _, _ => ⟨[a0, a1, a2], rfl, rfl⟩
theorem bd_1_3 : BindOk df_1 st_1 3 [] (List.range 3) := fun _ _ _ _ _ _ us ws h1 h2 => match us, ws, h1, h2 with | [a0, a1, a2], [], _, _ => ⟨[a0, a1, a2], rfl, rfl⟩
theorem bd_2_3 : BindOk df_2 st_2 3 [] (List.range 3) := fun _ _ _ _ _ _ us ws h1 h2 => match us, ws, h1, h2 with | [a0, a1, a2], [], _, _ => ⟨[a0, a1, a2], rfl, rfl⟩
theorem bd_3_0_town_purse_house : BindOk df_3 st_3 0 ["town", "purse", "house"] [0, 1, 2] := fun _ _ _ _ _ _ us ws h1 h2 => match us, ws, h1, h2 with | [], [a0, a1, a2], _, _ => ⟨[a0, a1, a2], rfl, rfl⟩
theorem bd_3_3 : BindOk df_3 st_3 3 [] (List.range 3) := fun _ _ _ _ _ _ us ws h1 h2 => match us, ws, h1, h2 with | [a0, a1, a2], [], _, _ => ⟨[a0, a1, a2], rfl, rfl⟩
theorem bd_4_0_script : BindOk df_4 st_4 0 ["script"] [0] := fun _ _ _ _ _ _ us ws h1 h2 => match us, ws, h1, h2 with | [], [a0], _, _ => ⟨[a0], rfl, rfl⟩
theorem bd_4_1 : BindOk df_4 st_4 1 [] (List.range 1) := fun _ _ _ _ _ _ us ws h1 h2 => match us, ws, h1, h2 with | [a0], [], _, _ => ⟨[a0], rfl, rfl⟩
theorem bd_5_0_one_other : BindOk df_5 st_5 0 ["one", "other"] [0, 1] := fun _ _ _ _ _ _ us ws h1 h2 => match us, ws, h1, h2 with | [], [a0, a1], _, _ => ⟨[a0, a1], rfl, rfl⟩
theorem bd_5_2 : BindOk df_5 st_5 2 [] (List.range 2) := fun _ _ _ _ _ _ us ws h1 h2 => match us, ws, h1, h2 with | [a0, a1], [], _, _ => ⟨[a0, a1], rfl, rfl⟩
theorem bd_6_1 : BindOk df_6 st_6 1 [] (List.range 1) := fun _ _ _ _ _ _ us ws h1 h2 => match us, ws, h1, h2 with | [a0], [], _, _ => ⟨[a0], rfl, rfl⟩
theorem bd_7_2 : BindOk df_7 st_7 2 [] (List.range 2) := fun _ _ _ _ _ _ us ws h1 h2 => match us, ws, h1, h2 with | [a0, a1], [], _, _ => ⟨[a0, a1], rfl, rfl⟩
theorem bd_8_2 : BindOk df_8 st_8 2 [] (List.range 2) := fun _ _ _ _ _ _ us ws h1 h2 => match us, ws, h1, h2 with | [a0, a1], [], _, _ => ⟨[a0, a1], rfl, rfl⟩
theorem bd_9_2 : BindOk df_9 st_9 2 [] (List.range 2) := fun _ _ _ _ _ _ us ws h1 h2 => match us, ws, h1, h2 with | [a0, a1], [], _, _ => ⟨[a0, a1], rfl, rfl⟩
theorem bd_10_2 : BindOk df_10 st_10 2 [] (List.range 2) := fun _ _ _ _ _ _ us ws h1 h2 => match us, ws, h1, h2 with | [a0, a1], [], _, _ => ⟨[a0, a1], rfl, rfl⟩
theorem bd_11_3 : BindOk df_11 st_11 3 [] (List.range 3) := fun _ _ _ _ _ _ us ws h1 h2 => match us, ws, h1, h2 with | [a0, a1, a2], [], _, _ => ⟨[a0, a1, a2], rfl, rfl⟩
theorem bd_12_3 : BindOk df_12 st_12 3 [] (List.range 3) := fun _ _ _ _ _ _ us ws h1 h2 => match us, ws, h1, h2 with | [a0, a1, a2], [], _, _ => ⟨[a0, a1, a2], rfl, rfl⟩
theorem bd_13_1 : BindOk df_13 st_13 1 [] (List.range 1) := fun _ _ _ _ _ _ us ws h1 h2 => match us, ws, h1, h2 with | [a0], [], _, _ => ⟨[a0], rfl, rfl⟩
theorem bd_14_3 : BindOk df_14 st_14 3 [] (List.range 3) := fun _ _ _ _ _ _ us ws h1 h2 => match us, ws, h1, h2 with | [a0, a1, a2], [], _, _ => ⟨[a0, a1, a2], rfl, rfl⟩
theorem bd_15_4 : BindOk df_15 st_15 4 [] (List.range 4) := fun _ _ _ _ _ _ us ws h1 h2 => match us, ws, h1, h2 with | [a0, a1, a2, a3], [], _, _ => ⟨[a0, a1, a2, a3], rfl, rfl⟩
theorem bd_law : BindOk df_16 st_16 1 [] [0] := fun _ _ _ _ _ _ us ws h1 h2 => match us, ws, h1, h2 with | [a0], [], _, _ => ⟨[a0], rfl, rfl⟩
theorem dfs_0 : DefS lw df_0 st_0 := ⟨⟨rfl, rfl, rfl, by decide +kernel, rfl, by decide +kernel, by decide +kernel⟩, (b_cons (st_ret (s_bi .sum rfl PyProof.Rows.boot_sum rfl (a_cons (s_v 0 rfl rfl) a_nil))) b_nil)⟩
theorem dfs_1 : DefS lw df_1 st_1 := ⟨⟨rfl, rfl, rfl, by decide +kernel, rfl, by decide +kernel, by decide +kernel⟩, (b_cons (st_s 3 rfl rfl (s_ty .list rfl PyProof.Rows.boot_list rfl (a_cons (s_v 1 rfl rfl) a_nil))) (b_cons (st_for (i_seq (s_idx (s_v 0 rfl rfl) s_int)) (g_tup (gs_cons (g_n 4 rfl rfl rfl) (gs_cons (g_n 5 rfl rfl rfl) gs_nil))) (b_cons (st_s 6 rfl rfl (s_bin (s_idx (s_v 2 rfl rfl) (s_v 4 rfl rfl)) (s_idx (s_v 2 rfl rfl) (s_v 5 rfl rfl)))) (b_cons (st_seti (s_bin (s_idx (s_v 3 rfl rfl) (s_v 4 rfl rfl)) (s_v 6 rfl rfl)) (s_v 3 rfl rfl) (s_v 4 rfl rfl)) (b_cons (st_seti (s_bin (s_idx (s_v 3 rfl rfl) (s_v 5 rfl rfl)) (s_v 6 rfl rfl)) (s_v 3 rfl rfl) (s_v 5 rfl rfl)) b_nil)))) (b_cons (st_ret (s_ty .tuple rfl PyProof.Rows.boot_tuple rfl (a_cons (s_v 3 rfl rfl) a_nil))) b_nil)))⟩
theorem dfs_2 : DefS lw df_2 st_2 := ⟨⟨rfl, rfl, rfl, by decide +kernel, rfl, by decide +kernel, by decide +kernel⟩, (b_cons (st_ret (s_call 1 rfl rfl bd_1_3 rfl rfl (a_cons (s_v 0 rfl rfl) (a_cons (s_v 1 rfl rfl) (a_cons (s_comp [("own", 3)] (i_r1 rfl (s_idx (s_v 0 rfl rfl) s_int)) (by decide +kernel) rfl (by decide) (g_n 3 rfl rfl rfl) c_nil (s_ty .int rfl PyProof.Rows.boot_int rfl (a_cons (s_cmp (s_v 3 rfl rfl) (s_v 2 rfl rfl)) a_nil))) a_nil))))) b_nil)⟩
theorem dfs_3 : DefS lw df_3 st_3 := ⟨⟨rfl, rfl, rfl, by decide +kernel, rfl, by decide +kernel, by decide +kernel⟩, (b_cons (st_ret (s_call 1 rfl rfl bd_1_3 rfl rfl (a_cons (s_v 0 rfl rfl) (a_cons (s_v 1 rfl rfl) (a_cons (s_comp [("own", 3)] (i_r1 rfl (s_idx (s_v 0 rfl rfl) s_int)) (by decide +kernel) rfl (by decide) (g_n 3 rfl rfl rfl) c_nil (s_neg (s_ty .int rfl PyProof.Rows.boot_int rfl (a_cons (s_cmp (s_v 3 rfl rfl) (s_v 2 rfl rfl)) a_nil)))) a_nil))))) b_nil)⟩
theorem dfs_4 : DefS lw df_4 st_4 := ⟨⟨rfl, rfl, rfl, by decide +kernel, rfl, by decide +kernel, by decide +kernel⟩, (b_cons (st_s 1 rfl rfl (s_bi .min rfl PyProof.Rows.boot_min rfl (a_cons (s_v 0 rfl rfl) a_nil))) (b_cons (st_ret (s_ty .tuple rfl PyProof.Rows.boot_tuple rfl (a_cons (s_comp [("item", 2)] (i_seq (s_v 0 rfl rfl)) (by decide +kernel) rfl (by decide) (g_n 2 rfl rfl rfl) c_nil (s_bin (s_v 2 rfl rfl) (s_v 1 rfl rfl))) a_nil))) b_nil))⟩
theorem dfs_5 : DefS lw df_5 st_5 := ⟨⟨rfl, rfl, rfl, by decide +kernel, rfl, by decide +kernel, by decide +kernel⟩, (b_cons (st_ret (s_ty .tuple rfl PyProof.Rows.boot_tuple rfl (a_cons (s_comp [("here", 2), ("there", 3)] (i_zip rfl (s_v 0 rfl rfl) (s_v 1 rfl rfl)) (by decide +kernel) rfl (by decide) (g_tup (gs_cons (g_n 2 rfl rfl rfl) (gs_cons (g_n 3 rfl rfl rfl) gs_nil))) c_nil (s_bin (s_v 2 rfl rfl) (s_v 3 rfl rfl))) a_nil))) b_nil)⟩
theorem dfs_6 : DefS lw df_6 st_6 := ⟨⟨rfl, rfl, rfl, by decide +kernel, rfl, by decide +kernel, by decide +kernel⟩, (b_cons (st_par2 2 3 rfl rfl (by decide) rfl rfl (a_cons (s_comp [("cell", 1)] (i_seq (s_sl (s_v 0 rfl rfl) o_none (o_some s_int))) (by decide +kernel) rfl (by decide) (g_n 1 rfl rfl rfl) c_nil (s_bi .abs rfl PyProof.Rows.boot_abs rfl (a_cons (s_v 1 rfl rfl) a_nil))) (a_cons (s_bin s_int (s_bi .len rfl PySem.boot_len rfl (a_cons (s_sl (s_v 0 rfl rfl) o_none (o_some s_int)) a_nil))) a_nil)) (swap_of rfl)) (b_cons (st_for (i_seq (s_v 2 rfl rfl)) (g_n 1 rfl rfl rfl) (b_cons (st_s 3 rfl rfl (s_bin (s_bin (s_bin (s_bin (s_v 3 rfl rfl) s_int) (s_bin (s_v 1 rfl rfl) s_int)) s_int) s_int)) b_nil)) (b_cons (st_ret (s_lst (a_cons (s_rev (s_comp [("cell", 1)] (i_seq (s_v 2 rfl rfl)) (by decide +kernel) rfl (by decide) (g_n 1 rfl rfl rfl) (c_one (t_cmp (s_v 1 rfl rfl) (s_bin s_int s_int))) (s_v 1 rfl rfl))) (a_cons (s_v 3 rfl rfl) a_nil)))) b_nil)))⟩
theorem dfs_7 : DefS lw df_7 st_7 := ⟨⟨rfl, rfl, rfl, by decide +kernel, rfl, by decide +kernel, by decide +kernel⟩, (b_cons (st_while (t_w (w_and (t_cmp (s_v 1 rfl rfl) s_int) (w_and1 (t_cmp (s_idx (s_v 0 rfl rfl) s_int) (s_lst a_nil))))) (b_cons (st_s 2 rfl rfl (s_mt0 .pop PySem.F.slot_list_pop PySem.F.type_list_pop (s_idx (s_v 0 rfl rfl) s_int))) (b_cons (st_ife (t_cmp (s_v 2 rfl rfl) s_int) (b_cons (st_expr (s_mt .append PySem.F.slot_list_append PySem.F.type_list_append (s_idx (s_v 0 rfl rfl) s_int) (a_cons (s_bin (s_v 2 rfl rfl) (s_v 1 rfl rfl)) a_nil))) (b_cons (st_ret (s_bin (s_v 2 rfl rfl) (s_v 1 rfl rfl))) b_nil)) b_nil) b_nil))) (b_cons (st_seti (s_bin (s_bin (s_bin (s_idx (s_v 0 rfl rfl) s_int) s_int) s_int) s_int) (s_v 0 rfl rfl) s_int) (b_cons (st_ret (s_bin (s_bin (s_bin (s_bin (s_idx (s_v 0 rfl rfl) s_int) (s_idx (s_v 0 rfl rfl) s_int)) s_int) s_int) (s_v 1 rfl rfl))) b_nil)))⟩
theorem dfs_8 : DefS lw df_8 st_8 := ⟨⟨rfl, rfl, rfl, by decide +kernel, rfl, by decide +kernel, by decide +kernel⟩, (b_cons (st_ret (s_idx (s_v 1 rfl rfl) (s_call 7 rfl rfl bd_7_2 rfl rfl (a_cons (s_v 0 rfl rfl) (a_cons (s_bi .len rfl PySem.boot_len rfl (a_cons (s_v 1 rfl rfl) a_nil)) a_nil))))) b_nil)⟩
theorem dfs_9 : DefS lw df_9 st_9 := ⟨⟨rfl, rfl, rfl, by decide +kernel, rfl, by decide +kernel, by decide +kernel⟩, (b_cons (st_par2 2 3 rfl rfl (by decide) rfl rfl (a_cons (s_ty .list rfl PyProof.Rows.boot_list rfl (a_cons (s_v 1 rfl rfl) a_nil)) (a_cons (s_lst a_nil) a_nil)) (swap_of rfl)) (b_cons (st_while (t_cmp (s_v 2 rfl rfl) (s_lst a_nil)) (b_cons (st_expr (s_mt .append PySem.F.slot_list_append PySem.F.type_list_append (s_v 3 rfl rfl) (a_cons (s_mt .popAt PySem.F.slot_list_pop PySem.F.type_list_pop (s_v 2 rfl rfl) (a_cons (s_call 7 rfl rfl bd_7_2 rfl rfl (a_cons (s_v 0 rfl rfl) (a_cons (s_bi .len rfl PySem.boot_len rfl (a_cons (s_v 2 rfl rfl) a_nil)) a_nil))) a_nil)) a_nil))) b_nil)) (b_cons (st_ret (s_v 3 rfl rfl)) b_nil)))⟩
theorem dfs_10 : DefS lw df_10 st_10 := ⟨⟨rfl, rfl, rfl, by decide +kernel, rfl, by decide +kernel, by decide +kernel⟩, (b_cons (st_ret (s_ife (t_cmp (s_v 0 rfl rfl) (s_v 1 rfl rfl)) (s_tup (a_cons (s_v 0 rfl rfl) (a_cons (s_v 1 rfl rfl) a_nil))) (s_tup (a_cons (s_v 1 rfl rfl) (a_cons (s_v 0 rfl rfl) a_nil))))) b_nil)⟩
theorem dfs_11 : DefS lw df_11 st_11 := ⟨⟨rfl, rfl, rfl, by decide +kernel, rfl, by decide +kernel, by decide +kernel⟩, (b_cons (st_s 3 rfl rfl (s_bin s_int (s_call 7 rfl rfl bd_7_2 rfl rfl (a_cons (s_v 0 rfl rfl) (a_cons (s_v 1 rfl rfl) a_nil))))) (b_cons (st_s 4 rfl rfl (s_call 9 rfl rfl bd_9_2 rfl rfl (a_cons (s_v 0 rfl rfl) (a_cons (s_rngL rfl (g_1 rfl (s_v 3 rfl rfl))) a_nil)))) (b_cons (st_setC 5 [("k", 7)] rfl (loc_of rfl) rfl (i_r2 rfl s_int (s_v 3 rfl rfl)) (by decide +kernel) rfl (by decide) (g_n 7 rfl rfl rfl) c_nil (s_call 10 rfl rfl bd_10_2 rfl rfl (a_cons (s_idx (s_v 4 rfl rfl) (s_v 7 rfl rfl)) (a_cons (s_idx (s_v 4 rfl rfl) (s_call 7 rfl rfl bd_7_2 rfl rfl (a_cons (s_v 0 rfl rfl) (a_cons (s_v 7 rfl rfl) a_nil)))) a_nil)))) (b_cons (st_for (i_r1 rfl (s_call 7 rfl rfl bd_7_2 rfl rfl (a_cons (s_v 0 rfl rfl) (a_cons (s_bin (s_v 2 rfl rfl) s_int) a_nil)))) (g_n 6 rfl rfl rfl) (b_cons (st_par2 8 9 rfl rfl (by decide) rfl rfl (a_cons (s_call 7 rfl rfl bd_7_2 rfl rfl (a_cons (s_v 0 rfl rfl) (a_cons (s_v 3 rfl rfl) a_nil))) (a_cons (s_call 7 rfl rfl bd_7_2 rfl rfl (a_cons (s_v 0 rfl rfl) (a_cons (s_v 3 rfl rfl) a_nil))) a_nil)) (swap_of rfl)) (b_cons (st_ife (t_w (w_and (t_cmp (s_v 8 rfl rfl) (s_v 9 rfl rfl)) (w_and1 (t_cmp (s_bi .len rfl PySem.boot_len rfl (a_cons (s_v 5 rfl rfl) a_nil)) s_int)))) (b_cons (st_expr (s_mt .append PySem.F.slot_list_append PySem.F.type_list_append (s_v 5 rfl rfl) (a_cons (s_ife (t_cmp (s_call 7 rfl rfl bd_7_2 rfl rfl (a_cons (s_v 0 rfl rfl) (a_cons s_int a_nil))) s_int) (s_call 8 rfl rfl bd_8_2 rfl rfl (a_cons (s_v 0 rfl rfl) (a_cons (s_v 5 rfl rfl) a_nil))) (s_call 10 rfl rfl bd_10_2 rfl rfl (a_cons (s_v 8 rfl rfl) (a_cons (s_v 9 rfl rfl) a_nil)))) a_nil))) b_nil) b_nil) b_nil))) (b_cons (st_ret (s_tup (a_cons (s_v 3 rfl rfl) (a_cons (s_ty .tuple rfl PyProof.Rows.boot_tuple rfl (a_cons (s_bi .sorted rfl PyProof.Rows.boot_sorted rfl (a_cons (s_v 5 rfl rfl) a_nil)) a_nil)) a_nil)))) b_nil)))))⟩
theorem dfs_12 : DefS lw df_12 st_12 := ⟨⟨rfl, rfl, rfl, by decide +kernel, rfl, by decide +kernel, by decide +kernel⟩, (b_cons (st_s 3 rfl rfl (s_ty .list rfl PyProof.Rows.boot_list rfl (a_cons (s_v 1 rfl rfl) a_nil))) (b_cons (st_for (i_seq (s_idx (s_v 0 rfl rfl) s_int)) (g_tup (gs_cons (g_n 4 rfl rfl rfl) (gs_cons (g_n 5 rfl rfl rfl) gs_nil))) (b_cons (st_s 6 rfl rfl (s_bin (s_idx (s_v 2 rfl rfl) (s_v 4 rfl rfl)) (s_idx (s_v 2 rfl rfl) (s_v 5 rfl rfl)))) (b_cons (st_seti (s_bin (s_idx (s_v 3 rfl rfl) (s_v 4 rfl rfl)) (s_v 6 rfl rfl)) (s_v 3 rfl rfl) (s_v 4 rfl rfl)) (b_cons (st_seti (s_bin (s_idx (s_v 3 rfl rfl) (s_v 5 rfl rfl)) (s_v 6 rfl rfl)) (s_v 3 rfl rfl) (s_v 5 rfl rfl)) b_nil)))) (b_cons (st_ret (s_ty .tuple rfl PyProof.Rows.boot_tuple rfl (a_cons (s_v 3 rfl rfl) a_nil))) b_nil)))⟩
theorem dfs_13 : DefS lw df_13 st_13 := ⟨⟨rfl, rfl, rfl, by decide +kernel, rfl, by decide +kernel, by decide +kernel⟩, (b_cons (st_s 1 rfl rfl (s_bi .min rfl PyProof.Rows.boot_min rfl (a_cons (s_v 0 rfl rfl) a_nil))) (b_cons (st_ret (s_ty .tuple rfl PyProof.Rows.boot_tuple rfl (a_cons (s_comp [("item", 2)] (i_seq (s_v 0 rfl rfl)) (by decide +kernel) rfl (by decide) (g_n 2 rfl rfl rfl) c_nil (s_bin (s_v 2 rfl rfl) (s_v 1 rfl rfl))) a_nil))) b_nil))⟩
theorem dfs_14 : DefS lw df_14 st_14 := ⟨⟨rfl, rfl, rfl, by decide +kernel, rfl, by decide +kernel, by decide +kernel⟩, (b_cons (st_ret (s_ty .tuple rfl PyProof.Rows.boot_tuple rfl (a_cons (s_comp [("house", 3)] (i_r1 rfl (s_v 1 rfl rfl)) (by decide +kernel) rfl (by decide) (g_n 3 rfl rfl rfl) c_nil (s_bin (s_call 7 rfl rfl bd_7_2 rfl rfl (a_cons (s_v 0 rfl rfl) (a_cons (s_bin (s_bin s_int (s_v 2 rfl rfl)) s_int) a_nil))) (s_v 2 rfl rfl))) a_nil))) b_nil)⟩
theorem dfs_15 : DefS lw df_15 st_15 := ⟨⟨rfl, rfl, rfl, by decide +kernel, rfl, by decide +kernel, by decide +kernel⟩, (b_cons (st_s 4 rfl rfl (s_lst a_nil)) (b_cons (st_for (i_enum rfl (s_v 3 rfl rfl)) (g_tup (gs_cons (g_n 5 rfl rfl rfl) (gs_cons (g_n 6 rfl rfl rfl) gs_nil))) (b_cons (st_expr (s_mt .extend PySem.F.slot_list_extend PySem.F.type_list_extend (s_v 4 rfl rfl) (a_cons (s_bin (s_lst (a_cons (s_tup (a_cons (s_v 5 rfl rfl) (a_cons (s_ife (t_cmp (s_v 6 rfl rfl) s_int) s_int (s_neg s_int)) a_nil))) a_nil)) (s_bi .abs rfl PyProof.Rows.boot_abs rfl (a_cons (s_v 6 rfl rfl) a_nil))) a_nil))) b_nil)) (b_cons (st_for (i_seq (s_call 9 rfl rfl bd_9_2 rfl rfl (a_cons (s_v 0 rfl rfl) (a_cons (s_v 4 rfl rfl) a_nil)))) (g_tup (gs_cons (g_n 5 rfl rfl rfl) (gs_cons (g_n 7 rfl rfl rfl) gs_nil))) (b_cons (st_s 2 rfl rfl (s_ife (t_cmp (s_v 7 rfl rfl) s_int) (s_call 2 rfl rfl bd_2_3 rfl rfl (a_cons (s_v 1 rfl rfl) (a_cons (s_v 2 rfl rfl) (a_cons (s_v 5 rfl rfl) a_nil)))) (s_callk0 3 rfl rfl bd_3_0_town_purse_house rfl rfl (k_cons (s_v 1 rfl rfl) (k_cons (s_v 2 rfl rfl) (k_cons (s_v 5 rfl rfl) k_nil)))))) b_nil)) (b_cons (st_ret (s_v 2 rfl rfl)) b_nil))))⟩
theorem dfs_16 : DefS lw df_16 st_16 := ⟨⟨rfl, rfl, rfl, by decide +kernel, rfl, by decide +kernel, by decide +kernel⟩, (b_cons (st_s 1 rfl rfl (s_call 6 rfl rfl bd_6_1 rfl rfl (a_cons (s_v 0 rfl rfl) a_nil))) (b_cons (st_for (i_r1 rfl s_int) (g_n 2 rfl rfl rfl) (b_cons (st_s 3 rfl rfl (s_call 11 rfl rfl bd_11_3 rfl rfl (a_cons (s_v 1 rfl rfl) (a_cons (s_call 8 rfl rfl bd_8_2 rfl rfl (a_cons (s_v 1 rfl rfl) (a_cons (s_lst (a_cons s_int (a_cons s_int (a_cons s_int (a_cons s_int a_nil))))) a_nil))) (a_cons (s_call 8 rfl rfl bd_8_2 rfl rfl (a_cons (s_v 1 rfl rfl) (a_cons (s_lst (a_cons s_int (a_cons s_int (a_cons s_int a_nil)))) a_nil))) a_nil))))) (b_cons (st_par2 10 11 rfl rfl (by decide) rfl rfl (a_cons (s_idx (s_v 3 rfl rfl) s_int) (a_cons (s_call 8 rfl rfl bd_8_2 rfl rfl (a_cons (s_v 1 rfl rfl) (a_cons (s_lst (a_cons s_int (a_cons s_int (a_cons s_int (a_cons (s_bin s_int s_int) a_nil))))) a_nil))) a_nil)) (swap_of rfl)) (b_cons (st_par3 12 13 14 rfl rfl rfl (by decide) (by decide) (by decide) rfl rfl rfl (a_cons (s_call 14 rfl rfl bd_14_3 rfl rfl (a_cons (s_v 1 rfl rfl) (a_cons (s_v 10 rfl rfl) (a_cons (s_v 11 rfl rfl) a_nil)))) (a_cons (s_call 14 rfl rfl bd_14_3 rfl rfl (a_cons (s_v 1 rfl rfl) (a_cons (s_v 10 rfl rfl) (a_cons (s_v 11 rfl rfl) a_nil)))) (a_cons (s_call 14 rfl rfl bd_14_3 rfl rfl (a_cons (s_v 1 rfl rfl) (a_cons (s_v 10 rfl rfl) (a_cons s_int a_nil)))) a_nil))) (swap_of rfl)) (b_cons (st_par2 15 16 rfl rfl (by decide) rfl rfl (a_cons (s_bi .repr rfl PyProof.Rows.boot_repr rfl (a_cons (s_lst (a_cons (s_v 3 rfl rfl) (a_cons (s_v 12 rfl rfl) (a_cons (s_v 13 rfl rfl) (a_cons (s_v 14 rfl rfl) a_nil))))) a_nil)) (a_cons (s_call 12 rfl rfl bd_12_3 rfl rfl (a_cons (s_v 3 rfl rfl) (a_cons (s_v 12 rfl rfl) (a_cons (s_v 13 rfl rfl) a_nil)))) a_nil)) (swap_of rfl)) (b_cons (st_s 4 rfl rfl (s_lst (a_cons (s_call 1 rfl rfl bd_1_3 rfl rfl (a_cons (s_v 3 rfl rfl) (a_cons (s_v 12 rfl rfl) (a_cons (s_v 13 rfl rfl) a_nil)))) (a_cons (s_callk0 1 rfl rfl bd_1_0_town_purse_script rfl rfl (k_cons (s_v 3 rfl rfl) (k_cons (s_v 12 rfl rfl) (k_cons (s_v 13 rfl rfl) k_nil)))) a_nil)))) (b_cons (st_ife (t_w (w_or (t_cmp (s_bi .repr rfl PyProof.Rows.boot_repr rfl (a_cons (s_v 4 rfl rfl) a_nil)) (s_bi .repr rfl PyProof.Rows.boot_repr rfl (a_cons (s_lst (a_cons (s_v 16 rfl rfl) (a_cons (s_v 16 rfl rfl) a_nil))) a_nil))) (w_or1 (t_cmp (s_bi .repr rfl PyProof.Rows.boot_repr rfl (a_cons (s_lst (a_cons (s_call 0 rfl rfl bd_0_1 rfl rfl (a_cons (s_v 16 rfl rfl) a_nil)) (a_cons (s_callk0 0 rfl rfl bd_0_0_purse rfl rfl (k_cons (s_v 12 rfl rfl) k_nil)) a_nil))) a_nil)) (s_bi .repr rfl PyProof.Rows.boot_repr rfl (a_cons (s_bin (s_lst (a_cons (s_bi .sum rfl PyProof.Rows.boot_sum rfl (a_cons (s_v 12 rfl rfl) a_nil)) a_nil)) s_int) a_nil)))))) (b_cons (st_ret s_bl) b_nil) b_nil) (b_cons (st_ife (t_cmp (s_bi .repr rfl PyProof.Rows.boot_repr rfl (a_cons (s_call 1 rfl rfl bd_1_3 rfl rfl (a_cons (s_v 3 rfl rfl) (a_cons (s_idx (s_v 4 rfl rfl) s_int) (a_cons (s_v 14 rfl rfl) a_nil)))) a_nil)) (s_bi .repr rfl PyProof.Rows.boot_repr rfl (a_cons (s_call 12 rfl rfl bd_12_3 rfl rfl (a_cons (s_v 3 rfl rfl) (a_cons (s_v 16 rfl rfl) (a_cons (s_v 14 rfl rfl) a_nil)))) a_nil))) (b_cons (st_ret s_bl) b_nil) b_nil) (b_cons (st_ife (t_cmp (s_bi .repr rfl PyProof.Rows.boot_repr rfl (a_cons (s_call 15 rfl rfl bd_15_4 rfl rfl (a_cons (s_v 1 rfl rfl) (a_cons (s_v 3 rfl rfl) (a_cons (s_v 12 rfl rfl) (a_cons (s_v 14 rfl rfl) a_nil))))) a_nil)) (s_bi .repr rfl PyProof.Rows.boot_repr rfl (a_cons (s_call 12 rfl rfl bd_12_3 rfl rfl (a_cons (s_v 3 rfl rfl) (a_cons (s_v 12 rfl rfl) (a_cons (s_v 14 rfl rfl) a_nil)))) a_nil))) (b_cons (st_ret s_bl) b_nil) b_nil) (b_cons (st_s 5 rfl rfl (s_call 7 rfl rfl bd_7_2 rfl rfl (a_cons (s_v 1 rfl rfl) (a_cons (s_v 10 rfl rfl) a_nil)))) (b_cons (st_s 6 rfl rfl (s_ty .tuple rfl PyProof.Rows.boot_tuple rfl (a_cons (s_comp [("k", 17)] (i_r1 rfl (s_v 10 rfl rfl)) (by decide +kernel) rfl (by decide) (g_n 17 rfl rfl rfl) c_nil (s_ty .int rfl PyProof.Rows.boot_int rfl (a_cons (s_cmp (s_v 17 rfl rfl) (s_v 5 rfl rfl)) a_nil))) a_nil))) (b_cons (st_s 7 rfl rfl (s_ty .tuple rfl PyProof.Rows.boot_tuple rfl (a_cons (s_comp [("item", 18)] (i_seq (s_v 6 rfl rfl)) (by decide +kernel) rfl (by decide) (g_n 18 rfl rfl rfl) c_nil (s_neg (s_v 18 rfl rfl))) a_nil))) (b_cons (st_ife (t_cmp (s_bi .repr rfl PyProof.Rows.boot_repr rfl (a_cons (s_lst (a_cons (s_call 2 rfl rfl bd_2_3 rfl rfl (a_cons (s_v 3 rfl rfl) (a_cons (s_v 12 rfl rfl) (a_cons (s_v 5 rfl rfl) a_nil)))) (a_cons (s_call 3 rfl rfl bd_3_3 rfl rfl (a_cons (s_v 3 rfl rfl) (a_cons (s_v 12 rfl rfl) (a_cons (s_v 5 rfl rfl) a_nil)))) a_nil))) a_nil)) (s_bi .repr rfl PyProof.Rows.boot_repr rfl (a_cons (s_lst (a_cons (s_call 12 rfl rfl bd_12_3 rfl rfl (a_cons (s_v 3 rfl rfl) (a_cons (s_v 12 rfl rfl) (a_cons (s_v 6 rfl rfl) a_nil)))) (a_cons (s_call 12 rfl rfl bd_12_3 rfl rfl (a_cons (s_v 3 rfl rfl) (a_cons (s_v 12 rfl rfl) (a_cons (s_v 7 rfl rfl) a_nil)))) a_nil))) a_nil))) (b_cons (st_ret s_bl) b_nil) b_nil) (b_cons (st_s 8 rfl rfl (s_call 13 rfl rfl bd_13_1 rfl rfl (a_cons (s_v 13 rfl rfl) a_nil))) (b_cons (st_ife (t_cmp (s_bi .repr rfl PyProof.Rows.boot_repr rfl (a_cons (s_lst (a_cons (s_call 4 rfl rfl bd_4_1 rfl rfl (a_cons (s_v 13 rfl rfl) a_nil)) (a_cons (s_callk0 4 rfl rfl bd_4_0_script rfl rfl (k_cons (s_v 13 rfl rfl) k_nil)) (a_cons (s_call 4 rfl rfl bd_4_1 rfl rfl (a_cons (s_v 8 rfl rfl) a_nil)) a_nil)))) a_nil)) (s_bi .repr rfl PyProof.Rows.boot_repr rfl (a_cons (s_bin (s_lst (a_cons (s_v 8 rfl rfl) a_nil)) s_int) a_nil))) (b_cons (st_ret s_bl) b_nil) b_nil) (b_cons (st_ife (t_w (w_or (t_cmp (s_bi .repr rfl PyProof.Rows.boot_repr rfl (a_cons (s_call 1 rfl rfl bd_1_3 rfl rfl (a_cons (s_v 3 rfl rfl) (a_cons (s_v 12 rfl rfl) (a_cons (s_v 8 rfl rfl) a_nil)))) a_nil)) (s_bi .repr rfl PyProof.Rows.boot_repr rfl (a_cons (s_v 16 rfl rfl) a_nil))) (w_or1 (t_cmp (s_bi .repr rfl PyProof.Rows.boot_repr rfl (a_cons (s_call 1 rfl rfl bd_1_3 rfl rfl (a_cons (s_v 3 rfl rfl) (a_cons (s_v 12 rfl rfl) (a_cons (s_bin (s_tup (a_cons s_int a_nil)) (s_v 10 rfl rfl)) a_nil)))) a_nil)) (s_bi .repr rfl PyProof.Rows.boot_repr rfl (a_cons (s_v 12 rfl rfl) a_nil)))))) (b_cons (st_ret s_bl) b_nil) b_nil) (b_cons (st_s 9 rfl rfl (s_ty .tuple rfl PyProof.Rows.boot_tuple rfl (a_cons (s_comp [("item", 18), ("more", 19)] (i_zip rfl (s_v 13 rfl rfl) (s_v 14 rfl rfl)) (by decide +kernel) rfl (by decide) (g_tup (gs_cons (g_n 18 rfl rfl rfl) (gs_cons (g_n 19 rfl rfl rfl) gs_nil))) c_nil (s_bin (s_v 18 rfl rfl) (s_v 19 rfl rfl))) a_nil))) (b_cons (st_ife (t_cmp (s_bi .repr rfl PyProof.Rows.boot_repr rfl (a_cons (s_lst (a_cons (s_call 5 rfl rfl bd_5_2 rfl rfl (a_cons (s_v 13 rfl rfl) (a_cons (s_v 14 rfl rfl) a_nil))) (a_cons (s_callk0 5 rfl rfl bd_5_0_one_other rfl rfl (k_cons (s_v 14 rfl rfl) (k_cons (s_v 13 rfl rfl) k_nil))) a_nil))) a_nil)) (s_bi .repr rfl PyProof.Rows.boot_repr rfl (a_cons (s_lst (a_cons (s_v 9 rfl rfl) (a_cons (s_v 9 rfl rfl) a_nil))) a_nil))) (b_cons (st_ret s_bl) b_nil) b_nil) (b_cons (st_ife (t_cmp (s_bi .repr rfl PyProof.Rows.boot_repr rfl (a_cons (s_call 1 rfl rfl bd_1_3 rfl rfl (a_cons (s_v 3 rfl rfl) (a_cons (s_v 12 rfl rfl) (a_cons (s_v 9 rfl rfl) a_nil)))) a_nil)) (s_bi .repr rfl PyProof.Rows.boot_repr rfl (a_cons (s_call 12 rfl rfl bd_12_3 rfl rfl (a_cons (s_v 3 rfl rfl) (a_cons (s_v 16 rfl rfl) (a_cons (s_v 14 rfl rfl) a_nil)))) a_nil))) (b_cons (st_ret s_bl) b_nil) b_nil) (b_cons (st_ife (t_cmp (s_bi .repr rfl PyProof.Rows.boot_repr rfl (a_cons (s_lst (a_cons (s_v 3 rfl rfl) (a_cons (s_v 12 rfl rfl) (a_cons (s_v 13 rfl rfl) (a_cons (s_v 14 rfl rfl) a_nil))))) a_nil)) (s_v 15 rfl rfl)) (b_cons (st_ret s_bl) b_nil) b_nil) b_nil)))))))))))))))))))) (b_cons (st_ret s_bl) b_nil)))⟩
end RLT

namespace RLT
open PySem L2 RL
def toI : PV → Int
  | .int i => i
  | _ => 0
def D (xs : List Int) (m : Int) : PHp := [.lst (xs.map .int), .lst [.ref 0, .int m]]
def dlen : PHp → Nat
  | .lst l :: _ => l.length
  | _ => 0
theorem dat_ints (ph : PHp) : ∀ xs : List Int, DatAll ph (xs.map .int) (xs.map .int)
  | [] => .nil
  | x :: xs => .cons (.int x) (dat_ints ph xs)
theorem eqv_nil (xs : List Int) : PyData.eqv (.list (xs.map .int)) (.list []) = decide (xs = []) := by
  cases xs <;> simp [PyData.eqv, PyData.eqvAll]
theorem shaped_ints (xs : List Int) : SeqAt.shaped (.list (xs.map .int)) = true := by
  have h1 : ∀ xs : List Int, PyData.canLayAll0 (xs.map .int) = true := by
    intro xs
    induction xs with
    | nil => rfl
    | cons x xs ih => simp [PyData.canLayAll0, PyData.canLay0, ih]
  have h2 : ∀ xs : List Int, PyData.depthAll (xs.map .int) = 0 := PySem.W.depth_ints
  simp [SeqAt.shaped, PyData.canLay0, h1, PyData.depth, h2]
theorem d0 {xs : List Int} {m : Int} {ex : PHp} : (D xs m ++ ex)[0]? = some (.lst (xs.map .int)) := rfl
theorem d1 {xs : List Int} {m : Int} {ex : PHp} : (D xs m ++ ex)[1]? = some (.lst [.ref 0, .int m]) := rfl
theorem s0 {xs : List Int} {m : Int} {ex : PHp} {ys : List Int} : setO (D xs m ++ ex) 0 (.lst (ys.map .int)) = D ys m ++ ex := rfl
theorem s1 {xs : List Int} {m m' : Int} {ex : PHp} : setO (D xs m ++ ex) 1 (.lst [.ref 0, .int m']) = D xs m' ++ ex := rfl
theorem lt31 {i : Int} (h0 : 0 ≤ i) (h1 : i < 2147483648) : i.natAbs.log2 < 31 := by
  by_cases hz : i.natAbs = 0
  · rw [hz]; decide
  · rw [Nat.log2_lt hz]; omega
def Gd (xs : List Int) (m : Int) : Prop := xs.length ≤ 63 ∧ 0 ≤ m ∧ m < 2147483647
theorem lt200 {i : Int} (h0 : 0 ≤ i) (h1 : i ≤ 1000000000000000000000000000000000000000000000000000000000000) : i.natAbs.log2 < 200 := by
  by_cases hz : i.natAbs = 0
  · rw [hz]; decide
  · rw [Nat.log2_lt hz]; omega
theorem next_ok {k : Nat} {xs : List Int} {m many : Int} {ex : PHp} {Q : QV} (hg : Gd xs m) (h1 : 1 ≤ many) (h2 : many ≤ 1000000000000000000000000000000000000000000000000000000000000) (h : ∀ r xs' m', Gd xs' m' → 0 ≤ r → r < many → Q (.int r) (D xs' m' ++ ex)) : callK pgm (k + 1) 7 [.ref 1, .int many] (D xs m ++ ex) Q XF := by
  refine callK_def rfl ⟨rfl, ?_⟩
  generalize hP : D xs m ++ ex = Ph0
  simp only [df_7, wpB, wpS]
  refine (?_ : ∃ n, whl _ _ _ n _ Ph0)
  refine whl_rule (fun env ph => ∃ xs m r, Gd xs m ∧ env = [some (.ref 1), some (.int many), r] ∧ ph = D xs m ++ ex) (fun _ ph => dlen ph) ?_ ⟨xs, m, none, hg, rfl, hP.symm⟩
  rintro env ph ⟨xs, m, r, ⟨hx63, hm⟩, rfl, rfl⟩ N hN
  -- behind the loop
  have last : ∀ xs : List Int, xs.length ≤ 63 → wpB (callK pgm k) (pgm.gl.map (·.2)) XF [.seti (.var 0) (.con (.int 1)) (.op2 .mod true (.op2 .add false (.op2 .mul false (.idx (.var 0) (.con (.int 1))) (.con (.int 48271))) (.con (.int 11))) (.con (.int 2147483647))), .ret (.op2 .mod false (.op2 .fdiv false (.op2 .mod false (.op2 .mul false (.idx (.var 0) (.con (.int 1))) (.idx (.var 0) (.con (.int 1)))) (.con (.int 2147483629))) (.con (.int 7))) (.var 1))]
      { nx := fun _ h => retS false (Ph0) Q .non h, rt := retS false (Ph0) Q } [some (.ref 1), some (.int many), r] (D xs m ++ ex) := by
    intro xs hx63
    simp only [bindT, bindTs, wpB, wpS, wpE, wpEs, wpO, wpC, ex_some, ex_some1, ex_bl, ex_int, ex_tup, List.getElem?_cons_zero, List.getElem?_cons_succ, List.set_cons_zero, List.set_cons_succ, List.length_cons, List.length_nil, Atom.pv, add_i, sub_i, mul_i, mod_i, fdiv_i, pow_i, lt_i, le_i, gt_i, ge_i, eq_, ne_, in_e, nin_e, is_n, isnot_n, idx_tup, idx_lst, eqP_int, eqP_str, atI_0, atI_1, atI_2, ixN_0, ixN_1, ixN_2, decide_eq_true_eq, Bool.not_true, Bool.not_false, if_true, Bool.false_eq_true, if_false, setSl]
    rw [idx_ref d1]
    simp only [bindT, bindTs, wpB, wpS, wpE, wpEs, wpO, wpC, ex_some, ex_some1, ex_bl, ex_int, ex_tup, List.getElem?_cons_zero, List.getElem?_cons_succ, List.set_cons_zero, List.set_cons_succ, List.length_cons, List.length_nil, Atom.pv, add_i, sub_i, mul_i, mod_i, fdiv_i, pow_i, lt_i, le_i, gt_i, ge_i, eq_, ne_, in_e, nin_e, is_n, isnot_n, idx_tup, idx_lst, eqP_int, eqP_str, atI_0, atI_1, atI_2, ixN_0, ixN_1, ixN_2, decide_eq_true_eq, Bool.not_true, Bool.not_false, if_true, Bool.false_eq_true, if_false, setSl]
    have b := lt31 hm.1 (by omega)
    refine ⟨by show _ + _ < _; have : (48271 : Int).natAbs.log2 < 31 := by decide
               omega, by decide, ?_⟩
    rw [seti_ref d1]
    refine ⟨1, rfl, ?_⟩
    have e : [PV.ref 0, PV.int m].set 1 (.int ((m * 48271 + 11).fmod 2147483647)) = [.ref 0, .int ((m * 48271 + 11).fmod 2147483647)] := rfl
    rw [e, s1]
    have hf : 0 ≤ (m * 48271 + 11).fmod 2147483647 ∧ (m * 48271 + 11).fmod 2147483647 < 2147483647 := by
      rw [Int.fmod_eq_emod_of_nonneg _ (by omega)]; omega
    generalize (m * 48271 + 11).fmod 2147483647 = m' at hf
    rw [idx_ref d1]
    simp only [bindT, bindTs, wpB, wpS, wpE, wpEs, wpO, wpC, ex_some, ex_some1, ex_bl, ex_int, ex_tup, List.getElem?_cons_zero, List.getElem?_cons_succ, List.set_cons_zero, List.set_cons_succ, List.length_cons, List.length_nil, Atom.pv, add_i, sub_i, mul_i, mod_i, fdiv_i, pow_i, lt_i, le_i, gt_i, ge_i, eq_, ne_, in_e, nin_e, is_n, isnot_n, idx_tup, idx_lst, eqP_int, eqP_str, atI_0, atI_1, atI_2, ixN_0, ixN_1, ixN_2, decide_eq_true_eq, Bool.not_true, Bool.not_false, if_true, Bool.false_eq_true, if_false, setSl]
    rw [idx_ref d1]
    simp only [bindT, bindTs, wpB, wpS, wpE, wpEs, wpO, wpC, ex_some, ex_some1, ex_bl, ex_int, ex_tup, List.getElem?_cons_zero, List.getElem?_cons_succ, List.set_cons_zero, List.set_cons_succ, List.length_cons, List.length_nil, Atom.pv, add_i, sub_i, mul_i, mod_i, fdiv_i, pow_i, lt_i, le_i, gt_i, ge_i, eq_, ne_, in_e, nin_e, is_n, isnot_n, idx_tup, idx_lst, eqP_int, eqP_str, atI_0, atI_1, atI_2, ixN_0, ixN_1, ixN_2, decide_eq_true_eq, Bool.not_true, Bool.not_false, if_true, Bool.false_eq_true, if_false, setSl]
    have b := lt31 hf.1 (by omega)
    refine ⟨by show _ + _ < _; omega, by decide, ⟨.inl ⟨by omega, by decide⟩, by omega, ?_⟩⟩
    show Q _ _
    refine h _ _ _ ⟨hx63, hf⟩ ?_ ?_
    · rw [Int.fmod_eq_emod_of_nonneg _ (by omega)]; exact Int.emod_nonneg _ (by omega)
    · rw [Int.fmod_eq_emod_of_nonneg _ (by omega)]; exact Int.emod_lt_of_pos _ (by omega)
  simp only [bindT, bindTs, wpB, wpS, wpE, wpEs, wpO, wpC, ex_some, ex_some1, ex_bl, ex_int, ex_tup, List.getElem?_cons_zero, List.getElem?_cons_succ, List.set_cons_zero, List.set_cons_succ, List.length_cons, List.length_nil, Atom.pv, add_i, sub_i, mul_i, mod_i, fdiv_i, pow_i, lt_i, le_i, gt_i, ge_i, eq_, ne_, in_e, nin_e, is_n, isnot_n, idx_tup, idx_lst, eqP_int, eqP_str, atI_0, atI_1, atI_2, ixN_0, ixN_1, ixN_2, decide_eq_true_eq, Bool.not_true, Bool.not_false, if_true, Bool.false_eq_true, if_false, setSl] at last ⊢
  split
  · rename_i hmany
    rw [idx_ref d1]
    simp only [bindT, bindTs, wpB, wpS, wpE, wpEs, wpO, wpC, ex_some, ex_some1, ex_bl, ex_int, ex_tup, List.getElem?_cons_zero, List.getElem?_cons_succ, List.set_cons_zero, List.set_cons_succ, List.length_cons, List.length_nil, Atom.pv, add_i, sub_i, mul_i, mod_i, fdiv_i, pow_i, lt_i, le_i, gt_i, ge_i, eq_, ne_, in_e, nin_e, is_n, isnot_n, idx_tup, idx_lst, eqP_int, eqP_str, atI_0, atI_1, atI_2, ixN_0, ixN_1, ixN_2, decide_eq_true_eq, Bool.not_true, Bool.not_false, if_true, Bool.false_eq_true, if_false, setSl]
    refine ⟨by decide, ?_⟩
    rw [if_neg (by decide)]
    refine eqP_of (.ref d0 (dat_ints _ xs)) (.lst .nil) (shaped_ints xs) rfl ?_
    rw [eqv_nil]
    by_cases hx : xs = []
    · rw [decide_eq_true hx]
      exact last xs hx63
    · rw [decide_eq_false hx]
      simp only [bindT, bindTs, wpB, wpS, wpE, wpEs, wpO, wpC, ex_some, ex_some1, ex_bl, ex_int, ex_tup, List.getElem?_cons_zero, List.getElem?_cons_succ, List.set_cons_zero, List.set_cons_succ, List.length_cons, List.length_nil, Atom.pv, add_i, sub_i, mul_i, mod_i, fdiv_i, pow_i, lt_i, le_i, gt_i, ge_i, eq_, ne_, in_e, nin_e, is_n, isnot_n, idx_tup, idx_lst, eqP_int, eqP_str, atI_0, atI_1, atI_2, ixN_0, ixN_1, ixN_2, decide_eq_true_eq, Bool.not_true, Bool.not_false, if_true, Bool.false_eq_true, if_false, setSl]
      rw [idx_ref d1]
      simp only [bindT, bindTs, wpB, wpS, wpE, wpEs, wpO, wpC, ex_some, ex_some1, ex_bl, ex_int, ex_tup, List.getElem?_cons_zero, List.getElem?_cons_succ, List.set_cons_zero, List.set_cons_succ, List.length_cons, List.length_nil, Atom.pv, add_i, sub_i, mul_i, mod_i, fdiv_i, pow_i, lt_i, le_i, gt_i, ge_i, eq_, ne_, in_e, nin_e, is_n, isnot_n, idx_tup, idx_lst, eqP_int, eqP_str, atI_0, atI_1, atI_2, ixN_0, ixN_1, ixN_2, decide_eq_true_eq, Bool.not_true, Bool.not_false, if_true, Bool.false_eq_true, if_false, setSl]
      refine ⟨rfl, ?_⟩
      obtain ⟨ys, y, rfl⟩ : ∃ ys y, xs = ys ++ [y] := ⟨xs.dropLast, xs.getLast hx, (List.dropLast_concat_getLast hx).symm⟩
      refine ⟨(ys ++ [y]).map .int, .int y, d0, by simp, ?_⟩
      have e : ((ys ++ [y]).map PV.int).dropLast = ys.map .int := by simp
      rw [e, s0]
      refine ⟨by omega, ?_⟩
      simp only [bindT, bindTs, wpB, wpS, wpE, wpEs, wpO, wpC, ex_some, ex_some1, ex_bl, ex_int, ex_tup, List.getElem?_cons_zero, List.getElem?_cons_succ, List.set_cons_zero, List.set_cons_succ, List.length_cons, List.length_nil, Atom.pv, add_i, sub_i, mul_i, mod_i, fdiv_i, pow_i, lt_i, le_i, gt_i, ge_i, eq_, ne_, in_e, nin_e, is_n, isnot_n, idx_tup, idx_lst, eqP_int, eqP_str, atI_0, atI_1, atI_2, ixN_0, ixN_1, ixN_2, decide_eq_true_eq, Bool.not_true, Bool.not_false, if_true, Bool.false_eq_true, if_false, setSl]
      split
      · rw [idx_ref d1]
        simp only [bindT, bindTs, wpB, wpS, wpE, wpEs, wpO, wpC, ex_some, ex_some1, ex_bl, ex_int, ex_tup, List.getElem?_cons_zero, List.getElem?_cons_succ, List.set_cons_zero, List.set_cons_succ, List.length_cons, List.length_nil, Atom.pv, add_i, sub_i, mul_i, mod_i, fdiv_i, pow_i, lt_i, le_i, gt_i, ge_i, eq_, ne_, in_e, nin_e, is_n, isnot_n, idx_tup, idx_lst, eqP_int, eqP_str, atI_0, atI_1, atI_2, ixN_0, ixN_1, ixN_2, decide_eq_true_eq, Bool.not_true, Bool.not_false, if_true, Bool.false_eq_true, if_false, setSl]
        refine ⟨rfl, .inl ⟨by omega, ?_⟩, ?_⟩
        · have := lt200 (i := many) (by omega) (by omega)
          omega
        · refine ⟨ys.map .int, d0, ?_, ?_⟩
          · have := sizeLine_eq
            simp at hx63 ⊢; omega
          · have e2 : ys.map PV.int ++ [.int (y.fdiv many)] = (ys ++ [y.fdiv many]).map .int := by simp
            rw [e2, s0]
            refine ⟨by omega, ?_⟩
            show Q _ _
            refine h _ _ _ ⟨by simpa using hx63, hm⟩ ?_ ?_
            · rw [Int.fmod_eq_emod_of_nonneg _ (by omega)]; exact Int.emod_nonneg _ (by omega)
            · rw [Int.fmod_eq_emod_of_nonneg _ (by omega)]; exact Int.emod_lt_of_pos _ (by omega)
      · refine hN _ _ ⟨ys, m, _, ⟨by simp at hx63; omega, hm⟩, rfl, rfl⟩ ?_
        simp [dlen, D]
  · exact last xs hx63

/-! ### what is handed back -/
mutual
theorem frz_old {n : Nat} {ph : PHp} : ∀ {x : PV}, Old n x → Frz n ph x x
  | _, .non => .non
  | _, .bl b => .bl b
  | _, .int b => .int b
  | _, .str b => .str b
  | _, .scr b => .scr b
  | _, .tup h => .tup (frzs_old h)
  | _, .lst h => .lst (frzs_old h)
  | _, .ref h => .old h
theorem frzs_old {n : Nat} {ph : PHp} : ∀ {x : List PV}, OldL n x → FrzL n ph x x
  | _, .nil => .nil
  | _, .cons h t => .cons (frz_old h) (frzs_old t)
end
theorem oldL_ints {n : Nat} : ∀ xs : List Int, OldL n (xs.map .int)
  | [] => .nil
  | x :: xs => .cons (.int x) (oldL_ints xs)
theorem oldL_all {n : Nat} : ∀ {xs : List PV}, (∀ x ∈ xs, Old n x) → OldL n xs
  | [], _ => .nil
  | x :: xs, h => .cons (h x (List.mem_cons_self ..)) (oldL_all fun y hy => h y (List.mem_cons_of_mem _ hy))
theorem ret_D {xs xs' : List Int} {m m' : Int} {ex zs : PHp} {Q : QV} {v v' : PV} (hf : Frz (D xs m ++ ex).length (D xs' m' ++ (ex ++ zs)) v v') (q : Q v' (D xs' m' ++ ex)) : retS true (D xs m ++ ex) Q v (D xs' m' ++ (ex ++ zs)) := by
  unfold retS
  rw [if_pos rfl]
  refine ⟨v', hf, fun i o hi ho => ?_, ?_⟩
  · match i, hi, ho with
    | 0, _, ho => cases ho; exact .inr (oldL_ints _)
    | 1, _, ho => cases ho; exact .inr (.cons (.ref (by simp [D])) (.cons (.int _) .nil))
    | i + 2, hi, ho =>
      refine .inl ?_
      have h1 : (ex ++ zs)[i]? = some o := ho
      have h2 : i < ex.length := by simp [D] at hi; omega
      rw [List.getElem?_append_left h2] at h1
      exact h1
  · have e : (D xs' m' ++ (ex ++ zs)).take (D xs m ++ ex).length = D xs' m' ++ ex := by
      rw [← List.append_assoc]
      exact List.take_left' (by simp [D])
    rw [e]; exact q
theorem pair_ok {k : Nat} {i j : Int} {ph : PHp} {Q : QV} (h : Q (.tup [.int (min i j), .int (max i j)]) ph) : callK pgm (k + 1) 10 [.int i, .int j] ph Q XF := by
  refine callK_def rfl ⟨rfl, ?_⟩
  show wpB _ _ _ _ _ [some (.int i), some (.int j)] _
  simp only [df_10, bindT, bindTs, wpB, wpS, wpE, wpEs, wpO, wpC, ex_some, ex_some1, ex_bl, ex_int, ex_tup, List.getElem?_cons_zero, List.getElem?_cons_succ, List.set_cons_zero, List.set_cons_succ, List.length_cons, List.length_nil, Atom.pv, add_i, sub_i, mul_i, mod_i, fdiv_i, pow_i, lt_i, le_i, gt_i, ge_i, eq_, ne_, in_e, nin_e, is_n, isnot_n, idx_tup, idx_lst, eqP_int, eqP_str, atI_0, atI_1, atI_2, ixN_0, ixN_1, ixN_2, decide_eq_true_eq, Bool.not_true, Bool.not_false, if_true, Bool.false_eq_true, if_false, setSl]
  have two : 0 + 1 + 1 ≤ sizeLine := by decide
  split
  · refine ⟨two, ?_⟩
    rw [Int.min_eq_left (by omega), Int.max_eq_right (by omega)] at h
    exact h
  · refine ⟨two, ?_⟩
    rw [Int.min_eq_right (by omega), Int.max_eq_left (by omega)] at h
    exact h
theorem atI_get {α : Type} {xs : List α} {r : Int} (h0 : 0 ≤ r) (h1 : r < xs.length) : ∃ v, atI xs r = some v ∧ v ∈ xs := by
  have hl : r.toNat < xs.length := by omega
  refine ⟨xs[r.toNat], ?_, List.getElem_mem hl⟩
  have := atI_nat (xs := xs) (j := r.toNat) (v := xs[r.toNat]) (List.getElem?_eq_getElem hl)
  rwa [show ((r.toNat : Nat) : Int) = r by omega] at this
theorem pickL_ok {k : Nat} {xs : List Int} {m : Int} {ex : PHp} {vs : List PV} {Q : QV} (hg : Gd xs m) (h1 : 1 ≤ vs.length) (h2 : vs.length ≤ 1000000) (h : ∀ v xs' m', Gd xs' m' → v ∈ vs → Q v (D xs' m' ++ ex)) : callK pgm (k + 2) 8 [.ref 1, .lst vs] (D xs m ++ ex) Q XF := by
  refine callK_def rfl ⟨rfl, ?_⟩
  show wpB _ _ _ _ _ [some (.ref 1), some (.lst vs)] _
  simp only [df_8, bindT, bindTs, wpB, wpS, wpE, wpEs, wpO, wpC, ex_some, ex_some1, ex_bl, ex_int, ex_tup, List.getElem?_cons_zero, List.getElem?_cons_succ, List.set_cons_zero, List.set_cons_succ, List.length_cons, List.length_nil, Atom.pv, add_i, sub_i, mul_i, mod_i, fdiv_i, pow_i, lt_i, le_i, gt_i, ge_i, eq_, ne_, in_e, nin_e, is_n, isnot_n, idx_tup, idx_lst, eqP_int, eqP_str, atI_0, atI_1, atI_2, ixN_0, ixN_1, ixN_2, decide_eq_true_eq, Bool.not_true, Bool.not_false, if_true, Bool.false_eq_true, if_false, setSl]
  show callK pgm (k + 1) 7 [.ref 1, .int vs.length] _ _ _
  refine next_ok hg (by omega) (by omega) fun r xs' m' hg' r0 r1 => ?_
  simp only [bindT, bindTs, wpB, wpS, wpE, wpEs, wpO, wpC, ex_some, ex_some1, ex_bl, ex_int, ex_tup, List.getElem?_cons_zero, List.getElem?_cons_succ, List.set_cons_zero, List.set_cons_succ, List.length_cons, List.length_nil, Atom.pv, add_i, sub_i, mul_i, mod_i, fdiv_i, pow_i, lt_i, le_i, gt_i, ge_i, eq_, ne_, in_e, nin_e, is_n, isnot_n, idx_tup, idx_lst, eqP_int, eqP_str, atI_0, atI_1, atI_2, ixN_0, ixN_1, ixN_2, decide_eq_true_eq, Bool.not_true, Bool.not_false, if_true, Bool.false_eq_true, if_false, setSl]
  obtain ⟨v, e, hv⟩ := atI_get r0 r1
  exact ⟨v, e, h v xs' m' hg' hv⟩
theorem pickR_ok {k : Nat} {xs : List Int} {m : Int} {ex : PHp} {n : Nat} {vs : List PV} {Q : QV} (hg : Gd xs m) (hn : ex[n]? = some (.lst vs)) (h1 : 1 ≤ vs.length) (h2 : vs.length ≤ 1000000) (h : ∀ v xs' m', Gd xs' m' → v ∈ vs → Q v (D xs' m' ++ ex)) : callK pgm (k + 2) 8 [.ref 1, .ref (n + 2)] (D xs m ++ ex) Q XF := by
  have at_ : ∀ xs m, (D xs m ++ ex)[n + 2]? = some (.lst vs) := fun xs m => hn
  refine callK_def rfl ⟨rfl, ?_⟩
  show wpB _ _ _ _ _ [some (.ref 1), some (.ref (n + 2))] _
  simp only [df_8, bindT, bindTs, wpB, wpS, wpE, wpEs, wpO, wpC, ex_some, ex_some1, ex_bl, ex_int, ex_tup, List.getElem?_cons_zero, List.getElem?_cons_succ, List.set_cons_zero, List.set_cons_succ, List.length_cons, List.length_nil, Atom.pv, add_i, sub_i, mul_i, mod_i, fdiv_i, pow_i, lt_i, le_i, gt_i, ge_i, eq_, ne_, in_e, nin_e, is_n, isnot_n, idx_tup, idx_lst, eqP_int, eqP_str, atI_0, atI_1, atI_2, ixN_0, ixN_1, ixN_2, decide_eq_true_eq, Bool.not_true, Bool.not_false, if_true, Bool.false_eq_true, if_false, setSl, biS, RL.bi_len]
  rw [at_]
  simp only
  refine next_ok hg (by omega) (by omega) fun r xs' m' hg' r0 r1 => ?_
  rw [idx_ref (at_ xs' m')]
  obtain ⟨v, e, hv⟩ := atI_get r0 r1
  exact ⟨v, e, h v xs' m' hg' hv⟩

/-! ### drawing -/
theorem d2 {xs : List Int} {m : Int} {ex zs : PHp} {a : PO} : (D xs m ++ (ex ++ a :: zs))[ex.length + 2]? = some a := by
  show (ex ++ a :: zs)[ex.length]? = some a
  rw [List.getElem?_append_right (Nat.le_refl _), Nat.sub_self]; rfl
theorem d3 {xs : List Int} {m : Int} {ex zs : PHp} {a b : PO} : (D xs m ++ (ex ++ a :: b :: zs))[ex.length + 3]? = some b := by
  show (ex ++ a :: b :: zs)[ex.length + 1]? = some b
  rw [List.getElem?_append_right (Nat.le_succ _), show ex.length + 1 - ex.length = 1 by omega]; rfl
theorem s2 {xs : List Int} {m : Int} {ex zs : PHp} {a a' : PO} : setO (D xs m ++ (ex ++ a :: zs)) (ex.length + 2) a' = D xs m ++ (ex ++ a' :: zs) := by
  show (PO.lst (xs.map .int) :: PO.lst [.ref 0, .int m] :: (ex ++ a :: zs)).set (ex.length + 2) a' = _
  rw [List.set_cons_succ, List.set_cons_succ, List.set_append_right _ _ (Nat.le_refl _), Nat.sub_self]; rfl
theorem s3 {xs : List Int} {m : Int} {ex zs : PHp} {a b b' : PO} : setO (D xs m ++ (ex ++ a :: b :: zs)) (ex.length + 3) b' = D xs m ++ (ex ++ a :: b' :: zs) := by
  show (PO.lst (xs.map .int) :: PO.lst [.ref 0, .int m] :: (ex ++ a :: b :: zs)).set (ex.length + 3) b' = _
  rw [List.set_cons_succ, List.set_cons_succ, List.set_append_right _ _ (Nat.le_succ _), show ex.length + 1 - ex.length = 1 by omega]; rfl
theorem dlen2 {xs : List Int} {m : Int} {ex : PHp} : (D xs m ++ ex).length = ex.length + 2 := by simp [D]
theorem sz : (1000000 : Nat) ≤ sizeLine := by decide
theorem toNat_lt {r : Int} {n : Nat} (h0 : 0 ≤ r) (h1 : r < n) : r.toNat < n := by omega
theorem mixed_ok {k : Nat} {xs : List Int} {m : Int} {ex : PHp} {vs : List Int} {Q : QV} (hg : Gd xs m) (h2 : vs.length ≤ 1000) (h : ∀ (ws : List Int) xs' m', Gd xs' m' → ws.length = vs.length → (∀ w ∈ ws, w ∈ vs) → Q (.lst (ws.map .int)) (D xs' m' ++ ex)) : callK pgm (k + 2) 9 [.ref 1, .lst (vs.map .int)] (D xs m ++ ex) Q XF := by
  refine callK_def rfl ⟨rfl, ?_⟩
  show wpB _ _ _ _ _ [some (.ref 1), some (.lst (vs.map .int)), none, none] _
  simp only [df_9, wpB, wpS, wpEs, wpE, bindT, bindTs, wpB, wpS, wpE, wpEs, wpO, wpC, ex_some, ex_some1, ex_bl, ex_int, ex_tup, List.getElem?_cons_zero, List.getElem?_cons_succ, List.set_cons_zero, List.set_cons_succ, List.length_cons, List.length_nil, Atom.pv, add_i, sub_i, mul_i, mod_i, fdiv_i, pow_i, lt_i, le_i, gt_i, ge_i, eq_, ne_, in_e, nin_e, is_n, isnot_n, idx_tup, idx_lst, eqP_int, eqP_str, atI_0, atI_1, atI_2, ixN_0, ixN_1, ixN_2, decide_eq_true_eq, Bool.not_true, Bool.not_false, if_true, Bool.false_eq_true, if_false, setSl, biS, RL.bi_list, seqOf, lstOf, newL]
  have := sz
  refine ⟨by rw [List.length_map]; omega, by decide, ?_⟩
  rw [List.append_assoc, List.append_assoc]
  refine whl_rule (fun env ph => ∃ (l f xs : List Int) (m : Int), Gd xs m ∧ env = [some (.ref 1), some (.lst (vs.map .int)), some (.ref (ex.length + 2)), some (.ref (ex.length + 3))] ∧ ph = D xs m ++ (ex ++ [.lst (l.map .int), .lst (f.map .int)]) ∧ l.length + f.length = vs.length ∧ (∀ w ∈ l, w ∈ vs) ∧ ∀ w ∈ f, w ∈ vs)
    (fun _ ph => match ph[ex.length + 2]? with | some (.lst l) => l.length | _ => 0) ?_ ?_
  · rintro env ph ⟨l, f, xs1, m1, hg1, rfl, rfl, hl, hv, hf⟩ N hN
    simp only [bindT, bindTs, wpB, wpS, wpE, wpEs, wpO, wpC, ex_some, ex_some1, ex_bl, ex_int, ex_tup, List.getElem?_cons_zero, List.getElem?_cons_succ, List.set_cons_zero, List.set_cons_succ, List.length_cons, List.length_nil, Atom.pv, add_i, sub_i, mul_i, mod_i, fdiv_i, pow_i, lt_i, le_i, gt_i, ge_i, eq_, ne_, in_e, nin_e, is_n, isnot_n, idx_tup, idx_lst, eqP_int, eqP_str, atI_0, atI_1, atI_2, ixN_0, ixN_1, ixN_2, decide_eq_true_eq, Bool.not_true, Bool.not_false, if_true, Bool.false_eq_true, if_false, setSl]
    refine ⟨by decide, ?_⟩
    refine eqP_of (.ref d2 (dat_ints _ l)) (.lst .nil) (shaped_ints l) rfl ?_
    rw [eqv_nil]
    by_cases hx : l = []
    · subst hx
      rw [decide_eq_true rfl]
      simp only [bindT, bindTs, wpB, wpS, wpE, wpEs, wpO, wpC, ex_some, ex_some1, ex_bl, ex_int, ex_tup, List.getElem?_cons_zero, List.getElem?_cons_succ, List.set_cons_zero, List.set_cons_succ, List.length_cons, List.length_nil, Atom.pv, add_i, sub_i, mul_i, mod_i, fdiv_i, pow_i, lt_i, le_i, gt_i, ge_i, eq_, ne_, in_e, nin_e, is_n, isnot_n, idx_tup, idx_lst, eqP_int, eqP_str, atI_0, atI_1, atI_2, ixN_0, ixN_1, ixN_2, decide_eq_true_eq, Bool.not_true, Bool.not_false, if_true, Bool.false_eq_true, if_false, setSl]
      refine ret_D (v' := .lst (f.map .int)) ?_ ?_
      · rw [dlen2]
        exact .ref (by omega) d3 (frzs_old (oldL_ints f))
      · exact h f xs1 m1 hg1 (by simpa using hl) hf
    · rw [decide_eq_false hx]
      simp only [bindT, bindTs, wpB, wpS, wpE, wpEs, wpO, wpC, ex_some, ex_some1, ex_bl, ex_int, ex_tup, List.getElem?_cons_zero, List.getElem?_cons_succ, List.set_cons_zero, List.set_cons_succ, List.length_cons, List.length_nil, Atom.pv, add_i, sub_i, mul_i, mod_i, fdiv_i, pow_i, lt_i, le_i, gt_i, ge_i, eq_, ne_, in_e, nin_e, is_n, isnot_n, idx_tup, idx_lst, eqP_int, eqP_str, atI_0, atI_1, atI_2, ixN_0, ixN_1, ixN_2, decide_eq_true_eq, Bool.not_true, Bool.not_false, if_true, Bool.false_eq_true, if_false, setSl]
      refine ⟨by simp only [d3]; rfl, by simp only [d2]; rfl, ?_⟩
      simp only [biS, RL.bi_len, d2]
      rw [List.length_map]
      have hpos : 0 < l.length := List.length_pos_iff.mpr hx
      refine next_ok hg1 (by omega) (by omega) fun r xs2 m2 hg2 r0 r1 => ?_
      have hr := toNat_lt r0 r1
      refine ⟨l.map .int, .int l[r.toNat], d2, r0, by omega, by rw [List.getElem?_map, List.getElem?_eq_getElem hr]; rfl, ?_⟩
      rw [s2]
      refine ⟨f.map .int, d3, by rw [List.length_map]; omega, ?_⟩
      rw [s3]
      refine hN _ _ ⟨l.eraseIdx r.toNat, f ++ [l[r.toNat]], xs2, m2, hg2, rfl, ?_, ?_, fun w hw => hv w (List.mem_of_mem_eraseIdx hw), fun w hw => ?_⟩ ?_
      · congr 3
        · simp [List.eraseIdx_eq_take_drop_succ, List.map_take, List.map_drop]
        · simp
      · rw [List.length_eraseIdx_of_lt hr, List.length_append]; simp; omega
      · rcases List.mem_append.mp hw with hw | hw
        · exact hf w hw
        · rw [List.mem_singleton.mp hw]; exact hv _ (List.getElem_mem hr)
      · simp only [d2]
        rw [List.length_eraseIdx_of_lt (by rw [List.length_map]; exact hr), List.length_map]; omega
  · refine ⟨vs, [], xs, m, hg, ?_, ?_, by simp, fun _ h => h, by simp⟩
    · rw [dlen2, show (D xs m ++ (ex ++ [PO.lst (vs.map .int)])).length = ex.length + 3 by simp [D]]
    · simp

theorem mixG_ok {α : Type} (f : α → PV) (fd : α → PyData) (hd : ∀ ph a, Dat ph (f a) (fd a)) (hsh : ∀ xs : List α, SeqAt.shaped (.list (xs.map fd)) = true) (ho : ∀ n a, Old n (f a)) {k : Nat} {xs : List Int} {m : Int} {ex : PHp} {vs : List α} {v : PV} {Q : QV} (hg : Gd xs m) (hsv : seqOf (D xs m ++ ex) v = some (vs.map f)) (h2 : vs.length ≤ 100000)
    (h : ∀ (ws : List α) xs' m', Gd xs' m' → ws.Perm vs → Q (.lst (ws.map f)) (D xs' m' ++ ex)) : callK pgm (k + 2) 9 [.ref 1, v] (D xs m ++ ex) Q XF := by
  have hda : ∀ ph (l : List α), DatAll ph (l.map f) (l.map fd) := fun ph l => by
    induction l with
    | nil => exact .nil
    | cons x l ih => exact .cons (hd ph x) ih
  have hol : ∀ n (l : List α), OldL n (l.map f) := fun n l => by
    induction l with
    | nil => exact .nil
    | cons x l ih => exact .cons (ho n x) ih
  have hen : ∀ l : List α, PyData.eqv (.list (l.map fd)) (.list []) = decide (l = []) := fun l => by
    cases l <;> simp [PyData.eqv, PyData.eqvAll]
  refine callK_def rfl ⟨rfl, ?_⟩
  show wpB _ _ _ _ _ [some (.ref 1), some v, none, none] _
  simp only [df_9, wpB, wpS, wpEs, wpE, bindT, bindTs, wpB, wpS, wpE, wpEs, wpO, wpC, ex_some, ex_some1, ex_bl, ex_int, ex_tup, List.getElem?_cons_zero, List.getElem?_cons_succ, List.set_cons_zero, List.set_cons_succ, List.length_cons, List.length_nil, Atom.pv, add_i, sub_i, mul_i, mod_i, fdiv_i, pow_i, lt_i, le_i, gt_i, ge_i, eq_, ne_, in_e, nin_e, is_n, isnot_n, idx_tup, idx_lst, eqP_int, eqP_str, atI_0, atI_1, atI_2, ixN_0, ixN_1, ixN_2, decide_eq_true_eq, Bool.not_true, Bool.not_false, if_true, Bool.false_eq_true, if_false, setSl, biS, RL.bi_list, newL]
  have := sz
  refine ⟨_, hsv, by rw [List.length_map]; omega, by decide, ?_⟩
  rw [List.append_assoc, List.append_assoc]
  refine whl_rule (fun env ph => ∃ (l f' : List α) (xs : List Int) (m : Int), Gd xs m ∧ env = [some (.ref 1), some v, some (.ref (ex.length + 2)), some (.ref (ex.length + 3))] ∧ ph = D xs m ++ (ex ++ [.lst (l.map f), .lst (f'.map f)]) ∧ (f' ++ l).Perm vs)
    (fun _ ph => match ph[ex.length + 2]? with | some (.lst l) => l.length | _ => 0) ?_ ?_
  · rintro env ph ⟨l, f', xs1, m1, hg1, rfl, rfl, hp⟩ N hN
    have hl := hp.length_eq
    rw [List.length_append] at hl
    simp only [bindT, bindTs, wpB, wpS, wpE, wpEs, wpO, wpC, ex_some, ex_some1, ex_bl, ex_int, ex_tup, List.getElem?_cons_zero, List.getElem?_cons_succ, List.set_cons_zero, List.set_cons_succ, List.length_cons, List.length_nil, Atom.pv, add_i, sub_i, mul_i, mod_i, fdiv_i, pow_i, lt_i, le_i, gt_i, ge_i, eq_, ne_, in_e, nin_e, is_n, isnot_n, idx_tup, idx_lst, eqP_int, eqP_str, atI_0, atI_1, atI_2, ixN_0, ixN_1, ixN_2, decide_eq_true_eq, Bool.not_true, Bool.not_false, if_true, Bool.false_eq_true, if_false, setSl]
    refine ⟨by decide, ?_⟩
    refine eqP_of (.ref d2 (hda _ l)) (.lst .nil) (hsh l) rfl ?_
    rw [hen]
    by_cases hx : l = []
    · subst hx
      rw [decide_eq_true rfl]
      simp only [bindT, bindTs, wpB, wpS, wpE, wpEs, wpO, wpC, ex_some, ex_some1, ex_bl, ex_int, ex_tup, List.getElem?_cons_zero, List.getElem?_cons_succ, List.set_cons_zero, List.set_cons_succ, List.length_cons, List.length_nil, Atom.pv, add_i, sub_i, mul_i, mod_i, fdiv_i, pow_i, lt_i, le_i, gt_i, ge_i, eq_, ne_, in_e, nin_e, is_n, isnot_n, idx_tup, idx_lst, eqP_int, eqP_str, atI_0, atI_1, atI_2, ixN_0, ixN_1, ixN_2, decide_eq_true_eq, Bool.not_true, Bool.not_false, if_true, Bool.false_eq_true, if_false, setSl]
      refine ret_D (v' := .lst (f'.map f)) ?_ ?_
      · rw [dlen2]
        exact .ref (by omega) d3 (frzs_old (hol _ f'))
      · exact h f' xs1 m1 hg1 (by simpa using hp)
    · rw [decide_eq_false hx]
      simp only [bindT, bindTs, wpB, wpS, wpE, wpEs, wpO, wpC, ex_some, ex_some1, ex_bl, ex_int, ex_tup, List.getElem?_cons_zero, List.getElem?_cons_succ, List.set_cons_zero, List.set_cons_succ, List.length_cons, List.length_nil, Atom.pv, add_i, sub_i, mul_i, mod_i, fdiv_i, pow_i, lt_i, le_i, gt_i, ge_i, eq_, ne_, in_e, nin_e, is_n, isnot_n, idx_tup, idx_lst, eqP_int, eqP_str, atI_0, atI_1, atI_2, ixN_0, ixN_1, ixN_2, decide_eq_true_eq, Bool.not_true, Bool.not_false, if_true, Bool.false_eq_true, if_false, setSl]
      refine ⟨by simp only [lstOf, d3]; rfl, by simp only [lstOf, d2]; rfl, ?_⟩
      simp only [biS, RL.bi_len, d2]
      rw [List.length_map]
      have hpos : 0 < l.length := List.length_pos_iff.mpr hx
      refine next_ok hg1 (by omega) (by omega) fun r xs2 m2 hg2 r0 r1 => ?_
      have hr := toNat_lt r0 r1
      refine ⟨l.map f, f l[r.toNat], d2, r0, by omega, by rw [List.getElem?_map, List.getElem?_eq_getElem hr]; rfl, ?_⟩
      rw [s2]
      refine ⟨f'.map f, d3, by rw [List.length_map]; omega, ?_⟩
      rw [s3]
      refine hN _ _ ⟨l.eraseIdx r.toNat, f' ++ [l[r.toNat]], xs2, m2, hg2, rfl, ?_, ?_⟩ ?_
      · congr 3
        · simp [List.eraseIdx_eq_take_drop_succ, List.map_take, List.map_drop]
        · simp
      · rw [List.append_assoc]
        have e : l = l.take r.toNat ++ l[r.toNat] :: l.drop (r.toNat + 1) := by rw [← List.drop_eq_getElem_cons hr, List.take_append_drop]
        refine (List.Perm.append_left f' ?_).trans hp
        rw [List.eraseIdx_eq_take_drop_succ]
        exact (List.perm_middle (a := l[r.toNat]) (l₁ := l.take r.toNat) (l₂ := l.drop (r.toNat + 1))).symm.trans (by rw [← e])
      · simp only [d2]
        rw [List.length_eraseIdx_of_lt (by rw [List.length_map]; exact hr), List.length_map]; omega
  · refine ⟨vs, [], xs, m, hg, ?_, ?_, by simp⟩
    · rw [dlen2, show (D xs m ++ (ex ++ [PO.lst (vs.map f)])).length = ex.length + 3 by simp [D]]
    · simp

/-! ### towns -/
def rowPV (r : List Int) : PV := .tup (r.map .int)
def Row (h : Int) (r : List Int) : Prop := ∃ a b, r = [a, b] ∧ 0 ≤ a ∧ a < h ∧ 0 ≤ b ∧ b < h
theorem intsOf_map : ∀ xs : List Int, intsOf (xs.map .int) = some xs
  | [] => rfl
  | x :: xs => by simp [intsOf, intsOf_map xs]
theorem rowsOf_map : ∀ rs : List (List Int), rowsOf (rs.map rowPV) = some rs
  | [] => rfl
  | r :: rs => by
    show (match intsOf (r.map .int), rowsOf (rs.map rowPV) with
      | some ns, some ls => some (ns :: ls)
      | _, _ => none) = _
    rw [intsOf_map, rowsOf_map rs]
theorem rng1_get {a b : Int} {i : Nat} {v : PV} (h : (rngL a b 1)[i]? = some v) : v = .int (a + i) ∧ a + i < b := by
  obtain ⟨e, hi⟩ := rng_get h
  rw [Int.mul_one] at e
  refine ⟨e, ?_⟩
  rw [rangeSize_one] at hi
  split at hi <;> omega
theorem rng1_len {a b : Int} (h : a ≤ b) : ((rngL a b 1).length : Int) = b - a := by
  simp only [rngL, List.length_map, List.length_range]
  rw [rangeSize_one]; split <;> omega
theorem rng1_ints (b : Int) : rngL 0 b 1 = ((List.range b.toNat).map fun (i : Nat) => (i : Int)).map .int := by
  simp only [rngL, rangeSize_one, List.map_map]
  have : (if (0 : Int) < b then b - 0 else 0).toNat = b.toNat := by split <;> omega
  rw [this]
  refine List.map_congr_left fun i _ => ?_
  simp
theorem atI_int {xs : List Int} {r : Int} (h0 : 0 ≤ r) (h1 : r < xs.length) : ∃ v, atI (xs.map PV.int) r = some (.int v) ∧ v ∈ xs := by
  obtain ⟨v, e, hv⟩ := atI_get (xs := xs.map PV.int) h0 (by simpa using h1)
  obtain ⟨w, hw, rfl⟩ := List.mem_map.mp hv
  exact ⟨w, e, hw⟩
theorem town_ok {k : Nat} {xs : List Int} {m most more : Int} {ex : PHp} {Q : QV} (hg : Gd xs m) (h1 : 1 ≤ most) (h2 : most ≤ 100) (h3 : 0 ≤ more) (h4 : more ≤ 100)
    (h : ∀ (n : Int) (rs : List (List Int)) xs' m', Gd xs' m' → 1 ≤ n → n ≤ most → rs.length ≤ 300 → (∀ r ∈ rs, Row n r) → Q (.tup [.int n, .tup (rs.map rowPV)]) (D xs' m' ++ ex)) : callK pgm (k + 5) 11 [.ref 1, .int most, .int more] (D xs m ++ ex) Q XF := by
  refine callK_def rfl ⟨rfl, ?_⟩
  show wpB _ _ _ _ _ [some (.ref 1), some (.int most), some (.int more), none, none, none, none, none, none, none] _
  simp only [df_11, wpB, wpS, wpE, wpEs, bindT, bindTs, wpB, wpS, wpE, wpEs, wpO, wpC, ex_some, ex_some1, ex_bl, ex_int, ex_tup, List.getElem?_cons_zero, List.getElem?_cons_succ, List.set_cons_zero, List.set_cons_succ, List.length_cons, List.length_nil, Atom.pv, add_i, sub_i, mul_i, mod_i, fdiv_i, pow_i, lt_i, le_i, gt_i, ge_i, eq_, ne_, in_e, nin_e, is_n, isnot_n, idx_tup, idx_lst, eqP_int, eqP_str, atI_0, atI_1, atI_2, ixN_0, ixN_1, ixN_2, decide_eq_true_eq, Bool.not_true, Bool.not_false, if_true, Bool.false_eq_true, if_false, setSl]
  refine next_ok hg h1 (by omega) fun r xs1 m1 hg1 r0 r1 => ?_
  simp only [bindT, bindTs, wpB, wpS, wpE, wpEs, wpO, wpC, ex_some, ex_some1, ex_bl, ex_int, ex_tup, List.getElem?_cons_zero, List.getElem?_cons_succ, List.set_cons_zero, List.set_cons_succ, List.length_cons, List.length_nil, Atom.pv, add_i, sub_i, mul_i, mod_i, fdiv_i, pow_i, lt_i, le_i, gt_i, ge_i, eq_, ne_, in_e, nin_e, is_n, isnot_n, idx_tup, idx_lst, eqP_int, eqP_str, atI_0, atI_1, atI_2, ixN_0, ixN_1, ixN_2, decide_eq_true_eq, Bool.not_true, Bool.not_false, if_true, Bool.false_eq_true, if_false, setSl]
  refine ⟨by decide, ?_⟩
  generalize hn : 1 + r = n
  have hn1 : 1 ≤ n := by omega
  have hn2 : n ≤ most := by omega
  have hlen := rng1_len (a := 0) (b := n) (by omega)
  have hsz := sz
  refine ⟨_, rng12_1 (rOk_small (by omega) (by omega) (by omega) (by omega)), by omega, newL_f (by omega) ?_⟩
  rw [rng1_ints]
  refine mixed_ok hg1 (by simp; omega) fun ns xs2 m2 hg2 hl hns => ?_
  have hnl : (ns.length : Int) = n := by rw [hl]; simp; omega
  have hnb : ∀ w ∈ ns, 0 ≤ w ∧ w < n := fun w hw => by
    have := hns w hw
    simp at this
    obtain ⟨i, hi, rfl⟩ := this
    omega
  refine ⟨by decide, rngL 1 n 1, it_r2 (rOk_small (by omega) (by omega) (by omega) (by omega)), ?_⟩
  have hlen1 := rng1_len (a := 1) (b := n) (by omega)
  refine compL_rule (fun i acc ph => ∃ xs m rs, Gd xs m ∧ ph = D xs m ++ ex ∧ acc = rs.map rowPV ∧ rs.length = i ∧ ∀ r ∈ rs, Row n r) ?_ ?_ ⟨xs2, m2, [], hg2, rfl, rfl, rfl, by simp⟩
  · rintro i v acc ph hv ⟨xs3, m3, rs, hg3, rfl, rfl, hi, hr⟩
    obtain ⟨rfl, hlt⟩ := rng1_get hv
    refine ⟨it_r2 (rOk_small (by omega) (by omega) (by omega) (by omega)), fun N hN => ⟨by simp [wipeE], ?_⟩⟩
    simp only [wipeE, bindT, bindTs, wpB, wpS, wpE, wpEs, wpO, wpC, ex_some, ex_some1, ex_bl, ex_int, ex_tup, List.getElem?_cons_zero, List.getElem?_cons_succ, List.set_cons_zero, List.set_cons_succ, List.length_cons, List.length_nil, Atom.pv, add_i, sub_i, mul_i, mod_i, fdiv_i, pow_i, lt_i, le_i, gt_i, ge_i, eq_, ne_, in_e, nin_e, is_n, isnot_n, idx_tup, idx_lst, eqP_int, eqP_str, atI_0, atI_1, atI_2, ixN_0, ixN_1, ixN_2, decide_eq_true_eq, Bool.not_true, Bool.not_false, if_true, Bool.false_eq_true, if_false, setSl]
    obtain ⟨a, ea, ha⟩ := atI_int (xs := ns) (r := 1 + i) (by omega) (by omega)
    rw [ea]
    simp only [bindT, bindTs, wpB, wpS, wpE, wpEs, wpO, wpC, ex_some, ex_some1, ex_bl, ex_int, ex_tup, List.getElem?_cons_zero, List.getElem?_cons_succ, List.set_cons_zero, List.set_cons_succ, List.length_cons, List.length_nil, Atom.pv, add_i, sub_i, mul_i, mod_i, fdiv_i, pow_i, lt_i, le_i, gt_i, ge_i, eq_, ne_, in_e, nin_e, is_n, isnot_n, idx_tup, idx_lst, eqP_int, eqP_str, atI_0, atI_1, atI_2, ixN_0, ixN_1, ixN_2, decide_eq_true_eq, Bool.not_true, Bool.not_false, if_true, Bool.false_eq_true, if_false, setSl]
    refine next_ok hg3 (by omega) (by omega) fun s xs4 m4 hg4 s0 s1 => ?_
    obtain ⟨b, eb, hb⟩ := atI_int (xs := ns) (r := s) (by omega) (by omega)
    simp only [bindT, bindTs, wpB, wpS, wpE, wpEs, wpO, wpC, ex_some, ex_some1, ex_bl, ex_int, ex_tup, List.getElem?_cons_zero, List.getElem?_cons_succ, List.set_cons_zero, List.set_cons_succ, List.length_cons, List.length_nil, Atom.pv, add_i, sub_i, mul_i, mod_i, fdiv_i, pow_i, lt_i, le_i, gt_i, ge_i, eq_, ne_, in_e, nin_e, is_n, isnot_n, idx_tup, idx_lst, eqP_int, eqP_str, atI_0, atI_1, atI_2, ixN_0, ixN_1, ixN_2, decide_eq_true_eq, Bool.not_true, Bool.not_false, if_true, Bool.false_eq_true, if_false, setSl]
    rw [eb]
    simp only [bindT, bindTs, wpB, wpS, wpE, wpEs, wpO, wpC, ex_some, ex_some1, ex_bl, ex_int, ex_tup, List.getElem?_cons_zero, List.getElem?_cons_succ, List.set_cons_zero, List.set_cons_succ, List.length_cons, List.length_nil, Atom.pv, add_i, sub_i, mul_i, mod_i, fdiv_i, pow_i, lt_i, le_i, gt_i, ge_i, eq_, ne_, in_e, nin_e, is_n, isnot_n, idx_tup, idx_lst, eqP_int, eqP_str, atI_0, atI_1, atI_2, ixN_0, ixN_1, ixN_2, decide_eq_true_eq, Bool.not_true, Bool.not_false, if_true, Bool.false_eq_true, if_false, setSl]
    refine pair_ok ?_
    have h5 := hnb a ha
    have h6 := hnb b hb
    refine ⟨by rw [List.length_map]; omega, hN _ _ ⟨xs4, m4, rs ++ [[min a b, max a b]], hg4, rfl, by simp [rowPV], by simp [hi], fun r hr' => ?_⟩⟩
    rcases List.mem_append.mp hr' with hr' | hr'
    · exact hr r hr'
    · rw [List.mem_singleton.mp hr']
      exact ⟨_, _, rfl, by omega, by omega, by omega, by omega⟩
  · rintro acc ph ⟨xs3, m3, rs, hg3, rfl, rfl, hi, hr⟩
    refine ⟨it_r2 (rOk_small (by omega) (by omega) (by omega) (by omega)), newL_t (by rw [List.length_map]; omega) ⟨by decide, ?_⟩⟩
    rw [dlen2, List.append_assoc]
    refine next_ok hg3 (by omega) (by omega) fun t xs4 m4 hg4 t0 t1 => ?_
    refine ⟨rngL 0 t 1, it_r1 (rOk_small (by omega) (by omega) (by omega) (by omega)), ?_⟩
    have hlen2 := rng1_len (a := 0) (b := t) (by omega)
    refine forL_rule (fun i env ph => ∃ xs m rs a b c d, Gd xs m ∧ env = [some (.ref 1), some (.int most), some (.int more), some (.int n), some (.lst (ns.map .int)), some (.ref (ex.length + 2)), a, b, c, d] ∧ ph = D xs m ++ (ex ++ [.lst (rs.map rowPV)]) ∧ (rs.length ≤ 150 + i ∧ n - 1 ≤ rs.length) ∧ ∀ r ∈ rs, Row n r) ?_ ?_ ⟨xs4, m4, rs, none, none, none, none, hg4, rfl, rfl, by omega, hr⟩
    · rintro i v env ph hv ⟨xs5, m5, rs, a, b, c, d, hg5, rfl, rfl, hi5, hr5⟩
      obtain ⟨rfl, hlt⟩ := rng1_get hv
      refine ⟨it_r1 (rOk_small (by omega) (by omega) (by omega) (by omega)), fun N hN => ⟨by simp, ?_⟩⟩
      simp only [bindT, bindTs, wpB, wpS, wpE, wpEs, wpO, wpC, ex_some, ex_some1, ex_bl, ex_int, ex_tup, List.getElem?_cons_zero, List.getElem?_cons_succ, List.set_cons_zero, List.set_cons_succ, List.length_cons, List.length_nil, Atom.pv, add_i, sub_i, mul_i, mod_i, fdiv_i, pow_i, lt_i, le_i, gt_i, ge_i, eq_, ne_, in_e, nin_e, is_n, isnot_n, idx_tup, idx_lst, eqP_int, eqP_str, atI_0, atI_1, atI_2, ixN_0, ixN_1, ixN_2, decide_eq_true_eq, Bool.not_true, Bool.not_false, if_true, Bool.false_eq_true, if_false, setSl]
      refine next_ok hg5 (by omega) (by omega) fun p xs6 m6 hg6 p0 p1 => ?_
      refine next_ok hg6 (by omega) (by omega) fun q xs7 m7 hg7 q0 q1 => ?_
      simp only [bindT, bindTs, wpB, wpS, wpE, wpEs, wpO, wpC, ex_some, ex_some1, ex_bl, ex_int, ex_tup, List.getElem?_cons_zero, List.getElem?_cons_succ, List.set_cons_zero, List.set_cons_succ, List.length_cons, List.length_nil, Atom.pv, add_i, sub_i, mul_i, mod_i, fdiv_i, pow_i, lt_i, le_i, gt_i, ge_i, eq_, ne_, in_e, nin_e, is_n, isnot_n, idx_tup, idx_lst, eqP_int, eqP_str, atI_0, atI_1, atI_2, ixN_0, ixN_1, ixN_2, decide_eq_true_eq, Bool.not_true, Bool.not_false, if_true, Bool.false_eq_true, if_false, setSl]
      have hd2 : ∀ xs m, (D xs m ++ (ex ++ [PO.lst (rs.map rowPV)]))[ex.length + 2]? = some (.lst (rs.map rowPV)) := fun _ _ => d2
      have hadd : ∀ (r : List Int) xs m, Gd xs m → Row n r → mtS .append (.ref (ex.length + 2)) [rowPV r] (D xs m ++ (ex ++ [PO.lst (rs.map rowPV)])) fun x ph1 => N [some (.ref 1), some (.int most), some (.int more), some (.int n), some (.lst (ns.map .int)), some (.ref (ex.length + 2)), some (.int (0 + i)), b, some (.int p), some (.int q)] ph1 := fun r xs m hg hrow => by
        refine ⟨rs.map rowPV, hd2 xs m, by rw [List.length_map]; omega, hN _ _ ⟨xs, m, rs ++ [r], _, _, _, _, hg, rfl, ?_, by simp only [List.length_append, List.length_cons, List.length_nil]; omega, fun r' hr' => ?_⟩⟩
        · rw [s2, List.map_append]; rfl
        · rcases List.mem_append.mp hr' with h | h
          · exact hr5 r' h
          · rw [List.mem_singleton.mp h]; exact hrow
      have hskip : N [some (.ref 1), some (.int most), some (.int more), some (.int n), some (.lst (ns.map .int)), some (.ref (ex.length + 2)), some (.int (0 + i)), b, some (.int p), some (.int q)] (D xs7 m7 ++ (ex ++ [PO.lst (rs.map rowPV)])) := hN _ _ ⟨xs7, m7, rs, _, _, _, _, hg7, rfl, rfl, by omega, hr5⟩
      split
      · simp only [biS, RL.bi_len, hd2, lt_i]
        simp only [bindT, bindTs, wpB, wpS, wpE, wpEs, wpO, wpC, ex_some, ex_some1, ex_bl, ex_int, ex_tup, List.getElem?_cons_zero, List.getElem?_cons_succ, List.set_cons_zero, List.set_cons_succ, List.length_cons, List.length_nil, Atom.pv, add_i, sub_i, mul_i, mod_i, fdiv_i, pow_i, lt_i, le_i, gt_i, ge_i, eq_, ne_, in_e, nin_e, is_n, isnot_n, idx_tup, idx_lst, eqP_int, eqP_str, atI_0, atI_1, atI_2, ixN_0, ixN_1, ixN_2, decide_eq_true_eq, Bool.not_true, Bool.not_false, if_true, Bool.false_eq_true, if_false, setSl]
        split
        · refine ⟨by simp only [lstOf, hd2]; rfl, ?_⟩
          refine next_ok hg7 (by omega) (by omega) fun u xs8 m8 hg8 u0 u1 => ?_
          simp only [bindT, bindTs, wpB, wpS, wpE, wpEs, wpO, wpC, ex_some, ex_some1, ex_bl, ex_int, ex_tup, List.getElem?_cons_zero, List.getElem?_cons_succ, List.set_cons_zero, List.set_cons_succ, List.length_cons, List.length_nil, Atom.pv, add_i, sub_i, mul_i, mod_i, fdiv_i, pow_i, lt_i, le_i, gt_i, ge_i, eq_, ne_, in_e, nin_e, is_n, isnot_n, idx_tup, idx_lst, eqP_int, eqP_str, atI_0, atI_1, atI_2, ixN_0, ixN_1, ixN_2, decide_eq_true_eq, Bool.not_true, Bool.not_false, if_true, Bool.false_eq_true, if_false, setSl]
          split
          · by_cases hz : rs = []
            · subst hz
              have : p ≠ q := by simpa using ‹(!decide (p = q)) = true›
              simp at hi5
              omega
            · have hpos : 0 < rs.length := List.length_pos_iff.mpr hz
              refine pickR_ok (n := ex.length) hg8 (by rw [List.getElem?_append_right (Nat.le_refl _), Nat.sub_self]; rfl) (by rw [List.length_map]; omega) (by rw [List.length_map]; omega) fun v xs9 m9 hg9 hv => ?_
              obtain ⟨r, hr, rfl⟩ := List.mem_map.mp hv
              exact hadd r _ _ hg9 (hr5 r hr)
          · exact pair_ok (hadd [min p q, max p q] _ _ hg8 ⟨_, _, rfl, by omega, by omega, by omega, by omega⟩)
        · exact hskip
      · exact hskip
    · rintro env ph ⟨xs5, m5, rs, a, b, c, d, hg5, rfl, rfl, hi5, hr5⟩
      refine ⟨it_r1 (rOk_small (by omega) (by omega) (by omega) (by omega)), ?_⟩
      simp only [bindT, bindTs, wpB, wpS, wpE, wpEs, wpO, wpC, ex_some, ex_some1, ex_bl, ex_int, ex_tup, List.getElem?_cons_zero, List.getElem?_cons_succ, List.set_cons_zero, List.set_cons_succ, List.length_cons, List.length_nil, Atom.pv, add_i, sub_i, mul_i, mod_i, fdiv_i, pow_i, lt_i, le_i, gt_i, ge_i, eq_, ne_, in_e, nin_e, is_n, isnot_n, idx_tup, idx_lst, eqP_int, eqP_str, atI_0, atI_1, atI_2, ixN_0, ixN_1, ixN_2, decide_eq_true_eq, Bool.not_true, Bool.not_false, if_true, Bool.false_eq_true, if_false, setSl]
      have hd2 : ∀ xs m, (D xs m ++ (ex ++ [PO.lst (rs.map rowPV)]))[ex.length + 2]? = some (.lst (rs.map rowPV)) := fun _ _ => d2
      refine ⟨rs.map rowPV, by simp only [lstOf, hd2], .inr ⟨rs, rowsOf_map rs, fun r hr => ?_, newL_f (by rw [List.length_map, List.length_mergeSort]; omega) ?_⟩⟩
      · obtain ⟨_, _, rfl, _⟩ := hr5 r hr
        simp
      · refine ⟨_, rfl, by decide, ?_⟩
        generalize hrs : rs.mergeSort (fun a b => !decide (b < a)) = ss
        have hl : ss.length = rs.length := by rw [← hrs, List.length_mergeSort]
        have hm : ∀ r ∈ ss, Row n r := fun r hr => by
          rw [← hrs, List.mem_mergeSort] at hr
          exact hr5 r hr
        refine ret_D (frz_old (.tup (.cons (.int n) (.cons (.tup (oldL_all fun x hx => ?_)) .nil)))) (h n ss xs5 m5 hg5 hn1 hn2 (by omega) hm)
        obtain ⟨r, _, rfl⟩ := List.mem_map.mp hx
        exact .tup (oldL_ints r)
theorem ints_acc (acc : List Int) (x : Int) : acc.map PV.int ++ [.int x] = (acc ++ [x]).map .int := by simp
theorem purse_ok {k : Nat} {xs : List Int} {m n most : Int} {ex : PHp} {Q : QV} (hg : Gd xs m) (h0 : 0 ≤ n) (h1 : n ≤ 1000) (h2 : 0 ≤ most) (h3 : most ≤ 100000000000000000000000000000000000000000000000000)
    (h : ∀ (p : List Int) xs' m', Gd xs' m' → p.length = n → (∀ x ∈ p, -most ≤ x ∧ x ≤ most) → Q (.tup (p.map .int)) (D xs' m' ++ ex)) : callK pgm (k + 2) 14 [.ref 1, .int n, .int most] (D xs m ++ ex) Q XF := by
  refine callK_def rfl ⟨rfl, ?_⟩
  show wpB _ _ _ _ _ [some (.ref 1), some (.int n), some (.int most), none] _
  simp only [df_14, bindT, bindTs, wpB, wpS, wpE, wpEs, wpO, wpC, ex_some, ex_some1, ex_bl, ex_int, ex_tup, List.getElem?_cons_zero, List.getElem?_cons_succ, List.set_cons_zero, List.set_cons_succ, List.length_cons, List.length_nil, Atom.pv, add_i, sub_i, mul_i, mod_i, fdiv_i, pow_i, lt_i, le_i, gt_i, ge_i, eq_, ne_, in_e, nin_e, is_n, isnot_n, idx_tup, idx_lst, eqP_int, eqP_str, atI_0, atI_1, atI_2, ixN_0, ixN_1, ixN_2, decide_eq_true_eq, Bool.not_true, Bool.not_false, if_true, Bool.false_eq_true, if_false, setSl]
  have hlen := rng1_len (a := 0) (b := n) (by omega)
  have hsz := sz
  have hok := rOk_small (i := 0) (j := n) (by omega) (by omega) (by omega) (by omega)
  refine ⟨rngL 0 n 1, it_r1 hok, ?_⟩
  refine compL_rule (fun i acc ph => ∃ xs m p, Gd xs m ∧ ph = D xs m ++ ex ∧ acc = p.map .int ∧ p.length = i ∧ ∀ x ∈ p, -most ≤ x ∧ x ≤ most) ?_ ?_ ⟨xs, m, [], hg, rfl, rfl, rfl, by simp⟩
  · rintro i v acc ph hv ⟨xs1, m1, p, hg1, rfl, rfl, hi, hp⟩
    obtain ⟨rfl, hlt⟩ := rng1_get hv
    refine ⟨it_r1 hok, fun N hN => ⟨by simp [wipeE], ?_⟩⟩
    simp only [wipeE, bindT, bindTs, wpB, wpS, wpE, wpEs, wpO, wpC, ex_some, ex_some1, ex_bl, ex_int, ex_tup, List.getElem?_cons_zero, List.getElem?_cons_succ, List.set_cons_zero, List.set_cons_succ, List.length_cons, List.length_nil, Atom.pv, add_i, sub_i, mul_i, mod_i, fdiv_i, pow_i, lt_i, le_i, gt_i, ge_i, eq_, ne_, in_e, nin_e, is_n, isnot_n, idx_tup, idx_lst, eqP_int, eqP_str, atI_0, atI_1, atI_2, ixN_0, ixN_1, ixN_2, decide_eq_true_eq, Bool.not_true, Bool.not_false, if_true, Bool.false_eq_true, if_false, setSl]
    refine ⟨by
      show _ + _ < _
      have := lt200 (i := most) (by omega) (by omega)
      have : (2 : Int).natAbs.log2 < 31 := by decide
      omega, ?_⟩
    refine next_ok hg1 (by omega) (by omega) fun r xs2 m2 hg2 r0 r1 => ?_
    simp only [bindT, bindTs, wpB, wpS, wpE, wpEs, wpO, wpC, ex_some, ex_some1, ex_bl, ex_int, ex_tup, List.getElem?_cons_zero, List.getElem?_cons_succ, List.set_cons_zero, List.set_cons_succ, List.length_cons, List.length_nil, Atom.pv, add_i, sub_i, mul_i, mod_i, fdiv_i, pow_i, lt_i, le_i, gt_i, ge_i, eq_, ne_, in_e, nin_e, is_n, isnot_n, idx_tup, idx_lst, eqP_int, eqP_str, atI_0, atI_1, atI_2, ixN_0, ixN_1, ixN_2, decide_eq_true_eq, Bool.not_true, Bool.not_false, if_true, Bool.false_eq_true, if_false, setSl]
    refine ⟨by rw [List.length_map]; omega, hN _ _ ⟨xs2, m2, p ++ [r - most], hg2, rfl, ints_acc _ _, by simp [hi], fun x hx => ?_⟩⟩
    rcases List.mem_append.mp hx with hx | hx
    · exact hp x hx
    · rw [List.mem_singleton.mp hx]; omega
  · rintro acc ph ⟨xs1, m1, p, hg1, rfl, rfl, hi, hp⟩
    refine ⟨it_r1 hok, newL_f (by rw [List.length_map]; omega) ?_⟩
    simp only [biS, RL.bi_tuple]
    refine ⟨_, rfl, ?_⟩
    exact h p xs1 m1 hg1 (by omega) hp
/-! ### the deck -/
theorem cut_len {α : Type} (xs : List α) : (cut xs none (some 63)).length ≤ 63 := by
  simp only [cut, sIx]
  rw [List.length_take]
  simp; omega
theorem cut_ints (xs : List Int) : cut (xs.map PV.int) none (some 63) = (cut xs none (some 63)).map .int := by
  simp [cut, List.map_take, List.map_drop]
theorem sl_scr {own : Bool} {ns : List Int} {lo hi : Option Int} {ph : PHp} {Q : QV} : slS own (.scr ns) lo hi ph Q = newL own (cut (ns.map PV.int) lo hi) ph Q := rfl
theorem deck_ok {k : Nat} {ns : List Int} {Q : QV} (h : ∀ xs m, Gd xs m → Q (.ref 1) (D xs m)) : callK pgm (k + 1) 6 [.scr ns] [] Q XF := by
  refine callK_def rfl ⟨rfl, ?_⟩
  show wpB _ _ _ _ _ [some (.scr ns), none, none, none] _
  simp only [df_6, bindT, bindTs, wpB, wpS, wpE, wpEs, wpO, wpC, ex_some, ex_some1, ex_bl, ex_int, ex_tup, List.getElem?_cons_zero, List.getElem?_cons_succ, List.set_cons_zero, List.set_cons_succ, List.length_cons, List.length_nil, Atom.pv, add_i, sub_i, mul_i, mod_i, fdiv_i, pow_i, lt_i, le_i, gt_i, ge_i, eq_, ne_, in_e, nin_e, is_n, isnot_n, idx_tup, idx_lst, eqP_int, eqP_str, atI_0, atI_1, atI_2, ixN_0, ixN_1, ixN_2, decide_eq_true_eq, Bool.not_true, Bool.not_false, if_true, Bool.false_eq_true, if_false, setSl]
  have hsz := sz
  have hc := cut_len ns
  generalize hcs : cut ns none (some 63) = cs at hc
  have e63 : cut (ns.map PV.int) none (some 63) = cs.map .int := by rw [cut_ints, hcs]
  rw [sl_scr, e63]
  refine newL_f (by rw [List.length_map]; omega) ⟨cs.map .int, rfl, ?_⟩
  refine comp_map (fun v => PV.int (if toI v < 0 then - toI v else toI v)) rfl (by rw [List.length_map]; omega) (fun v hv K R hK => ?_) ?_
  · obtain ⟨i, _, rfl⟩ := List.mem_map.mp hv
    refine ⟨by simp [wipeE], ?_⟩
    simp only [wipeE, bindT, bindTs, wpB, wpS, wpE, wpEs, wpO, wpC, ex_some, ex_some1, ex_bl, ex_int, ex_tup, List.getElem?_cons_zero, List.getElem?_cons_succ, List.set_cons_zero, List.set_cons_succ, List.length_cons, List.length_nil, Atom.pv, add_i, sub_i, mul_i, mod_i, fdiv_i, pow_i, lt_i, le_i, gt_i, ge_i, eq_, ne_, in_e, nin_e, is_n, isnot_n, idx_tup, idx_lst, eqP_int, eqP_str, atI_0, atI_1, atI_2, ixN_0, ixN_1, ixN_2, decide_eq_true_eq, Bool.not_true, Bool.not_false, if_true, Bool.false_eq_true, if_false, setSl]
    exact hK
  · have e : (cs.map PV.int).map (fun v => PV.int (if toI v < 0 then - toI v else toI v)) = (cs.map fun i => if i < 0 then -i else i).map .int := by rw [List.map_map, List.map_map]; rfl
    rw [e]
    generalize hds : (cs.map fun i => if i < 0 then -i else i) = ds
    have hdl : ds.length ≤ 63 := by rw [← hds, List.length_map]; exact hc
    refine newL_f (by rw [List.length_map]; omega) ?_
    rw [sl_scr, e63]
    refine newL_f (by rw [List.length_map]; omega) ?_
    simp only [biS, RL.bi_len, bindT, bindTs, wpB, wpS, wpE, wpEs, wpO, wpC, ex_some, ex_some1, ex_bl, ex_int, ex_tup, List.getElem?_cons_zero, List.getElem?_cons_succ, List.set_cons_zero, List.set_cons_succ, List.length_cons, List.length_nil, Atom.pv, add_i, sub_i, mul_i, mod_i, fdiv_i, pow_i, lt_i, le_i, gt_i, ge_i, eq_, ne_, in_e, nin_e, is_n, isnot_n, idx_tup, idx_lst, eqP_int, eqP_str, atI_0, atI_1, atI_2, ixN_0, ixN_1, ixN_2, decide_eq_true_eq, Bool.not_true, Bool.not_false, if_true, Bool.false_eq_true, if_false, setSl]
    refine ⟨ds.map .int, rfl, ?_⟩
    refine forL_rule (fun i env ph => ∃ m a, (0 ≤ m ∧ m < 2147483647) ∧ env = [some (.scr ns), a, some (.lst (ds.map .int)), some (.int m)] ∧ ph = []) ?_ ?_ ⟨_, none, ⟨?_, ?_⟩, rfl, rfl⟩
    · rintro i v env ph hv ⟨m, a, hm, rfl, rfl⟩
      rw [List.getElem?_map, Option.map_eq_some_iff] at hv
      obtain ⟨z, _, rfl⟩ := hv
      refine ⟨rfl, fun N hN => ⟨by simp, ?_⟩⟩
      simp only [bindT, bindTs, wpB, wpS, wpE, wpEs, wpO, wpC, ex_some, ex_some1, ex_bl, ex_int, ex_tup, List.getElem?_cons_zero, List.getElem?_cons_succ, List.set_cons_zero, List.set_cons_succ, List.length_cons, List.length_nil, Atom.pv, add_i, sub_i, mul_i, mod_i, fdiv_i, pow_i, lt_i, le_i, gt_i, ge_i, eq_, ne_, in_e, nin_e, is_n, isnot_n, idx_tup, idx_lst, eqP_int, eqP_str, atI_0, atI_1, atI_2, ixN_0, ixN_1, ixN_2, decide_eq_true_eq, Bool.not_true, Bool.not_false, if_true, Bool.false_eq_true, if_false, setSl]
      refine ⟨by
        show _ + _ < _
        have := lt31 hm.1 (by omega)
        have : (48271 : Int).natAbs.log2 < 31 := by decide
        omega, by decide, by decide, by decide, hN _ _ ⟨_, _, ⟨?_, ?_⟩, rfl, rfl⟩⟩
      · rw [Int.fmod_eq_emod_of_nonneg _ (by omega)]; exact Int.emod_nonneg _ (by omega)
      · rw [Int.fmod_eq_emod_of_nonneg _ (by omega)]; exact Int.emod_lt_of_pos _ (by omega)
    · rintro env ph ⟨m, a, hm, rfl, rfl⟩
      refine ⟨rfl, ?_⟩
      simp only [bindT, bindTs, wpB, wpS, wpE, wpEs, wpO, wpC, ex_some, ex_some1, ex_bl, ex_int, ex_tup, List.getElem?_cons_zero, List.getElem?_cons_succ, List.set_cons_zero, List.set_cons_succ, List.length_cons, List.length_nil, Atom.pv, add_i, sub_i, mul_i, mod_i, fdiv_i, pow_i, lt_i, le_i, gt_i, ge_i, eq_, ne_, in_e, nin_e, is_n, isnot_n, idx_tup, idx_lst, eqP_int, eqP_str, atI_0, atI_1, atI_2, ixN_0, ixN_1, ixN_2, decide_eq_true_eq, Bool.not_true, Bool.not_false, if_true, Bool.false_eq_true, if_false, setSl]
      refine ⟨ds.map .int, rfl, ?_⟩
      refine comp_filter (fun v => decide ((10 : Int) ^ (9 : Int).toNat ≤ toI v)) (fun v => v) rfl (by rw [List.length_map]; omega) (fun v hv K R h1 h2 => ?_) ?_
      · obtain ⟨i, _, rfl⟩ := List.mem_map.mp hv
        refine ⟨by simp [wipeE], ?_⟩
        simp only [wipeE, bindT, bindTs, wpB, wpS, wpE, wpEs, wpO, wpC, ex_some, ex_some1, ex_bl, ex_int, ex_tup, List.getElem?_cons_zero, List.getElem?_cons_succ, List.set_cons_zero, List.set_cons_succ, List.length_cons, List.length_nil, Atom.pv, add_i, sub_i, mul_i, mod_i, fdiv_i, pow_i, lt_i, le_i, gt_i, ge_i, eq_, ne_, in_e, nin_e, is_n, isnot_n, idx_tup, idx_lst, eqP_int, eqP_str, atI_0, atI_1, atI_2, ixN_0, ixN_1, ixN_2, decide_eq_true_eq, Bool.not_true, Bool.not_false, if_true, Bool.false_eq_true, if_false, setSl]
        refine ⟨by decide, ?_⟩
        split
        · exact h1 (decide_eq_true ‹_›)
        · exact h2 (decide_eq_false ‹_›)
      · have e2 : ((ds.map PV.int).filter fun v => decide ((10 : Int) ^ (9 : Int).toNat ≤ toI v)).map (fun v => v) = (ds.filter fun i => decide ((10 : Int) ^ (9 : Int).toNat ≤ i)).map .int := by
          rw [List.filter_map, List.map_map]; rfl
        rw [e2]
        generalize hes : (ds.filter fun i => decide ((10 : Int) ^ (9 : Int).toNat ≤ i)) = es
        have hel : es.length ≤ 63 := by rw [← hes]; exact Nat.le_trans (List.length_filter_le _ _) hdl
        refine newL_f (by rw [List.length_map]; omega) ⟨es.map .int, rfl, newL_t (by rw [List.length_reverse, List.length_map]; omega) ?_⟩
        refine newL_t (by simp; decide) ?_
        show Q (.ref 1) _
        have := h es.reverse m ⟨by rw [List.length_reverse]; exact hel, hm⟩
        simpa [D] using this
    · omega
    · simp; omega

theorem shw_int {w dp : Nat} {ph : PHp} {i : Int} (h : -100000 ≤ i ∧ i ≤ 100000) (hw : 24 ≤ w) : Shw 50 w dp ph (.int i) := ⟨_, .int i, sm_int 6 (by omega) (by decide) (by decide) (by omega) (by decide)⟩
theorem shw_ints {w dp : Nat} {ph : PHp} {xs : List Int} (h : ∀ x ∈ xs, -100000 ≤ x ∧ x ≤ 100000) (hw : 24 ≤ w) : ∀ v ∈ xs.map PV.int, Shw 50 w dp ph v := fun v hv => by
  obtain ⟨x, hx, rfl⟩ := List.mem_map.mp hv
  exact shw_int (h x hx) hw
theorem shw_rows {ph : PHp} {n : Int} {rs : List (List Int)} (h1 : n ≤ 1000) (hr : ∀ r ∈ rs, Row n r) : ∀ v ∈ rs.map rowPV, Shw 50 60 1 ph v := fun v hv => by
  obtain ⟨r, hr', rfl⟩ := List.mem_map.mp hv
  obtain ⟨a, b, rfl, a0, a1, b0, b1⟩ := hr r hr'
  exact (shw_tup (shw_ints (xs := [a, b]) (w := 24) (dp := 0) (by simp; omega) (by decide))).mono (by simp) (by decide)
theorem shw_town {ph : PHp} {n : Int} {rs : List (List Int)} (h0 : 0 ≤ n) (h1 : n ≤ 1000) (hr : ∀ r ∈ rs, Row n r) (hl : rs.length ≤ 300) : Shw 50 40000 5 ph (.tup [.int n, .tup (rs.map rowPV)]) := by
  have h2 := shw_tup (shw_rows (ph := ph) h1 hr)
  rw [List.length_map] at h2
  refine (shw_tup (w := 18300) (dp := 2) (xs := [.int n, .tup (rs.map rowPV)]) fun v hv => ?_).mono (by simp) (by decide)
  rcases List.mem_cons.mp hv with rfl | hv
  · exact shw_int (by omega) (by omega)
  · rw [List.mem_singleton.mp hv]
    exact h2.mono (by omega) (by omega)
theorem cut_mem {xs : List PV} {lo hi : Option Int} {x : PV} (h : x ∈ cut xs lo hi) : x ∈ xs := List.mem_of_mem_drop (List.mem_of_mem_take h)
theorem cut_le {xs : List PV} {lo hi : Option Int} : (cut xs lo hi).length ≤ xs.length := by
  simp only [cut]
  rw [List.length_take, List.length_drop]; omega
theorem sl_tup {own : Bool} {xs : List PV} {lo hi : Option Int} {ph : PHp} {Q : QV} : slS own (.tup xs) lo hi ph Q = Q (.tup (cut xs lo hi)) ph := rfl
theorem add_t {own : Bool} {xs ys : List PV} {ph : PHp} {Q : QV} : op2S .add own (.tup xs) (.tup ys) ph Q = (xs.length + ys.length ≤ sizeLine ∧ Q (.tup (xs ++ ys)) ph) := rfl
theorem mul_t {own : Bool} {xs : List PV} {k : Int} {ph : PHp} {Q : QV} : op2S .mul own (.tup xs) (.int k) ph Q = ((-1000 ≤ k ∧ k ≤ 1000) ∧ xs.length ≤ 1000 ∧ Q (.tup (List.replicate k.toNat xs).flatten) ph) := rfl
theorem mul_s {own : Bool} {x : Str} {k : Int} {ph : PHp} {Q : QV} : op2S .mul own (.str x) (.int k) ph Q = ((-1000 ≤ k ∧ k ≤ 1000) ∧ x.length ≤ 1000 ∧ Q (.str ⟨(List.replicate k.toNat x.cps.toList).flatten.toArray⟩) ph) := rfl
theorem rep1_mem {x v : PV} {k : Nat} (h : v ∈ (List.replicate k [x]).flatten) : v = x := by
  rw [List.mem_flatten] at h
  obtain ⟨l, h1, h2⟩ := h
  rw [(List.mem_replicate.mp h1).2] at h2
  exact List.mem_singleton.mp h2
theorem rep1_len {x : PV} {k : Nat} : (List.replicate k [x]).flatten.length = k := by simp
theorem shw_rep {ph : PHp} {x : PV} {k : Nat} (hk : k ≤ 100) (h : Shw 50 200 3 ph x) : Shw 50 40000 5 ph (.tup (List.replicate k [x]).flatten) := by
  refine (shw_tup (w := 200) (dp := 3) fun v hv => by rw [rep1_mem hv]; exact h).mono ?_ (by decide)
  rw [rep1_len]; omega

/-! ### behind a script -/
def at0 (p : List Int) (h : Nat) : Int := p.getD h 0
def stepAt (s : Nat → Int) (r : List Int) (h : Nat) : Int := match r with
  | [a, b] => (if h = a.toNat then s a.toNat - s b.toNat else 0) - (if h = b.toNat then s a.toNat - s b.toNat else 0)
  | _ => 0
def flow (rs : List (List Int)) (s : Nat → Int) (h : Nat) : Int := (rs.map fun r => stepAt s r h).sum
def bhd (n : Nat) (rs : List (List Int)) (p s : Nat → Int) : List Int := (List.range n).map fun h => p h - flow rs s h
theorem bhd_len {n : Nat} {rs : List (List Int)} {p s : Nat → Int} : (bhd n rs p s).length = n := by simp [bhd]
theorem bhd_get {n : Nat} {rs : List (List Int)} {p s : Nat → Int} {h : Nat} (hh : h < n) : (bhd n rs p s)[h]? = some (p h - flow rs s h) := by simp [bhd, hh]
theorem bhd_nil {p : List Int} {s : Nat → Int} : bhd p.length [] (at0 p) s = p := by
  apply List.ext_getElem
  · simp [bhd]
  · intro i h1 h2
    simp [bhd, flow, at0, h2]
theorem bhd_step {n : Nat} {rs : List (List Int)} {p s : Nat → Int} {a b : Int} (a0 : 0 ≤ a) (a1 : a < n) (b0 : 0 ≤ b) (b1 : b < n) {x : Int}
    (hx : ((bhd n rs p s).set a.toNat ((p a.toNat - flow rs s a.toNat) - (s a.toNat - s b.toNat)))[b.toNat]? = some x) :
    ((bhd n rs p s).set a.toNat ((p a.toNat - flow rs s a.toNat) - (s a.toNat - s b.toNat))).set b.toNat (x + (s a.toNat - s b.toNat)) = bhd n (rs ++ [[a, b]]) p s := by
  apply List.ext_getElem?
  intro i
  have hb : b.toNat < n := by omega
  have ha : a.toNat < n := by omega
  rw [List.getElem?_set, List.getElem?_set] at *
  rw [bhd_get hb, bhd_len] at hx
  rw [List.length_set, bhd_len]
  by_cases hi : i < n
  · rw [bhd_get hi, bhd_get hi]
    have e : flow (rs ++ [[a, b]]) s i = flow rs s i + stepAt s [a, b] i := by simp [flow]
    rw [e]
    simp only [stepAt]
    by_cases h1 : a.toNat = b.toNat
    · rw [if_pos h1, if_pos ha] at hx
      cases hx
      by_cases h2 : b.toNat = i
      · rw [if_pos h2, if_pos hb, ← h2, h1]; simp
      · rw [if_neg h2, if_neg (by omega), if_neg (by omega), if_neg (by omega)]; simp
    · rw [if_neg h1] at hx
      cases hx
      by_cases h2 : b.toNat = i
      · rw [if_pos h2, if_pos hb, ← h2, if_neg (by omega), if_pos rfl]; simp; omega
      · rw [if_neg h2]
        by_cases h3 : a.toNat = i
        · rw [if_pos h3, if_pos ha, ← h3, if_pos rfl, if_neg (by omega)]; simp; omega
        · rw [if_neg h3, if_neg (by omega), if_neg (by omega)]; simp
  · have e1 : (bhd n rs p s)[i]? = none := List.getElem?_eq_none (by rw [bhd_len]; omega)
    have e2 : (bhd n (rs ++ [[a, b]]) p s)[i]? = none := List.getElem?_eq_none (by rw [bhd_len]; omega)
    rw [e1, e2, if_neg (by omega), if_neg (by omega)]
theorem get_at0 {xs : List Int} {j : Nat} (h : j < xs.length) : xs[j]? = some (at0 xs j) := by
  simp [at0, h]
theorem flow_cons {r : List Int} {rs : List (List Int)} {s : Nat → Int} {h : Nat} : flow (r :: rs) s h = stepAt s r h + flow rs s h := by simp [flow]
theorem flow_congr {n : Nat} {s s' : Nat → Int} {h : Nat} : ∀ {rs : List (List Int)}, (∀ r ∈ rs, Row n r) → (∀ i, i < n → s i = s' i) → flow rs s h = flow rs s' h
  | [], _, _ => rfl
  | r :: rs, hr, he => by
    rw [flow_cons, flow_cons, flow_congr (fun x hx => hr x (List.mem_cons_of_mem _ hx)) he]
    obtain ⟨a, b, rfl, a0, a1, b0, b1⟩ := hr r (List.mem_cons_self ..)
    simp only [stepAt]
    rw [he _ (by omega), he _ (by omega)]
theorem flow_add {s t : Nat → Int} {h : Nat} : ∀ {rs : List (List Int)}, flow rs (fun i => s i + t i) h = flow rs s h + flow rs t h
  | [] => rfl
  | r :: rs => by
    rw [flow_cons, flow_cons, flow_cons, flow_add]
    unfold stepAt
    split
    · dsimp only
      split <;> split <;> omega
    · omega
theorem flow_const {c : Int} {h : Nat} : ∀ {rs : List (List Int)}, flow rs (fun _ => c) h = 0
  | [] => rfl
  | r :: rs => by
    rw [flow_cons, flow_const]
    unfold stepAt
    split
    · dsimp only
      split <;> split <;> omega
    · rfl
theorem bhd_congr {n : Nat} {rs : List (List Int)} {p p' s s' : Nat → Int} (hr : ∀ r ∈ rs, Row n r) (hp : ∀ i, i < n → p i = p' i) (hs : ∀ i, i < n → s i = s' i) : bhd n rs p s = bhd n rs p' s' := by
  unfold bhd
  apply List.map_congr_left
  intro h hh
  rw [List.mem_range] at hh
  rw [hp h hh, flow_congr hr hs]
theorem at0_bhd {n : Nat} {rs : List (List Int)} {p s : Nat → Int} {h : Nat} (hh : h < n) : at0 (bhd n rs p s) h = p h - flow rs s h := by
  rw [at0, List.getD_eq_getElem?_getD, bhd_get hh]; rfl
theorem bhd_bhd {n : Nat} {rs : List (List Int)} {p s t : Nat → Int} : bhd n rs (at0 (bhd n rs p s)) t = bhd n rs p (fun i => s i + t i) := by
  have e : ∀ h ∈ List.range n, at0 (bhd n rs p s) h - flow rs t h = p h - flow rs (fun i => s i + t i) h := fun h hh => by
    rw [List.mem_range] at hh
    rw [at0_bhd hh, flow_add]; omega
  exact List.map_congr_left e
theorem sum_ite {k : Int} {a : Nat} : ∀ n : Nat, ((List.range n).map fun h => if h = a then k else 0).sum = if a < n then k else 0
  | 0 => rfl
  | n + 1 => by
    rw [List.range_succ, List.map_append, List.sum_append, sum_ite n]
    simp only [List.map_cons, List.map_nil, List.sum_cons, List.sum_nil]
    split <;> split <;> split <;> omega
theorem sum_sub {f g : Nat → Int} : ∀ n : Nat, ((List.range n).map fun h => f h - g h).sum = ((List.range n).map f).sum - ((List.range n).map g).sum
  | 0 => rfl
  | n + 1 => by
    simp only [List.range_succ, List.map_append, List.sum_append, List.map_cons, List.map_nil, List.sum_cons, List.sum_nil]
    rw [sum_sub n]; omega
theorem sum_add {f g : Nat → Int} : ∀ n : Nat, ((List.range n).map fun h => f h + g h).sum = ((List.range n).map f).sum + ((List.range n).map g).sum
  | 0 => rfl
  | n + 1 => by
    simp only [List.range_succ, List.map_append, List.sum_append, List.map_cons, List.map_nil, List.sum_cons, List.sum_nil]
    rw [sum_add n]; omega
theorem sum_flow {n : Nat} {s : Nat → Int} : ∀ {rs : List (List Int)}, (∀ r ∈ rs, Row n r) → ((List.range n).map fun h => flow rs s h).sum = 0
  | [], _ => by
    have := sum_ite (k := 0) (a := 0) n
    simpa [flow] using this
  | r :: rs, hr => by
    obtain ⟨a, b, rfl, a0, a1, b0, b1⟩ := hr r (List.mem_cons_self ..)
    have e : (fun h => flow ([a, b] :: rs) s h) = fun h => stepAt s [a, b] h + flow rs s h := funext fun h => flow_cons
    rw [e, sum_add, sum_flow fun x hx => hr x (List.mem_cons_of_mem _ hx)]
    have e2 : stepAt s [a, b] = fun h => (if h = a.toNat then s a.toNat - s b.toNat else 0) - (if h = b.toNat then s a.toNat - s b.toNat else 0) := rfl
    rw [e2, sum_sub, sum_ite, sum_ite, if_pos (by omega), if_pos (by omega)]; omega
theorem sum_at0 (p : List Int) : ((List.range p.length).map (at0 p)).sum = p.sum := by
  congr 1
  apply List.ext_getElem
  · simp
  · intro i h1 h2
    simp [at0, h2]
theorem sum_bhd {rs : List (List Int)} {p : List Int} {s : Nat → Int} (hr : ∀ r ∈ rs, Row p.length r) : (bhd p.length rs (at0 p) s).sum = p.sum := by
  unfold bhd
  rw [sum_sub, sum_flow hr, sum_at0]; omega
theorem atI_at0 {xs : List Int} {r : Int} (h0 : 0 ≤ r) (h1 : r < xs.length) : atI (xs.map PV.int) r = some (.int (at0 xs r.toNat)) := by
  obtain ⟨j, rfl⟩ := Int.eq_ofNat_of_zero_le h0
  have hj : j < xs.length := by omega
  refine atI_nat ?_
  rw [List.getElem?_map, List.getElem?_eq_getElem hj]
  simp [at0, hj]
theorem ret_same {ph zs : PHp} {Q : QV} {v v' : PV} (hf : Frz ph.length (ph ++ zs) v v') (q : Q v' ph) : retS true ph Q v (ph ++ zs) := by
  unfold retS
  rw [if_pos rfl]
  refine ⟨v', hf, fun i o hi ho => ?_, ?_⟩
  · rw [List.getElem?_append_left hi] at ho
    exact .inl ho
  · rw [List.take_left' rfl]; exact q
theorem e1 {ph : PHp} {a : PO} : (ph ++ [a])[ph.length]? = some a := by simp
theorem st1 {ph : PHp} {a b : PO} : setO (ph ++ [a]) ph.length b = ph ++ [b] := by simp [setO]
def Lz (s : List Int) (v : PV) : Prop := v = .tup (s.map .int) ∨ v = .lst (s.map .int)
theorem idx_lz {s : List Int} {v : PV} {i : Int} {ph : PHp} {Q : QV} (h : Lz s v) (h0 : 0 ≤ i) (h1 : i < s.length) (q : Q (.int (at0 s i.toNat)) ph) : idxS v (.int i) ph Q := by
  rcases h with rfl | rfl
  · rw [idx_tup]; exact ⟨_, atI_at0 h0 h1, q⟩
  · rw [idx_lst]; exact ⟨_, atI_at0 h0 h1, q⟩
theorem ixN_pos {n : Nat} {i : Int} (h0 : 0 ≤ i) (h1 : i < n) : ixN n i = some i.toNat := by
  unfold ixN
  rw [if_pos h0, if_pos (by omega)]
theorem beh_ok {k : Nat} {ph : PHp} {n : Nat} {rs : List (List Int)} {p s : List Int} {sv : PV} {Q : QV} (hp : p.length = n) (hs : s.length = n) (hsv : Lz s sv) (hr : ∀ r ∈ rs, Row n r) (hn : n ≤ 1000)
    (h : Q (.tup ((bhd n rs (at0 p) (at0 s)).map .int)) ph) : callK pgm (k + 1) 1 [.tup [.int n, .tup (rs.map rowPV)], .tup (p.map .int), sv] ph Q XF := by
  refine callK_def rfl ⟨rfl, ?_⟩
  show wpB _ _ _ _ _ [some (.tup [.int n, .tup (rs.map rowPV)]), some (.tup (p.map .int)), some sv, none, none, none, none] _
  simp only [df_1, bindT, bindTs, wpB, wpS, wpE, wpEs, wpO, wpC, ex_some, ex_some1, ex_bl, ex_int, ex_tup, List.getElem?_cons_zero, List.getElem?_cons_succ, List.set_cons_zero, List.set_cons_succ, List.length_cons, List.length_nil, Atom.pv, add_i, sub_i, mul_i, mod_i, fdiv_i, pow_i, lt_i, le_i, gt_i, ge_i, eq_, ne_, in_e, nin_e, is_n, isnot_n, idx_tup, idx_lst, eqP_int, eqP_str, atI_0, atI_1, atI_2, ixN_0, ixN_1, ixN_2, decide_eq_true_eq, Bool.not_true, Bool.not_false, if_true, Bool.false_eq_true, if_false, setSl]
  have hsz := sz
  refine ⟨_, rfl, newL_t (by rw [List.length_map]; omega) ⟨by decide, _, rfl, ?_⟩⟩
  refine forL_rule (fun i env ph' => ∃ a4 a5 a6, ph' = ph ++ [.lst ((bhd n (rs.take i) (at0 p) (at0 s)).map .int)] ∧ env = [some (.tup [.int n, .tup (rs.map rowPV)]), some (.tup (p.map .int)), some sv, some (.ref ph.length), a4, a5, a6]) ?_ ?_ ⟨none, none, none, by rw [List.take_zero, ← hp, bhd_nil], rfl⟩
  · rintro i v env ph' hv ⟨a4, a5, a6, rfl, rfl⟩
    refine ⟨rfl, fun N hN => ?_⟩
    rw [List.getElem?_map] at hv
    obtain ⟨r, hr1, rfl⟩ := Option.map_eq_some_iff.mp hv
    obtain ⟨a, b, rfl, a0, a1, b0, b1⟩ := hr r (List.mem_of_getElem? hr1)
    have e : rowPV [a, b] = .tup [.int a, .int b] := rfl
    rw [e]
    have ht : rs.take (i + 1) = rs.take i ++ [[a, b]] := by rw [List.take_succ, hr1]; rfl
    simp only [bindT, bindTs, wpB, wpS, wpE, wpEs, wpO, wpC, ex_some, ex_some1, ex_bl, ex_int, ex_tup, List.getElem?_cons_zero, List.getElem?_cons_succ, List.set_cons_zero, List.set_cons_succ, List.length_cons, List.length_nil, Atom.pv, add_i, sub_i, mul_i, mod_i, fdiv_i, pow_i, lt_i, le_i, gt_i, ge_i, eq_, ne_, in_e, nin_e, is_n, isnot_n, idx_tup, idx_lst, eqP_int, eqP_str, atI_0, atI_1, atI_2, ixN_0, ixN_1, ixN_2, decide_eq_true_eq, Bool.not_true, Bool.not_false, if_true, Bool.false_eq_true, if_false, setSl]
    refine ⟨by decide, by decide, by decide, ?_⟩
    refine idx_lz hsv a0 (by omega) ?_
    refine idx_lz hsv b0 (by omega) ?_
    have hl : (bhd n (rs.take i) (at0 p) (at0 s)).length = n := bhd_len
    have ga : at0 (bhd n (rs.take i) (at0 p) (at0 s)) a.toNat = at0 p a.toNat - flow (rs.take i) (at0 s) a.toNat := by
      rw [at0, List.getD_eq_getElem?_getD, bhd_get (by omega)]; rfl
    refine ⟨by decide, ?_⟩
    rw [idx_ref e1]
    refine ⟨_, atI_at0 a0 (by omega), ?_⟩
    simp only [bindT, bindTs, wpB, wpS, wpE, wpEs, wpO, wpC, ex_some, ex_some1, ex_bl, ex_int, ex_tup, List.getElem?_cons_zero, List.getElem?_cons_succ, List.set_cons_zero, List.set_cons_succ, List.length_cons, List.length_nil, Atom.pv, add_i, sub_i, mul_i, mod_i, fdiv_i, pow_i, lt_i, le_i, gt_i, ge_i, eq_, ne_, in_e, nin_e, is_n, isnot_n, idx_tup, idx_lst, eqP_int, eqP_str, atI_0, atI_1, atI_2, ixN_0, ixN_1, ixN_2, decide_eq_true_eq, Bool.not_true, Bool.not_false, if_true, Bool.false_eq_true, if_false, setSl]
    rw [seti_ref e1]
    refine ⟨_, ixN_pos a0 (by rw [List.length_map]; omega), ?_⟩
    rw [st1, ← List.map_set, ga]
    rw [idx_ref e1]
    refine ⟨_, atI_at0 b0 (by rw [List.length_set]; omega), ?_⟩
    simp only [bindT, bindTs, wpB, wpS, wpE, wpEs, wpO, wpC, ex_some, ex_some1, ex_bl, ex_int, ex_tup, List.getElem?_cons_zero, List.getElem?_cons_succ, List.set_cons_zero, List.set_cons_succ, List.length_cons, List.length_nil, Atom.pv, add_i, sub_i, mul_i, mod_i, fdiv_i, pow_i, lt_i, le_i, gt_i, ge_i, eq_, ne_, in_e, nin_e, is_n, isnot_n, idx_tup, idx_lst, eqP_int, eqP_str, atI_0, atI_1, atI_2, ixN_0, ixN_1, ixN_2, decide_eq_true_eq, Bool.not_true, Bool.not_false, if_true, Bool.false_eq_true, if_false, setSl]
    rw [seti_ref e1]
    refine ⟨_, ixN_pos b0 (by rw [List.length_map, List.length_set]; omega), ?_⟩
    rw [st1, ← List.map_set, bhd_step a0 a1 b0 b1 (get_at0 (by rw [List.length_set]; omega)), ← ht]
    exact hN _ _ ⟨_, _, _, rfl, rfl⟩
  · rintro env ph' ⟨a4, a5, a6, rfl, rfl⟩
    refine ⟨rfl, ?_⟩
    simp only [bindT, bindTs, wpB, wpS, wpE, wpEs, wpO, wpC, ex_some, ex_some1, ex_bl, ex_int, ex_tup, List.getElem?_cons_zero, List.getElem?_cons_succ, List.set_cons_zero, List.set_cons_succ, List.length_cons, List.length_nil, Atom.pv, add_i, sub_i, mul_i, mod_i, fdiv_i, pow_i, lt_i, le_i, gt_i, ge_i, eq_, ne_, in_e, nin_e, is_n, isnot_n, idx_tup, idx_lst, eqP_int, eqP_str, atI_0, atI_1, atI_2, ixN_0, ixN_1, ixN_2, decide_eq_true_eq, Bool.not_true, Bool.not_false, if_true, Bool.false_eq_true, if_false, setSl]
    rw [List.length_map, List.take_length]
    refine tuple_l (xs := (bhd n rs (at0 p) (at0 s)).map .int) (by simp only [lstOf, e1]) ?_
    exact ret_same (frz_old (.tup (oldL_ints _))) h
theorem lbeh_ok {k : Nat} {ph : PHp} {n : Nat} {rs : List (List Int)} {p s : List Int} {sv : PV} {Q : QV} (hp : p.length = n) (hs : s.length = n) (hsv : Lz s sv) (hr : ∀ r ∈ rs, Row n r) (hn : n ≤ 1000)
    (h : Q (.tup ((bhd n rs (at0 p) (at0 s)).map .int)) ph) : callK pgm (k + 1) 12 [.tup [.int n, .tup (rs.map rowPV)], .tup (p.map .int), sv] ph Q XF := by
  refine callK_def rfl ⟨rfl, ?_⟩
  show wpB _ _ _ _ _ [some (.tup [.int n, .tup (rs.map rowPV)]), some (.tup (p.map .int)), some sv, none, none, none, none] _
  simp only [df_12, bindT, bindTs, wpB, wpS, wpE, wpEs, wpO, wpC, ex_some, ex_some1, ex_bl, ex_int, ex_tup, List.getElem?_cons_zero, List.getElem?_cons_succ, List.set_cons_zero, List.set_cons_succ, List.length_cons, List.length_nil, Atom.pv, add_i, sub_i, mul_i, mod_i, fdiv_i, pow_i, lt_i, le_i, gt_i, ge_i, eq_, ne_, in_e, nin_e, is_n, isnot_n, idx_tup, idx_lst, eqP_int, eqP_str, atI_0, atI_1, atI_2, ixN_0, ixN_1, ixN_2, decide_eq_true_eq, Bool.not_true, Bool.not_false, if_true, Bool.false_eq_true, if_false, setSl]
  have hsz := sz
  refine ⟨_, rfl, newL_t (by rw [List.length_map]; omega) ⟨by decide, _, rfl, ?_⟩⟩
  refine forL_rule (fun i env ph' => ∃ a4 a5 a6, ph' = ph ++ [.lst ((bhd n (rs.take i) (at0 p) (at0 s)).map .int)] ∧ env = [some (.tup [.int n, .tup (rs.map rowPV)]), some (.tup (p.map .int)), some sv, some (.ref ph.length), a4, a5, a6]) ?_ ?_ ⟨none, none, none, by rw [List.take_zero, ← hp, bhd_nil], rfl⟩
  · rintro i v env ph' hv ⟨a4, a5, a6, rfl, rfl⟩
    refine ⟨rfl, fun N hN => ?_⟩
    rw [List.getElem?_map] at hv
    obtain ⟨r, hr1, rfl⟩ := Option.map_eq_some_iff.mp hv
    obtain ⟨a, b, rfl, a0, a1, b0, b1⟩ := hr r (List.mem_of_getElem? hr1)
    have e : rowPV [a, b] = .tup [.int a, .int b] := rfl
    rw [e]
    have ht : rs.take (i + 1) = rs.take i ++ [[a, b]] := by rw [List.take_succ, hr1]; rfl
    simp only [bindT, bindTs, wpB, wpS, wpE, wpEs, wpO, wpC, ex_some, ex_some1, ex_bl, ex_int, ex_tup, List.getElem?_cons_zero, List.getElem?_cons_succ, List.set_cons_zero, List.set_cons_succ, List.length_cons, List.length_nil, Atom.pv, add_i, sub_i, mul_i, mod_i, fdiv_i, pow_i, lt_i, le_i, gt_i, ge_i, eq_, ne_, in_e, nin_e, is_n, isnot_n, idx_tup, idx_lst, eqP_int, eqP_str, atI_0, atI_1, atI_2, ixN_0, ixN_1, ixN_2, decide_eq_true_eq, Bool.not_true, Bool.not_false, if_true, Bool.false_eq_true, if_false, setSl]
    refine ⟨by decide, by decide, by decide, ?_⟩
    refine idx_lz hsv a0 (by omega) ?_
    refine idx_lz hsv b0 (by omega) ?_
    have hl : (bhd n (rs.take i) (at0 p) (at0 s)).length = n := bhd_len
    have ga : at0 (bhd n (rs.take i) (at0 p) (at0 s)) a.toNat = at0 p a.toNat - flow (rs.take i) (at0 s) a.toNat := by
      rw [at0, List.getD_eq_getElem?_getD, bhd_get (by omega)]; rfl
    refine ⟨by decide, ?_⟩
    rw [idx_ref e1]
    refine ⟨_, atI_at0 a0 (by omega), ?_⟩
    simp only [bindT, bindTs, wpB, wpS, wpE, wpEs, wpO, wpC, ex_some, ex_some1, ex_bl, ex_int, ex_tup, List.getElem?_cons_zero, List.getElem?_cons_succ, List.set_cons_zero, List.set_cons_succ, List.length_cons, List.length_nil, Atom.pv, add_i, sub_i, mul_i, mod_i, fdiv_i, pow_i, lt_i, le_i, gt_i, ge_i, eq_, ne_, in_e, nin_e, is_n, isnot_n, idx_tup, idx_lst, eqP_int, eqP_str, atI_0, atI_1, atI_2, ixN_0, ixN_1, ixN_2, decide_eq_true_eq, Bool.not_true, Bool.not_false, if_true, Bool.false_eq_true, if_false, setSl]
    rw [seti_ref e1]
    refine ⟨_, ixN_pos a0 (by rw [List.length_map]; omega), ?_⟩
    rw [st1, ← List.map_set, ga]
    rw [idx_ref e1]
    refine ⟨_, atI_at0 b0 (by rw [List.length_set]; omega), ?_⟩
    simp only [bindT, bindTs, wpB, wpS, wpE, wpEs, wpO, wpC, ex_some, ex_some1, ex_bl, ex_int, ex_tup, List.getElem?_cons_zero, List.getElem?_cons_succ, List.set_cons_zero, List.set_cons_succ, List.length_cons, List.length_nil, Atom.pv, add_i, sub_i, mul_i, mod_i, fdiv_i, pow_i, lt_i, le_i, gt_i, ge_i, eq_, ne_, in_e, nin_e, is_n, isnot_n, idx_tup, idx_lst, eqP_int, eqP_str, atI_0, atI_1, atI_2, ixN_0, ixN_1, ixN_2, decide_eq_true_eq, Bool.not_true, Bool.not_false, if_true, Bool.false_eq_true, if_false, setSl]
    rw [seti_ref e1]
    refine ⟨_, ixN_pos b0 (by rw [List.length_map, List.length_set]; omega), ?_⟩
    rw [st1, ← List.map_set, bhd_step a0 a1 b0 b1 (get_at0 (by rw [List.length_set]; omega)), ← ht]
    exact hN _ _ ⟨_, _, _, rfl, rfl⟩
  · rintro env ph' ⟨a4, a5, a6, rfl, rfl⟩
    refine ⟨rfl, ?_⟩
    simp only [bindT, bindTs, wpB, wpS, wpE, wpEs, wpO, wpC, ex_some, ex_some1, ex_bl, ex_int, ex_tup, List.getElem?_cons_zero, List.getElem?_cons_succ, List.set_cons_zero, List.set_cons_succ, List.length_cons, List.length_nil, Atom.pv, add_i, sub_i, mul_i, mod_i, fdiv_i, pow_i, lt_i, le_i, gt_i, ge_i, eq_, ne_, in_e, nin_e, is_n, isnot_n, idx_tup, idx_lst, eqP_int, eqP_str, atI_0, atI_1, atI_2, ixN_0, ixN_1, ixN_2, decide_eq_true_eq, Bool.not_true, Bool.not_false, if_true, Bool.false_eq_true, if_false, setSl]
    rw [List.length_map, List.take_length]
    refine tuple_l (xs := (bhd n rs (at0 p) (at0 s)).map .int) (by simp only [lstOf, e1]) ?_
    exact ret_same (frz_old (.tup (oldL_ints _))) h

/-! ### one coin a road -/
theorem rng1_mem {n : Int} {v : PV} (h : v ∈ rngL 0 n 1) : ∃ i : Int, v = .int i ∧ 0 ≤ i ∧ i < n := by
  obtain ⟨j, hj⟩ := List.getElem?_of_mem h
  obtain ⟨e, hi⟩ := rng1_get hj
  exact ⟨_, e, by omega, by omega⟩
def ind (n : Nat) (h c : Int) : List Int := (List.range n).map fun (i : Nat) => if (i : Int) = h then c else 0
theorem ind_len {n : Nat} {h c : Int} : (ind n h c).length = n := by simp [ind]
theorem at0_ind {n : Nat} {h c : Int} {i : Nat} (hi : i < n) : at0 (ind n h c) i = if (i : Int) = h then c else 0 := by simp [at0, ind, hi]
theorem ind_pv {n : Nat} {h c : Int} {f : PV → PV} (hf : ∀ i : Int, f (.int i) = .int (if i = h then c else 0)) : (rngL 0 (n : Int) 1).map f = (ind n h c).map .int := by
  rw [rng1_ints, List.map_map, List.map_map]
  simp only [ind, List.map_map, Int.toNat_natCast]
  apply List.map_congr_left
  intro i _
  exact hf _
theorem lend_ok {k : Nat} {ph : PHp} {n : Nat} {rs : List (List Int)} {p : List Int} {hh : Int} {Q : QV} (hp : p.length = n) (hr : ∀ r ∈ rs, Row n r) (hn : n ≤ 1000)
    (h : Q (.tup ((bhd n rs (at0 p) (at0 (ind n hh 1))).map .int)) ph) : callK pgm (k + 2) 2 [.tup [.int n, .tup (rs.map rowPV)], .tup (p.map .int), .int hh] ph Q XF := by
  refine callK_def rfl ⟨rfl, ?_⟩
  show wpB _ _ _ _ _ [some (.tup [.int n, .tup (rs.map rowPV)]), some (.tup (p.map .int)), some (.int hh), none] _
  simp only [df_2, bindT, bindTs, wpB, wpS, wpE, wpEs, wpO, wpC, ex_some, ex_some1, ex_bl, ex_int, ex_tup, List.getElem?_cons_zero, List.getElem?_cons_succ, List.set_cons_zero, List.set_cons_succ, List.length_cons, List.length_nil, Atom.pv, add_i, sub_i, mul_i, mod_i, fdiv_i, pow_i, lt_i, le_i, gt_i, ge_i, eq_, ne_, in_e, nin_e, is_n, isnot_n, idx_tup, idx_lst, eqP_int, eqP_str, atI_0, atI_1, atI_2, ixN_0, ixN_1, ixN_2, decide_eq_true_eq, Bool.not_true, Bool.not_false, if_true, Bool.false_eq_true, if_false, setSl]
  have hlen := rng1_len (a := 0) (b := n) (by omega)
  have := sz
  have hok := rOk_small (i := 0) (j := n) (by omega) (by omega) (by omega) (by omega)
  refine ⟨rngL 0 n 1, it_r1 hok, ?_⟩
  refine comp_map (fun v => PV.int (if toI v = hh then 1 else 0)) (it_r1 hok) (by omega) (fun v hv K R hK => ?_) ?_
  · obtain ⟨i, rfl, _, _⟩ := rng1_mem hv
    refine ⟨by simp [wipeE], ?_⟩
    simp only [wipeE, bindT, bindTs, wpB, wpS, wpE, wpEs, wpO, wpC, ex_some, ex_some1, ex_bl, ex_int, ex_tup, List.getElem?_cons_zero, List.getElem?_cons_succ, List.set_cons_zero, List.set_cons_succ, List.length_cons, List.length_nil, Atom.pv, add_i, sub_i, mul_i, mod_i, fdiv_i, pow_i, lt_i, le_i, gt_i, ge_i, eq_, ne_, in_e, nin_e, is_n, isnot_n, idx_tup, idx_lst, eqP_int, eqP_str, atI_0, atI_1, atI_2, ixN_0, ixN_1, ixN_2, decide_eq_true_eq, Bool.not_true, Bool.not_false, if_true, Bool.false_eq_true, if_false, setSl]
    rw [int_bl]
    have e : PV.int (if decide (i = hh) = true then 1 else 0) = .int (if toI (.int i) = hh then 1 else 0) := by
      by_cases hz : i = hh <;> simp [toI, hz]
    skip
    rw [e]; exact hK
  · rw [ind_pv (h := hh) (c := 1) fun i => rfl]
    exact newL_f (by rw [List.length_map, ind_len]; omega) (beh_ok hp ind_len (.inr rfl) hr hn h)
theorem borrow_ok {k : Nat} {ph : PHp} {n : Nat} {rs : List (List Int)} {p : List Int} {hh : Int} {Q : QV} (hp : p.length = n) (hr : ∀ r ∈ rs, Row n r) (hn : n ≤ 1000)
    (h : Q (.tup ((bhd n rs (at0 p) (at0 (ind n hh (-1)))).map .int)) ph) : callK pgm (k + 2) 3 [.tup [.int n, .tup (rs.map rowPV)], .tup (p.map .int), .int hh] ph Q XF := by
  refine callK_def rfl ⟨rfl, ?_⟩
  show wpB _ _ _ _ _ [some (.tup [.int n, .tup (rs.map rowPV)]), some (.tup (p.map .int)), some (.int hh), none] _
  simp only [df_3, bindT, bindTs, wpB, wpS, wpE, wpEs, wpO, wpC, ex_some, ex_some1, ex_bl, ex_int, ex_tup, List.getElem?_cons_zero, List.getElem?_cons_succ, List.set_cons_zero, List.set_cons_succ, List.length_cons, List.length_nil, Atom.pv, add_i, sub_i, mul_i, mod_i, fdiv_i, pow_i, lt_i, le_i, gt_i, ge_i, eq_, ne_, in_e, nin_e, is_n, isnot_n, idx_tup, idx_lst, eqP_int, eqP_str, atI_0, atI_1, atI_2, ixN_0, ixN_1, ixN_2, decide_eq_true_eq, Bool.not_true, Bool.not_false, if_true, Bool.false_eq_true, if_false, setSl]
  have hlen := rng1_len (a := 0) (b := n) (by omega)
  have := sz
  have hok := rOk_small (i := 0) (j := n) (by omega) (by omega) (by omega) (by omega)
  refine ⟨rngL 0 n 1, it_r1 hok, ?_⟩
  refine comp_map (fun v => PV.int (if toI v = hh then (-1) else 0)) (it_r1 hok) (by omega) (fun v hv K R hK => ?_) ?_
  · obtain ⟨i, rfl, _, _⟩ := rng1_mem hv
    refine ⟨by simp [wipeE], ?_⟩
    simp only [wipeE, bindT, bindTs, wpB, wpS, wpE, wpEs, wpO, wpC, ex_some, ex_some1, ex_bl, ex_int, ex_tup, List.getElem?_cons_zero, List.getElem?_cons_succ, List.set_cons_zero, List.set_cons_succ, List.length_cons, List.length_nil, Atom.pv, add_i, sub_i, mul_i, mod_i, fdiv_i, pow_i, lt_i, le_i, gt_i, ge_i, eq_, ne_, in_e, nin_e, is_n, isnot_n, idx_tup, idx_lst, eqP_int, eqP_str, atI_0, atI_1, atI_2, ixN_0, ixN_1, ixN_2, decide_eq_true_eq, Bool.not_true, Bool.not_false, if_true, Bool.false_eq_true, if_false, setSl]
    rw [int_bl]
    have e : PV.int (-(if decide (i = hh) = true then 1 else 0)) = .int (if toI (.int i) = hh then (-1) else 0) := by
      by_cases hz : i = hh <;> simp [toI, hz]
    refine ⟨_, rfl, ?_⟩
    rw [e]; exact hK
  · rw [ind_pv (h := hh) (c := (-1)) fun i => rfl]
    exact newL_f (by rw [List.length_map, ind_len]; omega) (beh_ok hp ind_len (.inr rfl) hr hn h)
/-! ### plain scripts -/
def IsMin (m : Int) (s : List Int) : Prop := m ∈ s ∧ ∀ y ∈ s, m ≤ y
theorem IsMin.one {m m' : Int} {s : List Int} (h : IsMin m s) (h' : IsMin m' s) : m = m' := by
  have := h.2 _ h'.1
  have := h'.2 _ h.1
  omega
theorem IsMin.zero {m m' : Int} {s : List Int} (h : IsMin m s) (h' : IsMin m' (s.map fun x => x - m)) : m' = 0 := by
  obtain ⟨h1, h2⟩ := h'
  obtain ⟨y, hy, rfl⟩ := List.mem_map.mp h1
  have := h.2 _ hy
  have := h2 (m - m) (List.mem_map.mpr ⟨m, h.1, rfl⟩)
  omega
theorem plain_ok {k : Nat} {ph : PHp} {s : List Int} {Q : QV} (hs : 0 < s.length) (hl : s.length ≤ 1000) (h : ∀ m, IsMin m s → Q (.tup ((s.map fun x => x - m).map .int)) ph) : callK pgm (k + 1) 4 [.tup (s.map .int)] ph Q XF := by
  refine callK_def rfl ⟨rfl, ?_⟩
  show wpB _ _ _ _ _ [some (.tup (s.map .int)), none, none] _
  simp only [df_4, bindT, bindTs, wpB, wpS, wpE, wpEs, wpO, wpC, ex_some, ex_some1, ex_bl, ex_int, ex_tup, List.getElem?_cons_zero, List.getElem?_cons_succ, List.set_cons_zero, List.set_cons_succ, List.length_cons, List.length_nil, Atom.pv, add_i, sub_i, mul_i, mod_i, fdiv_i, pow_i, lt_i, le_i, gt_i, ge_i, eq_, ne_, in_e, nin_e, is_n, isnot_n, idx_tup, idx_lst, eqP_int, eqP_str, atI_0, atI_1, atI_2, ixN_0, ixN_1, ixN_2, decide_eq_true_eq, Bool.not_true, Bool.not_false, if_true, Bool.false_eq_true, if_false, setSl]
  have := sz
  refine ⟨_, s, rfl, intsOf_map s, hs, fun m h1 h2 => ⟨by decide, _, rfl, ?_⟩⟩
  refine comp_map (fun v => PV.int (toI v - m)) rfl (by rw [List.length_map]; omega) (fun v hv K R hK => ?_) ?_
  · obtain ⟨i, _, rfl⟩ := List.mem_map.mp hv
    refine ⟨by simp [wipeE], ?_⟩
    simp only [wipeE, bindT, bindTs, wpB, wpS, wpE, wpEs, wpO, wpC, ex_some, ex_some1, ex_bl, ex_int, ex_tup, List.getElem?_cons_zero, List.getElem?_cons_succ, List.set_cons_zero, List.set_cons_succ, List.length_cons, List.length_nil, Atom.pv, add_i, sub_i, mul_i, mod_i, fdiv_i, pow_i, lt_i, le_i, gt_i, ge_i, eq_, ne_, in_e, nin_e, is_n, isnot_n, idx_tup, idx_lst, eqP_int, eqP_str, atI_0, atI_1, atI_2, ixN_0, ixN_1, ixN_2, decide_eq_true_eq, Bool.not_true, Bool.not_false, if_true, Bool.false_eq_true, if_false, setSl]
    exact hK
  · have e : (s.map PV.int).map (fun v => PV.int (toI v - m)) = (s.map fun x => x - m).map .int := by rw [List.map_map, List.map_map]; rfl
    rw [e]
    exact newL_f (by rw [List.length_map, List.length_map]; omega) (tuple_l rfl (h m ⟨h1, h2⟩))
theorem lplain_ok {k : Nat} {ph : PHp} {s : List Int} {Q : QV} (hs : 0 < s.length) (hl : s.length ≤ 1000) (h : ∀ m, IsMin m s → Q (.tup ((s.map fun x => x - m).map .int)) ph) : callK pgm (k + 1) 13 [.tup (s.map .int)] ph Q XF := by
  refine callK_def rfl ⟨rfl, ?_⟩
  show wpB _ _ _ _ _ [some (.tup (s.map .int)), none, none] _
  simp only [df_13, bindT, bindTs, wpB, wpS, wpE, wpEs, wpO, wpC, ex_some, ex_some1, ex_bl, ex_int, ex_tup, List.getElem?_cons_zero, List.getElem?_cons_succ, List.set_cons_zero, List.set_cons_succ, List.length_cons, List.length_nil, Atom.pv, add_i, sub_i, mul_i, mod_i, fdiv_i, pow_i, lt_i, le_i, gt_i, ge_i, eq_, ne_, in_e, nin_e, is_n, isnot_n, idx_tup, idx_lst, eqP_int, eqP_str, atI_0, atI_1, atI_2, ixN_0, ixN_1, ixN_2, decide_eq_true_eq, Bool.not_true, Bool.not_false, if_true, Bool.false_eq_true, if_false, setSl]
  have := sz
  refine ⟨_, s, rfl, intsOf_map s, hs, fun m h1 h2 => ⟨by decide, _, rfl, ?_⟩⟩
  refine comp_map (fun v => PV.int (toI v - m)) rfl (by rw [List.length_map]; omega) (fun v hv K R hK => ?_) ?_
  · obtain ⟨i, _, rfl⟩ := List.mem_map.mp hv
    refine ⟨by simp [wipeE], ?_⟩
    simp only [wipeE, bindT, bindTs, wpB, wpS, wpE, wpEs, wpO, wpC, ex_some, ex_some1, ex_bl, ex_int, ex_tup, List.getElem?_cons_zero, List.getElem?_cons_succ, List.set_cons_zero, List.set_cons_succ, List.length_cons, List.length_nil, Atom.pv, add_i, sub_i, mul_i, mod_i, fdiv_i, pow_i, lt_i, le_i, gt_i, ge_i, eq_, ne_, in_e, nin_e, is_n, isnot_n, idx_tup, idx_lst, eqP_int, eqP_str, atI_0, atI_1, atI_2, ixN_0, ixN_1, ixN_2, decide_eq_true_eq, Bool.not_true, Bool.not_false, if_true, Bool.false_eq_true, if_false, setSl]
    exact hK
  · have e : (s.map PV.int).map (fun v => PV.int (toI v - m)) = (s.map fun x => x - m).map .int := by rw [List.map_map, List.map_map]; rfl
    rw [e]
    exact newL_f (by rw [List.length_map, List.length_map]; omega) (tuple_l rfl (h m ⟨h1, h2⟩))
/-! ### purses added -/
def addP : PV → PV
  | .tup [.int i, .int j] => .int (i + j)
  | v => v
theorem zip2_add : ∀ (a b : List Int), (zip2L (a.map PV.int) (b.map PV.int)).map addP = (List.zipWith (· + ·) a b).map .int
  | [], _ => by simp [zip2L]
  | _ :: _, [] => by simp [zip2L]
  | x :: a, y :: b => by
    simp only [List.map_cons, zip2L, List.zipWith_cons_cons, zip2_add a b]
    rfl
theorem zip2_mem : ∀ {a b : List Int} {v : PV}, v ∈ zip2L (a.map PV.int) (b.map PV.int) → ∃ i j, v = .tup [.int i, .int j]
  | [], _, v, h => by simp [zip2L] at h
  | _ :: _, [], v, h => by simp [zip2L] at h
  | x :: a, y :: b, v, h => by
    simp only [List.map_cons, zip2L, List.mem_cons] at h
    rcases h with rfl | h
    · exact ⟨_, _, rfl⟩
    · exact zip2_mem h
theorem zip2_len : ∀ {a b : List PV}, (zip2L a b).length ≤ a.length
  | [], _ => by simp [zip2L]
  | _ :: _, [] => by simp [zip2L]
  | x :: a, y :: b => by
    have := zip2_len (a := a) (b := b)
    simp only [zip2L, List.length_cons]; omega
theorem added_ok {k : Nat} {ph : PHp} {a b : List Int} {Q : QV} (hl : a.length ≤ 1000) (h : Q (.tup ((List.zipWith (· + ·) a b).map .int)) ph) : callK pgm (k + 1) 5 [.tup (a.map .int), .tup (b.map .int)] ph Q XF := by
  refine callK_def rfl ⟨rfl, ?_⟩
  show wpB _ _ _ _ _ [some (.tup (a.map .int)), some (.tup (b.map .int)), none, none] _
  simp only [df_5, bindT, bindTs, wpB, wpS, wpE, wpEs, wpO, wpC, ex_some, ex_some1, ex_bl, ex_int, ex_tup, List.getElem?_cons_zero, List.getElem?_cons_succ, List.set_cons_zero, List.set_cons_succ, List.length_cons, List.length_nil, Atom.pv, add_i, sub_i, mul_i, mod_i, fdiv_i, pow_i, lt_i, le_i, gt_i, ge_i, eq_, ne_, in_e, nin_e, is_n, isnot_n, idx_tup, idx_lst, eqP_int, eqP_str, atI_0, atI_1, atI_2, ixN_0, ixN_1, ixN_2, decide_eq_true_eq, Bool.not_true, Bool.not_false, if_true, Bool.false_eq_true, if_false, setSl]
  have := sz
  have hz := zip2_len (a := a.map PV.int) (b := b.map PV.int)
  rw [List.length_map] at hz
  refine ⟨zip2L (a.map .int) (b.map .int), rfl, ?_⟩
  refine comp_map addP rfl (by omega) (fun v hv K R hK => ?_) ?_
  · obtain ⟨i, j, rfl⟩ := zip2_mem hv
    simp only [wipeE, bindT, bindTs, wpB, wpS, wpE, wpEs, wpO, wpC, ex_some, ex_some1, ex_bl, ex_int, ex_tup, List.getElem?_cons_zero, List.getElem?_cons_succ, List.set_cons_zero, List.set_cons_succ, List.length_cons, List.length_nil, Atom.pv, add_i, sub_i, mul_i, mod_i, fdiv_i, pow_i, lt_i, le_i, gt_i, ge_i, eq_, ne_, in_e, nin_e, is_n, isnot_n, idx_tup, idx_lst, eqP_int, eqP_str, atI_0, atI_1, atI_2, ixN_0, ixN_1, ixN_2, decide_eq_true_eq, Bool.not_true, Bool.not_false, if_true, Bool.false_eq_true, if_false, setSl]
    exact ⟨trivial, by decide, by decide, hK⟩
  · rw [zip2_add]
    exact newL_f (by rw [List.length_map, List.length_zipWith]; omega) (tuple_l rfl h)
/-! ### one by one -/
def sg (x : Int) : Int := if 0 < x then 1 else -1
def dd (s : Nat → Int) (i : Nat) : List (List Int) := (List.range i).flatMap fun (j : Nat) => List.replicate (s j).natAbs [(j : Int), sg (s j)]
theorem dd_succ {s : Nat → Int} {i : Nat} : dd s (i + 1) = dd s i ++ List.replicate (s i).natAbs [(i : Int), sg (s i)] := by
  simp [dd, List.range_succ]
theorem dd_len {s : Nat → Int} {c : Nat} : ∀ {i : Nat}, (∀ j, j < i → (s j).natAbs ≤ c) → (dd s i).length ≤ i * c
  | 0, _ => by simp [dd]
  | i + 1, h => by
    have := dd_len (i := i) fun j hj => h j (by omega)
    have := h i (by omega)
    rw [dd_succ, List.length_append, List.length_replicate, Nat.add_mul]; omega
theorem dd_mem {s : Nat → Int} {i : Nat} {r : List Int} (h : r ∈ dd s i) : ∃ j : Nat, r = [(j : Int), sg (s j)] ∧ j < i := by
  obtain ⟨j, hj, h⟩ := List.mem_flatMap.mp h
  exact ⟨j, (List.mem_replicate.mp h).2, List.mem_range.mp hj⟩
def ef (r : List Int) (h : Nat) : Int := match r with
  | [a, c] => if (h : Int) = a then (if 0 < c then 1 else -1) else 0
  | _ => 0
def eff (rs : List (List Int)) (h : Nat) : Int := (rs.map fun r => ef r h).sum
theorem eff_perm {h : Nat} {a b : List (List Int)} (p : a.Perm b) : eff a h = eff b h := by
  induction p with
  | nil => rfl
  | cons x _ ih => simp only [eff, List.map_cons, List.sum_cons] at ih ⊢; omega
  | swap x y l => simp only [eff, List.map_cons, List.sum_cons]; omega
  | trans _ _ i1 i2 => exact i1.trans i2
theorem eff_app {h : Nat} {a b : List (List Int)} : eff (a ++ b) h = eff a h + eff b h := by simp [eff]
theorem eff_rep {h k : Nat} {r : List Int} : eff (List.replicate k r) h = k * ef r h := by
  induction k with
  | zero => simp [eff]
  | succ k ih =>
    simp only [eff, List.replicate_succ, List.map_cons, List.sum_cons] at ih ⊢
    rw [ih]
    have : ((k + 1 : Nat) : Int) = k + 1 := by omega
    rw [this, Int.add_mul]; omega
theorem sg2 (x : Int) : (if 0 < sg x then (1 : Int) else -1) = sg x := by by_cases h : 0 < x <;> simp [sg, h]
theorem abs_sg (x : Int) : (x.natAbs : Int) * sg x = x := by by_cases h : 0 < x <;> simp [sg, h] <;> omega
theorem eff_dd {s : Nat → Int} {h : Nat} : ∀ {i : Nat}, eff (dd s i) h = if h < i then s h else 0
  | 0 => rfl
  | i + 1 => by
    rw [dd_succ, eff_app, eff_rep, eff_dd]
    simp only [ef]
    rw [sg2]
    by_cases e : h = i
    · subst e
      rw [if_neg (by omega), if_pos rfl, if_pos (by omega), abs_sg]
      omega
    · rw [if_neg (show ¬ (h : Int) = i by omega)]
      split <;> split <;> omega
theorem enumL_get : ∀ {l : List PV} {k i : Nat} {v : PV}, (enumL k l)[i]? = some v → ∃ x, l[i]? = some x ∧ v = .tup [.int ((k + i : Nat) : Int), x]
  | [], k, i, v, h => by simp [enumL] at h
  | y :: l, k, 0, v, h => by
    simp only [enumL, List.getElem?_cons_zero] at h
    cases h
    exact ⟨y, rfl, rfl⟩
  | y :: l, k, i + 1, v, h => by
    simp only [enumL, List.getElem?_cons_succ] at h
    obtain ⟨x, h1, h2⟩ := enumL_get h
    exact ⟨x, h1, by rw [h2, show k + 1 + i = k + (i + 1) by omega]⟩
theorem enumL_len : ∀ {l : List PV} {k : Nat}, (enumL k l).length = l.length
  | [], _ => rfl
  | y :: l, k => by simp only [enumL, List.length_cons, enumL_len]
theorem rep1_eq {x : PV} {k : Nat} : (List.replicate k [x]).flatten = List.replicate k x := by
  induction k with
  | zero => rfl
  | succ k ih => rw [List.replicate_succ, List.flatten_cons, ih, List.replicate_succ]; rfl
theorem shaped_rows (xs : List (List Int)) : SeqAt.shaped (.list (xs.map fun r => .tuple (r.map .int))) = true := by
  have h0 : ∀ xs : List Int, PyData.canLayAll0 (xs.map .int) = true := by
    intro xs
    induction xs with
    | nil => rfl
    | cons x xs ih => simp [PyData.canLayAll0, PyData.canLay0, ih]
  have h1 : ∀ xs : List (List Int), PyData.canLayAll0 (xs.map fun r => .tuple (r.map .int)) = true := by
    intro xs
    induction xs with
    | nil => rfl
    | cons x xs ih => simp [PyData.canLayAll0, PyData.canLay0, ih, h0]
  have h2 : ∀ xs : List Int, PyData.depthAll (xs.map .int) = 0 := PySem.W.depth_ints
  have h3 : ∀ xs : List (List Int), PyData.depthAll (xs.map fun r => .tuple (r.map .int)) ≤ 1 := by
    intro xs
    induction xs with
    | nil => simp [PyData.depthAll]
    | cons x xs ih => simp [PyData.depthAll, PyData.depth, h2]; omega
  have h4 := h3 xs
  simp [SeqAt.shaped, PyData.canLay0, h1, PyData.depth]
  omega
theorem bhd_zero {p : List Int} {rs : List (List Int)} : bhd p.length rs (at0 p) (fun _ => 0) = p := by
  apply List.ext_getElem
  · simp [bhd]
  · intro i h1 h2
    simp [bhd, flow_const, at0, h2]
theorem abs_i {own : Bool} {i : Int} {ph : PHp} {Q : QV} : biS .abs own [.int i] ph Q = Q (.int (if i < 0 then -i else i)) ph := rfl
theorem obo_ok {k : Nat} {xs : List Int} {m : Int} {ex : PHp} {n : Nat} {rs : List (List Int)} {p s : List Int} {Q : QV} (hg : Gd xs m) (hp : p.length = n) (hs : s.length = n) (hsb : ∀ i, i < n → (at0 s i).natAbs ≤ 100) (hr : ∀ r ∈ rs, Row n r) (hn : n ≤ 100)
    (h : ∀ xs' m', Gd xs' m' → Q (.tup ((bhd n rs (at0 p) (at0 s)).map .int)) (D xs' m' ++ ex)) : callK pgm (k + 4) 15 [.ref 1, .tup [.int n, .tup (rs.map rowPV)], .tup (p.map .int), .tup (s.map .int)] (D xs m ++ ex) Q XF := by
  refine callK_def rfl ⟨rfl, ?_⟩
  show wpB _ _ _ _ _ [some (.ref 1), some (.tup [.int n, .tup (rs.map rowPV)]), some (.tup (p.map .int)), some (.tup (s.map .int)), none, none, none, none] _
  simp only [df_15, bindT, bindTs, wpB, wpS, wpE, wpEs, wpO, wpC, ex_some, ex_some1, ex_bl, ex_int, ex_tup, List.getElem?_cons_zero, List.getElem?_cons_succ, List.set_cons_zero, List.set_cons_succ, List.length_cons, List.length_nil, Atom.pv, add_i, sub_i, mul_i, mod_i, fdiv_i, pow_i, lt_i, le_i, gt_i, ge_i, eq_, ne_, in_e, nin_e, is_n, isnot_n, idx_tup, idx_lst, eqP_int, eqP_str, atI_0, atI_1, atI_2, ixN_0, ixN_1, ixN_2, decide_eq_true_eq, Bool.not_true, Bool.not_false, if_true, Bool.false_eq_true, if_false, setSl]
  have hsz := sz
  have hdl : ∀ i, i ≤ n → (dd (at0 s) i).length ≤ 10000 := fun i hi => by
    have h1 := dd_len (s := at0 s) (c := 100) (i := i) fun j hj => hsb j (by omega)
    omega
  refine newL_t (by decide) ⟨by decide, enumL 0 (s.map .int), rfl, ?_⟩
  rw [dlen2, List.append_assoc]
  refine forL_rule (fun i env ph' => ∃ a5 a6 a7, ph' = D xs m ++ (ex ++ [.lst ((dd (at0 s) i).map rowPV)]) ∧ env = [some (.ref 1), some (.tup [.int n, .tup (rs.map rowPV)]), some (.tup (p.map .int)), some (.tup (s.map .int)), some (.ref (ex.length + 2)), a5, a6, a7]) ?_ ?_ ⟨none, none, none, rfl, rfl⟩
  · rintro i v env ph' hv ⟨a5, a6, a7, rfl, rfl⟩
    refine ⟨rfl, fun N hN => ?_⟩
    obtain ⟨x, hx, rfl⟩ := enumL_get hv
    rw [List.getElem?_map] at hx
    obtain ⟨x, hx1, rfl⟩ := Option.map_eq_some_iff.mp hx
    have hi : i < n := by rw [← hs]; exact (List.getElem?_eq_some_iff.mp hx1).1
    have hxe : x = at0 s i := by rw [get_at0 (by omega)] at hx1; exact (Option.some.inj hx1).symm
    have hxb := hsb i hi
    rw [← hxe] at hxb
    have hl1 := hdl i (by omega)
    have hl2 := hdl (i + 1) (by omega)
    simp only [bindT, bindTs, wpB, wpS, wpE, wpEs, wpO, wpC, ex_some, ex_some1, ex_bl, ex_int, ex_tup, List.getElem?_cons_zero, List.getElem?_cons_succ, List.set_cons_zero, List.set_cons_succ, List.length_cons, List.length_nil, Atom.pv, add_i, sub_i, mul_i, mod_i, fdiv_i, pow_i, lt_i, le_i, gt_i, ge_i, eq_, ne_, in_e, nin_e, is_n, isnot_n, idx_tup, idx_lst, eqP_int, eqP_str, atI_0, atI_1, atI_2, ixN_0, ixN_1, ixN_2, decide_eq_true_eq, Bool.not_true, Bool.not_false, if_true, Bool.false_eq_true, if_false, setSl]
    refine ⟨trivial, by decide, by decide, by simp only [lstOf, d2]; rfl, ?_⟩
    have key : ∀ c, c = sg x → (0 + 1 + 1 ≤ sizeLine ∧ newL false [PV.tup [.int ((0 + i : Nat) : Int), .int c]] (D xs m ++ (ex ++ [PO.lst (List.map rowPV (dd (at0 s) i))])) fun x_1 ph1 => biS Bi.abs false [.int x] ph1 fun y ph2 => op2S .mul false x_1 y ph2 fun v ph1 => mtS .extend (.ref (ex.length + 2)) [v] ph1 fun x_2 ph1 => N [some (.ref 1), some (.tup [.int n, .tup (rs.map rowPV)]), some (.tup (p.map .int)), some (.tup (s.map .int)), some (.ref (ex.length + 2)), some (.int ((0 + i : Nat) : Int)), some (.int x), a7] ph1) := by
      rintro c rfl
      refine ⟨by omega, newL_f (by simp; omega) ?_⟩
      rw [abs_i]
      refine mul_l rfl (by split <;> omega) (by simp) (newL_f (by rw [rep1_eq, List.length_replicate]; split <;> omega) ?_)
      refine ⟨(dd (at0 s) i).map rowPV, _, d2, rfl, by rw [rep1_eq, List.length_replicate, List.length_map]; split <;> omega, ?_⟩
      rw [s2]
      refine hN _ _ ⟨_, _, _, ?_, rfl⟩
      rw [rep1_eq, dd_succ, List.map_append, List.map_replicate, show (if x < 0 then -x else x).toNat = x.natAbs by split <;> omega, hxe, Nat.zero_add]
      rfl
    split
    · rename_i hz
      exact key 1 (by simp [sg, hz])
    · rename_i hz
      exact key (-1) (by simp [sg, hz])
  · rintro env ph' ⟨a5, a6, a7, rfl, rfl⟩
    refine ⟨rfl, ?_⟩
    rw [enumL_len, List.length_map, hs]
    simp only [bindT, bindTs, wpB, wpS, wpE, wpEs, wpO, wpC, ex_some, ex_some1, ex_bl, ex_int, ex_tup, List.getElem?_cons_zero, List.getElem?_cons_succ, List.set_cons_zero, List.set_cons_succ, List.length_cons, List.length_nil, Atom.pv, add_i, sub_i, mul_i, mod_i, fdiv_i, pow_i, lt_i, le_i, gt_i, ge_i, eq_, ne_, in_e, nin_e, is_n, isnot_n, idx_tup, idx_lst, eqP_int, eqP_str, atI_0, atI_1, atI_2, ixN_0, ixN_1, ixN_2, decide_eq_true_eq, Bool.not_true, Bool.not_false, if_true, Bool.false_eq_true, if_false, setSl]
    refine mixG_ok rowPV (fun r => .tuple (r.map .int)) (fun ph r => .tup (dat_ints ph r)) shaped_rows (fun n r => .tup (oldL_ints r)) hg (vs := dd (at0 s) n) (by simp only [seqOf, lstOf, d2]) (by have := hdl n (Nat.le_refl _); omega) fun ws xs1 m1 hg1 hperm => ⟨_, rfl, ?_⟩
    have hws : eff ws = eff (dd (at0 s) n) := funext fun h => eff_perm hperm
    refine forL_rule (fun i env ph' => ∃ a5 a6 a7, ph' = D xs1 m1 ++ (ex ++ [.lst ((dd (at0 s) n).map rowPV)]) ∧ env = [some (.ref 1), some (.tup [.int n, .tup (rs.map rowPV)]), some (.tup ((bhd n rs (at0 p) (eff (ws.take i))).map .int)), some (.tup (s.map .int)), some (.ref (ex.length + 2)), a5, a6, a7]) ?_ ?_ ⟨_, _, _, rfl, by rw [List.take_zero, show eff [] = fun _ => 0 from rfl, ← hp, bhd_zero]⟩
    · rintro i v env ph' hv ⟨a5, a6, a7, rfl, rfl⟩
      refine ⟨rfl, fun N hN => ?_⟩
      rw [List.getElem?_map] at hv
      obtain ⟨r, hr1, rfl⟩ := Option.map_eq_some_iff.mp hv
      obtain ⟨j, rfl, hj⟩ := dd_mem (hperm.mem_iff.mp (List.mem_of_getElem? hr1))
      have e : rowPV [(j : Int), sg (at0 s j)] = .tup [.int j, .int (sg (at0 s j))] := rfl
      rw [e]
      have ht : ws.take (i + 1) = ws.take i ++ [[(j : Int), sg (at0 s j)]] := by rw [List.take_succ, hr1]; rfl
      simp only [bindT, bindTs, wpB, wpS, wpE, wpEs, wpO, wpC, ex_some, ex_some1, ex_bl, ex_int, ex_tup, List.getElem?_cons_zero, List.getElem?_cons_succ, List.set_cons_zero, List.set_cons_succ, List.length_cons, List.length_nil, Atom.pv, add_i, sub_i, mul_i, mod_i, fdiv_i, pow_i, lt_i, le_i, gt_i, ge_i, eq_, ne_, in_e, nin_e, is_n, isnot_n, idx_tup, idx_lst, eqP_int, eqP_str, atI_0, atI_1, atI_2, ixN_0, ixN_1, ixN_2, decide_eq_true_eq, Bool.not_true, Bool.not_false, if_true, Bool.false_eq_true, if_false, setSl]
      have hst : ∀ c, c = sg (at0 s j) → bhd n rs (at0 (bhd n rs (at0 p) (eff (ws.take i)))) (at0 (ind n j c)) = bhd n rs (at0 p) (eff (ws.take (i + 1))) := fun c hc => by
        rw [bhd_bhd]
        refine bhd_congr hr (fun _ _ => rfl) fun h hh => ?_
        rw [ht, eff_app, at0_ind hh, hc]
        have e3 : eff [[(j : Int), sg (at0 s j)]] h = ef [(j : Int), sg (at0 s j)] h := by simp [eff]
        rw [e3]
        simp only [ef]
        rw [sg2]
      refine ⟨trivial, by decide, by decide, ?_⟩
      split
      · rename_i hc
        refine lend_ok bhd_len hr (by omega) ⟨by decide, ?_⟩
        rw [hst 1 (by by_cases hz : 0 < at0 s j <;> simp [sg, hz] at hc ⊢)]
        exact hN _ _ ⟨_, _, _, rfl, rfl⟩
      · rename_i hc
        refine ⟨_, rfl, borrow_ok bhd_len hr (by omega) ⟨by decide, ?_⟩⟩
        rw [hst (-1) (by by_cases hz : 0 < at0 s j <;> simp [sg, hz] at hc ⊢)]
        exact hN _ _ ⟨_, _, _, rfl, rfl⟩
    · rintro env ph' ⟨a5, a6, a7, rfl, rfl⟩
      refine ⟨rfl, ?_⟩
      rw [List.length_map, List.take_length, hws]
      simp only [bindT, bindTs, wpB, wpS, wpE, wpEs, wpO, wpC, ex_some, ex_some1, ex_bl, ex_int, ex_tup, List.getElem?_cons_zero, List.getElem?_cons_succ, List.set_cons_zero, List.set_cons_succ, List.length_cons, List.length_nil, Atom.pv, add_i, sub_i, mul_i, mod_i, fdiv_i, pow_i, lt_i, le_i, gt_i, ge_i, eq_, ne_, in_e, nin_e, is_n, isnot_n, idx_tup, idx_lst, eqP_int, eqP_str, atI_0, atI_1, atI_2, ixN_0, ixN_1, ixN_2, decide_eq_true_eq, Bool.not_true, Bool.not_false, if_true, Bool.false_eq_true, if_false, setSl]
      refine ret_D (frz_old (.tup (oldL_ints _))) ?_
      have e : bhd n rs (at0 p) (eff (dd (at0 s) n)) = bhd n rs (at0 p) (at0 s) := bhd_congr hr (fun _ _ => rfl) fun i hi => by rw [eff_dd, if_pos hi]
      rw [e]
      exact h _ _ hg1
/-! ### bounds -/
def Bnd (c : Int) (n : Nat) (s : Nat → Int) : Prop := ∀ i, i < n → -c ≤ s i ∧ s i ≤ c
theorem flow_bnd {n : Nat} {s : Nat → Int} {h : Nat} (hs : Bnd 30000000000000000000000000000000000000000 n s) : ∀ {rs : List (List Int)}, (∀ r ∈ rs, Row n r) → -((rs.length : Int) * 120000000000000000000000000000000000000000) ≤ flow rs s h ∧ flow rs s h ≤ (rs.length : Int) * 120000000000000000000000000000000000000000
  | [], _ => by simp [flow]
  | r :: rs, hr => by
    have ih := flow_bnd (h := h) hs (rs := rs) fun x hx => hr x (List.mem_cons_of_mem _ hx)
    obtain ⟨a, b, rfl, a0, a1, b0, b1⟩ := hr r (List.mem_cons_self ..)
    have ha := hs a.toNat (by omega)
    have hb := hs b.toNat (by omega)
    rw [flow_cons, List.length_cons]
    simp only [stepAt]
    split <;> split <;> omega
theorem shw_big {w dp : Nat} {ph : PHp} {i : Int} (h : -10000000000000000000000000000000000000000000000 ≤ i ∧ i ≤ 10000000000000000000000000000000000000000000000) (hw : 200 ≤ w) : Shw 50 w dp ph (.int i) := ⟨_, .int i, sm_int 47 (by omega) (by decide) (by decide) (by omega) (by decide)⟩
theorem shw_bigs {ph : PHp} {xs : List Int} (h : ∀ x ∈ xs, -10000000000000000000000000000000000000000000000 ≤ x ∧ x ≤ 10000000000000000000000000000000000000000000000) (hl : xs.length ≤ 100) : Shw 50 30000 4 ph (.tup (xs.map .int)) :=
  (shw_tup (w := 200) (dp := 0) fun v hv => by
    obtain ⟨x, hx, rfl⟩ := List.mem_map.mp hv
    exact shw_big (h x hx) (by decide)).mono (by rw [List.length_map]; omega) (by decide)
theorem shw_bhd {ph : PHp} {n : Nat} {rs : List (List Int)} {p s : Nat → Int} (hp : Bnd 10000000000000000000000000000000000000000 n p) (hs : Bnd 30000000000000000000000000000000000000000 n s) (hr : ∀ r ∈ rs, Row n r) (hrl : rs.length ≤ 300) (hn : n ≤ 100) : Shw 50 30000 4 ph (.tup ((bhd n rs p s).map .int)) := by
  refine shw_bigs (fun x hx => ?_) (by rw [bhd_len]; exact hn)
  obtain ⟨i, hi, rfl⟩ := List.mem_map.mp hx
  rw [List.mem_range] at hi
  have h1 := hp i hi
  have h2 := flow_bnd (h := i) hs hr
  omega
theorem at0_mem {xs : List Int} {c : Int} (h : ∀ x ∈ xs, -c ≤ x ∧ x ≤ c) : Bnd c xs.length (at0 xs) := fun i hi => h _ (by
  have := get_at0 hi
  exact List.mem_of_getElem? this)
theorem sum_bnd : ∀ {xs : List Int}, (∀ x ∈ xs, -10000000000000000000000000000000000000000 ≤ x ∧ x ≤ 10000000000000000000000000000000000000000) → -((xs.length : Int) * 10000000000000000000000000000000000000000) ≤ xs.sum ∧ xs.sum ≤ (xs.length : Int) * 10000000000000000000000000000000000000000
  | [], _ => by simp
  | x :: xs, h => by
    have := sum_bnd fun y hy => h y (List.mem_cons_of_mem _ hy)
    have := h x (List.mem_cons_self ..)
    rw [List.sum_cons, List.length_cons]
    omega
mutual
theorem dat_any {ph ph' : PHp} : ∀ {v : PV} {d : PyData}, Old 0 v → Dat ph v d → Dat ph' v d
  | _, _, _, .non => .non
  | _, _, _, .bl b => .bl b
  | _, _, _, .int b => .int b
  | _, _, _, .str b => .str b
  | _, _, .tup o, .tup h => .tup (dats_any o h)
  | _, _, .lst o, .lst h => .lst (dats_any o h)
  | _, _, .ref o, .ref _ _ => absurd o (Nat.not_lt_zero _)
  | _, _, .ref o, .dict _ _ => absurd o (Nat.not_lt_zero _)
theorem dats_any {ph ph' : PHp} : ∀ {v : List PV} {d : List PyData}, OldL 0 v → DatAll ph v d → DatAll ph' v d
  | _, _, _, .nil => .nil
  | _, _, .cons o os, .cons h t => .cons (dat_any o h) (dats_any os t)
end
theorem repr_list {ph : PHp} {xs : List PV} (hx : ∀ v ∈ xs, Shw 50 40000 5 ph v) (hl : xs.length ≤ 4) : ∃ d, Dat ph (.lst xs) d ∧ reprS d := by
  obtain ⟨d, h1, h2⟩ := shw_lst hx
  have h3 := h2.mono (w' := 160004) (dp' := 6) (by omega) (by omega)
  exact ⟨d, h1, h3.reprS (by decide) (by decide) (by decide)⟩
theorem repr_one {ph : PHp} {v : PV} (hx : Shw 50 40000 5 ph v) : ∃ d, Dat ph v d ∧ reprS d := by
  obtain ⟨d, h1, h2⟩ := hx
  exact ⟨d, h1, h2.reprS (by decide) (by decide) (by decide)⟩
theorem bhd_shift {n : Nat} {rs : List (List Int)} {p s : Nat → Int} {c : Int} : bhd n rs p (fun i => s i + c) = bhd n rs p s := by
  unfold bhd
  apply List.map_congr_left
  intro h _
  rw [flow_add (s := s) (t := fun _ => c), flow_const]; omega
theorem bhd_const {p : List Int} {rs : List (List Int)} {c : Int} : bhd p.length rs (at0 p) (fun _ => c) = p := by
  apply List.ext_getElem
  · simp [bhd]
  · intro i h1 h2
    simp [bhd, flow_const, at0, h2]
theorem ind_neg {n : Nat} {h : Int} : ((ind n h 1).map PV.int).map (fun v => PV.int (-(toI v))) = (ind n h (-1)).map .int := by
  rw [List.map_map, ind, ind, List.map_map, List.map_map]
  apply List.map_congr_left
  intro i _
  simp only [Function.comp, toI]
  split <;> rfl
theorem at0_map {s : List Int} {f : Int → Int} {i : Nat} (h : i < s.length) : at0 (s.map f) i = f (at0 s i) := by simp [at0, h]
theorem at0_zip {a b : List Int} {i : Nat} (h1 : i < a.length) (h2 : i < b.length) : at0 (List.zipWith (· + ·) a b) i = at0 a i + at0 b i := by
  simp [at0, h1, h2, List.getElem?_zipWith]
theorem at0_rep {n : Nat} {c : Int} {i : Nat} (h : i < n) : at0 (List.replicate n c) i = c := by simp [at0, h]
theorem money_ok {k : Nat} {p : List Int} {ph : PHp} {Q : QV} (h : Q (.int p.sum) ph) : callK pgm (k + 1) 0 [.tup (p.map .int)] ph Q XF := by
  refine callK_def rfl ⟨rfl, ?_⟩
  show wpB _ _ _ _ _ [some (.tup (p.map .int))] _
  simp only [df_0, bindT, bindTs, wpB, wpS, wpE, wpEs, wpO, wpC, ex_some, ex_some1, ex_bl, ex_int, ex_tup, List.getElem?_cons_zero, List.getElem?_cons_succ, List.set_cons_zero, List.set_cons_succ, List.length_cons, List.length_nil, Atom.pv, add_i, sub_i, mul_i, mod_i, fdiv_i, pow_i, lt_i, le_i, gt_i, ge_i, eq_, ne_, in_e, nin_e, is_n, isnot_n, idx_tup, idx_lst, eqP_int, eqP_str, atI_0, atI_1, atI_2, ixN_0, ixN_1, ixN_2, decide_eq_true_eq, Bool.not_true, Bool.not_false, if_true, Bool.false_eq_true, if_false, setSl]
  exact ⟨_, p, rfl, intsOf_map p, h⟩
theorem law_ok (ns : List Int) (hl : ns.length ≤ 63) (hb : ∀ z ∈ ns, Builtin.Int.intBits z ≤ 1048576) : callK lw.pg 60 16 [.scr ns] [] (fun v _ => v = .bl true) XF := by
  show callK pgm 60 16 _ _ _ _
  refine callK_def rfl ⟨rfl, ?_⟩
  show wpB _ _ _ _ _ [some (.scr ns), none, none, none, none, none, none, none, none, none, none, none, none, none, none, none, none, none, none, none] _
  simp only [df_16, wpB, wpS, wpE, wpEs, bindT, bindTs, wpB, wpS, wpE, wpEs, wpO, wpC, ex_some, ex_some1, ex_bl, ex_int, ex_tup, List.getElem?_cons_zero, List.getElem?_cons_succ, List.set_cons_zero, List.set_cons_succ, List.length_cons, List.length_nil, Atom.pv, add_i, sub_i, mul_i, mod_i, fdiv_i, pow_i, lt_i, le_i, gt_i, ge_i, eq_, ne_, in_e, nin_e, is_n, isnot_n, idx_tup, idx_lst, eqP_int, eqP_str, atI_0, atI_1, atI_2, ixN_0, ixN_1, ixN_2, decide_eq_true_eq, Bool.not_true, Bool.not_false, if_true, Bool.false_eq_true, if_false, setSl]
  refine deck_ok fun xs m hg => ⟨by decide, rngL 0 5 1, it_r1 (by decide), ?_⟩
  refine forL_rule (fun i env ph => ∃ xs m a2 a3 a4 a5 a6 a7 a8 a9 a10 a11 a12 a13 a14 a15 a16 a17 a18 a19, Gd xs m ∧ ph = D xs m ++ [] ∧ env = [some (.scr ns), some (.ref 1), a2, a3, a4, a5, a6, a7, a8, a9, a10, a11, a12, a13, a14, a15, a16, a17, a18, a19]) ?_ ?_ ⟨xs, m, none, none, none, none, none, none, none, none, none, none, none, none, none, none, none, none, none, none, hg, (List.append_nil _).symm, rfl⟩
  · rintro i v env ph hv ⟨xs, m, a2, a3, a4, a5, a6, a7, a8, a9, a10, a11, a12, a13, a14, a15, a16, a17, a18, a19, hg, rfl, rfl⟩
    refine ⟨it_r1 (by decide), fun N hN => ⟨by simp, ?_⟩⟩
    have hsz := sz
    simp only [bindT, bindTs, wpB, wpS, wpE, wpEs, wpO, wpC, ex_some, ex_some1, ex_bl, ex_int, ex_tup, List.getElem?_cons_zero, List.getElem?_cons_succ, List.set_cons_zero, List.set_cons_succ, List.length_cons, List.length_nil, Atom.pv, add_i, sub_i, mul_i, mod_i, fdiv_i, pow_i, lt_i, le_i, gt_i, ge_i, eq_, ne_, in_e, nin_e, is_n, isnot_n, idx_tup, idx_lst, eqP_int, eqP_str, atI_0, atI_1, atI_2, ixN_0, ixN_1, ixN_2, decide_eq_true_eq, Bool.not_true, Bool.not_false, if_true, Bool.false_eq_true, if_false, setSl]
    refine newL_f (by decide) (pickL_ok hg (by decide) (by decide) fun most xs1 m1 hg1 hmost => ?_)
    have hmost' : ∃ z : Int, most = .int z ∧ 1 ≤ z ∧ z ≤ 8 := by
      simp at hmost
      rcases hmost with rfl | rfl | rfl | rfl <;> exact ⟨_, rfl, by omega, by omega⟩
    obtain ⟨most, rfl, u1, u2⟩ := hmost'
    refine newL_f (by decide) (pickL_ok hg1 (by decide) (by decide) fun more xs2 m2 hg2 hmore => ?_)
    have hmore' : ∃ z : Int, more = .int z ∧ 0 ≤ z ∧ z ≤ 9 := by
      simp at hmore
      rcases hmore with rfl | rfl | rfl <;> exact ⟨_, rfl, by omega, by omega⟩
    obtain ⟨more, rfl, u3, u4⟩ := hmore'
    refine town_ok hg2 (by omega) (by omega) (by omega) (by omega) fun n' rs xs3 m3 hg3 n1 n2 hrl hr => ⟨by simp, ?_⟩
    obtain ⟨n, rfl⟩ := Int.eq_ofNat_of_zero_le (show 0 ≤ n' by omega)
    simp only [bindT, bindTs, wpB, wpS, wpE, wpEs, wpO, wpC, ex_some, ex_some1, ex_bl, ex_int, ex_tup, List.getElem?_cons_zero, List.getElem?_cons_succ, List.set_cons_zero, List.set_cons_succ, List.length_cons, List.length_nil, Atom.pv, add_i, sub_i, mul_i, mod_i, fdiv_i, pow_i, lt_i, le_i, gt_i, ge_i, eq_, ne_, in_e, nin_e, is_n, isnot_n, idx_tup, idx_lst, eqP_int, eqP_str, atI_0, atI_1, atI_2, ixN_0, ixN_1, ixN_2, decide_eq_true_eq, Bool.not_true, Bool.not_false, if_true, Bool.false_eq_true, if_false, setSl]
    refine ⟨by decide, newL_f (by decide) (pickL_ok hg3 (by decide) (by decide) fun big xs4 m4 hg4 hbig => ?_)⟩
    have hbig' : ∃ z : Int, big = .int z ∧ 0 ≤ z ∧ z ≤ 10000000000000000000000000000000000000000 := by
      simp only [List.mem_cons, List.not_mem_nil, or_false] at hbig
      rcases hbig with rfl | rfl | rfl | rfl <;> exact ⟨_, rfl, by decide +kernel, by decide +kernel⟩
    obtain ⟨big, rfl, u5, u6⟩ := hbig'
    refine purse_ok hg4 (by omega) (by omega) u5 (by omega) fun p xs5 m5 hg5 hpl hpb => ?_
    refine purse_ok hg5 (by omega) (by omega) u5 (by omega) fun one xs6 m6 hg6 hol hob => ?_
    refine purse_ok hg6 (by omega) (by omega) (by omega) (by omega) fun two xs7 m7 hg7 htl htb => ?_
    have hn : n ≤ 8 := by omega
    have HP : p.length = n := by omega
    have HO : one.length = n := by omega
    have HT : two.length = n := by omega
    have bp : Bnd 10000000000000000000000000000000000000000 n (at0 p) := by rw [← HP]; exact at0_mem fun x hx => by have := hpb x hx; omega
    have bo : Bnd 10000000000000000000000000000000000000000 n (at0 one) := by rw [← HO]; exact at0_mem fun x hx => by have := hob x hx; omega
    have bt : Bnd 3 n (at0 two) := by rw [← HT]; exact at0_mem fun x hx => by have := htb x hx; omega
    have st : ∀ ph, Shw 50 40000 5 ph (.tup [.int n, .tup (rs.map rowPV)]) := fun ph => shw_town (by omega) (by omega) hr hrl
    have sbh : ∀ ph s, Bnd 30000000000000000000000000000000000000000 n s → Shw 50 40000 5 ph (.tup ((bhd n rs (at0 p) s).map .int)) := fun ph s hs => (shw_bhd bp hs hr hrl (by omega)).mono (by decide) (by decide)
    have sp : ∀ ph (q : List Int), q.length = n → (∀ x ∈ q, -30000000000000000000000000000000000000000 ≤ x ∧ x ≤ 30000000000000000000000000000000000000000) → Shw 50 40000 5 ph (.tup (q.map .int)) := fun ph q h1 h2 => (shw_bigs (fun x hx => by have := h2 x hx; omega) (by omega)).mono (by decide) (by decide)
    have spp := fun ph => sp ph p HP fun x hx => by have := hpb x hx; omega
    have spo := fun ph => sp ph one HO fun x hx => by have := hob x hx; omega
    have spt := fun ph => sp ph two HT fun x hx => by have := htb x hx; omega
    obtain ⟨dk, hdk, hsk⟩ := repr_list (ph := D xs7 m7 ++ []) (xs := [.tup [.int n, .tup (rs.map rowPV)], .tup (p.map .int), .tup (one.map .int), .tup (two.map .int)]) (fun v hv => by
      simp only [List.mem_cons, List.not_mem_nil, or_false] at hv
      rcases hv with rfl | rfl | rfl | rfl
      · exact st _
      · exact spp _
      · exact spo _
      · exact spt _) (by simp)
    have hl4 : 4 ≤ sizeLine := by omega
    have hl3 : 3 ≤ sizeLine := by omega
    have hl2 : 2 ≤ sizeLine := by omega
    have hl1 : 1 ≤ sizeLine := by omega
    refine newL_f hl4 (repr_of hdk hsk ?_)
    refine lbeh_ok HP HO (.inl rfl) hr (by omega) ?_
    refine beh_ok HP HO (.inl rfl) hr (by omega) ?_
    refine ⟨_, rfl, beh_ok HP HO (.inl rfl) hr (by omega) ?_⟩
    have s1 := sbh (D xs7 m7 ++ []) (at0 one) fun i hi => by have := bo i hi; omega
    have l1 : (bhd n rs (at0 p) (at0 one)).length = n := bhd_len
    obtain ⟨d2, hd2, hs2⟩ := repr_list (ph := D xs7 m7 ++ []) (xs := [.tup ((bhd n rs (at0 p) (at0 one)).map .int), .tup ((bhd n rs (at0 p) (at0 one)).map .int)]) (fun v hv => by
      simp only [List.mem_cons, List.not_mem_nil, or_false, or_self] at hv
      rw [hv]; exact s1) (by simp)
    refine newL_f hl2 ⟨by simp, repr_of hd2 hs2 (newL_f hl2 (repr_of hd2 hs2 ?_))⟩
    rw [eqP_str, if_neg (by simp)]
    refine money_ok ⟨_, rfl, money_ok ?_⟩
    have hsum : (bhd n rs (at0 p) (at0 one)).sum = p.sum := by
      have := sum_bhd (rs := rs) (p := p) (s := at0 one) (by rw [HP]; exact hr)
      rwa [HP] at this
    rw [hsum]
    have hsb := sum_bnd (xs := p) fun x hx => by have := hpb x hx; omega
    obtain ⟨d3, hd3, hs3⟩ := repr_list (ph := D xs7 m7 ++ []) (xs := [.int p.sum, .int p.sum]) (fun v hv => by
      simp only [List.mem_cons, List.not_mem_nil, or_false, or_self] at hv
      rw [hv]; exact shw_big (by omega) (by decide)) (by simp)
    refine newL_f hl2 (repr_of hd3 hs3 ⟨_, p, rfl, intsOf_map p, newL_f hl1 ?_⟩)
    refine mul_l (xs := [.int p.sum]) rfl (by decide) (by simp) (newL_f (by simp; omega) (repr_of (d := d3) hd3 hs3 ?_))
    rw [eqP_str, if_neg (by simp), idx_lst]
    refine ⟨_, atI_0, beh_ok bhd_len HT (.inl rfl) hr (by omega) ?_⟩
    rw [bhd_bhd]
    obtain ⟨d4, hd4, hs4⟩ := repr_one (sbh (D xs7 m7 ++ []) (fun i => at0 one i + at0 two i) fun i hi => by have := bo i hi; have := bt i hi; dsimp only; omega)
    refine repr_of hd4 hs4 (lbeh_ok bhd_len HT (.inl rfl) hr (by omega) ?_)
    rw [bhd_bhd]
    refine repr_of hd4 hs4 ?_
    rw [eqP_str, if_neg (by simp)]
    refine obo_ok hg7 HP HT (fun i hi => by have := bt i hi; omega) hr (by omega) fun xs8 m8 hg8 => ?_
    obtain ⟨d5, hd5, hs5⟩ := repr_one (sbh (D xs8 m8 ++ []) (at0 two) fun i hi => by have := bt i hi; omega)
    refine repr_of hd5 hs5 (lbeh_ok HP HT (.inl rfl) hr (by omega) (repr_of hd5 hs5 ?_))
    rw [eqP_str, if_neg (by simp)]
    refine next_ok hg8 (by omega) (by omega) fun hh xs9 m9 hg9 h0 h1 => ⟨by simp, ?_⟩
    have hlen := rng1_len (a := 0) (b := n) (by omega)
    have hok := rOk_small (i := 0) (j := n) (by omega) (by omega) (by omega) (by omega)
    refine ⟨rngL 0 n 1, it_r1 hok, ?_⟩
    refine comp_map (fun v => PV.int (if toI v = hh then 1 else 0)) (it_r1 hok) (by omega) (fun v hv K R hK => ?_) ?_
    · obtain ⟨i, rfl, _, _⟩ := rng1_mem hv
      refine ⟨by simp [wipeE], ?_⟩
      simp only [wipeE, bindT, bindTs, wpB, wpS, wpE, wpEs, wpO, wpC, ex_some, ex_some1, ex_bl, ex_int, ex_tup, List.getElem?_cons_zero, List.getElem?_cons_succ, List.set_cons_zero, List.set_cons_succ, List.length_cons, List.length_nil, Atom.pv, add_i, sub_i, mul_i, mod_i, fdiv_i, pow_i, lt_i, le_i, gt_i, ge_i, eq_, ne_, in_e, nin_e, is_n, isnot_n, idx_tup, idx_lst, eqP_int, eqP_str, atI_0, atI_1, atI_2, ixN_0, ixN_1, ixN_2, decide_eq_true_eq, Bool.not_true, Bool.not_false, if_true, Bool.false_eq_true, if_false, setSl]
      rw [int_bl]
      have e : PV.int (if decide (i = hh) = true then 1 else 0) = .int (if toI (.int i) = hh then 1 else 0) := by
        by_cases hz : i = hh <;> simp [toI, hz]
      rw [e]; exact hK
    rw [ind_pv (h := hh) (c := 1) fun i => rfl]
    refine newL_f (by rw [List.length_map, ind_len]; omega) (tuple_l rfl ⟨by simp, _, rfl, ?_⟩)
    refine comp_map (fun v => PV.int (-(toI v))) rfl (by rw [List.length_map, ind_len]; omega) (fun v hv K R hK => ?_) ?_
    · obtain ⟨i, _, rfl⟩ := List.mem_map.mp hv
      refine ⟨by simp [wipeE], ?_⟩
      simp only [wipeE, bindT, bindTs, wpB, wpS, wpE, wpEs, wpO, wpC, ex_some, ex_some1, ex_bl, ex_int, ex_tup, List.getElem?_cons_zero, List.getElem?_cons_succ, List.set_cons_zero, List.set_cons_succ, List.length_cons, List.length_nil, Atom.pv, add_i, sub_i, mul_i, mod_i, fdiv_i, pow_i, lt_i, le_i, gt_i, ge_i, eq_, ne_, in_e, nin_e, is_n, isnot_n, idx_tup, idx_lst, eqP_int, eqP_str, atI_0, atI_1, atI_2, ixN_0, ixN_1, ixN_2, decide_eq_true_eq, Bool.not_true, Bool.not_false, if_true, Bool.false_eq_true, if_false, setSl]
      exact hK
    rw [ind_neg]
    refine newL_f (by rw [List.length_map, ind_len]; omega) (tuple_l rfl ⟨by simp, ?_⟩)
    refine lend_ok HP hr (by omega) (borrow_ok HP hr (by omega) ?_)
    have bi : ∀ c : Int, -3 ≤ c ∧ c ≤ 3 → Bnd 30000000000000000000000000000000000000000 n (at0 (ind n hh c)) := fun c hc i hi => by
      rw [at0_ind hi]; split <;> omega
    have s6 := sbh (D xs9 m9 ++ []) _ (bi 1 (by omega))
    have s7 := sbh (D xs9 m9 ++ []) _ (bi (-1) (by omega))
    obtain ⟨d6, hd6, hs6⟩ := repr_list (ph := D xs9 m9 ++ []) (xs := [.tup ((bhd n rs (at0 p) (at0 (ind n hh 1))).map .int), .tup ((bhd n rs (at0 p) (at0 (ind n hh (-1)))).map .int)]) (fun v hv => by
      simp only [List.mem_cons, List.not_mem_nil, or_false] at hv
      rcases hv with rfl | rfl
      · exact s6
      · exact s7) (by simp)
    refine newL_f hl2 (repr_of hd6 hs6 (lbeh_ok HP ind_len (.inl rfl) hr (by omega) (lbeh_ok HP ind_len (.inl rfl) hr (by omega) (newL_f hl2 (repr_of hd6 hs6 ?_)))))
    rw [eqP_str, if_neg (by simp)]
    refine lplain_ok (by omega) (by omega) fun mm hm1 => ⟨by simp, ?_⟩
    refine plain_ok (by omega) (by omega) fun m2' hm2 => ⟨_, rfl, plain_ok (by omega) (by omega) fun m3' hm3 => plain_ok (by rw [List.length_map]; omega) (by rw [List.length_map]; omega) fun m4' hm4 => ?_⟩
    obtain rfl := hm2.one hm1
    obtain rfl := hm3.one hm1
    obtain rfl := hm1.zero hm4
    rw [show (one.map fun x => x - m3').map (fun x => x - 0) = one.map fun x => x - m3' by simp]
    have hpm : -10000000000000000000000000000000000000000 ≤ m3' ∧ m3' ≤ 10000000000000000000000000000000000000000 := by have := hob _ hm1.1; omega
    have spl := fun ph => sp ph (one.map fun x => x - m3') (by rw [List.length_map]; exact HO) fun x hx => by
      obtain ⟨y, hy, rfl⟩ := List.mem_map.mp hx
      have := hob y hy
      omega
    obtain ⟨d7, hd7, hs7⟩ := repr_list (ph := D xs9 m9 ++ []) (xs := [.tup ((one.map fun x => x - m3').map .int), .tup ((one.map fun x => x - m3').map .int), .tup ((one.map fun x => x - m3').map .int)]) (fun v hv => by
      simp only [List.mem_cons, List.not_mem_nil, or_false, or_self] at hv
      rw [hv]; exact spl _) (by simp)
    refine newL_f hl3 (repr_of hd7 hs7 (newL_f hl1 (mul_l (xs := [.tup ((one.map fun x => x - m3').map .int)]) rfl (by decide) (by simp) (newL_f (by simp; omega) (repr_of (d := d7) hd7 hs7 ?_)))))
    rw [eqP_str, if_neg (by simp)]
    have hML : (one.map fun x => x - m3').length = n := by rw [List.length_map]; exact HO
    refine beh_ok HP hML (.inl rfl) hr (by omega) ?_
    have e8 : bhd n rs (at0 p) (at0 (one.map fun x => x - m3')) = bhd n rs (at0 p) (at0 one) := by
      rw [← bhd_shift (s := at0 one) (c := -m3')]
      exact bhd_congr hr (fun _ _ => rfl) fun i hi => by rw [at0_map (by omega)]; omega
    rw [e8]
    obtain ⟨d8, hd8, hs8⟩ := repr_one (sbh (D xs9 m9 ++ []) (at0 one) fun i hi => by have := bo i hi; omega)
    refine repr_of hd8 hs8 (repr_of hd8 hs8 ?_)
    rw [eqP_str, if_neg (by simp), mul_t]
    refine ⟨by omega, by omega, by simp, ?_⟩
    rw [rep1_eq, show List.replicate (Int.toNat (n : Int)) (PV.int 7) = (List.replicate n 7).map .int by simp]
    refine beh_ok HP (by simp) (.inl rfl) hr (by omega) ?_
    have e9 : bhd n rs (at0 p) (at0 (List.replicate n 7)) = p := by
      rw [bhd_congr (p' := at0 p) (s' := fun _ => 7) hr (fun _ _ => rfl) fun i hi => at0_rep hi, ← HP, bhd_const]
    rw [e9]
    obtain ⟨d9, hd9, hs9⟩ := repr_one (spp (D xs9 m9 ++ []))
    refine repr_of hd9 hs9 (repr_of hd9 hs9 ?_)
    rw [eqP_str, if_neg (by simp)]
    have hz := zip2_len (a := one.map PV.int) (b := two.map PV.int)
    rw [List.length_map] at hz
    refine ⟨zip2L (one.map .int) (two.map .int), rfl, ?_⟩
    refine comp_map addP rfl (by omega) (fun v hv K R hK => ?_) ?_
    · obtain ⟨i, j, rfl⟩ := zip2_mem hv
      simp only [wipeE, bindT, bindTs, wpB, wpS, wpE, wpEs, wpO, wpC, ex_some, ex_some1, ex_bl, ex_int, ex_tup, List.getElem?_cons_zero, List.getElem?_cons_succ, List.set_cons_zero, List.set_cons_succ, List.length_cons, List.length_nil, Atom.pv, add_i, sub_i, mul_i, mod_i, fdiv_i, pow_i, lt_i, le_i, gt_i, ge_i, eq_, ne_, in_e, nin_e, is_n, isnot_n, idx_tup, idx_lst, eqP_int, eqP_str, atI_0, atI_1, atI_2, ixN_0, ixN_1, ixN_2, decide_eq_true_eq, Bool.not_true, Bool.not_false, if_true, Bool.false_eq_true, if_false, setSl]
      exact ⟨trivial, by decide, by decide, hK⟩
    rw [zip2_add]
    have hZ : (List.zipWith (· + ·) one two).length = n := by rw [List.length_zipWith]; omega
    refine newL_f (by rw [List.length_map]; omega) (tuple_l rfl ⟨by simp, ?_⟩)
    refine added_ok (by omega) ⟨_, rfl, added_ok (by omega) ?_⟩
    rw [show List.zipWith (· + ·) two one = List.zipWith (· + ·) one two from List.zipWith_comm_of_comm fun x y => Int.add_comm x y]
    have szz := fun ph => sp ph (List.zipWith (· + ·) one two) hZ fun x hx => by
      obtain ⟨i, hi, rfl⟩ := List.getElem_of_mem hx
      rw [List.length_zipWith] at hi
      rw [List.getElem_zipWith]
      have := hob _ (List.getElem_mem (l := one) (n := i) (by omega))
      have := htb _ (List.getElem_mem (l := two) (n := i) (by omega))
      omega
    obtain ⟨da, hda, hsa⟩ := repr_list (ph := D xs9 m9 ++ []) (xs := [.tup ((List.zipWith (· + ·) one two).map .int), .tup ((List.zipWith (· + ·) one two).map .int)]) (fun v hv => by
      simp only [List.mem_cons, List.not_mem_nil, or_false, or_self] at hv
      rw [hv]; exact szz _) (by simp)
    refine newL_f hl2 (repr_of hda hsa (newL_f hl2 (repr_of hda hsa ?_)))
    rw [eqP_str, if_neg (by simp)]
    refine beh_ok HP hZ (.inl rfl) hr (by omega) ?_
    have eb : bhd n rs (at0 p) (at0 (List.zipWith (· + ·) one two)) = bhd n rs (at0 p) (fun i => at0 one i + at0 two i) := bhd_congr hr (fun _ _ => rfl) fun i hi => at0_zip (by omega) (by omega)
    rw [eb]
    obtain ⟨db, hdb, hsb⟩ := repr_one (sbh (D xs9 m9 ++ []) (fun i => at0 one i + at0 two i) fun i hi => by have := bo i hi; have := bt i hi; dsimp only; omega)
    refine repr_of hdb hsb (lbeh_ok bhd_len HT (.inl rfl) hr (by omega) ?_)
    rw [bhd_bhd]
    refine repr_of hdb hsb ?_
    rw [eqP_str, if_neg (by simp)]
    refine newL_f hl4 (repr_of (dat_any ?_ hdk) hsk ?_)
    · refine .lst (.cons (.tup (.cons (.int _) (.cons (.tup (oldL_all fun x hx => ?_)) .nil))) (.cons (.tup (oldL_ints _)) (.cons (.tup (oldL_ints _)) (.cons (.tup (oldL_ints _)) .nil))))
      obtain ⟨r, _, rfl⟩ := List.mem_map.mp hx
      exact .tup (oldL_ints r)
    · rw [eqP_str, if_neg (by simp)]
      exact hN _ _ ⟨xs9, m9, _, _, _, _, _, _, _, _, _, _, _, _, _, _, _, _, _, _, hg9, rfl, rfl⟩
  · rintro env ph ⟨xs, m, a2, a3, a4, a5, a6, a7, a8, a9, a10, a11, a12, a13, a14, a15, a16, a17, a18, a19, hg, rfl, rfl⟩
    exact ⟨it_r1 (by decide), rfl⟩
end RLT

namespace RLT
open PySem PySem.Spec PyProof.Rows L2 RL
theorem defs_ok : ∀ (f : Nat) (d : Df) (st : Stmt), lw.pg.defs[f]? = some d → lw.sts[f]? = some st → DefS lw d st := DsOk.get (show DsOk lw _ _ from ⟨dfs_0, dfs_1, dfs_2, dfs_3, dfs_4, dfs_5, dfs_6, dfs_7, dfs_8, dfs_9, dfs_10, dfs_11, dfs_12, dfs_13, dfs_14, dfs_15, dfs_16, trivial⟩)
theorem grd {K : PySem.W.Frag} {h : Heap} {mg : Str → Option Value} (X : K.In h) (G : h.Ns mainGlobals mg) {os : Obj} (y : K.lookup sysModules = some os) {f0 : Addr} {oc0 kV0 dc0 pm0 cd0 ct0 : Value} {od0 an0 : Option Addr} {sl0 : Array (Option Value)} (a0 : PySem.W.nsIn K mainGlobals "money" = some (some (.ref f0))) (l0 : K.lookup f0 = some ⟨oc0, od0, .func (PySem.W.fnOf "money" "money" (defArgs st_0) (defBody st_0) (defScope st_0) .none kV0 dc0 pm0 an0 cd0 ct0), sl0⟩) (c0 : PySem.W.codeIn K cd0 "money" = true) (k0 : PySem.W.keepIn K (.ref f0) = true) {f1 : Addr} {oc1 kV1 dc1 pm1 cd1 ct1 : Value} {od1 an1 : Option Addr} {sl1 : Array (Option Value)} (a1 : PySem.W.nsIn K mainGlobals "behind" = some (some (.ref f1))) (l1 : K.lookup f1 = some ⟨oc1, od1, .func (PySem.W.fnOf "behind" "behind" (defArgs st_1) (defBody st_1) (defScope st_1) .none kV1 dc1 pm1 an1 cd1 ct1), sl1⟩) (c1 : PySem.W.codeIn K cd1 "behind" = true) (k1 : PySem.W.keepIn K (.ref f1) = true) {f2 : Addr} {oc2 kV2 dc2 pm2 cd2 ct2 : Value} {od2 an2 : Option Addr} {sl2 : Array (Option Value)} (a2 : PySem.W.nsIn K mainGlobals "lend" = some (some (.ref f2))) (l2 : K.lookup f2 = some ⟨oc2, od2, .func (PySem.W.fnOf "lend" "lend" (defArgs st_2) (defBody st_2) (defScope st_2) .none kV2 dc2 pm2 an2 cd2 ct2), sl2⟩) (c2 : PySem.W.codeIn K cd2 "lend" = true) (k2 : PySem.W.keepIn K (.ref f2) = true) {f3 : Addr} {oc3 kV3 dc3 pm3 cd3 ct3 : Value} {od3 an3 : Option Addr} {sl3 : Array (Option Value)} (a3 : PySem.W.nsIn K mainGlobals "borrow" = some (some (.ref f3))) (l3 : K.lookup f3 = some ⟨oc3, od3, .func (PySem.W.fnOf "borrow" "borrow" (defArgs st_3) (defBody st_3) (defScope st_3) .none kV3 dc3 pm3 an3 cd3 ct3), sl3⟩) (c3 : PySem.W.codeIn K cd3 "borrow" = true) (k3 : PySem.W.keepIn K (.ref f3) = true) {f4 : Addr} {oc4 kV4 dc4 pm4 cd4 ct4 : Value} {od4 an4 : Option Addr} {sl4 : Array (Option Value)} (a4 : PySem.W.nsIn K mainGlobals "plain_script" = some (some (.ref f4))) (l4 : K.lookup f4 = some ⟨oc4, od4, .func (PySem.W.fnOf "plain_script" "plain_script" (defArgs st_4) (defBody st_4) (defScope st_4) .none kV4 dc4 pm4 an4 cd4 ct4), sl4⟩) (c4 : PySem.W.codeIn K cd4 "plain_script" = true) (k4 : PySem.W.keepIn K (.ref f4) = true) {f5 : Addr} {oc5 kV5 dc5 pm5 cd5 ct5 : Value} {od5 an5 : Option Addr} {sl5 : Array (Option Value)} (a5 : PySem.W.nsIn K mainGlobals "purses_added" = some (some (.ref f5))) (l5 : K.lookup f5 = some ⟨oc5, od5, .func (PySem.W.fnOf "purses_added" "purses_added" (defArgs st_5) (defBody st_5) (defScope st_5) .none kV5 dc5 pm5 an5 cd5 ct5), sl5⟩) (c5 : PySem.W.codeIn K cd5 "purses_added" = true) (k5 : PySem.W.keepIn K (.ref f5) = true) {f6 : Addr} {oc6 kV6 dc6 pm6 cd6 ct6 : Value} {od6 an6 : Option Addr} {sl6 : Array (Option Value)} (a6 : PySem.W.nsIn K mainGlobals "_law_deck" = some (some (.ref f6))) (l6 : K.lookup f6 = some ⟨oc6, od6, .func (PySem.W.fnOf "_law_deck" "_law_deck" (defArgs st_6) (defBody st_6) (defScope st_6) .none kV6 dc6 pm6 an6 cd6 ct6), sl6⟩) (c6 : PySem.W.codeIn K cd6 "_law_deck" = true) (k6 : PySem.W.keepIn K (.ref f6) = true) {f7 : Addr} {oc7 kV7 dc7 pm7 cd7 ct7 : Value} {od7 an7 : Option Addr} {sl7 : Array (Option Value)} (a7 : PySem.W.nsIn K mainGlobals "_law_next" = some (some (.ref f7))) (l7 : K.lookup f7 = some ⟨oc7, od7, .func (PySem.W.fnOf "_law_next" "_law_next" (defArgs st_7) (defBody st_7) (defScope st_7) .none kV7 dc7 pm7 an7 cd7 ct7), sl7⟩) (c7 : PySem.W.codeIn K cd7 "_law_next" = true) (k7 : PySem.W.keepIn K (.ref f7) = true) {f8 : Addr} {oc8 kV8 dc8 pm8 cd8 ct8 : Value} {od8 an8 : Option Addr} {sl8 : Array (Option Value)} (a8 : PySem.W.nsIn K mainGlobals "_law_pick" = some (some (.ref f8))) (l8 : K.lookup f8 = some ⟨oc8, od8, .func (PySem.W.fnOf "_law_pick" "_law_pick" (defArgs st_8) (defBody st_8) (defScope st_8) .none kV8 dc8 pm8 an8 cd8 ct8), sl8⟩) (c8 : PySem.W.codeIn K cd8 "_law_pick" = true) (k8 : PySem.W.keepIn K (.ref f8) = true) {f9 : Addr} {oc9 kV9 dc9 pm9 cd9 ct9 : Value} {od9 an9 : Option Addr} {sl9 : Array (Option Value)} (a9 : PySem.W.nsIn K mainGlobals "_law_mixed" = some (some (.ref f9))) (l9 : K.lookup f9 = some ⟨oc9, od9, .func (PySem.W.fnOf "_law_mixed" "_law_mixed" (defArgs st_9) (defBody st_9) (defScope st_9) .none kV9 dc9 pm9 an9 cd9 ct9), sl9⟩) (c9 : PySem.W.codeIn K cd9 "_law_mixed" = true) (k9 : PySem.W.keepIn K (.ref f9) = true) {f10 : Addr} {oc10 kV10 dc10 pm10 cd10 ct10 : Value} {od10 an10 : Option Addr} {sl10 : Array (Option Value)} (a10 : PySem.W.nsIn K mainGlobals "_law_pair" = some (some (.ref f10))) (l10 : K.lookup f10 = some ⟨oc10, od10, .func (PySem.W.fnOf "_law_pair" "_law_pair" (defArgs st_10) (defBody st_10) (defScope st_10) .none kV10 dc10 pm10 an10 cd10 ct10), sl10⟩) (c10 : PySem.W.codeIn K cd10 "_law_pair" = true) (k10 : PySem.W.keepIn K (.ref f10) = true) {f11 : Addr} {oc11 kV11 dc11 pm11 cd11 ct11 : Value} {od11 an11 : Option Addr} {sl11 : Array (Option Value)} (a11 : PySem.W.nsIn K mainGlobals "_law_town" = some (some (.ref f11))) (l11 : K.lookup f11 = some ⟨oc11, od11, .func (PySem.W.fnOf "_law_town" "_law_town" (defArgs st_11) (defBody st_11) (defScope st_11) .none kV11 dc11 pm11 an11 cd11 ct11), sl11⟩) (c11 : PySem.W.codeIn K cd11 "_law_town" = true) (k11 : PySem.W.keepIn K (.ref f11) = true) {f12 : Addr} {oc12 kV12 dc12 pm12 cd12 ct12 : Value} {od12 an12 : Option Addr} {sl12 : Array (Option Value)} (a12 : PySem.W.nsIn K mainGlobals "_law_behind" = some (some (.ref f12))) (l12 : K.lookup f12 = some ⟨oc12, od12, .func (PySem.W.fnOf "_law_behind" "_law_behind" (defArgs st_12) (defBody st_12) (defScope st_12) .none kV12 dc12 pm12 an12 cd12 ct12), sl12⟩) (c12 : PySem.W.codeIn K cd12 "_law_behind" = true) (k12 : PySem.W.keepIn K (.ref f12) = true) {f13 : Addr} {oc13 kV13 dc13 pm13 cd13 ct13 : Value} {od13 an13 : Option Addr} {sl13 : Array (Option Value)} (a13 : PySem.W.nsIn K mainGlobals "_law_plain" = some (some (.ref f13))) (l13 : K.lookup f13 = some ⟨oc13, od13, .func (PySem.W.fnOf "_law_plain" "_law_plain" (defArgs st_13) (defBody st_13) (defScope st_13) .none kV13 dc13 pm13 an13 cd13 ct13), sl13⟩) (c13 : PySem.W.codeIn K cd13 "_law_plain" = true) (k13 : PySem.W.keepIn K (.ref f13) = true) {f14 : Addr} {oc14 kV14 dc14 pm14 cd14 ct14 : Value} {od14 an14 : Option Addr} {sl14 : Array (Option Value)} (a14 : PySem.W.nsIn K mainGlobals "_law_purse" = some (some (.ref f14))) (l14 : K.lookup f14 = some ⟨oc14, od14, .func (PySem.W.fnOf "_law_purse" "_law_purse" (defArgs st_14) (defBody st_14) (defScope st_14) .none kV14 dc14 pm14 an14 cd14 ct14), sl14⟩) (c14 : PySem.W.codeIn K cd14 "_law_purse" = true) (k14 : PySem.W.keepIn K (.ref f14) = true) {f15 : Addr} {oc15 kV15 dc15 pm15 cd15 ct15 : Value} {od15 an15 : Option Addr} {sl15 : Array (Option Value)} (a15 : PySem.W.nsIn K mainGlobals "_law_one_by_one" = some (some (.ref f15))) (l15 : K.lookup f15 = some ⟨oc15, od15, .func (PySem.W.fnOf "_law_one_by_one" "_law_one_by_one" (defArgs st_15) (defBody st_15) (defScope st_15) .none kV15 dc15 pm15 an15 cd15 ct15), sl15⟩) (c15 : PySem.W.codeIn K cd15 "_law_one_by_one" = true) (k15 : PySem.W.keepIn K (.ref f15) = true) {f16 : Addr} {oc16 kV16 dc16 pm16 cd16 ct16 : Value} {od16 an16 : Option Addr} {sl16 : Array (Option Value)} (a16 : PySem.W.nsIn K mainGlobals "law" = some (some (.ref f16))) (l16 : K.lookup f16 = some ⟨oc16, od16, .func (PySem.W.fnOf "law" "law" (defArgs st_16) (defBody st_16) (defScope st_16) .none kV16 dc16 pm16 an16 cd16 ct16), sl16⟩) (c16 : PySem.W.codeIn K cd16 "law" = true) (k16 : PySem.W.keepIn K (.ref f16) = true) (z0 : PySem.W.nsIn K mainGlobals "len" = some none) (z1 : PySem.W.nsIn K mainGlobals "tuple" = some none) (z2 : PySem.W.nsIn K mainGlobals "list" = some none) (z3 : PySem.W.nsIn K mainGlobals "int" = some none) (z4 : PySem.W.nsIn K mainGlobals "repr" = some none) (z5 : PySem.W.nsIn K mainGlobals "sum" = some none) (z6 : PySem.W.nsIn K mainGlobals "min" = some none) (z7 : PySem.W.nsIn K mainGlobals "max" = some none) (z8 : PySem.W.nsIn K mainGlobals "abs" = some none) (z9 : PySem.W.nsIn K mainGlobals "sorted" = some none) (z10 : PySem.W.nsIn K mainGlobals "all" = some none) (z11 : PySem.W.nsIn K mainGlobals "any" = some none) (z12 : PySem.W.nsIn K mainGlobals "str" = some none) (z13 : PySem.W.nsIn K mainGlobals "isinstance" = some none) (z14 : PySem.W.nsIn K mainGlobals "range" = some none) (z15 : PySem.W.nsIn K mainGlobals "enumerate" = some none) (z16 : PySem.W.nsIn K mainGlobals "zip" = some none) (z17 : PySem.W.nsIn K mainGlobals "bool" = some none) (z18 : PySem.W.nsIn K mainGlobals "dict" = some none)  : Ground0 lw K mg :=
  ⟨⟨os, y⟩, fun x hx => by
    simp only [bnames, List.mem_cons, List.not_mem_nil, or_false] at hx
    rcases hx with rfl | rfl | rfl | rfl | rfl | rfl | rfl | rfl | rfl | rfl | rfl | rfl | rfl | rfl | rfl | rfl | rfl | rfl | rfl
    · exact PySem.W.mg_none_of X G z0
    · exact PySem.W.mg_none_of X G z1
    · exact PySem.W.mg_none_of X G z2
    · exact PySem.W.mg_none_of X G z3
    · exact PySem.W.mg_none_of X G z4
    · exact PySem.W.mg_none_of X G z5
    · exact PySem.W.mg_none_of X G z6
    · exact PySem.W.mg_none_of X G z7
    · exact PySem.W.mg_none_of X G z8
    · exact PySem.W.mg_none_of X G z9
    · exact PySem.W.mg_none_of X G z10
    · exact PySem.W.mg_none_of X G z11
    · exact PySem.W.mg_none_of X G z12
    · exact PySem.W.mg_none_of X G z13
    · exact PySem.W.mg_none_of X G z14
    · exact PySem.W.mg_none_of X G z15
    · exact PySem.W.mg_none_of X G z16
    · exact PySem.W.mg_none_of X G z17
    · exact PySem.W.mg_none_of X G z18,
    GlOk.get (show GlOk mg lw.pg.gl from trivial), FnsOk.get (show FnsOk K mg lw.pg.defs lw.sts from ⟨fun_at X G a0 l0 c0 k0, fun_at X G a1 l1 c1 k1, fun_at X G a2 l2 c2 k2, fun_at X G a3 l3 c3 k3, fun_at X G a4 l4 c4 k4, fun_at X G a5 l5 c5 k5, fun_at X G a6 l6 c6 k6, fun_at X G a7 l7 c7 k7, fun_at X G a8 l8 c8 k8, fun_at X G a9 l9 c9 k9, fun_at X G a10 l10 c10 k10, fun_at X G a11 l11 c11 k11, fun_at X G a12 l12 c12 k12, fun_at X G a13 l13 c13 k13, fun_at X G a14 l14 c14 k14, fun_at X G a15 l15 c15 k15, fun_at X G a16 l16 c16 k16, trivial⟩)⟩
end RLT
open PySem PySem.W PyProof.Rows
set_option maxHeartbeats 0 in
theorem PySem.Challenge.cw_roadloans_k02_whole_lending_holds : PySem.Challenge.rw_roadloans_k02_whole_lending.Holds := by
  w_on; o_law; x_head; (case hw => w_witness2)
  k_fill
  refine RL.walk (l := PySem.Challenge.rw_roadloans_k02_whole_lending) (n := 63) (k := 60) (f := 16) (x := "script") RLT.lw RLT.df_16 RLT.st_16 rfl (by decide) rfl ⟨rfl, by decide, by decide⟩ rfl rfl rfl rfl (RLT.bd_law) RLT.defs_ok RLT.law_ok (fun w h Y => PySem.W.kIn_of Y) ?B
  case B =>
    intro w mg h KX G
    refine' RLT.grd KX G ?rl_y ?rl_a0 ?rl_l0 ?rl_c0 ?rl_k0 ?rl_a1 ?rl_l1 ?rl_c1 ?rl_k1 ?rl_a2 ?rl_l2 ?rl_c2 ?rl_k2 ?rl_a3 ?rl_l3 ?rl_c3 ?rl_k3 ?rl_a4 ?rl_l4 ?rl_c4 ?rl_k4 ?rl_a5 ?rl_l5 ?rl_c5 ?rl_k5 ?rl_a6 ?rl_l6 ?rl_c6 ?rl_k6 ?rl_a7 ?rl_l7 ?rl_c7 ?rl_k7 ?rl_a8 ?rl_l8 ?rl_c8 ?rl_k8 ?rl_a9 ?rl_l9 ?rl_c9 ?rl_k9 ?rl_a10 ?rl_l10 ?rl_c10 ?rl_k10 ?rl_a11 ?rl_l11 ?rl_c11 ?rl_k11 ?rl_a12 ?rl_l12 ?rl_c12 ?rl_k12 ?rl_a13 ?rl_l13 ?rl_c13 ?rl_k13 ?rl_a14 ?rl_l14 ?rl_c14 ?rl_k14 ?rl_a15 ?rl_l15 ?rl_c15 ?rl_k15 ?rl_a16 ?rl_l16 ?rl_c16 ?rl_k16 ?rl_z0 ?rl_z1 ?rl_z2 ?rl_z3 ?rl_z4 ?rl_z5 ?rl_z6 ?rl_z7 ?rl_z8 ?rl_z9 ?rl_z10 ?rl_z11 ?rl_z12 ?rl_z13 ?rl_z14 ?rl_z15 ?rl_z16 ?rl_z17 ?rl_z18
    (case rl_y => k_is); (case rl_a0 => k_is); (case rl_l0 => k_is); (case rl_c0 => k_is); (case rl_k0 => k_is); (case rl_a1 => k_is); (case rl_l1 => k_is); (case rl_c1 => k_is); (case rl_k1 => k_is); (case rl_a2 => k_is); (case rl_l2 => k_is); (case rl_c2 => k_is); (case rl_k2 => k_is); (case rl_a3 => k_is); (case rl_l3 => k_is); (case rl_c3 => k_is); (case rl_k3 => k_is); (case rl_a4 => k_is); (case rl_l4 => k_is); (case rl_c4 => k_is); (case rl_k4 => k_is); (case rl_a5 => k_is); (case rl_l5 => k_is); (case rl_c5 => k_is); (case rl_k5 => k_is); (case rl_a6 => k_is); (case rl_l6 => k_is); (case rl_c6 => k_is); (case rl_k6 => k_is); (case rl_a7 => k_is); (case rl_l7 => k_is); (case rl_c7 => k_is); (case rl_k7 => k_is); (case rl_a8 => k_is); (case rl_l8 => k_is); (case rl_c8 => k_is); (case rl_k8 => k_is); (case rl_a9 => k_is); (case rl_l9 => k_is); (case rl_c9 => k_is); (case rl_k9 => k_is); (case rl_a10 => k_is); (case rl_l10 => k_is); (case rl_c10 => k_is); (case rl_k10 => k_is); (case rl_a11 => k_is); (case rl_l11 => k_is); (case rl_c11 => k_is); (case rl_k11 => k_is); (case rl_a12 => k_is); (case rl_l12 => k_is); (case rl_c12 => k_is); (case rl_k12 => k_is); (case rl_a13 => k_is); (case rl_l13 => k_is); (case rl_c13 => k_is); (case rl_k13 => k_is); (case rl_a14 => k_is); (case rl_l14 => k_is); (case rl_c14 => k_is); (case rl_k14 => k_is); (case rl_a15 => k_is); (case rl_l15 => k_is); (case rl_c15 => k_is); (case rl_k15 => k_is); (case rl_a16 => k_is); (case rl_l16 => k_is); (case rl_c16 => k_is); (case rl_k16 => k_is); (case rl_z0 => k_is); (case rl_z1 => k_is); (case rl_z2 => k_is); (case rl_z3 => k_is); (case rl_z4 => k_is); (case rl_z5 => k_is); (case rl_z6 => k_is); (case rl_z7 => k_is); (case rl_z8 => k_is); (case rl_z9 => k_is); (case rl_z10 => k_is); (case rl_z11 => k_is); (case rl_z12 => k_is); (case rl_z13 => k_is); (case rl_z14 => k_is); (case rl_z15 => k_is); (case rl_z16 => k_is); (case rl_z17 => k_is); (case rl_z18 => k_is)
