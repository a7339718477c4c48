import PyProof.Rows.All
import Wide.All
import OpenK.AllK
import Wide.FinOn
import HandS.ForMost
import HandS.Wide
import HandS.Deep
import HandS.TupAny
import HandS.TupMul
import HandS.Conv
import HandS.Style
import HandS.IsInst
import HandS.WordsDict
import HandS.TupLen
import HandS.SetFor
import HandS.RaiseMore
import KE.SortData
import KE.DataFind
import HandS.Words
import HandS.EndBits
import HandS.Exc
import HandS.ExcOwn
import HandS.TryMany
import HandS.Iter
import HandS.Zip
import KE.GoesEnum
import HandS.Comp
import HandS.ExcIs
import HandS.TryElse
import HandS.Call
import OpenK.XHead
import PyProof.ReprLen
import PySem.Challenge.RW_roadloans_k40_whole_fire_in_other_orders
set_option Elab.async false
set_option linter.all false
set_option maxRecDepth 100000
set_option maxHeartbeats 4000000
/-! RLCore: a small syntax of the Python that the laws use, and what it does, as a predicate transformer over plain data. -/
namespace RL
open PySem

/-- values; lists that nobody changes stand within, the others by number in the heap -/
inductive PV where
  | non | bl (b : Bool) | int (i : Int) | str (s : Str) | tup (xs : List PV) | lst (xs : List PV) | ref (n : Nat) | scr (ns : List Int)
  deriving Inhabited

inductive PO where
  | lst (xs : List PV)
  | dK (kvs : List (L2.Key × PV))
  | dT (kvs : List (List L2.Key × PV))
  deriving Inhabited

abbrev PHp := List PO
abbrev Env := List (Option PV)
abbrev QV := PV → PHp → Prop
/-- an exception: its class's number, its field -/
structure PX where
  cls : Nat
  arg : Option PV
abbrev QX := PX → PHp → Prop
/-- a class of exceptions: its name, its base's number, its field -/
structure Cl where
  name : Str
  base : Option Nat
  fld : Option Str
/-- whether c is d, or below it -/
def subN (cl : List Cl) : Nat → Nat → Nat → Bool
  | 0, c, d => decide (c = d)
  | n + 1, c, d => decide (c = d) || (match cl[c]? with
    | some x => match x.base with
      | some b => subN cl n b d
      | none => false
    | none => false)
/-- what stands at the top: globals, which classes are below which -/
structure GT where
  gl : List PV
  sub : Nat → Nat → Bool

/-! ### data -/
def keyD : L2.Key → PyData
  | .inl i => .int i
  | .inr s => .str s
mutual
inductive Dat (ph : PHp) : PV → PyData → Prop
  | non : Dat ph .non .none
  | bl (b) : Dat ph (.bl b) (.bool b)
  | int (i) : Dat ph (.int i) (.int i)
  | str (s) : Dat ph (.str s) (.str s)
  | tup {xs ds} : DatAll ph xs ds → Dat ph (.tup xs) (.tuple ds)
  | lst {xs ds} : DatAll ph xs ds → Dat ph (.lst xs) (.list ds)
  | ref {n xs ds} : ph[n]? = some (.lst xs) → DatAll ph xs ds → Dat ph (.ref n) (.list ds)
  | dict {n kvs ds} : ph[n]? = some (.dK kvs) → DatAll ph (kvs.map (·.2)) ds → Dat ph (.ref n) (.dict ((kvs.map fun p => keyD p.1).zip ds))
inductive DatAll (ph : PHp) : List PV → List PyData → Prop
  | nil : DatAll ph [] []
  | cons {v vs d ds} : Dat ph v d → DatAll ph vs ds → DatAll ph (v :: vs) (d :: ds)
end

/-! ### syntax -/
inductive Op2 where
  | add | sub | mul | fdiv | mod | pow | band | shl | shr | eq | ne | lt | le | gt | ge | is | isnot | in_ | notin
  deriving DecidableEq, Repr
inductive Bi where
  | len | tuple | list | int | repr | sum | min | max | abs | sorted | all | any | str | set
  deriving DecidableEq, Repr
inductive Mt where
  | append | pop | popAt | extend | index | count
  deriving DecidableEq, Repr
inductive Ty where
  | int | bool | str | tuple | list | dict
  deriving DecidableEq, Repr
/-- what is walked -/
inductive ItK where
  | seq | range | enum | zip | enumzip | items
  deriving DecidableEq, Repr
inductive Atom where
  | non | bl (b : Bool) | int (i : Int) | str (s : Str)
  deriving DecidableEq
def Atom.pv : Atom → PV
  | .non => .non | .bl b => .bl b | .int i => .int i | .str s => .str s
inductive Tg where
  | name (i : Nat) | tup (ts : List Tg)
mutual
def Tg.slots : Tg → List Nat
  | .name i => [i]
  | .tup ts => slotsAll ts
def slotsAll : List Tg → List Nat
  | [] => []
  | t :: ts => Tg.slots t ++ slotsAll ts
end

inductive E where
  | var (i : Nat)
  | con (a : Atom)
  | glob (n : Nat)
  | op2 (o : Op2) (own : Bool) (a b : E)
  | neg (a : E)
  | notE (a : E)
  | andE (a b : E)
  | orE (a b : E)
  | chain (o1 o2 : Op2) (a b c : E)
  | ife (c a b : E)
  | tup (es : List E)
  | lst (own : Bool) (es : List E)
  | dict (ks : List Atom) (es : List E)
  | dict1 (k e : E)
  | idx (a i : E)
  | sl (own : Bool) (a : E) (lo hi : Option E)
  | rev (own : Bool) (a : E)
  | call (f : Nat) (es : List E)
  | callk (f : Nat) (es : List E) (kes : List E) (perm : List Nat)
  | bi (b : Bi) (own : Bool) (es : List E)
  | rng (tup own : Bool) (es : List E)
  | isin (a : E) (ty : Ty)
  | comp (own : Bool) (elt : E) (tg : Tg) (k : ItK) (its : List E) (cond : Option E) (slots : List Nat)
  | mt (m : Mt) (a : E) (es : List E)

/-- what a handler hands back: of the exception that it holds -/
inductive HT where
  | isin (cs : List Nat) | and_ (a b : HT) | not_ (a : HT)
inductive HE where
  | con (a : Atom) | glob (n : Nat) | lst (es : List HE) | tup (es : List HE) | fld (c : Nat) | ife (t : HT) (a b : HE)
structure Hd where
  cs : List Nat
  he : HE
/-- a target: a name, an item -/
inductive MT where
  | n (i : Nat) | s (o i : E)
inductive S where
  | set (i : Nat) (e : E)
  | setT (t : Tg) (e : E)
  | par (is : List Nat) (es : List E)
  | seti (o i e : E)
  | setis (is : List (E × E)) (es : List E)
  | setm (ts : List MT) (es : List E)
  | expr (e : E)
  | ret (e : E)
  | retN
  | ife (c : E) (a b : List S)
  | while_ (c : E) (b : List S)
  | for_ (t : Tg) (k : ItK) (its : List E) (b : List S)
  | brk
  | cont
  | pass
  | raise_ (c : Nat) (es : List E)
  | try_ (b : List S) (hs : List Hd)

structure Df where
  name : Str
  ps : List Str
  N : List Str
  gc : Bool
  body : List S
structure Pg where
  defs : List Df
  gl : List (Str × PV)
  cls : List Cl
def Pg.sub (p : Pg) (c d : Nat) : Bool := subN p.cls p.cls.length c d
def Pg.gt (p : Pg) : GT := ⟨p.gl.map (·.2), p.sub⟩
/-! ### handlers -/
def HT.val (sub : Nat → Nat → Bool) (px : PX) : HT → Bool
  | .isin cs => cs.any (sub px.cls)
  | .and_ a b => HT.val sub px a && HT.val sub px b
  | .not_ a => !HT.val sub px a
mutual
def HE.val (G : GT) (px : PX) : HE → Option PV
  | .con a => some a.pv
  | .glob n => G.gl[n]?
  | .lst es => (HE.vals G px es).map .lst
  | .tup es => (HE.vals G px es).map .tup
  | .fld c => if px.cls = c then px.arg else none
  | .ife t a b => if t.val G.sub px = true then HE.val G px a else HE.val G px b
def HE.vals (G : GT) (px : PX) : List HE → Option (List PV)
  | [] => some []
  | e :: es => match HE.val G px e, HE.vals G px es with
    | some v, some vs => some (v :: vs)
    | _, _ => none
end

/-! ### what the operations do -/
/-- a new list: within, or in the heap -/
def newL (own : Bool) (xs : List PV) (ph : PHp) (Q : QV) : Prop :=
  xs.length ≤ sizeLine ∧ (if own = true then Q (.ref ph.length) (ph ++ [.lst xs]) else Q (.lst xs) ph)
/-- the items of a list -/
def lstOf (ph : PHp) : PV → Option (List PV)
  | .lst xs => some xs
  | .ref n => match ph[n]? with
    | some (.lst xs) => some xs
    | _ => none
  | _ => none
def seqOf (ph : PHp) : PV → Option (List PV)
  | .tup xs => some xs
  | .scr ns => some (ns.map .int)
  | v => lstOf ph v
def keyOf : PV → Option L2.Key
  | .int i => some (.inl i)
  | .str s => some (.inr s)
  | _ => none
def keysOf : List PV → Option (List L2.Key)
  | [] => some []
  | v :: r => match keyOf v, keysOf r with
    | some k, some ks => some (k :: ks)
    | _, _ => none
def tkeyOf : PV → Option (List L2.Key)
  | .tup xs => keysOf xs
  | _ => none
section
variable {κ : Type} [DecidableEq κ]
def pkLook (kvs : List (κ × PV)) (k : κ) : Option PV := (kvs.find? fun kv => decide (kv.1 = k)).map (·.2)
def pkPut (kvs : List (κ × PV)) (k : κ) (v : PV) : List (κ × PV) :=
  if (kvs.any fun kv => decide (kv.1 = k)) = true then kvs.map (fun kv => if kv.1 = k then (kv.1, v) else kv) else kvs ++ [(k, v)]
end
def intsOf : List PV → Option (List Int)
  | [] => some []
  | .int i :: r => (intsOf r).map (i :: ·)
  | _ :: _ => none
def blsOf : List PV → Option (List Bool)
  | [] => some []
  | .bl i :: r => (blsOf r).map (i :: ·)
  | _ :: _ => none
def lexLt : List Int → List Int → Bool
  | _, [] => false
  | [], _ :: _ => true
  | x :: xs, y :: ys => if x = y then lexLt xs ys else decide (x < y)
def mulOk (i j : Int) : Prop := IntMulOk i j
def eqP (a b : PV) (ph : PHp) (k : Bool → Prop) : Prop :=
  match a, b with
  | .int i, .int j => k (decide (i = j))
  | .non, .non => k true
  | .str s, .str t => k (decide (s = t))
  | .bl s, .bl t => k (decide (s = t))
  | a, b => ∃ d e, Dat ph a d ∧ Dat ph b e ∧ SeqAt.shaped d = true ∧ SeqAt.shaped e = true ∧ k (PyData.eqv d e)
def isNon : PV → Bool
  | .non => true
  | _ => false
def isIn (a b : PV) (ph : PHp) (k : Bool → Prop) : Prop :=
  match b with
  | .ref n => match ph[n]? with
    | some (.dK kvs) => ∃ key, keyOf a = some key ∧ k (pkLook kvs key).isSome
    | some (.dT kvs) => ∃ key, tkeyOf a = some key ∧ k (pkLook kvs key).isSome
    | _ => ∃ d ds, Dat ph a d ∧ Dat ph b (.list ds) ∧ SeqAt.shaped d = true ∧ SeqAt.shaped (.list ds) = true ∧ k (ds.any fun z => PyData.eqv z d)
  | .tup xs => ∃ d ds, Dat ph a d ∧ DatAll ph xs ds ∧ SeqAt.shaped d = true ∧ SeqAt.shaped (.tuple ds) = true ∧ k (ds.any fun z => PyData.eqv z d)
  | _ => ∃ d ds, Dat ph a d ∧ Dat ph b (.list ds) ∧ SeqAt.shaped d = true ∧ SeqAt.shaped (.list ds) = true ∧ k (ds.any fun z => PyData.eqv z d)

def op2S (o : Op2) (own : Bool) (a b : PV) (ph : PHp) (Q : QV) : Prop :=
  match o with
  | .add => match a, b with
    | .int i, .int j => Q (.int (i + j)) ph
    | .str s, .str t => s.length + t.length ≤ sizeLine ∧ Q (.str (s ++ t)) ph
    | .tup xs, .tup ys => xs.length + ys.length ≤ sizeLine ∧ Q (.tup (xs ++ ys)) ph
    | a, b => ∃ xs ys, lstOf ph a = some xs ∧ lstOf ph b = some ys ∧ xs.length + ys.length ≤ sizeLine ∧ newL own (xs ++ ys) ph Q
  | .sub => match a, b with
    | .int i, .int j => Q (.int (i - j)) ph
    | _, _ => False
  | .mul => match a, b with
    | .int i, .int j => mulOk i j ∧ Q (.int (i * j)) ph
    | .tup xs, .int k => (-1000 ≤ k ∧ k ≤ 1000) ∧ xs.length ≤ 1000 ∧ Q (.tup (List.replicate k.toNat xs).flatten) ph
    | .str xs, .int k => (-1000 ≤ k ∧ k ≤ 1000) ∧ xs.length ≤ 1000 ∧ Q (.str ⟨(List.replicate k.toNat xs.cps.toList).flatten.toArray⟩) ph
    | a, .int k => ∃ xs, lstOf ph a = some xs ∧ (-1000 ≤ k ∧ k ≤ 1000) ∧ xs.length ≤ 1000 ∧ newL own (List.replicate k.toNat xs).flatten ph Q
    | _, _ => False
  | .fdiv => match a, b with
    | .int i, .int j => ((0 < j ∧ j.natAbs.log2 < 9000) ∨ (j ≠ 0 ∧ j.natAbs < 1073741824)) ∧ Q (.int (i.fdiv j)) ph
    | _, _ => False
  | .mod => match a, b with
    | .int i, .int j => j ≠ 0 ∧ Q (.int (i.fmod j)) ph
    | _, _ => False
  | .pow => match a, b with
    | .int i, .int j => (0 ≤ j ∧ j ≤ 1000000 ∧ i.natAbs < 2 ^ 64) ∧ Q (.int (i ^ j.toNat)) ph
    | _, _ => False
  | .band => match a, b with
    | .int i, .int j => Q (.int (Builtin.bitAnd i j)) ph
    | _, _ => False
  | .shl => match a, b with
    | .int i, .int j => (0 ≤ j ∧ j ≤ 1000000 ∧ i.natAbs < 2 ^ 64) ∧ Q (.int (i * 2 ^ j.toNat)) ph
    | _, _ => False
  | .shr => match a, b with
    | .int i, .int j => 0 ≤ j ∧ Q (.int (i / 2 ^ j.toNat)) ph
    | _, _ => False
  | .eq => eqP a b ph fun k => Q (.bl k) ph
  | .ne => eqP a b ph fun k => Q (.bl (!k)) ph
  | .lt => match a, b with
    | .int i, .int j => Q (.bl (decide (i < j))) ph
    | .tup xs, .tup ys => ∃ ns ms, intsOf xs = some ns ∧ intsOf ys = some ms ∧ Q (.bl (lexLt ns ms)) ph
    | _, _ => False
  | .le => match a, b with
    | .int i, .int j => Q (.bl (decide (i ≤ j))) ph
    | _, _ => False
  | .gt => match a, b with
    | .int i, .int j => Q (.bl (decide (j < i))) ph
    | _, _ => False
  | .ge => match a, b with
    | .int i, .int j => Q (.bl (decide (j ≤ i))) ph
    | _, _ => False
  | .is => match b with
    | .non => Q (.bl (isNon a)) ph
    | _ => False
  | .isnot => match b with
    | .non => Q (.bl (!isNon a)) ph
    | _ => False
  | .in_ => isIn a b ph fun k => Q (.bl k) ph
  | .notin => isIn a b ph fun k => Q (.bl (!k)) ph

def strAt (s : Str) (i : Int) (Q : PV → Prop) : Prop := ∃ c, s.length ≤ sizeLine ∧ L2.atI s.cps.toList i = some c ∧ Q (.str ⟨#[c]⟩)
def idxS (a b : PV) (ph : PHp) (Q : QV) : Prop :=
  match a, b with
  | .tup xs, .int i => ∃ v, L2.atI xs i = some v ∧ Q v ph
  | .lst xs, .int i => ∃ v, L2.atI xs i = some v ∧ Q v ph
  | .str s, .int i => strAt s i fun v => Q v ph
  | .ref n, b => match ph[n]? with
    | some (.lst xs) => match b with
      | .int i => ∃ v, L2.atI xs i = some v ∧ Q v ph
      | _ => False
    | some (.dK kvs) => ∃ key v, keyOf b = some key ∧ pkLook kvs key = some v ∧ Q v ph
    | some (.dT kvs) => ∃ key v, tkeyOf b = some key ∧ pkLook kvs key = some v ∧ Q v ph
    | none => False
  | _, _ => False
/-- xs[lo:hi] -/
def sIx (n d : Nat) : Option Int → Nat
  | none => d
  | some v => if v < 0 then (max (v + (n : Int)) 0).toNat else (min v (n : Int)).toNat
def cut {α : Type} (xs : List α) (lo hi : Option Int) : List α := (xs.drop (sIx xs.length 0 lo)).take (sIx xs.length xs.length hi - sIx xs.length 0 lo)
def slS (own : Bool) (a : PV) (lo hi : Option Int) (ph : PHp) (Q : QV) : Prop :=
  match a with
  | .tup xs => Q (.tup (cut xs lo hi)) ph
  | .str s => s.length ≤ sizeLine ∧ Q (.str ⟨(cut s.cps.toList lo hi).toArray⟩) ph
  | .scr ns => newL own (cut (ns.map PV.int) lo hi) ph Q
  | a => ∃ xs, lstOf ph a = some xs ∧ newL own (cut xs lo hi) ph Q
def revS (own : Bool) (a : PV) (ph : PHp) (Q : QV) : Prop := ∃ xs, lstOf ph a = some xs ∧ newL own xs.reverse ph Q

-- sorted: ints, or tuples of ints
def rowsOf : List PV → Option (List (List Int))
  | [] => some []
  | .tup r :: l => match intsOf r, rowsOf l with
    | some ns, some ls => some (ns :: ls)
    | _, _ => none
  | _ :: _ => none
def reprS (d : PyData) : Prop := d.showable = true ∧ d.shown.length ≤ sizeLine ∧ d.depth ≤ 60

def bi_len (own : Bool) (vs : List PV) (ph : PHp) (Q : QV) : Prop :=
  match vs with
  | [.str s] => s.length ≤ sizeLine ∧ Q (.int s.length) ph
  | [.ref n] => match ph[n]? with
    | some (.lst xs) => Q (.int xs.length) ph
    | some (.dK kvs) => Q (.int kvs.length) ph
    | some (.dT kvs) => Q (.int kvs.length) ph
    | none => False
  | [.tup xs] => Q (.int xs.length) ph
  | [.scr ns] => Q (.int ns.length) ph
  | [.lst xs] => Q (.int xs.length) ph
  | _ => False
def bi_tuple (own : Bool) (vs : List PV) (ph : PHp) (Q : QV) : Prop :=
  match vs with
  | [.tup xs] => Q (.tup xs) ph
  | [v] => ∃ xs, lstOf ph v = some xs ∧ Q (.tup xs) ph
  | _ => False
def bi_list (own : Bool) (vs : List PV) (ph : PHp) (Q : QV) : Prop :=
  match vs with
  | [v] => ∃ xs, seqOf ph v = some xs ∧ newL own xs ph Q
  | _ => False
def bi_int (own : Bool) (vs : List PV) (ph : PHp) (Q : QV) : Prop :=
  match vs with
  | [.int i] => Q (.int i) ph
  | [.bl k] => Q (.int (if k then 1 else 0)) ph
  | _ => False
def bi_abs (own : Bool) (vs : List PV) (ph : PHp) (Q : QV) : Prop :=
  match vs with
  | [.int i] => Q (.int (if i < 0 then -i else i)) ph
  | _ => False
def bi_min (own : Bool) (vs : List PV) (ph : PHp) (Q : QV) : Prop :=
  match vs with
  | [.int i, .int j] => Q (.int (if j < i then j else i)) ph
  | [v] => ∃ xs ns, seqOf ph v = some xs ∧ intsOf xs = some ns ∧ 0 < ns.length ∧ ∀ m, m ∈ ns → (∀ y, y ∈ ns → m ≤ y) → Q (.int m) ph
  | _ => False
def bi_max (own : Bool) (vs : List PV) (ph : PHp) (Q : QV) : Prop :=
  match vs with
  | [.int i, .int j] => Q (.int (if j > i then j else i)) ph
  | [v] => ∃ xs ns, seqOf ph v = some xs ∧ intsOf xs = some ns ∧ 0 < ns.length ∧ ∀ m, m ∈ ns → (∀ y, y ∈ ns → y ≤ m) → Q (.int m) ph
  | _ => False
def bi_sum (own : Bool) (vs : List PV) (ph : PHp) (Q : QV) : Prop :=
  match vs with
  | [v] => ∃ xs ns, seqOf ph v = some xs ∧ intsOf xs = some ns ∧ Q (.int ns.sum) ph
  | _ => False
def bi_any (own : Bool) (vs : List PV) (ph : PHp) (Q : QV) : Prop :=
  match vs with
  | [v] => ∃ xs bs, lstOf ph v = some xs ∧ blsOf xs = some bs ∧ Q (.bl (bs.any id)) ph
  | _ => False
def bi_all (own : Bool) (vs : List PV) (ph : PHp) (Q : QV) : Prop :=
  match vs with
  | [v] => ∃ xs bs, lstOf ph v = some xs ∧ blsOf xs = some bs ∧ Q (.bl (bs.all id)) ph
  | _ => False
def bi_sorted (own : Bool) (vs : List PV) (ph : PHp) (Q : QV) : Prop :=
  match vs with
  | [v] => ∃ xs, lstOf ph v = some xs ∧ ((∃ ns, intsOf xs = some ns ∧ newL own ((ns.mergeSort fun a b => decide (a ≤ b)).map .int) ph Q) ∨
      (∃ rs, rowsOf xs = some rs ∧ (∀ r ∈ rs, r ≠ []) ∧ newL own ((rs.mergeSort fun a b => !decide (b < a)).map fun r => .tup (r.map .int)) ph Q))
  | _ => False
def bi_repr (own : Bool) (vs : List PV) (ph : PHp) (Q : QV) : Prop :=
  match vs with
  | [v] => ∃ d, Dat ph v d ∧ reprS d ∧ Q (.str d.shown) ph
  | _ => False
def bi_str (own : Bool) (vs : List PV) (ph : PHp) (Q : QV) : Prop :=
  match vs with
  | [.int i] => i.natAbs.log2 < 1920 ∧ Q (.str (toString i)) ph
  | _ => False
def biS : Bi → Bool → List PV → PHp → QV → Prop
  | .len => bi_len
  | .tuple => bi_tuple
  | .list => bi_list
  | .int => bi_int
  | .abs => bi_abs
  | .min => bi_min
  | .max => bi_max
  | .sum => bi_sum
  | .any => bi_any
  | .all => bi_all
  | .sorted => bi_sorted
  | .repr => bi_repr
  | .str => bi_str
  | _ => fun _ _ _ _ => False

def setO (ph : PHp) (n : Nat) (o : PO) : PHp := ph.set n o
def mtS (m : Mt) (a : PV) (vs : List PV) (ph : PHp) (Q : QV) : Prop :=
  match m, a, vs with
  | .append, .ref n, [v] => ∃ xs, ph[n]? = some (.lst xs) ∧ xs.length < sizeLine ∧ Q .non (setO ph n (.lst (xs ++ [v])))
  | .pop, .ref n, [] => ∃ xs v, ph[n]? = some (.lst xs) ∧ xs[xs.length - 1]? = some v ∧ Q v (setO ph n (.lst xs.dropLast))
  | .popAt, .ref n, [.int i] => ∃ xs v, ph[n]? = some (.lst xs) ∧ 0 ≤ i ∧ i < 2 ^ 62 ∧ xs[i.toNat]? = some v ∧ Q v (setO ph n (.lst (xs.eraseIdx i.toNat)))
  | .extend, .ref n, [v] => ∃ xs ys, ph[n]? = some (.lst xs) ∧ lstOf ph v = some ys ∧ xs.length + ys.length ≤ sizeLine ∧ Q .non (setO ph n (.lst (xs ++ ys)))
  | .index, a, [v] => ∃ xs ds d j z, lstOf ph a = some xs ∧ DatAll ph xs ds ∧ Dat ph v d ∧ SeqAt.shaped (.list ds) = true ∧ SeqAt.shaped d = true ∧ ds[j]? = some z ∧ PyData.eqv z d = true ∧
      (∀ (m : Nat) (z' : PyData), m < j → ds[m]? = some z' → PyData.eqv z' d = false) ∧ Q (.int (j : Nat)) ph
  | .count, a, [.int k] => ∃ xs ns, lstOf ph a = some xs ∧ intsOf xs = some ns ∧ Q (.int (ns.count k : Nat)) ph
  | _, _, _ => False

def setiS (o i v : PV) (ph : PHp) (Q : PHp → Prop) : Prop :=
  match o with
  | .ref n => match ph[n]? with
    | some (.lst xs) => match i with
      | .int k => ∃ j, L2.ixN xs.length k = some j ∧ Q (setO ph n (.lst (xs.set j v)))
      | _ => False
    | some (.dK kvs) => match i, kvs with
      | .tup xs, [] => ∃ key, keysOf xs = some key ∧ Q (setO ph n (.dT [(key, v)]))
      | i, kvs => ∃ key, keyOf i = some key ∧ kvs.length < sizeLine ∧ Q (setO ph n (.dK (pkPut kvs key v)))
    | some (.dT kvs) => ∃ key, tkeyOf i = some key ∧ kvs.length < sizeLine ∧ Q (setO ph n (.dT (pkPut kvs key v)))
    | none => False
  | _ => False

/-! ### walks -/
def rngL (a b c : Int) : List PV := (List.range (Builtin.Range.rangeSize a b c).toNat).map fun (i : Nat) => PV.int (a + (i : Int) * c)
def enumL : Nat → List PV → List PV
  | _, [] => []
  | i, x :: r => .tup [.int i, x] :: enumL (i + 1) r
def zip2L : List PV → List PV → List PV
  | x :: xs, y :: ys => .tup [x, y] :: zip2L xs ys
  | _, _ => []
def zip3L : List PV → List PV → List PV → List PV
  | x :: xs, y :: ys, z :: zs => .tup [x, y, z] :: zip3L xs ys zs
  | _, _, _ => []
def rOk (i j : Int) : Prop := -(2 ^ 62) ≤ i ∧ i < 2 ^ 62 ∧ -(2 ^ 62) ≤ j ∧ j < 2 ^ 62
instance {i j : Int} : Decidable (rOk i j) := by unfold rOk; exact inferInstance
def signsL (s : Str) : List PV := s.cps.toList.map fun c => PV.str ⟨#[c]⟩
def rng12 : List PV → Option (List PV)
  | [.int j] => if rOk 0 j then some (rngL 0 j 1) else none
  | [.int i, .int j] => if rOk i j then some (rngL i j 1) else none
  | _ => none
def rngIt : List PV → Option (List PV)
  | [.int i, .int j, .int c] => if rOk i j ∧ c = -1 then some (rngL i j c) else none
  | vs => rng12 vs
def seqIt (ph : PHp) : List PV → Option (List PV)
  | [.str s] => some (signsL s)
  | [v] => seqOf ph v
  | _ => none
def enumIt (ph : PHp) : List PV → Option (List PV)
  | [v] => (seqOf ph v).map (enumL 0)
  | _ => none
def isTup : PV → Bool
  | .tup _ => true
  | _ => false
/-- two lists, two tuples -/
def zipIt (ph : PHp) : List PV → Option (List PV)
  | [v, w] => match seqOf ph v, seqOf ph w with
    | some xs, some ys => if isTup v = isTup w then some (zip2L xs ys) else none
    | _, _ => none
  | _ => none
def itItems (k : ItK) (vs : List PV) (ph : PHp) : Option (List PV) :=
  match k with
  | .seq => seqIt ph vs
  | .range => rngIt vs
  | .enum => enumIt ph vs
  | .zip => zipIt ph vs
  | .enumzip => none
  | .items => none

/-! ### expressions -/
abbrev CallS := Nat → List PV → PHp → QV → QX → Prop
def wipeE (env : Env) : List Nat → Env
  | [] => env
  | i :: r => (wipeE env r).set i none
mutual
def bindT : Tg → PV → Env → (Env → Prop) → Prop
  | .name i, v, env, K => i < env.length ∧ K (env.set i (some v))
  | .tup ts, v, env, K => ∃ xs, v = .tup xs ∧ xs.length = ts.length ∧ bindTs ts xs env K
def bindTs : List Tg → List PV → Env → (Env → Prop) → Prop
  | [], _, env, K => K env
  | t :: ts, x :: xs, env, K => bindT t x env fun env' => bindTs ts xs env' K
  | _ :: _, [], _, _ => False
end
def compL (still : PHp → Prop) (bind : PV → (Env → Prop) → Prop) (cnd : Env → PHp → (Bool → PHp → Prop) → Prop) (el : Env → PHp → QV → Prop) : List PV → List PV → PHp → (List PV → PHp → Prop) → Prop
  | [], acc, ph, Q => still ph ∧ Q acc ph
  | v :: r, acc, ph, Q => still ph ∧ bind v fun env' => cnd env' ph fun b ph1 =>
      if b = true then el env' ph1 fun x ph2 => acc.length < sizeLine ∧ compL still bind cnd el r (acc ++ [x]) ph2 Q else compL still bind cnd el r acc ph1 Q
def toB (Q : Bool → PHp → Prop) : QV := fun v ph => ∃ b, v = .bl b ∧ Q b ph
def tyIs (t : Ty) (ph : PHp) : PV → Bool
  | .int _ => t == .int
  | .bl _ => t == .int || t == .bool
  | .str _ => t == .str
  | .tup _ => t == .tuple
  | .lst _ => t == .list
  | .scr _ => t == .list
  | .non => false
  | .ref n => match ph[n]? with
    | some (.lst _) => t == .list
    | some _ => t == .dict
    | none => false
def pickL (as : List PV) : List Nat → Option (List PV)
  | [] => some []
  | j :: r => match as[j]?, pickL as r with
    | some v, some l => some (v :: l)
    | _, _ => none

def noX : QX := fun _ _ => False
/-- a dict of one entry -/
def dict1S (k v : PV) (ph : PHp) (Q : QV) : Prop := ∃ key, keyOf k = some key ∧ Q (.ref ph.length) (ph ++ [.dK [(key, v)]])
section
variable (C : CallS) (G : GT)
mutual
def wpE (X : QX) : E → Env → PHp → QV → Prop
  | .var i, env, ph, Q => ∃ v, env[i]? = some (some v) ∧ Q v ph
  | .con a, _, ph, Q => Q a.pv ph
  | .glob n, _, ph, Q => ∃ v, G.gl[n]? = some v ∧ Q v ph
  | .op2 o own a b, env, ph, Q => wpE X a env ph fun x ph1 => wpE X b env ph1 fun y ph2 => op2S o own x y ph2 Q
  | .neg a, env, ph, Q => wpE X a env ph fun x ph1 => ∃ i, x = .int i ∧ Q (.int (-i)) ph1
  | .notE a, env, ph, Q => wpE X a env ph fun x ph1 => ∃ b, x = .bl b ∧ Q (.bl (!b)) ph1
  | .andE a b, env, ph, Q => wpE X a env ph fun x ph1 => ∃ c, x = .bl c ∧ if c = true then wpE X b env ph1 Q else Q (.bl false) ph1
  | .orE a b, env, ph, Q => wpE X a env ph fun x ph1 => ∃ c, x = .bl c ∧ if c = true then Q (.bl true) ph1 else wpE X b env ph1 Q
  | .chain o1 o2 a b c, env, ph, Q => wpE X a env ph fun x ph1 => wpE X b env ph1 fun y ph2 => op2S o1 false x y ph2 fun r ph3 => ∃ k, r = .bl k ∧
      if k = true then wpE X c env ph3 fun z ph4 => op2S o2 false y z ph4 Q else Q (.bl false) ph3
  | .ife c a b, env, ph, Q => wpE X c env ph fun x ph1 => ∃ k, x = .bl k ∧ if k = true then wpE X a env ph1 Q else wpE X b env ph1 Q
  | .tup es, env, ph, Q => wpEs X es env ph fun vs ph1 => vs.length ≤ sizeLine ∧ Q (.tup vs) ph1
  | .lst own es, env, ph, Q => wpEs X es env ph fun vs ph1 => newL own vs ph1 Q
  | .dict ks es, env, ph, Q => wpEs X es env ph fun vs ph1 => ∃ kk, keysOf (ks.map Atom.pv) = some kk ∧ kk.Nodup ∧ kk.length ≤ 15 ∧ Q (.ref ph1.length) (ph1 ++ [.dK (kk.zip vs)])
  | .dict1 k e, env, ph, Q => wpE X k env ph fun x ph1 => wpE X e env ph1 fun y ph2 => dict1S x y ph2 Q
  | .idx a i, env, ph, Q => wpE X a env ph fun x ph1 => wpE X i env ph1 fun y ph2 => idxS x y ph2 Q
  | .sl own a lo hi, env, ph, Q => wpE X a env ph fun x ph1 => wpO X lo env ph1 fun l ph2 => wpO X hi env ph2 fun h ph3 => slS own x l h ph3 Q
  | .rev own a, env, ph, Q => wpE X a env ph fun x ph1 => revS own x ph1 Q
  | .call f es, env, ph, Q => wpEs X es env ph fun vs ph1 => C f vs ph1 Q X
  | .callk f es kes perm, env, ph, Q => wpEs X es env ph fun vs ph1 => wpEs X kes env ph1 fun zs ph2 => ∃ as, pickL (vs ++ zs) perm = some as ∧ C f as ph2 Q X
  | .bi b own es, env, ph, Q => wpEs X es env ph fun vs ph1 => biS b own vs ph1 Q
  | .rng tup own es, env, ph, Q => wpEs X es env ph fun vs ph1 => ∃ xs, rng12 vs = some xs ∧ xs.length ≤ 1000000 ∧ if tup = true then Q (.tup xs) ph1 else newL own xs ph1 Q
  | .isin a ty, env, ph, Q => wpE X a env ph fun x ph1 => Q (.bl (tyIs ty ph1 x)) ph1
  | .comp own elt tg k its cond slots, env, ph, Q => wpEs X its env ph fun vs ph1 => ∃ items, itItems k vs ph1 = some items ∧
      compL (fun h => itItems k vs h = some items) (fun v K => bindT tg v (wipeE env slots) K)
        (fun env' h K => wpC noX cond env' h K) (fun env' h K => wpE noX elt env' h K) items [] ph1 fun xs ph2 => newL own xs ph2 Q
  | .mt m a es, env, ph, Q => wpE X a env ph fun x ph1 => (lstOf ph1 x).isSome = true ∧ wpEs X es env ph1 fun vs ph2 => mtS m x vs ph2 Q
def wpEs (X : QX) : List E → Env → PHp → (List PV → PHp → Prop) → Prop
  | [], _, ph, Q => Q [] ph
  | e :: es, env, ph, Q => wpE X e env ph fun v ph1 => wpEs X es env ph1 fun vs ph2 => Q (v :: vs) ph2
def wpO (X : QX) : Option E → Env → PHp → (Option Int → PHp → Prop) → Prop
  | none, _, ph, Q => Q none ph
  | some e, env, ph, Q => wpE X e env ph fun v ph1 => ∃ i, v = .int i ∧ Q (some i) ph1
def wpC (X : QX) : Option E → Env → PHp → (Bool → PHp → Prop) → Prop
  | none, _, ph, Q => Q true ph
  | some e, env, ph, Q => wpE X e env ph fun v ph1 => ∃ b, v = .bl b ∧ Q b ph1
end

/-! ### statements -/
structure Dn where
  nx : Env → PHp → Prop
  rt : QV
  bk : Env → PHp → Prop := fun _ _ => False
  ct : Env → PHp → Prop := fun _ _ => False
  xc : QX := noX
def whl (cnd : Env → PHp → (Bool → PHp → Prop) → Prop) (bd : Dn → Env → PHp → Prop) (D : Dn) : Nat → Env → PHp → Prop
  | 0, _, _ => False
  | n + 1, env, ph => cnd env ph fun b ph1 => if b = true then bd { D with nx := whl cnd bd D n, ct := whl cnd bd D n, bk := D.nx } env ph1 else D.nx env ph1
def forL (still : PHp → Prop) (t : Tg) (bd : Dn → Env → PHp → Prop) (D : Dn) : List PV → Env → PHp → Prop
  | [], env, ph => still ph ∧ D.nx env ph
  | v :: r, env, ph => still ph ∧ bindT t v env fun env' => bd { D with nx := forL still t bd D r, ct := forL still t bd D r, bk := D.nx } env' ph
def setSl : List Nat → List PV → Env → Env
  | i :: is, v :: vs, env => setSl is vs (env.set i (some v))
  | _, _, env => env
/-- what is wanted of an exception that meets handlers -/
def hdX (G : GT) (hs : List Hd) (D : Dn) : QX := fun px ph => match hs.find? fun h => h.cs.any (G.sub px.cls) with
  | some h => ∃ v, h.he.val G px = some v ∧ D.rt v ph
  | none => D.xc px ph
mutual
def wpS : S → Dn → Env → PHp → Prop
  | .set i e, D, env, ph => wpE C G D.xc e env ph fun v ph1 => i < env.length ∧ D.nx (env.set i (some v)) ph1
  | .setT t e, D, env, ph => wpE C G D.xc e env ph fun v ph1 => bindT t v env fun env' => D.nx env' ph1
  | .par is es, D, env, ph => wpEs C G D.xc es env ph fun vs ph1 => D.nx (setSl is vs env) ph1
  | .seti o i e, D, env, ph => wpE C G D.xc e env ph fun v ph1 => wpE C G D.xc o env ph1 fun x ph2 => wpE C G D.xc i env ph2 fun y ph3 => setiS x y v ph3 fun ph4 => D.nx env ph4
  | .setis is es, D, env, ph => wpEs C G D.xc es env ph fun vs ph1 => wpIs D.xc is vs env ph1 fun ph2 => D.nx env ph2
  | .setm ts es, D, env, ph => wpEs C G D.xc es env ph fun vs ph1 => wpMs D.xc ts vs env ph1 D.nx
  | .expr e, D, env, ph => wpE C G D.xc e env ph fun _ ph1 => D.nx env ph1
  | .ret e, D, env, ph => wpE C G D.xc e env ph D.rt
  | .retN, D, _, ph => D.rt .non ph
  | .ife c a b, D, env, ph => wpE C G D.xc c env ph fun v ph1 => ∃ k, v = .bl k ∧ if k = true then wpB a D env ph1 else wpB b D env ph1
  | .while_ c b, D, env, ph => ∃ n, whl (fun env' h K => wpE C G D.xc c env' h fun v h1 => ∃ k, v = .bl k ∧ K k h1) (fun D' env' h => wpB b D' env' h) D n env ph
  | .for_ t k its b, D, env, ph => wpEs C G D.xc its env ph fun vs ph1 => ∃ items, itItems k vs ph1 = some items ∧
      forL (fun h => itItems k vs h = some items) t (fun D' env' h => wpB b D' env' h) D items env ph1
  | .brk, D, env, ph => D.bk env ph
  | .cont, D, env, ph => D.ct env ph
  | .pass, D, env, ph => D.nx env ph
  | .raise_ c [], D, _, ph => D.xc ⟨c, none⟩ ph
  | .raise_ c [e], D, env, ph => wpE C G D.xc e env ph fun v ph1 => D.xc ⟨c, some v⟩ ph1
  | .raise_ _ _, _, _, _ => False
  | .try_ b hs, D, env, ph => wpB b { D with xc := hdX G hs D } env ph
def wpB : List S → Dn → Env → PHp → Prop
  | [], D, env, ph => D.nx env ph
  | s :: r, D, env, ph => wpS s { D with nx := fun env' h => wpB r D env' h } env ph
def wpIs (X : QX) : List (E × E) → List PV → Env → PHp → (PHp → Prop) → Prop
  | [], [], _, ph, K => K ph
  | (o, i) :: r, v :: vs, env, ph, K => wpE C G X o env ph fun x ph1 => wpE C G X i env ph1 fun y ph2 => setiS x y v ph2 fun ph3 => wpIs X r vs env ph3 K
  | _, _, _, _, _ => False
def wpMs (X : QX) : List MT → List PV → Env → PHp → (Env → PHp → Prop) → Prop
  | [], [], env, ph, K => K env ph
  | .n i :: r, v :: vs, env, ph, K => i < env.length ∧ wpMs X r vs (env.set i (some v)) ph K
  | .s o i :: r, v :: vs, env, ph, K => wpE C G X o env ph fun x ph1 => wpE C G X i env ph1 fun y ph2 => setiS x y v ph2 fun ph3 => wpMs X r vs env ph3 K
  | _, _, _, _, _ => False
end
end

/-! ### defs -/
-- the value that is handed back, its lists frozen
mutual
inductive Frz (n : Nat) (ph : PHp) : PV → PV → Prop
  | non : Frz n ph .non .non
  | bl (b) : Frz n ph (.bl b) (.bl b)
  | int (i) : Frz n ph (.int i) (.int i)
  | str (s) : Frz n ph (.str s) (.str s)
  | scr (s) : Frz n ph (.scr s) (.scr s)
  | tup {xs ys} : FrzL n ph xs ys → Frz n ph (.tup xs) (.tup ys)
  | lst {xs ys} : FrzL n ph xs ys → Frz n ph (.lst xs) (.lst ys)
  | old {m} : m < n → Frz n ph (.ref m) (.ref m)
  | ref {m xs ys} : n ≤ m → ph[m]? = some (.lst xs) → FrzL n ph xs ys → Frz n ph (.ref m) (.lst ys)
inductive FrzL (n : Nat) (ph : PHp) : List PV → List PV → Prop
  | nil : FrzL n ph [] []
  | cons {x y xs ys} : Frz n ph x y → FrzL n ph xs ys → FrzL n ph (x :: xs) (y :: ys)
end
-- no number from n on
mutual
inductive Old (n : Nat) : PV → Prop
  | non : Old n .non
  | bl (b) : Old n (.bl b)
  | int (i) : Old n (.int i)
  | str (s) : Old n (.str s)
  | scr (s) : Old n (.scr s)
  | tup {xs} : OldL n xs → Old n (.tup xs)
  | lst {xs} : OldL n xs → Old n (.lst xs)
  | ref {m} : m < n → Old n (.ref m)
inductive OldL (n : Nat) : List PV → Prop
  | nil : OldL n []
  | cons {x xs} : Old n x → OldL n xs → OldL n (x :: xs)
end
def OldO (n : Nat) : PO → Prop
  | .lst xs => OldL n xs
  | .dK kvs => OldL n (kvs.map (·.2))
  | .dT kvs => OldL n (kvs.map (·.2))
/-- behind a def's body: what is new in the heap is let go, if gc -/
def retS (gc : Bool) (ph0 : PHp) (Q : QV) : QV := fun v ph =>
  if gc = true then ∃ v', Frz ph0.length ph v v' ∧ (∀ i o, i < ph0.length → ph[i]? = some o → ph0[i]? = some o ∨ OldO ph0.length o) ∧ Q v' (ph.take ph0.length)
  else Q v ph
def startE (d : Df) (vs : List PV) : Env := vs.map some ++ List.replicate (d.N.length - vs.length) none
/-- an exception that leaves the body -/
def retX (gc : Bool) (ph0 : PHp) (X : QX) : QX := fun px ph =>
  if gc = true then (∀ v, px.arg = some v → Old ph0.length v) ∧ (∀ i o, i < ph0.length → ph[i]? = some o → ph0[i]? = some o ∨ OldO ph0.length o) ∧ X px (ph.take ph0.length)
  else X px ph
def bodyS (C : CallS) (G : GT) (X : QX) (d : Df) (vs : List PV) (ph : PHp) (Q : QV) : Prop :=
  vs.length = d.ps.length ∧ wpB C G d.body { nx := fun _ h => retS d.gc ph Q .non h, rt := retS d.gc ph Q, xc := retX d.gc ph X } (startE d vs) ph
def callK (p : Pg) : Nat → CallS
  | 0 => fun _ _ _ _ _ => False
  | k + 1 => fun f vs ph Q X => match p.defs[f]? with
    | some d => bodyS (callK p k) p.gt X d vs ph Q
    | none => False
end RL

/-! RLRep: plain data and what stands for it in the layer's heap. -/
namespace RL
open PySem PySem.Spec PyProof.Rows L2

/-- the numbers' addresses; the addresses of lists that are still being made -/
structure Mu where
  num : List Addr
  hid : Addr → Prop
def Mu.out (μ : Mu) (a : Addr) : Prop := a ∉ μ.num ∧ ¬ μ.hid a
/-- a list that is read and that none of the numbers stands for -/
def SqN (K : PySem.W.Frag) (H : Hp) (μ : Mu) (a : Addr) (xs : List V) : Prop :=
  (Rd H a (.lst xs) ∧ μ.out a) ∨
    ∃ (o : Obj) (its : Array Value) (n : Nat), K.lookup a = some o ∧ o.cls = .type "list" ∧ o.dict = none ∧ o.data = .seq its n ∧ its.size ≤ sizeLine ∧ Vals xs its.toList
theorem SqN.l {K : PySem.W.Frag} {H : Hp} {μ : Mu} {a : Addr} {xs : List V} (h : SqN K H μ a xs) : SqL K H a xs := by
  rcases h with h | h
  · exact .inl h.1
  · exact .inr h
mutual
inductive Rep (K : PySem.W.Frag) (H : Hp) (μ : Mu) : PV → V → Prop
  | non : Rep K H μ .non .non
  | bl (b) : Rep K H μ (.bl b) (.bl b)
  | int (i) : Rep K H μ (.int i) (.int i)
  | str (s) : Rep K H μ (.str s) (.str s)
  | tup {a xs vs} : H a = some (.tup vs) → Reps K H μ xs vs → Rep K H μ (.tup xs) (.ref a)
  | lst {a xs vs} : H a = some (.lst vs) → μ.out a → Reps K H μ xs vs → Rep K H μ (.lst xs) (.ref a)
  | scr {a ns} : SqN K H μ a (ns.map V.int) → Rep K H μ (.scr ns) (.ref a)
  | ref {n a} : μ.num[n]? = some a → Rep K H μ (.ref n) (.ref a)
inductive Reps (K : PySem.W.Frag) (H : Hp) (μ : Mu) : List PV → List V → Prop
  | nil : Reps K H μ [] []
  | cons {x v xs vs} : Rep K H μ x v → Reps K H μ xs vs → Reps K H μ (x :: xs) (v :: vs)
end
/-- pairs of a dict -/
inductive RepK {κ : Type} (K : PySem.W.Frag) (H : Hp) (μ : Mu) : List (κ × PV) → List (κ × V) → Prop
  | nil : RepK K H μ [] []
  | cons {k x v xs vs} : Rep K H μ x v → RepK K H μ xs vs → RepK K H μ ((k, x) :: xs) ((k, v) :: vs)
def RepO (K : PySem.W.Frag) (H : Hp) (μ : Mu) (a : Addr) : PO → Prop
  | .lst xs => ∃ vs, H a = some (.lst vs) ∧ Reps K H μ xs vs
  | .dK kvs => ∃ l, H a = some (.dK l) ∧ RepK K H μ kvs l
  | .dT kvs => ∃ l, H a = some (.dT l) ∧ RepK K H μ kvs l

/-- the world: what stands for the numbers -/
structure Wd where
  μ : Mu
  ph : PHp
  H : Hp
structure Ok (K : PySem.W.Frag) (w : Wd) : Prop where
  len : w.μ.num.length = w.ph.length
  nd : w.μ.num.Nodup
  ob : ∀ (n : Nat) (a : Addr) (o : PO), w.μ.num[n]? = some a → w.ph[n]? = some o → RepO K w.H w.μ a o
  hid : ∀ a, w.μ.hid a → a ∉ w.μ.num ∧ ∃ vs, w.H a = some (.lst vs)
structure Step (w w' : Wd) : Prop where
  grow : ∃ l, w'.μ.num = w.μ.num ++ l ∧ ∀ a ∈ l, w.H a = none
  keep : ∀ a u, w.H a = some u → a ∉ w.μ.num → w'.H a = some u
  some_ : ∀ a u, w.H a = some u → ∃ u', w'.H a = some u'
  hidn : ∀ a, w'.μ.hid a → w.μ.hid a ∨ w.H a = none
  hidk : ∀ a, w.μ.hid a → w'.μ.hid a
theorem Step.refl (w : Wd) : Step w w := ⟨⟨[], by simp, fun _ h => absurd h (by simp)⟩, fun _ _ h _ => h, fun _ u h => ⟨u, h⟩, fun _ h => .inl h, fun _ h => h⟩
theorem Step.trans {a b c : Wd} (x : Step a b) (y : Step b c) : Step a c := by
  obtain ⟨l, e, f⟩ := x.grow
  obtain ⟨l', e', f'⟩ := y.grow
  have back : ∀ p, b.H p = none → a.H p = none := fun p h => by
    cases q : a.H p with
    | none => rfl
    | some u =>
      obtain ⟨u', hu⟩ := x.some_ p u q
      rw [h] at hu; cases hu
  refine ⟨⟨l ++ l', by rw [e', e, List.append_assoc], fun p hp => ?_⟩, fun p u h n => ?_, fun p u h => ?_, fun p h => ?_, fun p h => y.hidk p (x.hidk p h)⟩
  · rcases List.mem_append.mp hp with h | h
    · exact f p h
    · exact back p (f' p h)
  · refine y.keep p u (x.keep p u h n) fun z => ?_
    rw [e] at z
    rcases List.mem_append.mp z with z | z
    · exact n z
    · rw [f p z] at h; cases h
  · obtain ⟨u', hu⟩ := x.some_ p u h
    exact y.some_ p u' hu
  · rcases y.hidn p h with h | h
    · exact x.hidn p h
    · exact .inr (back p h)
/-- what stands at a number is no tuple, and not locked -/
theorem Ok.at {K : PySem.W.Frag} {w : Wd} (o : Ok K w) {a : Addr} (h : a ∈ w.μ.num) : (∃ vs, w.H a = some (.lst vs)) ∨ (∃ l, w.H a = some (.dK l)) ∨ (∃ l, w.H a = some (.dT l)) := by
  obtain ⟨n, hn, e⟩ := List.getElem_of_mem h
  have h1 : w.μ.num[n]? = some a := by rw [List.getElem?_eq_getElem hn, e]
  have h2 : n < w.ph.length := by rw [← o.len]; exact hn
  have h3 := o.ob n a _ h1 (List.getElem?_eq_getElem h2)
  cases q : w.ph[n] with
  | lst xs => rw [q] at h3; obtain ⟨vs, e, _⟩ := h3; exact .inl ⟨vs, e⟩
  | dK xs => rw [q] at h3; obtain ⟨vs, e, _⟩ := h3; exact .inr (.inl ⟨vs, e⟩)
  | dT xs => rw [q] at h3; obtain ⟨vs, e, _⟩ := h3; exact .inr (.inr ⟨vs, e⟩)
theorem Ok.notTup {K : PySem.W.Frag} {w : Wd} (o : Ok K w) {a : Addr} {u : HO} (h : w.H a = some u) (d : (∀ vs, u ≠ .lst vs) ∧ (∀ l, u ≠ .dK l) ∧ (∀ l, u ≠ .dT l)) : a ∉ w.μ.num := fun hm => by
  rcases o.at hm with ⟨_, e⟩ | ⟨_, e⟩ | ⟨_, e⟩
  · rw [h] at e; cases e; exact d.1 _ rfl
  · rw [h] at e; cases e; exact d.2.1 _ rfl
  · rw [h] at e; cases e; exact d.2.2 _ rfl
theorem Step.out {w w' : Wd} (s : Step w w') {a : Addr} {u : HO} (h : w.H a = some u) (n : w.μ.out a) : w'.μ.out a := by
  obtain ⟨l, e, f⟩ := s.grow
  refine ⟨fun z => ?_, fun z => ?_⟩
  · rw [e] at z
    rcases List.mem_append.mp z with z | z
    · exact n.1 z
    · rw [f a z] at h; cases h
  · rcases s.hidn a z with z | z
    · exact n.2 z
    · rw [z] at h; cases h
section
variable {K : PySem.W.Frag} {w w' : Wd}
theorem Step.tup (s : Step w w') (o : Ok K w) {a : Addr} {vs : List V} (h : w.H a = some (.tup vs)) : w'.H a = some (.tup vs) := s.keep a _ h (o.notTup h ⟨by simp, by simp, by simp⟩)
theorem Step.lst (s : Step w w') (o : Ok K w) {a : Addr} {vs : List V} (h : SqN K w.H w.μ a vs) : SqN K w'.H w'.μ a vs := by
  rcases h with ⟨h, n⟩ | h
  · rcases h with h | ⟨ob, h⟩
    · exact .inl ⟨.inl (s.keep a _ h n.1), s.out h n⟩
    · exact .inl ⟨.inr ⟨ob, s.keep a _ h n.1⟩, s.out h n⟩
  · exact .inr h
theorem Step.lst' (s : Step w w') {a : Addr} {vs : List V} (h : w.H a = some (.lst vs)) (n : w.μ.out a) : w'.H a = some (.lst vs) ∧ w'.μ.out a := ⟨s.keep a _ h n.1, s.out h n⟩
theorem Step.num (s : Step w w') {n : Nat} {a : Addr} (h : w.μ.num[n]? = some a) : w'.μ.num[n]? = some a := by
  obtain ⟨l, e, _⟩ := s.grow
  have hl := (List.getElem?_eq_some_iff.mp h).1
  rw [e, List.getElem?_append_left hl]
  exact h
mutual
theorem Step.rep (s : Step w w') (o : Ok K w) : ∀ {x : PV} {v : V}, Rep K w.H w.μ x v → Rep K w'.H w'.μ x v
  | _, _, .non => .non
  | _, _, .bl b => .bl b
  | _, _, .int i => .int i
  | _, _, .str i => .str i
  | _, _, .tup h r => .tup (s.tup o h) (Step.reps s o r)
  | _, _, .lst h n r => .lst (s.lst' h n).1 (s.lst' h n).2 (Step.reps s o r)
  | _, _, .scr h => .scr (s.lst o h)
  | _, _, .ref h => .ref (s.num h)
theorem Step.reps (s : Step w w') (o : Ok K w) : ∀ {x : List PV} {v : List V}, Reps K w.H w.μ x v → Reps K w'.H w'.μ x v
  | _, _, .nil => .nil
  | _, _, .cons h r => .cons (Step.rep s o h) (Step.reps s o r)
end
theorem Step.repk {κ : Type} (s : Step w w') (o : Ok K w) : ∀ {x : List (κ × PV)} {v : List (κ × V)}, RepK K w.H w.μ x v → RepK K w'.H w'.μ x v
  | _, _, .nil => .nil
  | _, _, .cons h r => .cons (s.rep o h) (Step.repk s o r)
end
/-! ### lists of values -/
section
variable {K : PySem.W.Frag} {H : Hp} {μ : Mu}
theorem Reps.length : ∀ {xs : List PV} {vs : List V}, Reps K H μ xs vs → vs.length = xs.length
  | _, _, .nil => rfl
  | _, _, .cons _ r => by simp [Reps.length r]
theorem Reps.get : ∀ {xs : List PV} {vs : List V} {i : Nat} {x : PV}, Reps K H μ xs vs → xs[i]? = some x → ∃ v, vs[i]? = some v ∧ Rep K H μ x v
  | _, _, _, _, .nil, e => by simp at e
  | _, _, 0, _, .cons h _, e => by simp at e; subst e; exact ⟨_, rfl, h⟩
  | _, _, i + 1, _, .cons _ r, e => by
    obtain ⟨v, h1, h2⟩ := Reps.get (i := i) r (by simpa using e)
    exact ⟨v, by simpa using h1, h2⟩
theorem Reps.append : ∀ {xs ys : List PV} {vs ws : List V}, Reps K H μ xs vs → Reps K H μ ys ws → Reps K H μ (xs ++ ys) (vs ++ ws)
  | _, _, _, _, .nil, r => r
  | _, _, _, _, .cons h t, r => .cons h (Reps.append t r)
theorem Reps.take : ∀ (n : Nat) {xs : List PV} {vs : List V}, Reps K H μ xs vs → Reps K H μ (xs.take n) (vs.take n)
  | 0, _, _, _ => by simp only [List.take_zero]; exact .nil
  | _ + 1, _, _, .nil => by simp only [List.take_nil]; exact .nil
  | n + 1, _, _, .cons h t => by simp only [List.take_succ_cons]; exact .cons h (Reps.take n t)
theorem Reps.drop : ∀ (n : Nat) {xs : List PV} {vs : List V}, Reps K H μ xs vs → Reps K H μ (xs.drop n) (vs.drop n)
  | 0, _, _, r => by simpa only [List.drop_zero] using r
  | _ + 1, _, _, .nil => by simp only [List.drop_nil]; exact .nil
  | n + 1, _, _, .cons h t => by simp only [List.drop_succ_cons]; exact Reps.drop n t
theorem Reps.set {x : PV} {v : V} (h : Rep K H μ x v) : ∀ (n : Nat) {xs : List PV} {vs : List V}, Reps K H μ xs vs → Reps K H μ (xs.set n x) (vs.set n v)
  | _, _, _, .nil => by simp only [List.set_nil]; exact .nil
  | 0, _, _, .cons _ t => by simp only [List.set_cons_zero]; exact .cons h t
  | n + 1, _, _, .cons h' t => by simp only [List.set_cons_succ]; exact .cons h' (Reps.set h n t)
theorem Reps.dropLast {xs : List PV} {vs : List V} (r : Reps K H μ xs vs) : Reps K H μ xs.dropLast vs.dropLast := by
  rw [List.dropLast_eq_take, List.dropLast_eq_take, r.length]
  exact r.take _
theorem Reps.eraseIdx {xs : List PV} {vs : List V} (i : Nat) (r : Reps K H μ xs vs) : Reps K H μ (xs.eraseIdx i) (vs.eraseIdx i) := by
  rw [List.eraseIdx_eq_take_drop_succ, List.eraseIdx_eq_take_drop_succ]
  exact (r.take _).append (r.drop _)
theorem Reps.reverse : ∀ {xs : List PV} {vs : List V}, Reps K H μ xs vs → Reps K H μ xs.reverse vs.reverse
  | _, _, .nil => .nil
  | _, _, .cons h t => by
    rw [List.reverse_cons, List.reverse_cons]
    exact (Reps.reverse t).append (.cons h .nil)
theorem Reps.rep {xs : List PV} {vs : List V} (r : Reps K H μ xs vs) : ∀ n : Nat, Reps K H μ (List.replicate n xs).flatten (List.replicate n vs).flatten
  | 0 => .nil
  | n + 1 => by
    rw [List.replicate_succ, List.replicate_succ, List.flatten_cons, List.flatten_cons]
    exact r.append (Reps.rep r n)
theorem Reps.ints : ∀ {ns : List Int} {xs : List PV} {vs : List V}, intsOf xs = some ns → Reps K H μ xs vs → vs = ns.map V.int
  | _, _, _, e, .nil => by simp [intsOf] at e; subst e; rfl
  | _, x :: xs, _, e, .cons h t => by
    cases h with
    | int i =>
      simp only [intsOf, Option.map_eq_some_iff] at e
      obtain ⟨l, e1, e2⟩ := e
      subst e2
      rw [Reps.ints e1 t]; rfl
    | _ => simp [intsOf] at e
theorem Reps.bls : ∀ {ns : List Bool} {xs : List PV} {vs : List V}, blsOf xs = some ns → Reps K H μ xs vs → vs = ns.map V.bl
  | _, _, _, e, .nil => by simp [blsOf] at e; subst e; rfl
  | _, x :: xs, _, e, .cons h t => by
    cases h with
    | bl i =>
      simp only [blsOf, Option.map_eq_some_iff] at e
      obtain ⟨l, e1, e2⟩ := e
      subst e2
      rw [Reps.bls e1 t]; rfl
    | _ => simp [blsOf] at e
theorem Reps.ofInts : ∀ ns : List Int, Reps K H μ (ns.map PV.int) (ns.map V.int)
  | [] => .nil
  | n :: r => .cons (.int n) (Reps.ofInts r)
end
/-! ### steps -/
section
variable {K : PySem.W.Frag} {w : Wd}
/-- a new object that is not numbered -/
def Wd.put (w : Wd) (p : Addr) (u : HO) : Wd := ⟨w.μ, w.ph, upd w.H p u⟩
theorem upd_old {H : Hp} {p a : Addr} {u x : HO} (h : H p = none) (e : H a = some x) : upd H p u a = some x := by rw [upd_ne (ne_of_none e h)]; exact e
theorem Step.put {p : Addr} {u : HO} (h : w.H p = none) : Step w (w.put p u) :=
  ⟨⟨[], by simp [Wd.put], fun _ h => absurd h (by simp)⟩, fun _ _ e _ => upd_old h e, fun _ x e => ⟨x, upd_old h e⟩, fun _ h => .inl h, fun _ h => h⟩
theorem Ok.has {a : Addr} (o : Ok K w) (h : ¬ w.μ.out a) : ∃ u, w.H a = some u := by
  by_cases hm : a ∈ w.μ.num
  · rcases o.at hm with ⟨_, e⟩ | ⟨_, e⟩ | ⟨_, e⟩ <;> exact ⟨_, e⟩
  · by_cases hh : w.μ.hid a
    · obtain ⟨_, vs, e⟩ := o.hid a hh; exact ⟨_, e⟩
    · exact absurd ⟨hm, hh⟩ h
theorem Ok.notin (o : Ok K w) {p : Addr} (h : w.H p = none) : w.μ.out p := by
  refine Classical.byContradiction fun z => ?_
  obtain ⟨u, e⟩ := o.has z
  rw [h] at e; cases e
theorem RepO.step {w' : Wd} {a : Addr} {x : PO} (s : Step w w') (o : Ok K w) (hm : w'.H a = w.H a) (r : RepO K w.H w.μ a x) : RepO K w'.H w'.μ a x := by
  cases x with
  | lst xs => obtain ⟨vs, e, r⟩ := r; exact ⟨vs, hm.trans e, s.reps o r⟩
  | dK xs => obtain ⟨vs, e, r⟩ := r; exact ⟨vs, hm.trans e, s.repk o r⟩
  | dT xs => obtain ⟨vs, e, r⟩ := r; exact ⟨vs, hm.trans e, s.repk o r⟩
theorem Ok.put (o : Ok K w) {p : Addr} {u : HO} (h : w.H p = none) : Ok K (w.put p u) := by
  refine ⟨o.len, o.nd, fun n a x h1 h2 => ?_, fun a ha => ?_⟩
  · have hm : a ∈ w.μ.num := List.mem_of_getElem? h1
    have ne : a ≠ p := fun e => (o.notin h).1 (e ▸ hm)
    exact RepO.step (Step.put h) o (upd_ne ne) (o.ob n a x h1 h2)
  · obtain ⟨h1, vs, e⟩ := o.hid a ha
    exact ⟨h1, vs, upd_old h e⟩
/-- a new object that is numbered -/
def Wd.new (w : Wd) (p : Addr) (u : HO) (x : PO) : Wd := ⟨⟨w.μ.num ++ [p], w.μ.hid⟩, w.ph ++ [x], upd w.H p u⟩
theorem Step.new {p : Addr} {u : HO} {x : PO} (h : w.H p = none) : Step w (w.new p u x) := by
  refine ⟨⟨[p], rfl, fun a ha => ?_⟩, fun _ _ e _ => upd_old h e, fun _ x e => ⟨x, upd_old h e⟩, fun _ h => .inl h, fun _ h => h⟩
  rw [List.mem_singleton.mp ha]; exact h
theorem Ok.new (o : Ok K w) {p : Addr} {u : HO} {x : PO} (h : w.H p = none) (r : RepO K (upd w.H p u) ⟨w.μ.num ++ [p], w.μ.hid⟩ p x) : Ok K (w.new p u x) := by
  refine ⟨by simp [Wd.new, o.len], ?_, fun n a y h1 h2 => ?_, fun a ha => ?_⟩
  · refine List.nodup_append.mpr ⟨o.nd, by simp, fun a ha b hb => ?_⟩
    rw [List.mem_singleton.mp hb]
    exact fun e => (o.notin h).1 (e ▸ ha)
  · by_cases hn : n < w.μ.num.length
    · have h1' : w.μ.num[n]? = some a := by
        have : (w.μ.num ++ [p])[n]? = some a := h1
        rwa [List.getElem?_append_left hn] at this
      have h2' : w.ph[n]? = some y := by
        have : (w.ph ++ [x])[n]? = some y := h2
        rwa [List.getElem?_append_left (by rw [← o.len]; exact hn)] at this
      have ne : a ≠ p := fun e => (o.notin h).1 (e ▸ List.mem_of_getElem? h1')
      exact RepO.step (Step.new h) o (upd_ne ne) (o.ob n a y h1' h2')
    · have hn1 : n = w.μ.num.length := by
        have : (w.μ.num ++ [p])[n]? = some a := h1
        have := (List.getElem?_eq_some_iff.mp this).1
        simp at this; omega
      subst hn1
      have e1 : (w.μ.num ++ [p])[w.μ.num.length]? = some a := h1
      have e2 : (w.ph ++ [x])[w.μ.num.length]? = some y := h2
      rw [List.getElem?_append_right (Nat.le_refl _), Nat.sub_self] at e1
      rw [o.len, List.getElem?_append_right (Nat.le_refl _), Nat.sub_self] at e2
      simp at e1 e2
      subst e1 e2
      exact r
  · obtain ⟨h1, vs, e⟩ := o.hid a ha
    refine ⟨fun z => ?_, vs, upd_old h e⟩
    rcases List.mem_append.mp z with z | z
    · exact h1 z
    · rw [List.mem_singleton.mp z] at e; rw [h] at e; cases e
/-- a numbered object is changed -/
def Wd.chg (w : Wd) (n : Nat) (a : Addr) (u : HO) (x : PO) : Wd := ⟨w.μ, w.ph.set n x, upd w.H a u⟩
theorem Step.chg {n : Nat} {a : Addr} {u : HO} {x : PO} (h : w.μ.num[n]? = some a) : Step w (w.chg n a u x) := by
  have hm := List.mem_of_getElem? h
  refine ⟨⟨[], by simp [Wd.chg], fun _ h => absurd h (by simp)⟩, fun b y e ne => ?_, fun b y e => ?_, fun _ h => .inl h, fun _ h => h⟩
  · show upd w.H a u b = some y
    rw [upd_ne (fun z : b = a => ne (z ▸ hm))]; exact e
  · by_cases hb : b = a
    · exact ⟨u, by show upd w.H a u b = some u; rw [hb, upd_same]⟩
    · exact ⟨y, by show upd w.H a u b = some y; rw [upd_ne hb]; exact e⟩
theorem Ok.chg (o : Ok K w) {n : Nat} {a : Addr} {u : HO} {x : PO} (h : w.μ.num[n]? = some a) (r : RepO K (upd w.H a u) w.μ a x) : Ok K (w.chg n a u x) := by
  refine ⟨by simp [Wd.chg, o.len], o.nd, fun m b y h1 h2 => ?_, fun b hb => ?_⟩
  · have h1' : w.μ.num[m]? = some b := h1
    have h2' : (w.ph.set n x)[m]? = some y := h2
    by_cases hm : m = n
    · subst hm
      rw [h] at h1'; cases h1'
      have hl := (List.getElem?_eq_some_iff.mp h).1
      rw [List.getElem?_set_self (by rw [← o.len]; exact hl)] at h2'
      cases h2'
      exact r
    · rw [List.getElem?_set_ne (Ne.symm hm)] at h2'
      have ne : b ≠ a := fun e => by
        subst e
        obtain ⟨i1, e1⟩ := List.getElem?_eq_some_iff.mp h1'
        obtain ⟨i2, e2⟩ := List.getElem?_eq_some_iff.mp h
        exact hm ((List.getElem_inj o.nd).mp (e1.trans e2.symm))
      exact RepO.step (Step.chg h) o (upd_ne ne) (o.ob m b y h1' h2')
  · obtain ⟨h1, vs, e⟩ := o.hid b hb
    refine ⟨h1, vs, ?_⟩
    show upd w.H a u b = some (.lst vs)
    rw [upd_ne (fun z : b = a => h1 (z ▸ List.mem_of_getElem? h))]; exact e
/-! a list that is being made -/
def Wd.hide (w : Wd) (D : Addr) (xs : List V) : Wd := ⟨⟨w.μ.num, fun a => w.μ.hid a ∨ a = D⟩, w.ph, upd w.H D (.lst xs)⟩
theorem Step.hide {D : Addr} {xs : List V} (h : w.H D = none) : Step w (w.hide D xs) := by
  refine ⟨⟨[], by simp [Wd.hide], fun _ h => absurd h (by simp)⟩, fun _ _ e _ => upd_old h e, fun _ x e => ⟨x, upd_old h e⟩, fun a ha => ?_, fun _ h => .inl h⟩
  rcases ha with ha | ha
  · exact .inl ha
  · subst ha; exact .inr h
theorem Ok.hide (o : Ok K w) {D : Addr} {xs : List V} (h : w.H D = none) : Ok K (w.hide D xs) := by
  refine ⟨o.len, o.nd, fun n a x h1 h2 => ?_, fun a ha => ?_⟩
  · have hm : a ∈ w.μ.num := List.mem_of_getElem? h1
    have ne : a ≠ D := fun e => (o.notin h).1 (e ▸ hm)
    exact RepO.step (Step.hide h) o (upd_ne ne) (o.ob n a x h1 h2)
  · rcases ha with ha | ha
    · obtain ⟨h1, vs, e⟩ := o.hid a ha
      exact ⟨h1, vs, upd_old h e⟩
    · subst ha
      exact ⟨(o.notin h).1, xs, upd_same⟩
/-- an object that no value stands for changes -/
def Wd.more (w : Wd) (D : Addr) (u : HO) : Wd := ⟨w.μ, w.ph, upd w.H D u⟩
/-- no value stands for it -/
structure Blind (w : Wd) (D : Addr) : Prop where
  num : D ∉ w.μ.num
  tup : ∀ vs, w.H D ≠ some (.tup vs)
  lst : ∀ vs, w.H D = some (.lst vs) → ¬ w.μ.out D
  frz : ∀ o u, w.H D ≠ some (.frz o u)
theorem Ok.blind (o : Ok K w) {D : Addr} (hd : w.μ.hid D) : Blind w D := by
  obtain ⟨h1, vs, e⟩ := o.hid D hd
  exact ⟨h1, fun _ z => (by rw [e] at z; cases z), fun _ _ z => z.2 hd, fun _ _ z => (by rw [e] at z; cases z)⟩
theorem blind_dict (o : Ok K w) {D : Addr} {kvs : List (Key × V)} (h : w.H D = some (.dK kvs)) (hn : D ∉ w.μ.num) : Blind w D :=
  ⟨hn, fun _ z => (by rw [h] at z; cases z), fun _ z => (by rw [h] at z; cases z), fun _ _ z => (by rw [h] at z; cases z)⟩
section
variable {D : Addr} {u : HO}
theorem Blind.ne_tup (b : Blind w D) {a : Addr} {vs : List V} (h : w.H a = some (.tup vs)) : a ≠ D := fun z => b.tup vs (by rw [← z]; exact h)
theorem Blind.ne_lst (b : Blind w D) {a : Addr} {vs : List V} (h : w.H a = some (.lst vs)) (n : w.μ.out a) : a ≠ D := fun z => b.lst vs (by rw [← z]; exact h) (by rw [← z]; exact n)
theorem Blind.ne_frz (b : Blind w D) {a : Addr} {o : Obj} {u : HO} (h : w.H a = some (.frz o u)) : a ≠ D := fun z => b.frz o u (by rw [← z]; exact h)
mutual
theorem rep_more (b : Blind w D) : ∀ {x : PV} {v : V}, Rep K w.H w.μ x v → Rep K (upd w.H D u) w.μ x v
  | _, _, .non => .non
  | _, _, .bl b => .bl b
  | _, _, .int i => .int i
  | _, _, .str i => .str i
  | _, _, .tup h r => .tup (by rw [upd_ne (b.ne_tup h)]; exact h) (reps_more b r)
  | _, _, .lst h n r => .lst (by rw [upd_ne (b.ne_lst h n)]; exact h) n (reps_more b r)
  | _, _, .scr h => .scr (by
      rcases h with ⟨h, n⟩ | h
      · refine .inl ⟨?_, n⟩
        rcases h with h | ⟨ob, h⟩
        · exact .inl (by rw [upd_ne (b.ne_lst h n)]; exact h)
        · exact .inr ⟨ob, by rw [upd_ne (b.ne_frz h)]; exact h⟩
      · exact .inr h)
  | _, _, .ref h => .ref h
theorem reps_more (b : Blind w D) : ∀ {x : List PV} {v : List V}, Reps K w.H w.μ x v → Reps K (upd w.H D u) w.μ x v
  | _, _, .nil => .nil
  | _, _, .cons h r => .cons (rep_more b h) (reps_more b r)
end
theorem repk_more {κ : Type} (b : Blind w D) : ∀ {x : List (κ × PV)} {v : List (κ × V)}, RepK K w.H w.μ x v → RepK K (upd w.H D u) w.μ x v
  | _, _, .nil => .nil
  | _, _, .cons h r => .cons (rep_more b h) (repk_more b r)
theorem repo_more (b : Blind w D) {a : Addr} {x : PO} (hm : a ∈ w.μ.num) (r : RepO K w.H w.μ a x) : RepO K (upd w.H D u) w.μ a x := by
  have ne : a ≠ D := fun e => b.num (e ▸ hm)
  cases x with
  | lst xs => obtain ⟨vs, e, r⟩ := r; exact ⟨vs, (upd_ne ne).trans e, reps_more b r⟩
  | dK xs => obtain ⟨vs, e, r⟩ := r; exact ⟨vs, (upd_ne ne).trans e, repk_more b r⟩
  | dT xs => obtain ⟨vs, e, r⟩ := r; exact ⟨vs, (upd_ne ne).trans e, repk_more b r⟩
theorem Ok.more {xs : List V} (o : Ok K w) (hd : w.μ.hid D) : Ok K (w.more D (.lst xs)) := by
  refine ⟨o.len, o.nd, fun n a x h1 h2 => repo_more (o.blind hd) (List.mem_of_getElem? h1) (o.ob n a x h1 h2), fun a ha => ?_⟩
  obtain ⟨h1, vs, e⟩ := o.hid a ha
  by_cases hq : a = D
  · subst hq; exact ⟨h1, xs, upd_same⟩
  · exact ⟨h1, vs, (upd_ne hq).trans e⟩
end
/-- .. and the world of long ago -/
theorem Step.more {w0 : Wd} {D : Addr} {u : HO} (s : Step w0 w) (h : w0.H D = none) : Step w0 (w.more D u) := by
  have ne : ∀ {a : Addr} {x : HO}, w0.H a = some x → a ≠ D := fun e z => by rw [z, h] at e; cases e
  refine ⟨s.grow, fun a x e n => (upd_ne (ne e)).trans (s.keep a x e n), fun a x e => ?_, s.hidn, s.hidk⟩
  obtain ⟨x', e'⟩ := s.some_ a x e
  exact ⟨x', (upd_ne (ne e)).trans e'⟩
theorem Step.show' {w0 : Wd} {D : Addr} (o0 : Ok K w0) (s : Step w0 w) (h : w0.H D = none) : Step w0 ⟨⟨w.μ.num, fun a => w.μ.hid a ∧ a ≠ D⟩, w.ph, w.H⟩ := by
  refine ⟨s.grow, s.keep, s.some_, fun a ha => s.hidn a ha.1, fun a ha => ⟨s.hidk a ha, ?_⟩⟩
  intro z
  subst z
  obtain ⟨_, vs, e⟩ := o0.hid a ha
  rw [h] at e; cases e
theorem upd_self {H : Hp} {D : Addr} {u : HO} (h : H D = some u) : upd H D u = H := by
  funext a
  by_cases e : a = D
  · subst e; rw [upd_same, h]
  · rw [upd_ne e]
/-- it gets a number -/
def Wd.tell (w : Wd) (D : Addr) (u : HO) (x : PO) : Wd := ⟨⟨w.μ.num ++ [D], fun a => w.μ.hid a ∧ a ≠ D⟩, w.ph ++ [x], upd w.H D u⟩
section
variable {D : Addr} {u : HO} {z : PO}
theorem Blind.out (b : Blind w D) {a : Addr} (ne : a ≠ D) (n : w.μ.out a) : (w.tell D u z).μ.out a := by
  refine ⟨fun h => ?_, fun h => n.2 h.1⟩
  rcases List.mem_append.mp h with h | h
  · exact n.1 h
  · exact ne (List.mem_singleton.mp h)
mutual
theorem rep_tell (b : Blind w D) : ∀ {x : PV} {v : V}, Rep K w.H w.μ x v → Rep K (upd w.H D u) (w.tell D u z).μ x v
  | _, _, .non => .non
  | _, _, .bl b => .bl b
  | _, _, .int i => .int i
  | _, _, .str i => .str i
  | _, _, .tup h r => .tup (by rw [upd_ne (b.ne_tup h)]; exact h) (reps_tell b r)
  | _, _, .lst h n r => .lst (by rw [upd_ne (b.ne_lst h n)]; exact h) (b.out (b.ne_lst h n) n) (reps_tell b r)
  | _, _, .scr h => .scr (by
      rcases h with ⟨h, n⟩ | h
      · rcases h with h | ⟨ob, h⟩
        · exact .inl ⟨.inl (by rw [upd_ne (b.ne_lst h n)]; exact h), b.out (b.ne_lst h n) n⟩
        · exact .inl ⟨.inr ⟨ob, by rw [upd_ne (b.ne_frz h)]; exact h⟩, b.out (b.ne_frz h) n⟩
      · exact .inr h)
  | _, _, .ref (n := n) (a := a) h => .ref (by
      show (w.μ.num ++ [D])[n]? = some a
      rw [List.getElem?_append_left (List.getElem?_eq_some_iff.mp h).1]; exact h)
theorem reps_tell (b : Blind w D) : ∀ {x : List PV} {v : List V}, Reps K w.H w.μ x v → Reps K (upd w.H D u) (w.tell D u z).μ x v
  | _, _, .nil => .nil
  | _, _, .cons h r => .cons (rep_tell b h) (reps_tell b r)
end
theorem repk_tell {κ : Type} (b : Blind w D) : ∀ {x : List (κ × PV)} {v : List (κ × V)}, RepK K w.H w.μ x v → RepK K (upd w.H D u) (w.tell D u z).μ x v
  | _, _, .nil => .nil
  | _, _, .cons h r => .cons (rep_tell b h) (repk_tell b r)
theorem Ok.tell (o : Ok K w) (b : Blind w D) (hz : RepO K (upd w.H D u) (w.tell D u z).μ D z) : Ok K (w.tell D u z) := by
  refine ⟨by simp [Wd.tell, o.len], ?_, fun n a y h1 h2 => ?_, fun a ha => ?_⟩
  · refine List.nodup_append.mpr ⟨o.nd, by simp, fun a ha b' hb => ?_⟩
    rw [List.mem_singleton.mp hb]
    exact fun e => b.num (e ▸ ha)
  · by_cases hn : n < w.μ.num.length
    · have h1' : w.μ.num[n]? = some a := by
        have : (w.μ.num ++ [D])[n]? = some a := h1
        rwa [List.getElem?_append_left hn] at this
      have h2' : w.ph[n]? = some y := by
        have : (w.ph ++ [z])[n]? = some y := h2
        rwa [List.getElem?_append_left (by rw [← o.len]; exact hn)] at this
      have ne : a ≠ D := fun e => b.num (e ▸ List.mem_of_getElem? h1')
      have r := o.ob n a y h1' h2'
      cases y with
      | lst xs => obtain ⟨vs, e, r⟩ := r; exact ⟨vs, (upd_ne ne).trans e, reps_tell b r⟩
      | dK xs => obtain ⟨vs, e, r⟩ := r; exact ⟨vs, (upd_ne ne).trans e, repk_tell b r⟩
      | dT xs => obtain ⟨vs, e, r⟩ := r; exact ⟨vs, (upd_ne ne).trans e, repk_tell b r⟩
    · have hn1 : n = w.μ.num.length := by
        have : (w.μ.num ++ [D])[n]? = some a := h1
        have := (List.getElem?_eq_some_iff.mp this).1
        simp at this; omega
      subst hn1
      have e1 : (w.μ.num ++ [D])[w.μ.num.length]? = some a := h1
      have e2 : (w.ph ++ [z])[w.μ.num.length]? = some y := h2
      rw [List.getElem?_append_right (Nat.le_refl _), Nat.sub_self] at e1
      rw [o.len, List.getElem?_append_right (Nat.le_refl _), Nat.sub_self] at e2
      simp at e1 e2
      subst e1 e2
      exact hz
  · obtain ⟨h1, vs, e⟩ := o.hid a ha.1
    refine ⟨fun z => ?_, vs, (upd_ne ha.2).trans e⟩
    rcases List.mem_append.mp z with z | z
    · exact h1 z
    · exact ha.2 (List.mem_singleton.mp z)
/-- .. what was fresh long ago -/
theorem Step.tell {w0 : Wd} (o0 : Ok K w0) (s : Step w0 w) (h : w0.H D = none) : Step w0 (w.tell D u z) := by
  obtain ⟨l, e, f⟩ := s.grow
  have ne : ∀ {a : Addr} {x : HO}, w0.H a = some x → a ≠ D := fun e z => by rw [z, h] at e; cases e
  refine ⟨⟨l ++ [D], by show w.μ.num ++ [D] = _; rw [e, List.append_assoc], fun a ha => ?_⟩, fun a x e n => ?_, fun a x e => ?_, fun a ha => s.hidn a ha.1, fun a ha => ⟨s.hidk a ha, ?_⟩⟩
  · rcases List.mem_append.mp ha with ha | ha
    · exact f a ha
    · rw [List.mem_singleton.mp ha]; exact h
  · exact (upd_ne (ne e)).trans (s.keep a x e n)
  · obtain ⟨x', e'⟩ := s.some_ a x e
    exact ⟨x', (upd_ne (ne e)).trans e'⟩
  · intro z
    subst z
    obtain ⟨_, vs, e⟩ := o0.hid a ha
    rw [h] at e; cases e
end
/-- a hidden list is let out, as a plain one -/
def Wd.show (w : Wd) (D : Addr) : Wd := ⟨⟨w.μ.num, fun a => w.μ.hid a ∧ a ≠ D⟩, w.ph, w.H⟩
mutual
theorem rep_show {D : Addr} : ∀ {x : PV} {v : V}, Rep K w.H w.μ x v → Rep K w.H (w.show D).μ x v
  | _, _, .non => .non
  | _, _, .bl b => .bl b
  | _, _, .int i => .int i
  | _, _, .str i => .str i
  | _, _, .tup h r => .tup h (reps_show r)
  | _, _, .lst h n r => .lst h ⟨n.1, fun z => n.2 z.1⟩ (reps_show r)
  | _, _, .scr h => .scr (by
      rcases h with ⟨h, n⟩ | h
      · exact .inl ⟨h, n.1, fun z => n.2 z.1⟩
      · exact .inr h)
  | _, _, .ref h => .ref h
theorem reps_show {D : Addr} : ∀ {x : List PV} {v : List V}, Reps K w.H w.μ x v → Reps K w.H (w.show D).μ x v
  | _, _, .nil => .nil
  | _, _, .cons h r => .cons (rep_show h) (reps_show r)
end
theorem repk_show {κ : Type} {D : Addr} : ∀ {x : List (κ × PV)} {v : List (κ × V)}, RepK K w.H w.μ x v → RepK K w.H (w.show D).μ x v
  | _, _, .nil => .nil
  | _, _, .cons h r => .cons (rep_show h) (repk_show r)
theorem Ok.show (o : Ok K w) {D : Addr} : Ok K (w.show D) := by
  refine ⟨o.len, o.nd, fun n a x h1 h2 => ?_, fun a ha => o.hid a ha.1⟩
  have r := o.ob n a x h1 h2
  cases x with
  | lst xs => obtain ⟨vs, e, r⟩ := r; exact ⟨vs, e, reps_show r⟩
  | dK xs => obtain ⟨vs, e, r⟩ := r; exact ⟨vs, e, repk_show r⟩
  | dT xs => obtain ⟨vs, e, r⟩ := r; exact ⟨vs, e, repk_show r⟩
end
section
variable {K : PySem.W.Frag} {w : Wd} {n : Nat} {a : Addr} {u : HO}
theorem repC (hn : w.μ.num[n]? = some a) (o : Ok K w) {x : PV} {v : V} (r : Rep K w.H w.μ x v) : Rep K (upd w.H a u) w.μ x v := (Step.chg (u := u) (x := PO.lst []) hn).rep o r
theorem repsC (hn : w.μ.num[n]? = some a) (o : Ok K w) {x : List PV} {v : List V} (r : Reps K w.H w.μ x v) : Reps K (upd w.H a u) w.μ x v := (Step.chg (u := u) (x := PO.lst []) hn).reps o r
theorem repkC {κ : Type} (hn : w.μ.num[n]? = some a) (o : Ok K w) {x : List (κ × PV)} {v : List (κ × V)} (r : RepK K w.H w.μ x v) : RepK K (upd w.H a u) w.μ x v := (Step.chg (u := u) (x := PO.lst []) hn).repk o r
end
/-! ### the frame -/
structure REnv (K : PySem.W.Frag) (w : Wd) (env : Env) (σ : L2.St) : Prop where
  len : σ.length = env.length
  get : ∀ (i : Nat) (x : PV), env[i]? = some (some x) → ∃ v, σ[i]? = some (some v) ∧ Rep K w.H w.μ x v
section
variable {K : PySem.W.Frag} {w w' : Wd} {env : Env} {σ : L2.St}
theorem REnv.step (r : REnv K w env σ) (s : Step w w') (o : Ok K w) : REnv K w' env σ :=
  ⟨r.len, fun i x h => let ⟨v, e, q⟩ := r.get i x h; ⟨v, e, s.rep o q⟩⟩
theorem REnv.set (r : REnv K w env σ) {i : Nat} {x : PV} {v : V} (h : Rep K w.H w.μ x v) : REnv K w (env.set i (some x)) (σ.set i (some v)) := by
  refine ⟨by simp [r.len], fun j y e => ?_⟩
  by_cases hj : j = i
  · subst hj
    have hl : j < env.length := by
      have := (List.getElem?_eq_some_iff.mp e).1
      simpa using this
    rw [List.getElem?_set_self hl] at e
    cases e
    exact ⟨v, List.getElem?_set_self (by rw [r.len]; exact hl), h⟩
  · rw [List.getElem?_set_ne (Ne.symm hj)] at e
    rw [List.getElem?_set_ne (Ne.symm hj)]
    exact r.get j y e
theorem REnv.unset (r : REnv K w env σ) {i : Nat} : REnv K w (env.set i none) (σ.set i none) := by
  refine ⟨by simp [r.len], fun j y e => ?_⟩
  by_cases hj : j = i
  · subst hj
    have hl : j < env.length := by
      have := (List.getElem?_eq_some_iff.mp e).1
      simpa using this
    rw [List.getElem?_set_self hl] at e
    cases e
  · rw [List.getElem?_set_ne (Ne.symm hj)] at e
    rw [List.getElem?_set_ne (Ne.symm hj)]
    exact r.get j y e
theorem REnv.wipe (r : REnv K w env σ) : ∀ l : List Nat, REnv K w (wipeE env l) (L2.wipe σ l)
  | [] => r
  | i :: l => (REnv.wipe r l).unset
end
end RL

/-! RLPrim: the operations, by the layer's rules. -/
namespace RL
open PySem PySem.Spec PyProof.Rows L2

def Post (K : PySem.W.Frag) (w : Wd) (Q : QV) (Q' : VK) : Prop := ∀ w' x v, Step w w' → Ok K w' → Rep K w'.H w'.μ x v → Q x w'.ph → Q' v w'.H
section
variable {K : PySem.W.Frag} {w : Wd} {Q : QV} {Q' : VK}
theorem Post.here (p : Post K w Q Q') (o : Ok K w) {x : PV} {v : V} (r : Rep K w.H w.μ x v) (q : Q x w.ph) : Q' v w.H := p w x v (Step.refl w) o r q
theorem Post.put (p : Post K w Q Q') (o : Ok K w) {x : PV} {v : V} {u : HO} (q : Q x w.ph) (r : ∀ a, w.H a = none → Rep K (upd w.H a u) w.μ x (.ref a)) : ∀ a, w.H a = none → Q' (.ref a) (upd w.H a u) := fun a h =>
  p (w.put a u) x _ (Step.put h) (o.put h) (r a h) q
theorem Post.tup (p : Post K w Q Q') (o : Ok K w) {xs : List PV} {vs : List V} (r : Reps K w.H w.μ xs vs) (q : Q (.tup xs) w.ph) : ∀ a, w.H a = none → Q' (.ref a) (upd w.H a (.tup vs)) := fun a h =>
  p (w.put a (.tup vs)) (.tup xs) _ (Step.put h) (o.put h) (.tup upd_same ((Step.put h).reps o r)) q
theorem Post.lst (p : Post K w Q Q') (o : Ok K w) {own : Bool} {xs : List PV} {vs : List V} (r : Reps K w.H w.μ xs vs) (q : newL own xs w.ph Q) : ∀ a, w.H a = none → Q' (.ref a) (upd w.H a (.lst vs)) := fun a h => by
  obtain ⟨_, q⟩ := q
  cases own with
  | true =>
    refine p (w.new a (.lst vs) (.lst xs)) (.ref w.ph.length) _ (Step.new h) (o.new h ⟨vs, upd_same, ?_⟩) (.ref ?_) q
    · exact (Step.new (x := PO.lst xs) h).reps o r
    · show (w.μ.num ++ [a])[w.ph.length]? = some a
      rw [← o.len, List.getElem?_append_right (Nat.le_refl _), Nat.sub_self]; rfl
  | false =>
    exact p (w.put a (.lst vs)) (.lst xs) _ (Step.put h) (o.put h) (.lst upd_same (o.notin h) ((Step.put h).reps o r)) q
/-- a numbered object changed -/
theorem Post.chg (p : Post K w Q Q') (o : Ok K w) {x : PV} {v : V} {n : Nat} {a : Addr} {u : HO} {y : PO} (hn : w.μ.num[n]? = some a) (r : RepO K (upd w.H a u) w.μ a y) (rx : Rep K (upd w.H a u) w.μ x v) (q : Q x (setO w.ph n y)) : Q' v (upd w.H a u) :=
  p (w.chg n a u y) x v (Step.chg hn) (o.chg hn r) rx q
theorem lst_at (o : Ok K w) {a : PV} {v : V} {xs : List PV} (h : lstOf w.ph a = some xs) (r : Rep K w.H w.μ a v) : ∃ p vs, v = .ref p ∧ w.H p = some (.lst vs) ∧ Reps K w.H w.μ xs vs := by
  cases r with
  | lst h1 h2 h3 =>
    simp only [lstOf, Option.some.injEq] at h
    subst h
    exact ⟨_, _, rfl, h1, h3⟩
  | @ref n a hn =>
    simp only [lstOf] at h
    cases q : w.ph[n]? with
    | none => rw [q] at h; cases h
    | some ob =>
      rw [q] at h
      cases ob with
      | lst ys =>
        cases h
        obtain ⟨vs, e, rr⟩ := o.ob n a _ hn q
        exact ⟨_, vs, rfl, e, rr⟩
      | dK _ => cases h
      | dT _ => cases h
  | _ => cases h
theorem seq_at (o : Ok K w) {a : PV} {v : V} {xs : List PV} (h : seqOf w.ph a = some xs) (r : Rep K w.H w.μ a v) : ∃ p vs, v = .ref p ∧ (SqL K w.H p vs ∨ SqT K w.H p vs) ∧ Reps K w.H w.μ xs vs := by
  cases r with
  | tup h1 h2 =>
    simp only [seqOf, Option.some.injEq] at h
    subst h
    exact ⟨_, _, rfl, .inr (SqT.of h1), h2⟩
  | scr h1 =>
    simp only [seqOf, Option.some.injEq] at h
    subst h
    exact ⟨_, _, rfl, .inl h1.l, Reps.ofInts _⟩
  | lst h1 h2 h3 =>
    obtain ⟨p, vs, e, q, rr⟩ := lst_at o (show lstOf w.ph (PV.lst _) = some xs from h) (.lst h1 h2 h3)
    exact ⟨p, vs, e, .inl (SqL.of q), rr⟩
  | ref hn =>
    obtain ⟨p, vs, e, q, rr⟩ := lst_at o (show lstOf w.ph (PV.ref _) = some xs from h) (.ref hn)
    exact ⟨p, vs, e, .inl (SqL.of q), rr⟩
  | _ => cases h
end
def lift1 (K : PySem.W.Frag) (r : PV → PHp → QV → Prop) : V → Hp → VK → Prop := fun x H Q' => ∃ w a Q, w.H = H ∧ Ok K w ∧ Rep K w.H w.μ a x ∧ r a w.ph Q ∧ Post K w Q Q'
def lift2 (K : PySem.W.Frag) (r : PV → PV → PHp → QV → Prop) : R2 := fun x y H Q' => ∃ w a b Q, w.H = H ∧ Ok K w ∧ Rep K w.H w.μ a x ∧ Rep K w.H w.μ b y ∧ r a b w.ph Q ∧ Post K w Q Q'
def liftN (K : PySem.W.Frag) (r : List PV → PHp → QV → Prop) : List V → Hp → VK → Prop := fun xs H Q' => ∃ w as Q, w.H = H ∧ Ok K w ∧ Reps K w.H w.μ as xs ∧ r as w.ph Q ∧ Post K w Q Q'
def liftM (K : PySem.W.Frag) (r : PV → List PV → PHp → QV → Prop) : V → List V → Hp → VK → Prop := fun x xs H Q' => ∃ w a as Q, w.H = H ∧ Ok K w ∧ Rep K w.H w.μ a x ∧ Reps K w.H w.μ as xs ∧ r a as w.ph Q ∧ Post K w Q Q'

/-! ### data -/
section
variable {K : PySem.W.Frag} {w : Wd}
mutual
theorem dat_dp (o : Ok K w) : ∀ {a : PV} {d : PyData} {v : V}, Dat w.ph a d → d.hasDict = false → Rep K w.H w.μ a v → Dp K w.H v d
  | _, _, _, .non, _, r => by cases r; exact .non
  | _, _, _, .bl b, _, r => by cases r; exact .bl b
  | _, _, _, .int b, _, r => by cases r; exact .int b
  | _, _, _, .str b, _, r => by cases r; exact .str b
  | _, _, _, .tup h, hd, r => by
    cases r with
    | tup h1 h2 => exact .tup (SqT.of h1) (dats_dp o h (by simpa only [PyData.hasDict] using hd) h2)
  | _, _, _, .lst h, hd, r => by
    cases r with
    | lst h1 _ h2 => exact .lst (SqL.of h1) (dats_dp o h (by simpa only [PyData.hasDict] using hd) h2)
  | _, _, _, .ref hn h, hd, r => by
    cases r with
    | ref hm =>
      obtain ⟨vs, e, rr⟩ := o.ob _ _ _ hm hn
      exact .lst (SqL.of e) (dats_dp o h (by simpa only [PyData.hasDict] using hd) rr)
  | _, _, _, .dict hn h, hd, r => by simp [PyData.hasDict] at hd
theorem dats_dp (o : Ok K w) : ∀ {a : List PV} {d : List PyData} {v : List V}, DatAll w.ph a d → PyData.hasDictAll d = false → Reps K w.H w.μ a v → DpAll K w.H v d
  | _, _, _, .nil, _, r => by cases r; exact .nil
  | _, _, _, .cons h t, hd, r => by
    cases r with
    | cons h1 h2 =>
      simp only [PyData.hasDictAll, Bool.or_eq_false_iff] at hd
      exact .cons (dat_dp o h hd.1 h1) (dats_dp o t hd.2 h2)
end
theorem shaped_noDict {d : PyData} (h : SeqAt.shaped d = true) : d.hasDict = false := PyData.hasDict_of_canLay d (SeqAt.canLay_of_shaped h)
end

/-! ### the operators -/
def op2F : Op2 → Value → Value → Sem Value
  | .add => binaryOp .Add | .sub => binaryOp .Sub | .mul => binaryOp .Mult | .fdiv => binaryOp .FloorDiv | .mod => binaryOp .Mod | .pow => binaryOp .Pow
  | .band => binaryOp .BitAnd | .shl => binaryOp .LShift | .shr => binaryOp .RShift
  | .eq => compareOp .Eq | .ne => compareOp .NotEq | .lt => compareOp .Lt | .le => compareOp .LtE | .gt => compareOp .Gt | .ge => compareOp .GtE
  | .is => compareOp .Is | .isnot => compareOp .IsNot | .in_ => compareOp .In | .notin => compareOp .NotIn
section
variable {X : Cx}
theorem OpR.imp {f : Value → Value → Sem Value} {r r' : R2} (h : OpR X f r) (k : ∀ x y H Q, r' x y H Q → r x y H Q) : OpR X f r' := fun pins s σ H x y v u Q I rx ry q => h pins s σ H x y v u Q I rx ry (k x y H Q q)
theorem OpR.none {f : Value → Value → Sem Value} : OpR X f (fun _ _ _ _ => False) := fun _ _ _ _ _ _ _ _ _ _ _ _ h => h.elim
/-- by the cases of the left one, the right one -/
theorem add_ok (own : Bool) : OpR X (binaryOp .Add) (lift2 X.K (op2S .add own)) := by
  refine OpR.imp ((op_add (X := X)).or ((op_add_str (X := X)).or ((op_catA (X := X)).or (op_cat (X := X))))) ?_
  rintro x y H Q' ⟨w, a, b, Q, rfl, o, ra, rb, h, p⟩
  have lists : ∀ {a b : PV}, (∃ xs ys, lstOf w.ph a = some xs ∧ lstOf w.ph b = some ys ∧ xs.length + ys.length ≤ sizeLine ∧ newL own (xs ++ ys) w.ph Q) → Rep X.K w.H w.μ a x → Rep X.K w.H w.μ b y → rCat x y w.H Q' := by
    rintro a b ⟨xs, ys, h1, h2, hz, q⟩ ra rb
    obtain ⟨l1, v1, rfl, e1, r1⟩ := lst_at o h1 ra
    obtain ⟨l2, v2, rfl, e2, r2⟩ := lst_at o h2 rb
    exact ⟨l1, l2, v1, v2, rfl, rfl, e1, e2, by rw [r1.length, r2.length]; exact hz, p.lst o (r1.append r2) q⟩
  cases ra with
  | int i =>
    cases rb with
    | int j => exact .inl ⟨i, j, rfl, rfl, p.here o (.int _) h⟩
    | _ => obtain ⟨xs, ys, h1, _⟩ := h; cases h1
  | str i =>
    cases rb with
    | str j => exact .inr (.inl ⟨i, j, rfl, rfl, h.1, p.here o (.str _) h.2⟩)
    | _ => obtain ⟨xs, ys, h1, _⟩ := h; cases h1
  | tup h1 r1 =>
    cases rb with
    | tup h2 r2 =>
      refine .inr (.inr (.inl ⟨_, _, _, _, rfl, rfl, SqT.of h1, SqT.of h2, by rw [r1.length, r2.length]; exact h.1, fun e => ?_, fun _ e => ?_, fun _ _ => p.tup o (r1.append r2) h.2⟩))
      · subst e; cases r1
        exact p.here o (.tup h2 r2) h.2
      · subst e; cases r2
        refine p.here o (.tup h1 r1) ?_
        have := h.2
        rwa [List.append_nil] at this
    | _ => obtain ⟨xs, ys, h1, _⟩ := h; cases h1
  | lst h1 h2 h3 => exact .inr (.inr (.inr (lists (by cases rb <;> exact h) (.lst h1 h2 h3) rb)))
  | ref h1 => exact .inr (.inr (.inr (lists (by cases rb <;> exact h) (.ref h1) rb)))
  | non => cases rb <;> (obtain ⟨xs, ys, h1, _⟩ := h; cases h1)
  | bl b => cases rb <;> (obtain ⟨xs, ys, h1, _⟩ := h; cases h1)
  | scr b => cases rb <;> (obtain ⟨xs, ys, h1, _⟩ := h; cases h1)
/-- two ints -/
theorem ints_ok {f : Value → Value → Sem Value} {C : Int → Int → Prop} {g : Int → Int → PV} {gv : Int → Int → V} {r : PV → PV → PHp → QV → Prop} (h : OpR X f (rI C gv)) (hg : ∀ i j (K : PySem.W.Frag) H μ, Rep K H μ (g i j) (gv i j))
    (hr : ∀ a b ph Q, r a b ph Q → ∃ i j, a = .int i ∧ b = .int j ∧ C i j ∧ Q (g i j) ph) : OpR X f (lift2 X.K r) := by
  refine OpR.imp h ?_
  rintro x y H Q' ⟨w, a, b, Q, rfl, o, ra, rb, h, p⟩
  obtain ⟨i, j, rfl, rfl, c, q⟩ := hr _ _ _ _ h
  cases ra
  cases rb
  exact ⟨i, j, rfl, rfl, c, p.here o (hg _ _ _ _ _) q⟩
theorem rI0_I {g : Int → Int → V} {f : Value → Value → Sem Value} (h : OpR X f (rI0 g)) : OpR X f (rI (fun _ _ => True) g) := OpR.imp h fun x y H Q ⟨i, j, e1, e2, _, q⟩ => ⟨i, j, e1, e2, q⟩
theorem sub_ok (own : Bool) : OpR X (binaryOp .Sub) (lift2 X.K (op2S .sub own)) := by
  refine ints_ok (g := fun i j => .int (i - j)) (rI0_I op_sub) (fun _ _ _ _ _ => .int _) fun a b ph Q h => ?_
  cases a <;> cases b <;> first | exact h.elim | exact ⟨_, _, rfl, rfl, trivial, h⟩
theorem fdiv_ok (own : Bool) : OpR X (binaryOp .FloorDiv) (lift2 X.K (op2S .fdiv own)) := by
  have h : OpR X (binaryOp .FloorDiv) (rI (fun _ j => (0 < j ∧ j.natAbs.log2 < 9000) ∨ (j ≠ 0 ∧ j.natAbs < 1073741824)) fun i j => .int (i.fdiv j)) := by
    refine OpR.imp ((op_fdivW (X := X)).or (op_fdivN (X := X))) ?_
    rintro x y H Q ⟨i, j, e1, e2, c | c, q⟩
    · refine .inl ⟨i, j, e1, e2, c, ?_⟩
      show Q (.int (i / j)) H
      rw [← Int.fdiv_eq_ediv_of_nonneg i (by omega)]; exact q
    · exact .inr ⟨i, j, e1, e2, c, q⟩
  refine ints_ok (g := fun i j => .int (i.fdiv j)) h (fun _ _ _ _ _ => .int _) fun a b ph Q h => ?_
  cases a <;> cases b <;> first | exact h.elim | exact ⟨_, _, rfl, rfl, h.1, h.2⟩
theorem mod_ok (own : Bool) : OpR X (binaryOp .Mod) (lift2 X.K (op2S .mod own)) := by
  refine ints_ok (g := fun i j => .int (i.fmod j)) op_modN (fun _ _ _ _ _ => .int _) fun a b ph Q h => ?_
  cases a <;> cases b <;> first | exact h.elim | exact ⟨_, _, rfl, rfl, h.1, h.2⟩
theorem pow_ok (own : Bool) : OpR X (binaryOp .Pow) (lift2 X.K (op2S .pow own)) := by
  refine ints_ok (g := fun i j => .int (i ^ j.toNat)) op_pow (fun _ _ _ _ _ => .int _) fun a b ph Q h => ?_
  cases a <;> cases b <;> first | exact h.elim | exact ⟨_, _, rfl, rfl, h.1, h.2⟩
theorem band_ok (own : Bool) : OpR X (binaryOp .BitAnd) (lift2 X.K (op2S .band own)) := by
  refine ints_ok (g := fun i j => .int (Builtin.bitAnd i j)) (rI0_I op_and) (fun _ _ _ _ _ => .int _) fun a b ph Q h => ?_
  cases a <;> cases b <;> first | exact h.elim | exact ⟨_, _, rfl, rfl, trivial, h⟩
theorem shl_ok (own : Bool) : OpR X (binaryOp .LShift) (lift2 X.K (op2S .shl own)) := by
  refine ints_ok (g := fun i j => .int (i * 2 ^ j.toNat)) op_shl (fun _ _ _ _ _ => .int _) fun a b ph Q h => ?_
  cases a <;> cases b <;> first | exact h.elim | exact ⟨_, _, rfl, rfl, h.1, h.2⟩
theorem shr_ok (own : Bool) : OpR X (binaryOp .RShift) (lift2 X.K (op2S .shr own)) := by
  refine ints_ok (g := fun i j => .int (i / 2 ^ j.toNat)) op_shr (fun _ _ _ _ _ => .int _) fun a b ph Q h => ?_
  cases a <;> cases b <;> first | exact h.elim | exact ⟨_, _, rfl, rfl, h.1, h.2⟩
theorem le_ok (own : Bool) : OpR X (compareOp .LtE) (lift2 X.K (op2S .le own)) := by
  refine ints_ok (g := fun i j => .bl (decide (i ≤ j))) (rI0_I op_le) (fun _ _ _ _ _ => .bl _) fun a b ph Q h => ?_
  cases a <;> cases b <;> first | exact h.elim | exact ⟨_, _, rfl, rfl, trivial, h⟩
theorem gt_ok (own : Bool) : OpR X (compareOp .Gt) (lift2 X.K (op2S .gt own)) := by
  refine ints_ok (g := fun i j => .bl (decide (j < i))) (rI0_I op_gt) (fun _ _ _ _ _ => .bl _) fun a b ph Q h => ?_
  cases a <;> cases b <;> first | exact h.elim | exact ⟨_, _, rfl, rfl, trivial, h⟩
theorem ge_ok (own : Bool) : OpR X (compareOp .GtE) (lift2 X.K (op2S .ge own)) := by
  refine ints_ok (g := fun i j => .bl (decide (j ≤ i))) (rI0_I op_ge) (fun _ _ _ _ _ => .bl _) fun a b ph Q h => ?_
  cases a <;> cases b <;> first | exact h.elim | exact ⟨_, _, rfl, rfl, trivial, h⟩
theorem lexLt_eq : ∀ xs ys : List Int, lexLt xs ys = HT.lexLt xs ys
  | [], [] => rfl
  | _ :: _, [] => rfl
  | [], _ :: _ => rfl
  | x :: xs, y :: ys => by
    rw [HT.lexLt_cons, lexLt, lexLt_eq xs ys]
theorem lt_ok (hu : X.A.units < cLine) (own : Bool) : OpR X (compareOp .Lt) (lift2 X.K (op2S .lt own)) := by
  refine OpR.imp ((op_lt (X := X)).or (op_ltT (X := X) hu)) ?_
  rintro x y H Q' ⟨w, a, b, Q, rfl, o, ra, rb, h, p⟩
  cases ra with
  | int i =>
    cases rb with
    | int j => exact .inl ⟨i, j, rfl, rfl, p.here o (.bl _) h⟩
    | _ => exact h.elim
  | tup h1 r1 =>
    cases rb with
    | tup h2 r2 =>
      obtain ⟨ns, ms, e1, e2, q⟩ := h
      have e1' := Reps.ints e1 r1
      have e2' := Reps.ints e2 r2
      subst e1' e2'
      refine .inr ⟨_, _, ns, ms, rfl, rfl, SqT.of h1, SqT.of h2, ?_⟩
      rw [← lexLt_eq]
      exact p.here o (.bl _) q
    | _ => exact h.elim
  | _ => cases rb <;> exact h.elim
theorem eqP_ok {f : Value → Value → Sem Value} {g : Bool → Bool} (h1 : OpR X f (fun x y H Q => scal x y = true ∧ Q (.bl (g (decide (x = y)))) H))
    (h2 : OpR X f (fun x y H Q => ∃ d e, Dp X.K H x d ∧ Dp X.K H y e ∧ SeqAt.shaped d = true ∧ SeqAt.shaped e = true ∧ Q (.bl (g (PyData.eqv d e))) H)) :
    OpR X f (lift2 X.K fun a b ph Q => eqP a b ph fun k => Q (.bl (g k)) ph) := by
  refine OpR.imp (h1.or h2) ?_
  rintro x y H Q' ⟨w, a, b, Q, rfl, o, ra, rb, h, p⟩
  have gen : (∃ d e, Dat w.ph a d ∧ Dat w.ph b e ∧ SeqAt.shaped d = true ∧ SeqAt.shaped e = true ∧ Q (.bl (g (PyData.eqv d e))) w.ph) →
      ∃ d e, Dp X.K w.H x d ∧ Dp X.K w.H y e ∧ SeqAt.shaped d = true ∧ SeqAt.shaped e = true ∧ Q' (.bl (g (PyData.eqv d e))) w.H := by
    rintro ⟨d, e, hd, he, s1, s2, q⟩
    exact ⟨d, e, dat_dp o hd (shaped_noDict s1) ra, dat_dp o he (shaped_noDict s2) rb, s1, s2, p.here o (.bl _) q⟩
  cases a with
  | int i =>
    cases b with
    | int j =>
      cases ra; cases rb
      refine .inl ⟨rfl, ?_⟩
      have e : decide (V.int i = V.int j) = decide (i = j) := by
        by_cases hh : i = j
        · subst hh; simp
        · rw [decide_eq_false hh, decide_eq_false fun z => hh (V.int.inj z)]
      rw [e]
      exact p.here o (.bl _) h
    | _ => exact .inr (gen h)
  | non =>
    cases b with
    | non =>
      cases ra; cases rb
      exact .inl ⟨rfl, p.here o (.bl _) h⟩
    | _ => exact .inr (gen h)
  | str i =>
    cases b with
    | str j =>
      cases ra; cases rb
      refine .inl ⟨rfl, ?_⟩
      have e : decide (V.str i = V.str j) = decide (i = j) := by
        by_cases hh : i = j
        · subst hh; simp
        · rw [decide_eq_false hh, decide_eq_false fun z => hh (V.str.inj z)]
      rw [e]
      exact p.here o (.bl _) h
    | _ => exact .inr (gen h)
  | bl i =>
    cases b with
    | bl j =>
      cases ra; cases rb
      refine .inl ⟨rfl, ?_⟩
      have e : decide (V.bl i = V.bl j) = decide (i = j) := by
        by_cases hh : i = j
        · subst hh; simp
        · rw [decide_eq_false hh, decide_eq_false fun z => hh (V.bl.inj z)]
      rw [e]
      exact p.here o (.bl _) h
    | _ => exact .inr (gen h)
  | tup _ => exact .inr (gen (by cases b <;> exact h))
  | lst _ => exact .inr (gen (by cases b <;> exact h))
  | ref _ => exact .inr (gen (by cases b <;> exact h))
  | scr _ => exact .inr (gen (by cases b <;> exact h))
theorem eq_ok (hu : X.A.units + 64 < cLine) (own : Bool) : OpR X (compareOp .Eq) (lift2 X.K (op2S .eq own)) := eqP_ok (g := fun k => k) op_eq (op_eqD hu)
theorem ne_ok (hu : X.A.units + 64 < cLine) (own : Bool) : OpR X (compareOp .NotEq) (lift2 X.K (op2S .ne own)) := eqP_ok (g := fun k => !k) op_ne (op_neD hu)
theorem isNon_eq {K : PySem.W.Frag} {H : Hp} {μ : Mu} {a : PV} {x : V} (r : Rep K H μ a x) : decide (x = .non) = isNon a := by cases r <;> rfl
theorem is_ok (own : Bool) : OpR X (compareOp .Is) (lift2 X.K (op2S .is own)) := by
  refine OpR.imp (op_isN (X := X)) ?_
  rintro x y H Q' ⟨w, a, b, Q, rfl, o, ra, rb, h, p⟩
  cases rb with
  | non => refine ⟨rfl, ?_⟩; rw [isNon_eq ra]; exact p.here o (.bl _) h
  | _ => exact h.elim
theorem isnot_ok (own : Bool) : OpR X (compareOp .IsNot) (lift2 X.K (op2S .isnot own)) := by
  refine OpR.imp (op_notN (X := X)) ?_
  rintro x y H Q' ⟨w, a, b, Q, rfl, o, ra, rb, h, p⟩
  cases rb with
  | non => refine ⟨rfl, ?_⟩; rw [isNon_eq ra]; exact p.here o (.bl _) h
  | _ => exact h.elim
end
end RL

/-! RLPrim2: products, membership, items, slices. -/
namespace RL
open PySem PySem.Spec PyProof.Rows L2
/-- tuple * 1, () * n: the tuple itself -/
theorem tupMulSame (l : Addr) (items : Array Value) (n : Nat) (dd : Option Addr) (sl : Array (Option Value)) (x : Int) (u : Tok) (c0 : (decide (x < -(2 ^ 63)) || decide (x ≥ 2 ^ 63)) = false) (c1 : (items.isEmpty || x == 1) = true) :
    Meets (Builtin.«tuple.__mul__» ⟨[.ref l, .int x u], []⟩) (fun _ R s => s.heap.get? l = some { cls := .type "tuple", dict := dd, data := .seq items n, slots := sl } ∧ R (.ok (.ret (Value.ref l))) s) :=
  .of_wp fun prog w A R s h => by
    obtain ⟨hp, g, d, tk, os'⟩ := s
    obtain ⟨hl, h⟩ := h
    have f1 := AutoSeq1.idx_int
    wp_walk using wpAny_loadPart' hl
    repeat (first
      | (refine wpAny_ite_false (decide_eq_false (by rw [c0]; exact Bool.false_ne_true)) ?_; wp_walk using wpAny_loadPart' hl)
      | (refine wpAny_ite_true (decide_eq_true c1) ?_; wp_walk using wpAny_loadPart' hl))
    exact ⟨_, rfl, h⟩
theorem tupMulNone (l : Addr) (items : Array Value) (n : Nat) (dd : Option Addr) (sl : Array (Option Value)) (x : Int) (u : Tok) (c0 : (decide (x < -(2 ^ 63)) || decide (x ≥ 2 ^ 63)) = false) (c1 : (items.isEmpty || x == 1) = false) (c2 : (decide (x ≤ 0) || items.isEmpty) = true) :
    Meets (Builtin.«tuple.__mul__» ⟨[.ref l, .int x u], []⟩) (fun _ R s => s.heap.get? l = some { cls := .type "tuple", dict := dd, data := .seq items n, slots := sl } ∧
      R (.ok (.ret (Value.ref s.heap.objs.size))) { s with heap := s.heap.push { cls := Value.type "tuple", data := Data.seq #[] }, toks := s.toks }) :=
  .of_wp fun prog w A R s h => by
    obtain ⟨hp, g, d, tk, os'⟩ := s
    obtain ⟨hl, h⟩ := h
    have f1 := AutoSeq1.idx_int
    wp_walk using wpAny_loadPart' hl
    repeat (first
      | (refine wpAny_ite_false (decide_eq_false (by rw [c0]; exact Bool.false_ne_true)) ?_; wp_walk using wpAny_loadPart' hl)
      | (refine wpAny_ite_false (decide_eq_false (by rw [c1]; exact Bool.false_ne_true)) ?_; wp_walk using wpAny_loadPart' hl)
      | (refine wpAny_ite_true (decide_eq_true c2) ?_; wp_walk using wpAny_loadPart' hl))
    exact ⟨_, rfl, h⟩
section
variable {X : Cx}
/-- a tuple times 1, times nothing -/
def rRepS (K : PySem.W.Frag) : R2 := fun x y H Q => ∃ l k xs, x = .ref l ∧ y = .int k ∧ SqT K H l xs ∧ k ≤ 1000 ∧ -(2 ^ 62) ≤ k ∧ (((xs = [] ∨ k = 1) ∧ Q (.ref l) H) ∨ (xs ≠ [] ∧ k ≤ 0 ∧ ∀ p, H p = none → Q (.ref p) (upd H p (.tup []))))
theorem op_repS : OpR X (binaryOp .Mult) (rRepS X.K) := by
  intro pins s σ H x y v u Q I rx ry h
  obtain ⟨l, k, xs, rfl, rfl, hT, h1, h2, h⟩ := h
  cases rx
  obtain ⟨t, rfl⟩ := ry
  obtain ⟨its, r, ⟨⟨cls, dd, data, sl⟩, ho, hc, n, hd⟩, hs⟩ := I.tuple hT
  simp only at hc hd
  subst hc hd
  have hle : its.length = xs.length := r.length.symm
  have c0 : (decide (k < -(2 ^ 63)) || decide (k ≥ 2 ^ 63)) = false := by
    rw [decide_eq_false (by omega), decide_eq_false (by omega)]; rfl
  rcases h with ⟨h, q⟩ | ⟨hne, hk, q⟩
  · have c1 : (its.toArray.isEmpty || k == 1) = true := by
      rcases h with h | h
      · subst h
        have : its = [] := List.eq_nil_of_length_eq_zero hle
        subst this; rfl
      · subst h; simp
    exact wpAny_binaryOp_repeat_ref (T := "tuple") (U := "int") (by decide) ⟨_, ho, rfl⟩ (fun s' => typeIs_int s' k t) noFill_tuple_mul F.fills_int_mul F.slot_int_rmul repeat_tuple F.slot_int_index.lookup
      (call_meets F.slot_int_rmul (typeIs_int s k t) F.entry_int_rmul (F.args_int_rmul_2 _ _) (int_rmul_tuple k t l its.toArray n dd sl)
        ⟨ho, rfl, ⟨_, ho, rfl⟩, call_meets F.slot_tuple_mul ⟨_, ho, rfl⟩ F.entry_tuple_mul (F.args_tuple_mul_2 _ _) (tupMulSame l its.toArray n dd sl k t c0 c1) ⟨ho, ⟨.ref l, H, I, rfl, q⟩⟩⟩)
  · have c1 : (its.toArray.isEmpty || k == 1) = false := by
      have : its ≠ [] := fun e => hne (by rw [e] at hle; exact List.eq_nil_of_length_eq_zero hle.symm)
      cases its with
      | nil => exact absurd rfl this
      | cons a b => rw [beq_eq_false_iff_ne.mpr (by omega)]; rfl
    have c2 : (decide (k ≤ 0) || its.toArray.isEmpty) = true := by rw [decide_eq_true hk]; rfl
    refine wpAny_binaryOp_repeat_ref (T := "tuple") (U := "int") (by decide) ⟨_, ho, rfl⟩ (fun s' => typeIs_int s' k t) noFill_tuple_mul F.fills_int_mul F.slot_int_rmul repeat_tuple F.slot_int_index.lookup
      (call_meets F.slot_int_rmul (typeIs_int s k t) F.entry_int_rmul (F.args_int_rmul_2 _ _) (int_rmul_tuple k t l its.toArray n dd sl)
        ⟨ho, rfl, ⟨_, ho, rfl⟩, call_meets F.slot_tuple_mul ⟨_, ho, rfl⟩ F.entry_tuple_mul (F.args_tuple_mul_2 _ _) (tupMulNone l its.toArray n dd sl k t c0 c1 c2) ⟨ho, ?_⟩⟩)
    refine ⟨.ref s.heap.objs.size, _, I.laid (t' := s.toks) (o := .tup []) (fun b ob q => Heap.get?_push_of_some _ q) (Nat.le_refl _) ⟨Nat.zero_le _, [], .nil, IsTup.new _ _⟩, rfl, q _ (I.hok.fresh (Nat.le_refl _))⟩
/-- a text so many times -/
def rRepStr : R2 := fun x y H Q => ∃ z k, x = .str z ∧ y = .int k ∧ -(2 ^ 62) ≤ k ∧ k ≤ 1000 ∧ z.length ≤ 1000 ∧ Q (.str ⟨(List.replicate k.toNat z.cps.toList).flatten.toArray⟩) H
theorem strFlat (z : Str) : ∀ (m : Nat) (acc : Array Nat), (List.replicate m z.cps).foldl (· ++ ·) acc = acc ++ (List.replicate m z.cps.toList).flatten.toArray
  | 0, acc => by simp
  | m + 1, acc => by
    rw [List.replicate_succ, List.foldl_cons, strFlat z m, List.replicate_succ, List.flatten_cons]
    exact Array.ext' (by simp)
theorem op_repStr : OpR X (binaryOp .Mult) rRepStr := by
  intro pins s σ H x y v u Q I rx ry h
  obtain ⟨z, k, rfl, rfl, h1, h2, hz, q⟩ := h
  obtain ⟨t, rfl⟩ := rx
  obtain ⟨t', rfl⟩ := ry
  have sl : (sizeLine : Nat) = 16777216 := sizeLine_eq
  have hlen : z.cps.size = z.length := rfl
  have e0 : (List.replicate k.toNat z.cps).foldl (· ++ ·) #[] = (List.replicate k.toNat z.cps.toList).flatten.toArray := by
    rw [strFlat]; simp
  refine PySem.P.mul_str (by rw [decide_eq_false (by omega), decide_eq_false (by omega)]; rfl) (fun a b c => ?_) (fun a b => ?_) ?_
  · have h3 : (z.length : Int) * k ≤ 1000 * 1000 := Int.mul_le_mul (by omega) h2 (by omega) (by omega)
    have h4 : (z.length : Int) ≤ (2 ^ 63 - 1) / k := Int.le_ediv_of_mul_le (by omega) (by omega)
    omega
  · have : z.length * k.toNat ≤ 1000 * 1000 := Nat.mul_le_mul hz (by omega)
    unfold Builtin.Str.tooLong
    exact decide_eq_false (by omega)
  · by_cases hk : k < 1
    · rw [if_pos hk]
      have e : k.toNat = 0 := by omega
      rw [e] at q
      refine ⟨by decide, ⟨.str Str.empty, H, I.tok _, ⟨_, rfl⟩, ?_⟩⟩
      have e2 : (⟨(List.replicate 0 z.cps.toList).flatten.toArray⟩ : Str) = Str.empty := rfl
      rw [e2] at q
      exact q
    · rw [if_neg hk]
      by_cases h1' : (k == 1 || z.length == 0) = true
      · rw [if_pos h1']
        refine ⟨.str z, H, I, ⟨_, rfl⟩, ?_⟩
        have : (⟨(List.replicate k.toNat z.cps.toList).flatten.toArray⟩ : Str) = z := by
          rcases Bool.or_eq_true_iff.mp h1' with e | e
          · have e : k = 1 := by simpa using e
            subst e
            simp
          · have e : z.length = 0 := by simpa using e
            obtain ⟨c⟩ := z
            have : c = #[] := Array.eq_empty_of_size_eq_zero (show c.size = 0 from e)
            subst this
            simp
        rw [this] at q
        exact q
      · rw [if_neg h1']
        refine ⟨?_, ⟨.str _, H, I.tok _, ⟨_, rfl⟩, ?_⟩⟩
        · rw [e0]
          show (List.replicate k.toNat z.cps.toList).flatten.toArray.size ≤ sizeLine
          rw [List.size_toArray, PyProof.Rows.lm_len_rep_flat]
          have : k.toNat * z.cps.toList.length ≤ 1000 * 1000 := Nat.mul_le_mul (by omega) (by rw [Array.length_toList]; exact hz)
          omega
        · rw [e0]; exact q
end
end RL

/-! RLPrim3: products, membership, all operators. -/
namespace RL
open PySem PySem.Spec PyProof.Rows L2
section
variable {X : Cx}
theorem op_mulA {X : Cx} : OpR X (binaryOp .Mult) (rI IntMulOk fun i j => .int (i * j)) := opI fun _ _ _ _ _ _ _ hc q => mul_int q hc
theorem mul_ok (own : Bool) : OpR X (binaryOp .Mult) (lift2 X.K (op2S .mul own)) := by
  refine OpR.imp ((op_mulA (X := X)).or ((op_repT (X := X)).or ((op_repS (X := X)).or ((op_repStr (X := X)).or (op_rep (X := X)))))) ?_
  rintro x y H Q' ⟨w, a, b, Q, rfl, o, ra, rb, h, p⟩
  have lists : ∀ {a : PV} {k : Int}, (∃ xs, lstOf w.ph a = some xs ∧ (-1000 ≤ k ∧ k ≤ 1000) ∧ xs.length ≤ 1000 ∧ newL own (List.replicate k.toNat xs).flatten w.ph Q) → Rep X.K w.H w.μ a x → rRep x (.int k) w.H Q' := by
    rintro a k ⟨xs, h1, hk, hz, q⟩ ra
    obtain ⟨l1, v1, rfl, e1, r1⟩ := lst_at o h1 ra
    refine ⟨l1, k, v1, rfl, rfl, e1, by omega, by omega, ?_, p.lst o (r1.rep _) q⟩
    have : v1.length * k.toNat ≤ 1000 * 1000 := Nat.mul_le_mul (by rw [r1.length]; exact hz) (by omega)
    have := sizeLine_eq
    omega
  cases ra with
  | int i =>
    cases rb with
    | int j => exact .inl ⟨i, j, rfl, rfl, h.1, p.here o (.int _) h.2⟩
    | _ => exact h.elim
  | str s =>
    cases rb with
    | int k => exact .inr (.inr (.inr (.inl ⟨s, k, rfl, rfl, by have := h.1; omega, by have := h.1; omega, h.2.1, p.here o (.str _) h.2.2⟩)))
    | _ => exact h.elim
  | @tup a xs vs h1 r1 =>
    cases rb with
    | int k =>
      obtain ⟨hk, hz, q⟩ := h
      by_cases hx : xs = []
      · subst hx
        cases r1
        refine .inr (.inr (.inl ⟨_, k, [], rfl, rfl, SqT.of h1, by omega, by omega, .inl ⟨.inl rfl, ?_⟩⟩))
        refine p.here o (.tup h1 .nil) ?_
        have e : (List.replicate k.toNat ([] : List PV)).flatten = [] := by simp
        rwa [e] at q
      · have hv : vs ≠ [] := fun e => by
          have := r1.length
          rw [e] at this
          exact hx (List.eq_nil_of_length_eq_zero this.symm)
        by_cases h0 : k ≤ 0
        · refine .inr (.inr (.inl ⟨_, k, vs, rfl, rfl, SqT.of h1, by omega, by omega, .inr ⟨hv, h0, ?_⟩⟩))
          have e : k.toNat = 0 := by omega
          rw [e] at q
          exact p.tup o .nil q
        · by_cases h1' : k = 1
          · refine .inr (.inr (.inl ⟨_, k, vs, rfl, rfl, SqT.of h1, by omega, by omega, .inl ⟨.inr h1', ?_⟩⟩))
            refine p.here o (.tup h1 r1) ?_
            have e : k.toNat = 1 := by omega
            rw [e] at q
            simpa using q
          · exact .inr (.inl ⟨_, k, vs, rfl, rfl, SqT.of h1, hv, by omega, by omega, by rw [r1.length]; exact hz, p.tup o (r1.rep _) q⟩)
    | _ => exact h.elim
  | lst h1 h2 h3 =>
    cases rb with
    | int k => exact .inr (.inr (.inr (.inr (lists h (.lst h1 h2 h3)))))
    | _ => exact h.elim
  | ref h1 =>
    cases rb with
    | int k => exact .inr (.inr (.inr (.inr (lists h (.ref h1)))))
    | _ => exact h.elim
  | non => cases rb <;> first | exact h.elim | (obtain ⟨xs, h1, _⟩ := h; cases h1)
  | bl b => cases rb <;> first | exact h.elim | (obtain ⟨xs, h1, _⟩ := h; cases h1)
  | scr b => cases rb <;> first | exact h.elim | (obtain ⟨xs, h1, _⟩ := h; cases h1)

/-! ### membership -/
def rInT (K : PySem.W.Frag) (g : Bool → Bool) : R2 := fun x y H Q => ∃ d a vs ds, Dp K H x d ∧ y = .ref a ∧ SqT K H a vs ∧ DpAll K H vs ds ∧ SeqAt.shaped d = true ∧ SeqAt.shaped (.tuple ds) = true ∧ Q (.bl (g (ds.any fun z => PyData.eqv z d))) H
theorem any_read {h : Heap} {ds : List PyData} {vs : List Value} {as : List Addr} {d : PyData} (r : ReadsAll h vs ds as) (hc : PyData.canLayAll0 ds = true) : (vs.toArray.any fun u => PyData.eqv (SeqAt.readOf h u) d) = ds.any fun z => PyData.eqv z d := by
  have e := SeqAt.readsAll_map ds vs as hc r
  rw [← e, List.any_map]
  simp [Function.comp_def]
theorem op_inT (hu : X.A.units + 65 < cLine) : OpR X (compareOp .In) (rInT X.K id) := by
  intro pins s σ H x y v u Q I rx ry h
  obtain ⟨d, a, xs, ds, hd, rfl, ht, hds, sd, se, q⟩ := h
  obtain ⟨as, r1⟩ := Dp.reads I d x v hd rx
  cases ry
  obtain ⟨its, rv, pl, _⟩ := I.tuple ht
  obtain ⟨bs, r2⟩ := Dp.readsAll I ds _ its hds rv
  have hc : PyData.canLayAll0 ds = true := by simpa only [PyData.canLay0] using SeqAt.canLay_of_shaped se
  refine SeqAt.in_tupleAt _ pl (SeqAt.items_eqAt (vs := its.toArray) (show ReadsAll s.heap its.toArray.toList ds bs from r2) r1 hc (SeqAt.canLay_of_shaped sd) (room_in_shaped sd hu)) ⟨.bl _, H, I, rfl, ?_⟩
  rw [any_read r2 hc]; exact q
theorem op_ninT (hu : X.A.units + 65 < cLine) : OpR X (compareOp .NotIn) (rInT X.K fun b => !b) := by
  intro pins s σ H x y v u Q I rx ry h
  obtain ⟨d, a, xs, ds, hd, rfl, ht, hds, sd, se, q⟩ := h
  obtain ⟨as, r1⟩ := Dp.reads I d x v hd rx
  cases ry
  obtain ⟨its, rv, pl, _⟩ := I.tuple ht
  obtain ⟨bs, r2⟩ := Dp.readsAll I ds _ its hds rv
  have hc : PyData.canLayAll0 ds = true := by simpa only [PyData.canLay0] using SeqAt.canLay_of_shaped se
  refine SeqAt.notIn_tupleAt _ pl (SeqAt.items_eqAt (vs := its.toArray) (show ReadsAll s.heap its.toArray.toList ds bs from r2) r1 hc (SeqAt.canLay_of_shaped sd) (room_in_shaped sd hu)) ⟨.bl _, H, I, rfl, ?_⟩
  rw [any_read r2 hc]; exact q
theorem op_inDict (hu : X.A.units + 1 < cLine) : OpR X (compareOp .In) (fun y x H Q => ∃ a o, x = .ref a ∧ DGet H a y o ∧ Q (.bl o.isSome) H) := by
  intro pins s σ H x y v u Q I rx ry h
  obtain ⟨a, o, rfl, g, q⟩ := h
  cases ry
  exact d_in hu I g rx fun s' I' => ⟨.bl _, H, I', rfl, q⟩
theorem op_ninDict (hu : X.A.units + 1 < cLine) : OpR X (compareOp .NotIn) (fun y x H Q => ∃ a o, x = .ref a ∧ DGet H a y o ∧ Q (.bl (!o.isSome)) H) := by
  intro pins s σ H x y v u Q I rx ry h
  obtain ⟨a, o, rfl, g, q⟩ := h
  cases ry
  exact d_notIn hu I g rx fun s' I' => ⟨.bl _, H, I', rfl, q⟩
/-! dicts -/
section
variable {K : PySem.W.Frag} {H : Hp} {μ : Mu}
theorem RepK.look {κ : Type} [DecidableEq κ] {k : κ} : ∀ {kvs : List (κ × PV)} {l : List (κ × V)}, RepK K H μ kvs l → (pkLook kvs k = none ∧ valV l k = none) ∨ ∃ x v, pkLook kvs k = some x ∧ valV l k = some v ∧ Rep K H μ x v
  | _, _, .nil => .inl ⟨rfl, rfl⟩
  | _, _, @RepK.cons _ _ _ _ k' x v xs vs h t => by
    by_cases e : k' = k
    · refine .inr ⟨x, v, ?_, valV_pos e, h⟩
      simp [pkLook, e]
    · have h1 : pkLook ((k', x) :: xs) k = pkLook xs k := by simp [pkLook, List.find?_cons, e]
      have h2 : valV ((k', v) :: vs) k = valV vs k := valV_neg e
      rw [h1, h2]
      exact RepK.look t
theorem RepK.length {κ : Type} : ∀ {kvs : List (κ × PV)} {l : List (κ × V)}, RepK K H μ kvs l → l.length = kvs.length
  | _, _, .nil => rfl
  | _, _, .cons _ t => by simp [RepK.length t]
theorem RepK.anyKey {κ : Type} [DecidableEq κ] {k : κ} : ∀ {kvs : List (κ × PV)} {l : List (κ × V)}, RepK K H μ kvs l → (l.any fun kv => decide (kv.1 = k)) = kvs.any fun kv => decide (kv.1 = k)
  | _, _, .nil => rfl
  | _, _, .cons _ t => by rw [List.any_cons, List.any_cons, RepK.anyKey t]
theorem RepK.mapPut {κ : Type} [DecidableEq κ] {k : κ} {x : PV} {v : V} (h : Rep K H μ x v) : ∀ {kvs : List (κ × PV)} {l : List (κ × V)}, RepK K H μ kvs l →
    RepK K H μ (kvs.map fun kv => if kv.1 = k then (kv.1, x) else kv) (l.map fun kv => if kv.1 = k then (kv.1, v) else kv)
  | _, _, .nil => .nil
  | _, _, @RepK.cons _ _ _ _ k' y u ys us h' t => by
    rw [List.map_cons, List.map_cons]
    by_cases e : k' = k
    · rw [if_pos e, if_pos e]; exact .cons h (RepK.mapPut h t)
    · rw [if_neg e, if_neg e]; exact .cons h' (RepK.mapPut h t)
theorem RepK.append {κ : Type} : ∀ {a b : List (κ × PV)} {c d : List (κ × V)}, RepK K H μ a c → RepK K H μ b d → RepK K H μ (a ++ b) (c ++ d)
  | _, _, _, _, .nil, r => r
  | _, _, _, _, .cons h t, r => .cons h (RepK.append t r)
theorem RepK.put {κ : Type} [DecidableEq κ] {k : κ} {x : PV} {v : V} (h : Rep K H μ x v) {kvs : List (κ × PV)} {l : List (κ × V)} (r : RepK K H μ kvs l) : RepK K H μ (pkPut kvs k x) (putK l k v) := by
  unfold pkPut putK
  rw [r.anyKey]
  split
  · exact r.mapPut h
  · exact r.append (.cons h .nil)
theorem key_at {a : PV} {k : Key} {x : V} (h : keyOf a = some k) (r : Rep K H μ a x) : x = kV k := by
  cases r with
  | int i => simp [keyOf] at h; subst h; rfl
  | str i => simp [keyOf] at h; subst h; rfl
  | _ => cases h
theorem keys_at : ∀ {xs : List PV} {ks : List Key} {vs : List V}, keysOf xs = some ks → Reps K H μ xs vs → vs = ks.map kV
  | _, _, _, h, .nil => by simp [keysOf] at h; subst h; rfl
  | x :: xs, _, _, h, .cons r t => by
    cases e1 : keyOf x with
    | none => simp [keysOf, e1] at h
    | some k =>
      cases e2 : keysOf xs with
      | none => simp [keysOf, e1, e2] at h
      | some l =>
        simp [keysOf, e1, e2] at h
        subst h
        rw [key_at e1 r, keys_at e2 t]; rfl
theorem tkey_at {a : PV} {k : List Key} {x : V} (h : tkeyOf a = some k) (r : Rep K H μ a x) : ∃ b, x = .ref b ∧ H b = some (.tup (k.map kV)) := by
  cases r with
  | tup h1 r1 =>
    have h' : keysOf _ = some k := h
    exact ⟨_, rfl, by rw [← keys_at h' r1]; exact h1⟩
  | _ => cases h
end
theorem isIn_gen {K : PySem.W.Frag} {w : Wd} (o : Ok K w) {a b : PV} {x y : V} (ra : Rep K w.H w.μ a x) (rb : Rep K w.H w.μ b y) {k : Bool → Prop} (h : isIn a b w.ph k) :
    (∃ a' ob, y = .ref a' ∧ DGet w.H a' x ob ∧ k ob.isSome) ∨
    (∃ d ds, Dp K w.H x d ∧ Dp K w.H y (.list ds) ∧ SeqAt.shaped d = true ∧ SeqAt.shaped (.list ds) = true ∧ k (ds.any fun z => PyData.eqv z d)) ∨
    (∃ d a vs ds, Dp K w.H x d ∧ y = .ref a ∧ SqT K w.H a vs ∧ DpAll K w.H vs ds ∧ SeqAt.shaped d = true ∧ SeqAt.shaped (.tuple ds) = true ∧ k (ds.any fun z => PyData.eqv z d)) := by
  have gen : (∃ d ds, Dat w.ph a d ∧ Dat w.ph b (.list ds) ∧ SeqAt.shaped d = true ∧ SeqAt.shaped (.list ds) = true ∧ k (ds.any fun z => PyData.eqv z d)) →
      ∃ d ds, Dp K w.H x d ∧ Dp K w.H y (.list ds) ∧ SeqAt.shaped d = true ∧ SeqAt.shaped (.list ds) = true ∧ k (ds.any fun z => PyData.eqv z d) := by
    rintro ⟨d, ds, h1, h2, s1, s2, q⟩
    exact ⟨d, ds, dat_dp o h1 (shaped_noDict s1) ra, dat_dp o h2 (shaped_noDict s2) rb, s1, s2, q⟩
  cases rb with
  | tup h1 r1 =>
    obtain ⟨d, ds, hd, hds, s1, s2, q⟩ := h
    exact .inr (.inr ⟨d, _, _, ds, dat_dp o hd (shaped_noDict s1) ra, rfl, SqT.of h1, dats_dp o hds (by simpa only [PyData.hasDict] using shaped_noDict s2) r1, s1, s2, q⟩)
  | @ref n p hn =>
    cases q : w.ph[n]? with
    | none => simp only [isIn, q] at h; exact .inr (.inl (gen h))
    | some ob =>
      cases ob with
      | lst xs => simp only [isIn, q] at h; exact .inr (.inl (gen h))
      | dK kvs =>
        simp only [isIn, q] at h
        obtain ⟨key, hk, q'⟩ := h
        obtain ⟨l, e, r⟩ := o.ob _ _ _ hn q
        have ek := key_at hk ra
        subst ek
        refine .inl ⟨p, valV l key, rfl, DGet.k e, ?_⟩
        rcases r.look (k := key) with ⟨e1, e2⟩ | ⟨x1, v1, e1, e2, _⟩ <;> (rw [e1] at q'; rw [e2]; exact q')
      | dT kvs =>
        simp only [isIn, q] at h
        obtain ⟨key, hk, q'⟩ := h
        obtain ⟨l, e, r⟩ := o.ob _ _ _ hn q
        obtain ⟨b', rfl, eb⟩ := tkey_at hk ra
        refine .inl ⟨p, valV l key, rfl, DGet.t e eb, ?_⟩
        rcases r.look (k := key) with ⟨e1, e2⟩ | ⟨x1, v1, e1, e2, _⟩ <;> (rw [e1] at q'; rw [e2]; exact q')
  | lst h1 h2 h3 => exact .inr (.inl (gen h))
  | _ => exact .inr (.inl (gen h))
theorem in_ok (hu : X.A.units + 65 < cLine) (own : Bool) : OpR X (compareOp .In) (lift2 X.K (op2S .in_ own)) := by
  refine OpR.imp ((op_inDict (X := X) (by omega)).or ((op_inD (X := X) hu).or (op_inT (X := X) hu))) ?_
  rintro x y H Q' ⟨w, a, b, Q, rfl, o, ra, rb, h, p⟩
  rcases isIn_gen (k := fun t => Q (.bl t) w.ph) o ra rb h with ⟨a', ob, e, g, q⟩ | ⟨d, ds, h1, h2, s1, s2, q⟩ | ⟨d, a', vs, ds, h1, h2, h3, h4, s1, s2, q⟩
  · exact .inl ⟨a', ob, e, g, p.here o (.bl _) q⟩
  · exact .inr (.inl ⟨d, ds, h1, h2, s1, s2, p.here o (.bl _) q⟩)
  · exact .inr (.inr ⟨d, a', vs, ds, h1, h2, h3, h4, s1, s2, p.here o (.bl _) q⟩)
theorem notin_ok (hu : X.A.units + 65 < cLine) (own : Bool) : OpR X (compareOp .NotIn) (lift2 X.K (op2S .notin own)) := by
  refine OpR.imp ((op_ninDict (X := X) (by omega)).or ((op_notInD (X := X) hu).or (op_ninT (X := X) hu))) ?_
  rintro x y H Q' ⟨w, a, b, Q, rfl, o, ra, rb, h, p⟩
  rcases isIn_gen (k := fun t => Q (.bl (!t)) w.ph) o ra rb h with ⟨a', ob, e, g, q⟩ | ⟨d, ds, h1, h2, s1, s2, q⟩ | ⟨d, a', vs, ds, h1, h2, h3, h4, s1, s2, q⟩
  · exact .inl ⟨a', ob, e, g, p.here o (.bl _) q⟩
  · exact .inr (.inl ⟨d, ds, h1, h2, s1, s2, p.here o (.bl _) q⟩)
  · exact .inr (.inr ⟨d, a', vs, ds, h1, h2, h3, h4, s1, s2, p.here o (.bl _) q⟩)
theorem op2_ok (hu : X.A.units + 65 < cLine) : ∀ (o : Op2) (own : Bool), OpR X (op2F o) (lift2 X.K (op2S o own))
  | .add, own => add_ok own
  | .sub, own => sub_ok own
  | .mul, own => mul_ok own
  | .fdiv, own => fdiv_ok own
  | .mod, own => mod_ok own
  | .pow, own => pow_ok own
  | .band, own => band_ok own
  | .shl, own => shl_ok own
  | .shr, own => shr_ok own
  | .eq, own => eq_ok (by omega) own
  | .ne, own => ne_ok (by omega) own
  | .lt, own => lt_ok (by omega) own
  | .le, own => le_ok own
  | .gt, own => gt_ok own
  | .ge, own => ge_ok own
  | .is, own => is_ok own
  | .isnot, own => isnot_ok own
  | .in_, own => in_ok hu own
  | .notin, own => notin_ok hu own
end
end RL

/-! RLPrim4: items, slices, built-in functions, methods. -/
namespace RL
open PySem PySem.Spec PyProof.Rows L2
theorem IxR.imp {X : Cx} {r r' : R2} (h : IxR X r) (k : ∀ x y H Q, r' x y H Q → r x y H Q) : IxR X r' := fun value slice pins s σ H x y v u Q I rx ry q hs => h value slice pins s σ H x y v u Q I rx ry (k x y H Q q) hs
theorem SlR.imp {X : Cx} {r r' : V → Option Int → Option Int → Hp → VK → Prop} (h : SlR X r) (k : ∀ x lo hi H Q, r' x lo hi H Q → r x lo hi H Q) : SlR X r' := fun pins s σ H x v vl vu lo hi sl Q I rx hs pl pu q => h pins s σ H x v vl vu lo hi sl Q I rx hs pl pu (k _ _ _ _ _ q)
theorem CallR.imp {X : Cx} {f : Value} {r r' : List V → Hp → VK → Prop} (h : CallR X f r) (k : ∀ x H Q, r' x H Q → r x H Q) : CallR X f r' := fun pins s σ H xs us Q I rx q => h pins s σ H xs us Q I rx (k _ _ _ q)
theorem ixN_lt {n : Nat} {i : Int} {j : Nat} (h : ixN n i = some j) : j < n := (ixN_seq h).2.1
theorem Reps.at {K : PySem.W.Frag} {H : Hp} {μ : Mu} {xs : List PV} {vs : List V} {i : Int} {x : PV} (r : Reps K H μ xs vs) (h : atI xs i = some x) : ∃ v, atI vs i = some v ∧ Rep K H μ x v := by
  unfold atI at h ⊢
  rw [r.length]
  cases e : ixN xs.length i with
  | none => rw [e] at h; cases h
  | some j =>
    rw [e] at h
    exact r.get h
section
variable {X : Cx}
theorem ix_dict (hu : X.A.units + 1 < cLine) : IxR X (fun x y H Q => ∃ a v, x = .ref a ∧ DGet H a y (some v) ∧ Q v H) := by
  intro value slice pins s σ H x y v u Q I rx ry h hs
  obtain ⟨a, z, rfl, g, q⟩ := h
  cases rx
  exact tail_any (dict_typeIs I g) PySem.F.slot_dict_getitem.lookup (d_getItem hu I g ry fun w' s3 I3 rw' => ⟨z, H, I3, rw', q⟩) hs
theorem idx_ok (hu : X.A.units + 1 < cLine) : IxR X (lift2 X.K idxS) := by
  refine IxR.imp ((ix_seq (X := X)).or (ix_dict (X := X) hu)) ?_
  rintro x y H Q' ⟨w, a, b, Q, rfl, o, ra, rb, h, p⟩
  cases ra with
  | tup h1 r1 =>
    cases rb with
    | int i =>
      obtain ⟨v, e, q⟩ := h
      obtain ⟨z, e2, rz⟩ := r1.at e
      exact .inl (.inr (.inl ⟨_, _, i, z, rfl, rfl, SqT.of h1, e2, p.here o rz q⟩))
    | _ => exact h.elim
  | lst h1 h2 r1 =>
    cases rb with
    | int i =>
      obtain ⟨v, e, q⟩ := h
      obtain ⟨z, e2, rz⟩ := r1.at e
      exact .inl (.inl ⟨_, _, i, z, rfl, rfl, SqL.of h1, e2, p.here o rz q⟩)
    | _ => exact h.elim
  | str s =>
    cases rb with
    | int i =>
      obtain ⟨c, hz, e, q⟩ := h
      exact .inl (.inr (.inr ⟨s, i, c, rfl, rfl, hz, e, p.here o (.str _) q⟩))
    | _ => exact h.elim
  | @ref n pa hn =>
    have h' : (match w.ph[n]? with
      | some (.lst xs) => match b with
        | .int i => ∃ v, L2.atI xs i = some v ∧ Q v w.ph
        | _ => False
      | some (.dK kvs) => ∃ key v, keyOf b = some key ∧ pkLook kvs key = some v ∧ Q v w.ph
      | some (.dT kvs) => ∃ key v, tkeyOf b = some key ∧ pkLook kvs key = some v ∧ Q v w.ph
      | none => False) := by cases b <;> exact h
    cases q : w.ph[n]? with
    | none => rw [q] at h'; exact h'.elim
    | some ob =>
      rw [q] at h'
      cases ob with
      | lst xs =>
        cases rb with
        | int i =>
          obtain ⟨v, e, q'⟩ := h'
          obtain ⟨vs, e1, r1⟩ := o.ob _ _ _ hn q
          obtain ⟨z, e2, rz⟩ := r1.at e
          exact .inl (.inl ⟨_, _, i, z, rfl, rfl, SqL.of e1, e2, p.here o rz q'⟩)
        | _ => exact h'.elim
      | dK kvs =>
        obtain ⟨key, v, hk, hl, q'⟩ := h'
        obtain ⟨l, e, r⟩ := o.ob _ _ _ hn q
        have ek := key_at hk rb
        subst ek
        rcases r.look (k := key) with ⟨e1, e2⟩ | ⟨x1, v1, e1, e2, rx⟩
        · rw [hl] at e1; cases e1
        · rw [hl] at e1; cases e1
          exact .inr ⟨_, v1, rfl, by rw [← e2]; exact DGet.k e, p.here o rx q'⟩
      | dT kvs =>
        obtain ⟨key, v, hk, hl, q'⟩ := h'
        obtain ⟨l, e, r⟩ := o.ob _ _ _ hn q
        obtain ⟨b', rfl, eb⟩ := tkey_at hk rb
        rcases r.look (k := key) with ⟨e1, e2⟩ | ⟨x1, v1, e1, e2, rx⟩
        · rw [hl] at e1; cases e1
        · rw [hl] at e1; cases e1
          exact .inr ⟨_, v1, rfl, by rw [← e2]; exact DGet.t e eb, p.here o rx q'⟩
  | non => cases rb <;> exact h.elim
  | bl _ => cases rb <;> exact h.elim
  | int _ => cases rb <;> exact h.elim
  | scr _ => cases rb <;> exact h.elim
theorem sIx_eq : ∀ (n d : Nat) (o : Option Int), sIx n d o = HT.sIx n d o
  | _, _, none => rfl
  | n, d, some v => by
    have h := HT.clip_eq v n d
    show (if v < 0 then (max (v + (n : Int)) 0).toNat else (min v (n : Int)).toNat) = _
    split at h
    · rename_i hv
      rw [if_pos hv, h]; rfl
    · rename_i hv
      rw [if_neg hv, h]; rfl
theorem cutV_eq (vs : List V) (lo hi : Option Int) : cutV vs lo hi = cut vs lo hi := by
  unfold cutV cut
  rw [sIx_eq, sIx_eq]
theorem Reps.cut {K : PySem.W.Frag} {H : Hp} {μ : Mu} {xs : List PV} {vs : List V} (lo hi : Option Int) (r : Reps K H μ xs vs) : Reps K H μ (RL.cut xs lo hi) (cutV vs lo hi) := by
  rw [cutV_eq]
  unfold RL.cut
  rw [r.length]
  exact (r.drop _).take _
def liftS (K : PySem.W.Frag) (own : Bool) : V → Option Int → Option Int → Hp → VK → Prop := fun x lo hi H Q' => ∃ w a Q, w.H = H ∧ Ok K w ∧ Rep K w.H w.μ a x ∧ slS own a lo hi w.ph Q ∧ Post K w Q Q'
theorem sl_ok (own : Bool) : SlR X (liftS X.K own) := by
  refine SlR.imp ((sl_tupA (X := X)).or ((sl_list (X := X)).or (sl_str (X := X)))) ?_
  rintro x lo hi H Q' ⟨w, a, Q, rfl, o, ra, h, p⟩
  have lists : ∀ {a : PV}, (∃ xs, lstOf w.ph a = some xs ∧ newL own (cut xs lo hi) w.ph Q) → Rep X.K w.H w.μ a x → rSlL X.K x lo hi w.H Q' := by
    rintro a ⟨xs, h1, q⟩ ra
    obtain ⟨l1, v1, rfl, e1, r1⟩ := lst_at o h1 ra
    exact ⟨l1, v1, rfl, SqL.of e1, p.lst o (r1.cut lo hi) q⟩
  cases ra with
  | @tup a xs vs h1 r1 =>
    refine .inl ⟨_, vs, rfl, SqT.of h1, fun e => ?_, fun _ => p.tup o (r1.cut lo hi) h⟩
    refine p.here o (.tup h1 r1) ?_
    have e2 : cut xs lo hi = xs := by
      unfold cut
      rw [sIx_eq, sIx_eq, ← r1.length, e.1, e.2, List.drop_zero, Nat.sub_zero, List.take_of_length_le (by rw [r1.length]; exact Nat.le_refl _)]
    have h' : Q (.tup (cut xs lo hi)) w.ph := h
    rwa [e2] at h'
  | str s =>
    refine .inr (.inr ⟨s, rfl, h.1, ?_⟩)
    have e : cutS s lo hi = ⟨(cut s.cps.toList lo hi).toArray⟩ := by
      unfold cutS cut
      rw [sIx_eq, sIx_eq]
      have el : s.cps.toList.length = s.length := Array.length_toList
      rw [el]
    rw [e]
    exact p.here o (.str _) h.2
  | scr hs =>
    refine .inr (.inl ⟨_, _, rfl, hs.l, p.lst o ((Reps.ofInts _).cut lo hi) h⟩)
  | lst h1 h2 h3 => exact .inr (.inl (lists h (.lst h1 h2 h3)))
  | ref h1 => exact .inr (.inl (lists h (.ref h1)))
  | non => obtain ⟨xs, h1, _⟩ := h; cases h1
  | bl _ => obtain ⟨xs, h1, _⟩ := h; cases h1
  | int _ => obtain ⟨xs, h1, _⟩ := h; cases h1
/-! ### stores -/
def liftSet (K : PySem.W.Frag) : TSet := fun x i v H Q' => ∃ w a b c Q, w.H = H ∧ Ok K w ∧ Rep K w.H w.μ a x ∧ Rep K w.H w.μ b i ∧ Rep K w.H w.μ c v ∧ setiS a b c w.ph Q ∧ ∀ w', Step w w' → Ok K w' → Q w'.ph → Q' w'.H
theorem set_dict (hu : X.A.units + 1 < cLine) : PSet X (fun x i v H Q => ∃ a H', x = .ref a ∧ DPut H a i v H' ∧ Q H') := by
  intro pins s σ H o i v ov iv u Q I ro ri rv h
  obtain ⟨a, H', rfl, g, q⟩ := h
  cases ro
  exact d_setItem hu I g ri rv fun s' I' => ⟨H', I', q⟩
theorem PSet.or {r r' : TSet} (h : PSet X r) (h' : PSet X r') : PSet X (fun x y v H Q => r x y v H Q ∨ r' x y v H Q) := by
  intro pins s σ H o i v ov iv u Q I ro ri rv q
  rcases q with q | q
  · exact h pins s σ H o i v ov iv u Q I ro ri rv q
  · exact h' pins s σ H o i v ov iv u Q I ro ri rv q
/-- a dict without pairs is a dict of either kind -/
theorem toT {pins : List (Addr × Obj)} {σ : L2.St} {H : Hp} {s : Shared} {a : Addr} (I : Inv X pins σ H s) (h : H a = some (.dK [])) : Inv X pins σ (upd H a (.dT [])) s := by
  have hk : ObjOk X.prog X.w H s.heap a (.dK []) := I.hok a _ h
  obtain ⟨z, hs, vs, rv, ob, es, ep, h1, h2, h3, h4⟩ := hk
  cases rv
  have e0 : es.toList = [] := by
    have h5 := h4.2.1
    generalize es.toList = l at h5
    cases h5
    rfl
  have I1 := I.write (x := a) (e := a) (o := .dT []) (h' := s.heap) (t' := s.toks) (by rw [h]; exact trivial) (.inl rfl) (fun b u _ q => q) ⟨ob, h1⟩ ⟨z, hs, [], .nil, ob, es, ep, h1, h2, h3, by rw [e0]; rfl, by simp⟩
  exact I1
theorem set_first (hu : X.A.units + 1 < cLine) : PSet X (fun x i v H Q => ∃ a b k, x = .ref a ∧ H a = some (.dK []) ∧ i = .ref b ∧ H b = some (.tup (List.map kV k)) ∧ Q (upd H a (.dT [(k, v)]))) := by
  intro pins s σ H o i v ov iv u Q I ro ri rv h
  obtain ⟨a, b, k, rfl, ha, rfl, hb, q⟩ := h
  cases ro
  have I2 := toT I ha
  have ne : b ≠ a := ne_of hb ha (by simp)
  refine d_setItem hu I2 (DPut.t (k := k) (upd_same) (by rw [upd_ne ne]; exact hb) (by rw [List.length_nil, sizeLine_eq]; decide)) ri rv fun s' I' => ⟨_, I', ?_⟩
  rw [upd_upd]
  exact q
theorem seti_ok (hu : X.A.units + 1 < cLine) : PSet X (liftSet X.K) := by
  have base := RL.PSet.or (set_list (X := X)) (RL.PSet.or (set_dict (X := X) hu) (set_first (X := X) hu))
  intro pins s σ H o i v ov iv u Q I ro ri rv h
  refine base pins s σ H o i v ov iv u Q I ro ri rv ?_
  obtain ⟨w, a, b, c, Q0, rfl, ok, ra, rb, rc, h, p⟩ := h
  cases ra with
  | @ref n pa hn =>
    simp only [setiS] at h
    cases q : w.ph[n]? with
    | none => rw [q] at h; exact h.elim
    | some ob =>
      rw [q] at h
      cases ob with
      | lst xs =>
        cases rb with
        | int k =>
          obtain ⟨j, hj, q'⟩ := h
          obtain ⟨vs, e, r⟩ := ok.ob _ _ _ hn q
          refine .inl ⟨_, vs, k, j, rfl, rfl, e, by rw [r.length]; exact hj, ?_⟩
          exact p (w.chg n _ _ (.lst (xs.set j c))) (Step.chg hn) (ok.chg hn ⟨_, upd_same, repsC hn ok (r.set rc j)⟩) q'
        | _ => exact h.elim
      | dK kvs =>
        obtain ⟨l, e, r⟩ := ok.ob _ _ _ hn q
        have go : (∃ key, keyOf b = some key ∧ kvs.length < sizeLine ∧ Q0 (setO w.ph n (.dK (pkPut kvs key c)))) → ∃ a H', V.ref pa = .ref a ∧ DPut w.H a i v H' ∧ Q H' := by
          rintro ⟨key, hk, hz, q'⟩
          have ek := key_at hk rb
          subst ek
          refine ⟨_, _, rfl, DPut.k e (by rw [r.length]; exact hz), ?_⟩
          exact p (w.chg n _ _ (.dK (pkPut kvs key c))) (Step.chg hn) (ok.chg hn ⟨_, upd_same, repkC hn ok (r.put rc)⟩) q'
        cases kvs with
        | nil =>
          cases r
          cases rb with
          | @tup tb ys ws h1 r1 =>
            obtain ⟨key, hk, q'⟩ := h
            have ek := keys_at hk r1
            refine .inr (.inr ⟨_, _, key, rfl, e, rfl, by rw [← ek]; exact h1, ?_⟩)
            exact p (w.chg n _ _ (.dT [(key, c)])) (Step.chg hn) (ok.chg hn ⟨_, upd_same, .cons (repC hn ok rc) .nil⟩) q'
          | _ => exact .inr (.inl (go h))
        | cons kv kvs =>
          refine .inr (.inl (go ?_))
          cases b <;> exact h
      | dT kvs =>
        obtain ⟨l, e, r⟩ := ok.ob _ _ _ hn q
        obtain ⟨key, hk, hz, q'⟩ := h
        obtain ⟨b', rfl, eb⟩ := tkey_at hk rb
        refine .inr (.inl ⟨_, _, rfl, DPut.t e eb (by rw [r.length]; exact hz), ?_⟩)
        exact p (w.chg n _ _ (.dT (pkPut kvs key c))) (Step.chg hn) (ok.chg hn ⟨_, upd_same, repkC hn ok (r.put rc)⟩) q'
  | _ => exact h.elim
end
end RL

/-! RLPrim5: built-in functions. -/
namespace RL
open PySem PySem.Spec PyProof.Rows L2
section
variable {prog : Program} {w : World} {A : Around} {E : Value → Shared → Prop} {s : Shared} {l : Addr} {its : List Value} {ns : List Int} {Q : Value → Shared → Prop} {xs : Array (Int × Tok)}
theorem iterTup {Q : Value → Shared → Prop} (hl : s.heap.IsTuple l (intItems xs))
    (h : ∀ s₂ : Shared, s₂ = { s with heap := s.heap.push { cls := .type "tuple_iterator", data := .fields #[.ref l, .int 0 0] } } →
      (s₂.heap.IsTupleIter s.heap.objs.size l 0 ∧ s₂.heap.IsTuple l (intItems xs)) → (∀ b ∈ [s.heap.objs.size, l], b < s₂.heap.objs.size) → l ≠ s.heap.objs.size → Q (.ref s.heap.objs.size) s₂) :
    wpAny (model prog w) A (pyIter (.ref l)) Q E s := by
  have hlt : l < s.heap.objs.size := by obtain ⟨_, e, _⟩ := hl; exact Heap.lt_size e
  refine wpAny_pyIter_tuple hl (h _ rfl ⟨⟨_, Heap.get?_push_size _ rfl, rfl, rfl⟩, hl.push _⟩ (fun b hb => ?_) (Nat.ne_of_lt hlt))
  show b < (s.heap.push _).objs.size
  rw [Heap.size_push]
  rcases List.mem_cons.mp hb with e | hb
  · rw [e]; exact Nat.lt_succ_self _
  · rw [List.mem_singleton.mp hb]; exact Nat.lt_succ_of_lt hlt
theorem keptNew {o : Obj} {h' : Heap} (hk : ∀ b ob, b ∉ [s.heap.objs.size] → (s.heap.push o).get? b = some ob → h'.get? b = some ob) : ∀ b ob, s.heap.get? b = some ob → h'.get? b = some ob := fun b ob e => by
  refine hk b ob (fun hm => ?_) (Heap.get?_push_of_some _ e)
  have : b = s.heap.objs.size := by simpa using hm
  exact absurd (this ▸ Heap.lt_size e) (Nat.lt_irrefl _)
theorem sumTup (hh : A.handled = none) (hl : s.heap.IsTuple l its.toArray) (hi : IntsAre its ns)
    (h : ∀ h' tk t', (∀ b o, s.heap.get? b = some o → h'.get? b = some o) → Q (.int ns.sum t') { s with heap := h', toks := tk }) : wpAny (model prog w) A (call (.builtin "sum") [.ref l]) Q E s := by
  obtain ⟨xs, e⟩ := hi.allInts.items
  have hn : numsOf (intItems xs).toList = ns := by rw [← e]; exact hi.numsOf
  rw [nums_intItems] at hn
  rw [e] at hl
  refine call_sum_walkG (iterTup hl fun s₂ e st hfp hlI => ?_)
  subst e
  refine ⟨_, _, _, _, _, _, numAt xs, rfl, Walks.tuple (A := A.in1) hh _ l hlI (intItems xs), st, hfp, (fun _ _ => intItems_at), fun h' tk t' hk => ?_⟩
  have := h h' tk t' (keptNew hk)
  rw [show (intItems xs).size = xs.size by simp [intItems], preSum_eq, List.take_of_length_le (by simp), hn]
  exact this
theorem maxTup (hh : A.handled = none) (hl : s.heap.IsTuple l its.toArray) (hi : IntsAre its ns) (hne : 0 < ns.length)
    (h : ∀ h' tk M t', (∀ b o, s.heap.get? b = some o → h'.get? b = some o) → M ∈ ns → (∀ a, a ∈ ns → a ≤ M) → Q (.int M t') { s with heap := h', toks := tk }) : wpAny (model prog w) A (call (.builtin "max") [.ref l]) Q E s := by
  obtain ⟨xs, e⟩ := hi.allInts.items
  have hn : numsOf (intItems xs).toList = ns := by rw [← e]; exact hi.numsOf
  rw [nums_intItems] at hn
  subst hn
  rw [e] at hl
  have hsz : 0 < xs.size := by simpa using hne
  refine call_max_walk (iterTup hl fun s₂ e st hfp hlI => ?_)
  subst e
  refine ⟨_, _, _, _, _, _, _, rfl, Walks.tuple (A := A.in1) hh _ l hlI (intItems xs), st, hfp, by simpa [intItems] using hsz, CmpOf.ints_gt (numAt xs) (fun _ _ => intItems_at), fun v h' tk hv hk => ?_⟩
  have hv' : (intItems xs)[argBest (fun i j => decide (numAt xs i > numAt xs j)) (xs.size - 1)]? = some v := by simpa [intItems] using hv
  obtain ⟨t, rfl⟩ := intItems_at hv'
  obtain ⟨h1, h2⟩ := argBest_gt (numAt xs) (xs.size - 1)
  refine h h' tk _ t (keptNew hk) ?_ fun a ha => ?_
  · rw [numAt_eq]; exact PySem.getD_mem (by rw [List.length_map, Array.length_toList]; omega)
  · obtain ⟨j, hj, rfl⟩ := mem_getD ha
    rw [List.length_map, Array.length_toList] at hj
    rw [← numAt_eq]; exact h2 j (by omega)
theorem minTup (hh : A.handled = none) (hl : s.heap.IsTuple l its.toArray) (hi : IntsAre its ns) (hne : 0 < ns.length)
    (h : ∀ h' tk M t', (∀ b o, s.heap.get? b = some o → h'.get? b = some o) → M ∈ ns → (∀ a, a ∈ ns → M ≤ a) → Q (.int M t') { s with heap := h', toks := tk }) : wpAny (model prog w) A (call (.builtin "min") [.ref l]) Q E s := by
  obtain ⟨xs, e⟩ := hi.allInts.items
  have hn : numsOf (intItems xs).toList = ns := by rw [← e]; exact hi.numsOf
  rw [nums_intItems] at hn
  subst hn
  rw [e] at hl
  have hsz : 0 < xs.size := by simpa using hne
  refine call_min_walk (iterTup hl fun s₂ e st hfp hlI => ?_)
  subst e
  refine ⟨_, _, _, _, _, _, _, rfl, Walks.tuple (A := A.in1) hh _ l hlI (intItems xs), st, hfp, by simpa [intItems] using hsz, CmpOf.ints_lt (numAt xs) (fun _ _ => intItems_at), fun v h' tk hv hk => ?_⟩
  have hv' : (intItems xs)[argBest (fun i j => decide (numAt xs i < numAt xs j)) (xs.size - 1)]? = some v := by simpa [intItems] using hv
  obtain ⟨t, rfl⟩ := intItems_at hv'
  obtain ⟨h1, h2⟩ := argBest_lt (numAt xs) (xs.size - 1)
  refine h h' tk _ t (keptNew hk) ?_ fun a ha => ?_
  · rw [numAt_eq]; exact PySem.getD_mem (by rw [List.length_map, Array.length_toList]; omega)
  · obtain ⟨j, hj, rfl⟩ := mem_getD ha
    rw [List.length_map, Array.length_toList] at hj
    rw [← numAt_eq]; exact h2 j (by omega)
end
section
variable {X : Cx}
theorem cr_sumT (hc : X.calm = true) : CallR X (.builtin "sum") (fun vs H Q => ∃ (a : Addr) (ns : List Int), vs = [V.ref a] ∧ SqT X.K H a (ns.map V.int) ∧ Q (.int ns.sum) H) := by
  intro pins s σ H vs us Q I r h
  obtain ⟨a, ns, rfl, hs, q⟩ := h
  obtain ⟨its, rv, hl, _⟩ := I.tuple hs
  rw [Vals.ref1 r]
  exact sumTup (I.ok.hd hc) hl rv.ints fun h' tk t' hk => ⟨.int _, H, I.kept hk, ⟨_, rfl⟩, q⟩
theorem cr_maxT (hc : X.calm = true) : CallR X (.builtin "max") (fun vs H Q => ∃ (a : Addr) (ns : List Int), vs = [V.ref a] ∧ SqT X.K H a (ns.map V.int) ∧ 0 < ns.length ∧ ∀ m, m ∈ ns → (∀ y, y ∈ ns → y ≤ m) → Q (.int m) H) := by
  intro pins s σ H vs us Q I r h
  obtain ⟨a, ns, rfl, hs, hne, q⟩ := h
  obtain ⟨its, rv, hl, _⟩ := I.tuple hs
  rw [Vals.ref1 r]
  exact maxTup (I.ok.hd hc) hl rv.ints hne fun h' tk m t' hk h1 h2 => ⟨.int _, H, I.kept hk, ⟨_, rfl⟩, q m h1 h2⟩
theorem cr_minT (hc : X.calm = true) : CallR X (.builtin "min") (fun vs H Q => ∃ (a : Addr) (ns : List Int), vs = [V.ref a] ∧ SqT X.K H a (ns.map V.int) ∧ 0 < ns.length ∧ ∀ m, m ∈ ns → (∀ y, y ∈ ns → m ≤ y) → Q (.int m) H) := by
  intro pins s σ H vs us Q I r h
  obtain ⟨a, ns, rfl, hs, hne, q⟩ := h
  obtain ⟨its, rv, hl, _⟩ := I.tuple hs
  rw [Vals.ref1 r]
  exact minTup (I.ok.hd hc) hl rv.ints hne fun h' tk m t' hk h1 h2 => ⟨.int _, H, I.kept hk, ⟨_, rfl⟩, q m h1 h2⟩
end
theorem datAll_length {ph : PHp} : ∀ {xs : List PV} {ds : List PyData}, DatAll ph xs ds → ds.length = xs.length
  | _, _, .nil => rfl
  | _, _, .cons _ t => by simp [datAll_length t]

/-! ### repr -/
/-- sys.modules is one of the written-out objects -/
def HasSys (X : Cx) : Prop := ∃ o, X.K.lookup sysModules = some o
theorem notSys {X : Cx} {pins : List (Addr × Obj)} {σ : L2.St} {H : Hp} {s : Shared} (hs : HasSys X) (I : Inv X pins σ H s) {u : HO} (h : H sysModules = some u) : False := by
  obtain ⟨o, e⟩ := hs
  have h1 := I.bs _ _ (I.ok.mod.kin _ _ e)
  rw [h1.2] at h
  cases h
theorem keys_read {h : Heap} {prog : Program} {w : World} : ∀ {es : List DictEntry} {kvs : List (L2.Key × Value)}, PySem.Pairs (mixKind prog w) es kvs → ReadsAll h (es.map (·.key)) (kvs.map fun p => keyD p.1) [] ∧ es.map (·.val) = kvs.map (·.2)
  | _, _, .nil => ⟨.nil, rfl⟩
  | _, _, .cons h1 h2 t => by
    obtain ⟨r, e⟩ := keys_read t
    refine ⟨?_, by simp [h2, e]⟩
    rcases keyIs_shape h1 with ⟨i, t, e1, e2⟩ | ⟨i, t, e1, e2⟩
    · simp only [List.map_cons, e1, e2]
      exact .cons (as := []) (.int i t) r
    · simp only [List.map_cons, e1, e2]
      exact .cons (as := []) (.str i t) r
theorem kv_vals : ∀ {l : List (L2.Key × V)} {vs : List (L2.Key × Value)}, KV l vs → vs.map (·.1) = l.map (·.1) ∧ Vals (l.map (·.2)) (vs.map (·.2))
  | _, _, .nil => ⟨rfl, .nil⟩
  | _, _, .cons h t => by
    obtain ⟨a, b⟩ := kv_vals t
    exact ⟨by simp [a, h.1], .cons h.2 b⟩
theorem repk_vals {κ : Type} {K : PySem.W.Frag} {H : Hp} {μ : Mu} : ∀ {l : List (κ × PV)} {vs : List (κ × V)}, RepK K H μ l vs → vs.map (·.1) = l.map (·.1) ∧ Reps K H μ (l.map (·.2)) (vs.map (·.2))
  | _, _, .nil => ⟨rfl, .nil⟩
  | _, _, .cons h t => by
    obtain ⟨a, b⟩ := repk_vals t
    exact ⟨by simp [a], .cons h b⟩
mutual
theorem dat_reads {X : Cx} {pins : List (Addr × Obj)} {σ : L2.St} {w : Wd} {s : Shared} (hs : HasSys X) (I : Inv X pins σ w.H s) (o : Ok X.K w) : ∀ {a : PV} {d : PyData} {v : V} {u : Value}, Dat w.ph a d → Rep X.K w.H w.μ a v → RelV v u → ∃ as, Reads s.heap u d as ∧ (sysModules ∉ as)
  | _, _, _, _, .non, r, q => by cases r; cases q; exact ⟨_, .none, by simp⟩
  | _, _, _, _, .bl b, r, q => by cases r; cases q; exact ⟨_, .bool b, by simp⟩
  | _, _, _, _, .int b, r, q => by cases r; obtain ⟨t, rfl⟩ := q; exact ⟨_, .int b t, by simp⟩
  | _, _, _, _, .str b, r, q => by cases r; obtain ⟨t, rfl⟩ := q; exact ⟨_, .str b t, by simp⟩
  | _, _, _, _, .tup h, r, q => by
    cases r with
    | tup h1 h2 =>
      cases q
      obtain ⟨its, rv, ⟨ob, ho, hc, n, hd⟩, _⟩ := I.tuple (SqT.of h1)
      obtain ⟨as, h3, h4⟩ := dats_reads hs I o h h2 rv
      exact ⟨_, .tuple ho hc hd h3, h4⟩
  | _, _, _, _, .lst h, r, q => by
    cases r with
    | lst h1 _ h2 =>
      cases q
      obtain ⟨z, its, n, rv, hl, e⟩ := I.lstM h1
      obtain ⟨as, h3, h4⟩ := dats_reads hs I o h h2 rv
      refine ⟨_, .list e rfl rfl h3, fun hm => ?_⟩
      rcases List.mem_cons.mp hm with e1 | hm
      · exact notSys hs I (by rw [← e1] at h1; exact h1) 
      · exact h4 hm
  | _, _, _, _, .ref hn h, r, q => by
    cases r with
    | ref hm =>
      cases q
      obtain ⟨vs, e1, rr⟩ := o.ob _ _ _ hm hn
      obtain ⟨z, its, n, rv, hl, e⟩ := I.lstM e1
      obtain ⟨as, h3, h4⟩ := dats_reads hs I o h rr rv
      refine ⟨_, .list e rfl rfl h3, fun hm => ?_⟩
      rcases List.mem_cons.mp hm with e2 | hm
      · exact notSys hs I (by rw [← e2] at e1; exact e1)
      · exact h4 hm
  | _, _, _, _, .dict hn h, r, q => by
    rename_i kvs ds
    cases r with
    | ref hm =>
      cases q
      obtain ⟨l, e1, rr⟩ := o.ob _ _ _ hm hn
      obtain ⟨_, hsm, vs, kv, ob, es, ep, hg, hx, hd, _, hp, _⟩ := (show ObjOk X.prog X.w w.H s.heap _ (.dK l) from I.hok _ _ e1)
      obtain ⟨k1, k2⟩ := keys_read (h := s.heap) hp
      obtain ⟨v1, v2⟩ := kv_vals kv
      obtain ⟨w1, w2⟩ := repk_vals rr
      obtain ⟨as, h3, h4⟩ := dats_reads hs I o h w2 v2
      have hlen : ds.length = kvs.length := by
        have := datAll_length h
        simpa using this
      refine ⟨_, .dict hg hx.1 hd (as := []) (bs := as) ?_ ?_, ?_⟩
      · rw [List.map_fst_zip (by simp [hlen])]
        have e : (vs.map fun p => keyD p.1) = kvs.map fun p => keyD p.1 := by
          have e2 : (vs.map fun p => keyD p.1) = (vs.map (·.1)).map keyD := by simp
          have e3 : (kvs.map fun p => keyD p.1) = (kvs.map (·.1)).map keyD := by simp
          rw [e2, v1, w1, e3]
        rw [← e]
        exact k1
      · rw [List.map_snd_zip (by simp [hlen]), k2]
        exact h3
      · intro z
        have z' : sysModules ∈ _ :: ([] ++ as) := z
        rcases List.mem_cons.mp z' with e2 | z'
        · rw [← e2] at hsm
          simp at hsm
        · exact h4 (by simpa using z')
theorem dats_reads {X : Cx} {pins : List (Addr × Obj)} {σ : L2.St} {w : Wd} {s : Shared} (hs : HasSys X) (I : Inv X pins σ w.H s) (o : Ok X.K w) : ∀ {a : List PV} {d : List PyData} {v : List V} {u : List Value}, DatAll w.ph a d → Reps X.K w.H w.μ a v → Vals v u → ∃ as, ReadsAll s.heap u d as ∧ (sysModules ∉ as)
  | _, _, _, _, .nil, r, q => by cases r; cases q; exact ⟨_, .nil, by simp⟩
  | _, _, _, _, .cons h t, r, q => by
    cases r with
    | cons h1 h2 =>
      cases q with
      | cons q1 q2 =>
        obtain ⟨as, a1, a2⟩ := dat_reads hs I o h h1 q1
        obtain ⟨bs, b1, b2⟩ := dats_reads hs I o t h2 q2
        exact ⟨_, .cons a1 b1, by simp [a2, b2]⟩
end
end RL

/-! RLPrim6: built-in functions, by plain data. -/
namespace RL
open PySem PySem.Spec PyProof.Rows L2
open PySem.W (EachIs AllAlike Sortable dataLe dataLt)
section
variable {X : Cx}
/-! ### sorted -/
theorem vals_each : ∀ {ns : List Int} {us : List Value}, Vals (ns.map V.int) us → EachIs (fun u n => RelV (V.int n) u) us ns
  | [], _, h => by cases h; exact .nil
  | n :: ns, _, h => by
    cases h with
    | cons a b => exact .cons a (vals_each b)
theorem each_vals {β : Type} {f : β → V} : ∀ {bs : List β} {us : List Value}, EachIs (fun u b => RelV (f b) u) us bs → Vals (bs.map f) us
  | _, _, .nil => .nil
  | _, _, .cons a b => .cons a (each_vals b)
theorem vals_eachB {β : Type} {f : β → V} : ∀ {bs : List β} {us : List Value}, Vals (bs.map f) us → EachIs (fun u b => RelV (f b) u) us bs
  | [], _, h => by cases h; exact .nil
  | n :: ns, _, h => by
    cases h with
    | cons a b => exact .cons a (vals_eachB b)
theorem cr_sortI (hu : X.A.units + 3 < cLine) : CallR X (.builtin "sorted") (fun vs H Q => ∃ (a : Addr) (ns : List Int), vs = [V.ref a] ∧ SqL X.K H a (ns.map V.int) ∧ ∀ p, H p = none → Q (.ref p) (upd H p (.lst ((ns.mergeSort fun a b => decide (a ≤ b)).map V.int)))) := by
  intro pins s σ H vs us Q I r h
  obtain ⟨a, ns, rfl, hs, q⟩ := h
  obtain ⟨its, rv, hl, hz⟩ := I.list hs
  rw [Vals.ref1 r]
  have e := vals_each rv
  refine PySem.W.sorted_data (enc := fun n => PyData.int n) hl.isList e (e.mono fun u n hu => ?_) (AllAlike.of fun b b' => by simp [PySem.W.alike]) (Sortable.others fun b => ⟨by simp, by simp⟩) (by rw [List.length_map] at hz; exact hz) (fun b _ => by simp [PyData.depth]; omega) fun out ho h1 => ?_
  · obtain ⟨t, rfl⟩ := hu
    exact ⟨_, .int n t⟩
  · obtain ⟨ep, he'⟩ := PyProof.Rows.sortedAll_at s.heap its out.toArray
    have hv := each_vals h1
    rw [PySem.W.dataLe_int] at hv
    have hlen : ((ns.mergeSort fun a b => decide (a ≤ b)).map V.int).length ≤ sizeLine := by
      rw [List.length_map, List.length_mergeSort]
      rw [List.length_map] at hz; exact hz
    exact ⟨.ref _, upd H (s.heap.objs.size + 1) (.lst ((ns.mergeSort fun a b => decide (a ≤ b)).map V.int)), I.laid (t' := s.toks) (fun _ _ => PyProof.Rows.sortedAll_old) (Nat.le_succ _) ⟨hlen, out, ep, hv, he'⟩, rfl, q _ (I.hok.fresh (Nat.le_succ _))⟩
theorem dataLe_tups {β : Type} (x : β → List Int) : dataLe false (fun b => .tuple ((x b).map .int)) = fun p q => !decide (x q < x p) := by
  funext p q
  show (!dataLt (.tuple ((x q).map .int)) (.tuple ((x p).map .int))) = _
  rw [PySem.W.dataLt_tuple]
  show (!PySem.W.rowLt ((x q).map .int) ((x p).map .int)) = _
  rw [PySem.W.dataLt_ints]
theorem ints_reads {h : Heap} : ∀ {ns : List Int} {its : List Value}, Vals (ns.map V.int) its → ReadsAll h its (ns.map .int) []
  | [], _, r => by cases r; exact .nil
  | n :: ns, _, r => by
    cases r with
    | cons a b =>
      obtain ⟨t, rfl⟩ := a
      exact .cons (as := []) (.int n t) (ints_reads b)
theorem cr_sortR (hu : X.A.units + 5 < cLine) : CallR X (.builtin "sorted") (fun vs H Q => ∃ (a : Addr) (bs : List (List Int × V)), vs = [V.ref a] ∧ SqL X.K H a (bs.map (·.2)) ∧ (∀ b ∈ bs, b.1 ≠ [] ∧ ∃ p, b.2 = .ref p ∧ SqT X.K H p (b.1.map V.int)) ∧
    ∀ p, H p = none → Q (.ref p) (upd H p (.lst ((bs.mergeSort fun a b => !decide (b.1 < a.1)).map (·.2))))) := by
  intro pins s σ H vs us Q I r h
  obtain ⟨a, bs, rfl, hs, hb, q⟩ := h
  obtain ⟨its, rv, hl, hz⟩ := I.list hs
  rw [Vals.ref1 r]
  have e := vals_eachB (f := fun b : List Int × V => b.2) rv
  have er : EachIs (fun v (b : List Int × V) => ∃ as, Reads s.heap v (.tuple (b.1.map .int)) as) its bs := by
    have key : ∀ {us : List Value} {cs : List (List Int × V)}, EachIs (fun u (b : List Int × V) => RelV b.2 u) us cs → (∀ b ∈ cs, b.1 ≠ [] ∧ ∃ p, b.2 = .ref p ∧ SqT X.K H p (b.1.map V.int)) → EachIs (fun v (b : List Int × V) => ∃ as, Reads s.heap v (.tuple (b.1.map .int)) as) us cs := by
      intro us cs hh
      induction hh with
      | nil => intro _; exact .nil
      | cons h1 h2 ih =>
        intro hc
        refine .cons ?_ (ih fun b hb => hc b (List.mem_cons_of_mem _ hb))
        obtain ⟨_, p, e1, e2⟩ := hc _ (List.mem_cons_self ..)
        rw [e1] at h1
        cases h1
        obtain ⟨its, rv, ⟨ob, ho, hc, n, hd⟩, _⟩ := I.tuple e2
        exact ⟨_, .tuple ho hc hd (ints_reads rv)⟩
    exact key e hb
  have hdep : ∀ b : List Int × V, (PyData.tuple (b.1.map .int)).depth ≤ 1 := fun b => by
    simp [PyData.depth, PySem.W.depth_ints]
  refine PySem.W.sorted_data (enc := fun b : List Int × V => PyData.tuple (b.1.map .int)) hl.isList e er (AllAlike.of fun b b' => by simp [PySem.W.alike, PySem.W.alike_ints]) (.inl fun d hd => ?_) (by rw [List.length_map] at hz; exact hz) (fun b _ => by have := hdep b; omega) fun out ho h1 => ?_
  · obtain ⟨b, hm, rfl⟩ := List.mem_map.mp hd
    obtain ⟨ne, _⟩ := hb b hm
    obtain ⟨⟨⟩ | ⟨x, r⟩, v⟩ := b
    · exact absurd rfl ne
    · exact ⟨_, _, rfl⟩
  · obtain ⟨ep, he'⟩ := PyProof.Rows.sortedAll_at s.heap its out.toArray
    have hv := each_vals (f := fun b : List Int × V => b.2) h1
    rw [dataLe_tups] at hv
    have hlen : ((bs.mergeSort fun a b => !decide (b.1 < a.1)).map (·.2)).length ≤ sizeLine := by
      rw [List.length_map, List.length_mergeSort]
      rw [List.length_map] at hz; exact hz
    exact ⟨.ref _, upd H (s.heap.objs.size + 1) (.lst ((bs.mergeSort fun a b => !decide (b.1 < a.1)).map (·.2))), I.laid (t' := s.toks) (fun _ _ => PyProof.Rows.sortedAll_old) (Nat.le_succ _) ⟨hlen, out, ep, hv, he'⟩, rfl, q _ (I.hok.fresh (Nat.le_succ _))⟩
theorem rows_reps {K : PySem.W.Frag} {H : Hp} {μ : Mu} : ∀ {xs : List PV} {rs : List (List Int)} {vs : List V}, rowsOf xs = some rs → Reps K H μ xs vs →
    ∃ bs : List (List Int × V), bs.map (·.1) = rs ∧ bs.map (·.2) = vs ∧ ∀ b ∈ bs, Rep K H μ (.tup (b.1.map PV.int)) b.2 ∧ ∃ p, b.2 = .ref p ∧ SqT K H p (b.1.map V.int)
  | _, _, _, e, .nil => by simp [rowsOf] at e; subst e; exact ⟨[], rfl, rfl, by simp⟩
  | _, rs, _, e, .cons h t => by
    cases h with
    | @tup a xs vs h1 h2 =>
      simp only [rowsOf] at e
      cases e1 : intsOf xs with
      | none => rw [e1] at e; simp at e
      | some ns =>
        rename_i xs' vs'
        cases e2 : rowsOf xs' with
        | none => rw [e1, e2] at e; simp at e
        | some ls =>
          rw [e1, e2] at e
          simp at e
          subst e
          obtain ⟨bs, b1, b2, b3⟩ := rows_reps e2 t
          refine ⟨(ns, .ref a) :: bs, by simp [b1], by simp [b2], fun b hb => ?_⟩
          rcases List.mem_cons.mp hb with rfl | hb
          · have := Reps.ints e1 h2
            subst this
            exact ⟨.tup h1 (Reps.ofInts _), a, rfl, SqT.of h1⟩
          · exact b3 b hb
    | _ => simp [rowsOf] at e

/-! ### all built-in functions -/
def biF : Bi → Value
  | .len => .builtin "len" | .tuple => .type "tuple" | .list => .type "list" | .int => .type "int" | .repr => .builtin "repr" | .sum => .builtin "sum" | .min => .builtin "min" | .max => .builtin "max"
  | .abs => .builtin "abs" | .sorted => .builtin "sorted" | .all => .builtin "all" | .any => .builtin "any" | .str => .type "str" | .set => .type "set"
theorem len_ok (own : Bool) : CallR X (.builtin "len") (liftN X.K (biS .len own)) := by
  refine CallR.imp (((call_len_seq (X := X)).or (call_len_str (X := X))).or ((call_lenD (X := X)).or (call_len_dT (X := X)))) ?_
  rintro xs H Q' ⟨w, as, Q, rfl, o, r, h, p⟩
  cases r with
  | nil => exact h.elim
  | cons ra rt =>
    cases rt with
    | cons _ _ => cases ra <;> exact h.elim
    | nil =>
      cases ra with
      | str s => exact .inl (.inr ⟨s, rfl, h.1, p.here o (.int _) h.2⟩)
      | tup h1 r1 => exact .inl (.inl ⟨_, _, rfl, .inr (SqT.of h1), by rw [r1.length]; exact p.here o (.int _) h⟩)
      | lst h1 h2 r1 => exact .inl (.inl ⟨_, _, rfl, .inl (SqL.of h1), by rw [r1.length]; exact p.here o (.int _) h⟩)
      | scr h1 => exact .inl (.inl ⟨_, _, rfl, .inl h1.l, by rw [List.length_map]; exact p.here o (.int _) h⟩)
      | @ref n a hn =>
        have h' : (match w.ph[n]? with
          | some (.lst xs) => Q (.int xs.length) w.ph
          | some (.dK kvs) => Q (.int kvs.length) w.ph
          | some (.dT kvs) => Q (.int kvs.length) w.ph
          | none => False) := h
        cases q : w.ph[n]? with
        | none => rw [q] at h'; exact h'.elim
        | some ob =>
          rw [q] at h'
          cases ob with
          | lst ys =>
            obtain ⟨vs, e1, r1⟩ := o.ob _ _ _ hn q
            exact .inl (.inl ⟨_, _, rfl, .inl (SqL.of e1), by rw [r1.length]; exact p.here o (.int _) h'⟩)
          | dK ys =>
            obtain ⟨vs, e1, r1⟩ := o.ob _ _ _ hn q
            exact .inr (.inl ⟨_, _, rfl, e1, by rw [r1.length]; exact p.here o (.int _) h'⟩)
          | dT ys =>
            obtain ⟨vs, e1, r1⟩ := o.ob _ _ _ hn q
            exact .inr (.inr ⟨_, _, rfl, e1, by rw [r1.length]; exact p.here o (.int _) h'⟩)
      | _ => exact h.elim
/-- one argument -/
theorem one_arg {K : PySem.W.Frag} {w : Wd} {as : List PV} {xs : List V} (r : Reps K w.H w.μ as xs) {a : PV} (e : as = [a]) : ∃ v, xs = [v] ∧ Rep K w.H w.μ a v := by
  subst e
  cases r with
  | cons h t => cases t; exact ⟨_, rfl, h⟩
theorem bx_tuple {own : Bool} {vs : List PV} {ph : PHp} {Q : QV} (h : biS .tuple own vs ph Q) : (∃ xs, vs = [.tup xs] ∧ Q (.tup xs) ph) ∨ ∃ v xs, vs = [v] ∧ lstOf ph v = some xs ∧ Q (.tup xs) ph := by
  have h : bi_tuple own vs ph Q := h
  unfold bi_tuple at h
  split at h <;> first | exact h.elim | skip
  · exact .inl ⟨_, rfl, h⟩
  · obtain ⟨xs, e, q⟩ := h
    exact .inr ⟨_, xs, rfl, e, q⟩
theorem tuple_ok (own : Bool) : CallR X (.type "tuple") (liftN X.K (biS .tuple own)) := by
  refine CallR.imp (call_tuple_of (X := X)) ?_
  rintro xs H Q' ⟨w, as, Q, rfl, o, r, h, p⟩
  rcases bx_tuple h with ⟨ys, rfl, q⟩ | ⟨v, ys, rfl, e, q⟩
  · obtain ⟨v, rfl, rv⟩ := one_arg r rfl
    cases rv with
    | tup h1 r1 => exact ⟨_, _, rfl, .inr ⟨SqT.of h1, p.here o (.tup h1 r1) q⟩⟩
  · obtain ⟨v, rfl, rv⟩ := one_arg r rfl
    obtain ⟨a, vs, rfl, e1, r1⟩ := lst_at o e rv
    exact ⟨_, _, rfl, .inl ⟨SqL.of e1, p.tup o r1 q⟩⟩
theorem bx_list {own : Bool} {vs : List PV} {ph : PHp} {Q : QV} (h : biS .list own vs ph Q) : ∃ v xs, vs = [v] ∧ seqOf ph v = some xs ∧ newL own xs ph Q := by
  have h : bi_list own vs ph Q := h
  unfold bi_list at h
  split at h <;> first | exact h.elim | skip
  obtain ⟨xs, e, q⟩ := h
  exact ⟨_, xs, rfl, e, q⟩
theorem list_ok (own : Bool) : CallR X (.type "list") (liftN X.K (biS .list own)) := by
  refine CallR.imp (call_list_of (X := X)) ?_
  rintro xs H Q' ⟨w, as, Q, rfl, o, r, h, p⟩
  obtain ⟨v, ys, rfl, e, q⟩ := bx_list h
  obtain ⟨v, rfl, rv⟩ := one_arg r rfl
  obtain ⟨a, vs, rfl, e1, r1⟩ := seq_at o e rv
  exact ⟨_, _, rfl, e1, p.lst o r1 q⟩
theorem bx_int {own : Bool} {vs : List PV} {ph : PHp} {Q : QV} (h : biS .int own vs ph Q) : (∃ i, vs = [.int i] ∧ Q (.int i) ph) ∨ ∃ k, vs = [.bl k] ∧ Q (.int (if k then 1 else 0)) ph := by
  have h : bi_int own vs ph Q := h
  unfold bi_int at h
  split at h <;> first | exact h.elim | skip
  · exact .inl ⟨_, rfl, h⟩
  · exact .inr ⟨_, rfl, h⟩
theorem int_ok (own : Bool) : CallR X (.type "int") (liftN X.K (biS .int own)) := by
  refine CallR.imp (call_int1 (X := X)) ?_
  rintro xs H Q' ⟨w, as, Q, rfl, o, r, h, p⟩
  rcases bx_int h with ⟨i, rfl, q⟩ | ⟨i, rfl, q⟩
  · obtain ⟨v, rfl, rv⟩ := one_arg r rfl
    cases rv
    exact .inl ⟨_, rfl, p.here o (.int _) q⟩
  · obtain ⟨v, rfl, rv⟩ := one_arg r rfl
    cases rv
    exact .inr ⟨_, rfl, p.here o (.int _) q⟩
theorem bx_abs {own : Bool} {vs : List PV} {ph : PHp} {Q : QV} (h : biS .abs own vs ph Q) : ∃ i, vs = [.int i] ∧ Q (.int (if i < 0 then -i else i)) ph := by
  have h : bi_abs own vs ph Q := h
  unfold bi_abs at h
  split at h <;> first | exact h.elim | skip
  exact ⟨_, rfl, h⟩
theorem abs_ok (own : Bool) : CallR X (.builtin "abs") (liftN X.K (biS .abs own)) := by
  refine CallR.imp (call_abs (X := X)) ?_
  rintro xs H Q' ⟨w, as, Q, rfl, o, r, h, p⟩
  obtain ⟨i, rfl, q⟩ := bx_abs h
  obtain ⟨v, rfl, rv⟩ := one_arg r rfl
  cases rv
  exact ⟨_, rfl, p.here o (.int _) q⟩
theorem bx_str {own : Bool} {vs : List PV} {ph : PHp} {Q : QV} (h : biS .str own vs ph Q) : ∃ i : Int, vs = [.int i] ∧ i.natAbs.log2 < 1920 ∧ Q (.str (toString i)) ph := by
  have h : bi_str own vs ph Q := h
  unfold bi_str at h
  split at h <;> first | exact h.elim | skip
  exact ⟨_, rfl, h⟩
theorem str_ok (own : Bool) : CallR X (.type "str") (liftN X.K (biS .str own)) := by
  refine CallR.imp (call_str_int (X := X)) ?_
  rintro xs H Q' ⟨w, as, Q, rfl, o, r, h, p⟩
  obtain ⟨i, rfl, hz, q⟩ := bx_str h
  obtain ⟨v, rfl, rv⟩ := one_arg r rfl
  cases rv
  exact ⟨_, rfl, hz, p.here o (.str _) q⟩
theorem bx_sum {own : Bool} {vs : List PV} {ph : PHp} {Q : QV} (h : biS .sum own vs ph Q) : ∃ v xs ns, vs = [v] ∧ seqOf ph v = some xs ∧ intsOf xs = some ns ∧ Q (.int ns.sum) ph := by
  have h : bi_sum own vs ph Q := h
  unfold bi_sum at h
  split at h <;> first | exact h.elim | skip
  obtain ⟨xs, ns, e, q⟩ := h
  exact ⟨_, xs, ns, rfl, e, q⟩
theorem sum_ok (hc : X.calm = true) (own : Bool) : CallR X (.builtin "sum") (liftN X.K (biS .sum own)) := by
  refine CallR.imp ((cr_sum hc).or (cr_sumT hc)) ?_
  rintro xs H Q' ⟨w, as, Q, rfl, o, r, h, p⟩
  obtain ⟨v, ys, ns, rfl, e, ei, q⟩ := bx_sum h
  obtain ⟨v, rfl, rv⟩ := one_arg r rfl
  obtain ⟨a, vs, rfl, e1, r1⟩ := seq_at o e rv
  have := Reps.ints ei r1
  subst this
  rcases e1 with e1 | e1
  · exact .inl ⟨_, ns, rfl, e1, p.here o (.int _) q⟩
  · exact .inr ⟨_, ns, rfl, e1, p.here o (.int _) q⟩
theorem bx_min {own : Bool} {vs : List PV} {ph : PHp} {Q : QV} (h : biS .min own vs ph Q) : (∃ i j, vs = [.int i, .int j] ∧ Q (.int (if j < i then j else i)) ph) ∨
    ∃ v xs ns, vs = [v] ∧ seqOf ph v = some xs ∧ intsOf xs = some ns ∧ 0 < ns.length ∧ ∀ m, m ∈ ns → (∀ y, y ∈ ns → m ≤ y) → Q (.int m) ph := by
  have h : bi_min own vs ph Q := h
  unfold bi_min at h
  split at h <;> first | exact h.elim | skip
  · exact .inl ⟨_, _, rfl, h⟩
  · obtain ⟨xs, ns, e, q⟩ := h
    exact .inr ⟨_, xs, ns, rfl, e, q⟩
theorem bx_max {own : Bool} {vs : List PV} {ph : PHp} {Q : QV} (h : biS .max own vs ph Q) : (∃ i j, vs = [.int i, .int j] ∧ Q (.int (if j > i then j else i)) ph) ∨
    ∃ v xs ns, vs = [v] ∧ seqOf ph v = some xs ∧ intsOf xs = some ns ∧ 0 < ns.length ∧ ∀ m, m ∈ ns → (∀ y, y ∈ ns → y ≤ m) → Q (.int m) ph := by
  have h : bi_max own vs ph Q := h
  unfold bi_max at h
  split at h <;> first | exact h.elim | skip
  · exact .inl ⟨_, _, rfl, h⟩
  · obtain ⟨xs, ns, e, q⟩ := h
    exact .inr ⟨_, xs, ns, rfl, e, q⟩
theorem two_ints {K : PySem.W.Frag} {w : Wd} {i j : Int} {xs : List V} (r : Reps K w.H w.μ [.int i, .int j] xs) : xs = [.int i, .int j] := by
  cases r with
  | cons h t =>
    cases h
    cases t with
    | cons h t => cases h; cases t; rfl
theorem min_ok (hc : X.calm = true) (own : Bool) : CallR X (.builtin "min") (liftN X.K (biS .min own)) := by
  refine CallR.imp ((call_min2 hc).or ((cr_min hc).or (cr_minT hc))) ?_
  rintro xs H Q' ⟨w, as, Q, rfl, o, r, h, p⟩
  rcases bx_min h with ⟨i, j, rfl, q⟩ | ⟨v, ys, ns, rfl, e, ei, hn, q⟩
  · exact .inl ⟨i, j, two_ints r, p.here o (.int _) q⟩
  · obtain ⟨v, rfl, rv⟩ := one_arg r rfl
    obtain ⟨a, vs, rfl, e1, r1⟩ := seq_at o e rv
    have := Reps.ints ei r1
    subst this
    rcases e1 with e1 | e1
    · exact .inr (.inl ⟨_, ns, rfl, e1, hn, fun m h1 h2 => p.here o (.int _) (q m h1 h2)⟩)
    · exact .inr (.inr ⟨_, ns, rfl, e1, hn, fun m h1 h2 => p.here o (.int _) (q m h1 h2)⟩)
theorem max_ok (hc : X.calm = true) (own : Bool) : CallR X (.builtin "max") (liftN X.K (biS .max own)) := by
  refine CallR.imp ((call_max2 hc).or ((cr_max hc).or (cr_maxT hc))) ?_
  rintro xs H Q' ⟨w, as, Q, rfl, o, r, h, p⟩
  rcases bx_max h with ⟨i, j, rfl, q⟩ | ⟨v, ys, ns, rfl, e, ei, hn, q⟩
  · exact .inl ⟨i, j, two_ints r, p.here o (.int _) q⟩
  · obtain ⟨v, rfl, rv⟩ := one_arg r rfl
    obtain ⟨a, vs, rfl, e1, r1⟩ := seq_at o e rv
    have := Reps.ints ei r1
    subst this
    rcases e1 with e1 | e1
    · exact .inr (.inl ⟨_, ns, rfl, e1, hn, fun m h1 h2 => p.here o (.int _) (q m h1 h2)⟩)
    · exact .inr (.inr ⟨_, ns, rfl, e1, hn, fun m h1 h2 => p.here o (.int _) (q m h1 h2)⟩)
theorem bx_any {own : Bool} {vs : List PV} {ph : PHp} {Q : QV} (h : biS .any own vs ph Q) : ∃ v xs bs, vs = [v] ∧ lstOf ph v = some xs ∧ blsOf xs = some bs ∧ Q (.bl (bs.any id)) ph := by
  have h : bi_any own vs ph Q := h
  unfold bi_any at h
  split at h <;> first | exact h.elim | skip
  obtain ⟨xs, ns, e, q⟩ := h
  exact ⟨_, xs, ns, rfl, e, q⟩
theorem bx_all {own : Bool} {vs : List PV} {ph : PHp} {Q : QV} (h : biS .all own vs ph Q) : ∃ v xs bs, vs = [v] ∧ lstOf ph v = some xs ∧ blsOf xs = some bs ∧ Q (.bl (bs.all id)) ph := by
  have h : bi_all own vs ph Q := h
  unfold bi_all at h
  split at h <;> first | exact h.elim | skip
  obtain ⟨xs, ns, e, q⟩ := h
  exact ⟨_, xs, ns, rfl, e, q⟩
theorem any_ok (hc : X.calm = true) (own : Bool) : CallR X (.builtin "any") (liftN X.K (biS .any own)) := by
  refine CallR.imp (cr_any hc) ?_
  rintro xs H Q' ⟨w, as, Q, rfl, o, r, h, p⟩
  obtain ⟨v, ys, ns, rfl, e, ei, q⟩ := bx_any h
  obtain ⟨v, rfl, rv⟩ := one_arg r rfl
  obtain ⟨a, vs, rfl, e1, r1⟩ := lst_at o e rv
  have := Reps.bls ei r1
  subst this
  exact ⟨_, ns, rfl, SqL.of e1, p.here o (.bl _) q⟩
theorem all_ok (hc : X.calm = true) (own : Bool) : CallR X (.builtin "all") (liftN X.K (biS .all own)) := by
  refine CallR.imp (cr_all hc) ?_
  rintro xs H Q' ⟨w, as, Q, rfl, o, r, h, p⟩
  obtain ⟨v, ys, ns, rfl, e, ei, q⟩ := bx_all h
  obtain ⟨v, rfl, rv⟩ := one_arg r rfl
  obtain ⟨a, vs, rfl, e1, r1⟩ := lst_at o e rv
  have := Reps.bls ei r1
  subst this
  exact ⟨_, ns, rfl, SqL.of e1, p.here o (.bl _) q⟩
theorem bx_sorted {own : Bool} {vs : List PV} {ph : PHp} {Q : QV} (h : biS .sorted own vs ph Q) : ∃ v xs, vs = [v] ∧ lstOf ph v = some xs ∧ ((∃ ns, intsOf xs = some ns ∧ newL own ((ns.mergeSort fun a b => decide (a ≤ b)).map .int) ph Q) ∨
      (∃ rs, rowsOf xs = some rs ∧ (∀ r ∈ rs, r ≠ []) ∧ newL own ((rs.mergeSort fun a b => !decide (b < a)).map fun r => .tup (r.map .int)) ph Q)) := by
  have h : bi_sorted own vs ph Q := h
  unfold bi_sorted at h
  split at h <;> first | exact h.elim | skip
  obtain ⟨xs, e, q⟩ := h
  exact ⟨_, xs, rfl, e, q⟩
theorem reps_map {K : PySem.W.Frag} {H : Hp} {μ : Mu} {β : Type} {f : β → PV} {g : β → V} : ∀ {bs : List β}, (∀ b ∈ bs, Rep K H μ (f b) (g b)) → Reps K H μ (bs.map f) (bs.map g)
  | [], _ => .nil
  | b :: bs, h => .cons (h b (List.mem_cons_self ..)) (reps_map fun c hc => h c (List.mem_cons_of_mem _ hc))
theorem sorted_ok (hu : X.A.units + 5 < cLine) (own : Bool) : CallR X (.builtin "sorted") (liftN X.K (biS .sorted own)) := by
  refine CallR.imp ((cr_sortI (X := X) (by omega)).or (cr_sortR (X := X) hu)) ?_
  rintro xs H Q' ⟨w, as, Q, rfl, o, r, h, p⟩
  obtain ⟨v, ys, rfl, e, h⟩ := bx_sorted h
  obtain ⟨v, rfl, rv⟩ := one_arg r rfl
  obtain ⟨a, vs, rfl, e1, r1⟩ := lst_at o e rv
  rcases h with ⟨ns, ei, q⟩ | ⟨rs, ei, hn, q⟩
  · have := Reps.ints ei r1
    subst this
    exact .inl ⟨_, ns, rfl, SqL.of e1, p.lst o (Reps.ofInts _) q⟩
  · obtain ⟨bs, rfl, rfl, hb⟩ := rows_reps ei r1
    refine .inr ⟨_, bs, rfl, SqL.of e1, fun b hm => ⟨hn _ (List.mem_map_of_mem hm), (hb b hm).2⟩, p.lst o (own := own) ?_ q⟩
    rw [← List.map_mergeSort (f := fun b : List Int × V => b.1) (r := fun a b => !decide (b.1 < a.1)) (fun _ _ _ _ => rfl), List.map_map]
    refine reps_map fun b hm => ?_
    rw [List.mem_mergeSort] at hm
    exact (hb b hm).1
end
end RL

/-! RLPrim7: repr, isinstance, methods. -/
namespace RL
open PySem PySem.Spec PyProof.Rows L2
section
variable {X : Cx}
theorem repr_ok (hs : HasSys X) (hg : X.A.guards = some []) (hu : X.A.units + 64 < cLine) (own : Bool) : CallR X (.builtin "repr") (liftN X.K (biS .repr own)) := by
  rintro pins s σ H xs us Q' I r ⟨w, as, Q, rfl, o, ra, h, p⟩
  have h : bi_repr own as w.ph Q := h
  unfold bi_repr at h
  split at h
  · obtain ⟨d, hd, ⟨h1, h2, h3⟩, q⟩ := h
    obtain ⟨v, rfl, rv⟩ := one_arg ra rfl
    obtain ⟨u, rfl, ru⟩ := vals1 r
    have fin : ∀ (h' : Heap) (u' : Tok) (tk : Nat), (∀ b o, s.heap.get? b = some o → h'.get? b = some o) → EP X pins σ Q' (Value.str d.shown u') { s with heap := h', toks := tk } := fun h' u' tk hk =>
      ⟨.str d.shown, _, I.kept hk, ⟨_, rfl⟩, p.here o (.str _) q⟩
    have big : ∀ a, u = .ref a → wpAny (model X.prog X.w) X.A (call (.builtin "repr") [u]) (EP X pins σ Q') X.xe s := by
      rintro a rfl
      obtain ⟨bs, r1, r2⟩ := dat_reads hs I o hd rv ru
      exact repr_of_reads' r1 h1 (fun _ => r2) hg (by omega) (fun _ _ e => e) (fun h' u tk hk => fin h' u tk hk) h2
    cases rv with
    | non =>
      cases hd; cases ru
      refine PySem.P.repr_of_none ?_
      simp only [PyData.shown] at fin
      exact fin s.heap _ _ fun _ _ e => e
    | bl b =>
      cases hd; cases ru
      refine PySem.P.repr_of_bool ?_
      simp only [PyData.shown] at fin
      exact fin s.heap _ _ fun _ _ e => e
    | int i =>
      cases hd; obtain ⟨t, rfl⟩ := ru
      simp only [PyData.showable, decide_eq_true_eq] at h1
      refine PySem.P.repr_of_int h1 ?_
      simp only [PyData.shown] at fin
      exact fin s.heap _ _ fun _ _ e => e
    | str i =>
      cases hd; obtain ⟨t, rfl⟩ := ru
      simp only [PyData.shown] at fin h2
      refine PySem.P.repr_of_str ?_ h2
      exact fin s.heap _ _ fun _ _ e => e
    | tup => cases ru; exact big _ rfl
    | lst => cases ru; exact big _ rfl
    | scr => cases ru; exact big _ rfl
    | ref => cases ru; exact big _ rfl
  · exact h.elim
/-! ### isinstance -/
def tyN : Ty → String
  | .int => "int" | .bool => "bool" | .str => "str" | .tuple => "tuple" | .list => "list" | .dict => "dict"
/-- a value's class -/
def pvT (ph : PHp) : PV → Option String
  | .non => some "NoneType" | .bl _ => some "bool" | .int _ => some "int" | .str _ => some "str" | .tup _ => some "tuple" | .lst _ => some "list" | .scr _ => some "list"
  | .ref n => match ph[n]? with
    | some (.lst _) => some "list"
    | some _ => some "dict"
    | none => none
def tyTab (t : String) (ty : Ty) : Bool := if t = "int" then ty == .int else if t = "bool" then ty == .int || ty == .bool else if t = "str" then ty == .str else if t = "tuple" then ty == .tuple else if t = "list" then ty == .list else if t = "dict" then ty == .dict else false
theorem tab_ok : ∀ t ∈ ["NoneType", "int", "bool", "str", "tuple", "list", "dict"], ∀ ty ∈ [Ty.int, .bool, .str, .tuple, .list, .dict], kitB t (tyN ty) = some (tyTab t ty) := by decide +kernel
theorem pvT_is {ph : PHp} {a : PV} {t : String} (h : pvT ph a = some t) (ty : Ty) : kitB t (tyN ty) = some (tyIs ty ph a) := by
  have ht : ty ∈ [Ty.int, .bool, .str, .tuple, .list, .dict] := by cases ty <;> simp
  have key : ∀ t ∈ ["NoneType", "int", "bool", "str", "tuple", "list", "dict"], tyTab t ty = tyIs ty ph a → kitB t (tyN ty) = some (tyIs ty ph a) := fun t h1 h2 => by rw [← h2]; exact tab_ok t h1 ty ht
  cases a with
  | ref n =>
    simp only [pvT] at h
    simp only [tyIs] at key ⊢
    cases q : ph[n]? with
    | none => rw [q] at h; cases h
    | some ob =>
      rw [q] at h key
      cases ob <;> simp at h <;> subst h <;> exact key _ (by simp) (by simp [tyTab])
  | _ => simp only [pvT, Option.some.injEq] at h; subst h; exact key _ (by simp) (by simp [tyTab, tyIs])
theorem pvT_ty {w : Wd} {H : Hp} (o : Ok X.K w) (e : w.H = H) {a : PV} {v : V} (r : Rep X.K w.H w.μ a v) : ∃ t, pvT w.ph a = some t ∧ TyX X.K H v (.type t) := by
  subst e
  cases r with
  | non => exact ⟨_, rfl, .base .non⟩
  | bl b => exact ⟨_, rfl, .base (.bl b)⟩
  | int b => exact ⟨_, rfl, .base (.int b)⟩
  | str b => exact ⟨_, rfl, .base (.str b)⟩
  | tup h1 h2 => exact ⟨_, rfl, .base (.tup h1)⟩
  | lst h1 h2 h3 => exact ⟨_, rfl, .base (.lst h1)⟩
  | scr h1 =>
    refine ⟨_, rfl, ?_⟩
    rcases h1 with ⟨h1 | ⟨ob, h1⟩, _⟩ | ⟨ob, its, n, h1, h2, _⟩
    · exact .base (.lst h1)
    · exact .base (.frz h1)
    · exact .kList h1 h2
  | @ref n a hn =>
    have hl : n < w.ph.length := by
      rw [← o.len]; exact (List.getElem?_eq_some_iff.mp hn).1
    have h3 := o.ob n a _ hn (List.getElem?_eq_getElem hl)
    simp only [pvT, List.getElem?_eq_getElem hl]
    cases q : w.ph[n] with
    | lst xs => rw [q] at h3; obtain ⟨vs, e, _⟩ := h3; exact ⟨_, rfl, .base (.lst e)⟩
    | dK xs => rw [q] at h3; obtain ⟨vs, e, _⟩ := h3; exact ⟨_, rfl, .base (.dK e)⟩
    | dT xs => rw [q] at h3; obtain ⟨vs, e, _⟩ := h3; exact ⟨_, rfl, .base (.dT e)⟩
/-! ### methods -/
def mtN : Mt → String
  | .append => "list.append" | .pop => "list.pop" | .popAt => "list.pop" | .extend => "list.extend" | .index => "list.index" | .count => "list.count"
theorem MtR.imp {id : String} {r r' : V → List V → Hp → VK → Prop} (h : MtR X id r) (k : ∀ x xs H Q, r' x xs H Q → r x xs H Q) : MtR X id r' := fun pins s σ H x xs v us Q I rx rs q => h pins s σ H x xs v us Q I rx rs (k _ _ _ _ q)
theorem ref_lst {K : PySem.W.Frag} {w : Wd} (o : Ok K w) {n : Nat} {a : Addr} {xs : List PV} (hn : w.μ.num[n]? = some a) (h : w.ph[n]? = some (.lst xs)) : ∃ vs, w.H a = some (.lst vs) ∧ Reps K w.H w.μ xs vs := o.ob _ _ _ hn h
theorem mt_ok (hu : X.A.units + 65 < cLine) (m : Mt) : MtR X (mtN m) (liftM X.K (mtS m)) := by
  cases m with
  | append =>
    refine MtR.imp (mt_append (X := X)) ?_
    rintro x xs H Q' ⟨w, a, as, Q, rfl, o, ra, rs, h, p⟩
    unfold mtS at h
    split at h <;> first | exact h.elim | (rename_i e; cases e; done) | skip
    obtain ⟨ys, h1, h2, q⟩ := h
    cases ra with
    | ref hn =>
      obtain ⟨v, rfl, rv⟩ := one_arg rs rfl
      obtain ⟨vs, e1, r1⟩ := ref_lst o hn h1
      refine ⟨_, vs, v, rfl, rfl, e1, by rw [r1.length]; exact h2, p.chg o hn (y := .lst _) ⟨_, upd_same, (repsC hn o r1).append (.cons (repC hn o rv) .nil)⟩ .non q⟩
  | pop =>
    refine MtR.imp (mt_pop (X := X)) ?_
    rintro x xs H Q' ⟨w, a, as, Q, rfl, o, ra, rs, h, p⟩
    unfold mtS at h
    split at h <;> first | exact h.elim | (rename_i e; cases e; done) | skip
    obtain ⟨ys, y, h1, h2, q⟩ := h
    cases ra with
    | ref hn =>
      cases rs
      obtain ⟨vs, e1, r1⟩ := ref_lst o hn h1
      obtain ⟨v, hv, rv⟩ := r1.get h2
      refine ⟨_, vs, v, rfl, rfl, e1, by rw [r1.length]; exact hv, p.chg o hn (y := .lst _) ⟨_, upd_same, (repsC hn o r1).dropLast⟩ (repC hn o rv) q⟩
  | popAt =>
    refine MtR.imp (mt_popAt (X := X)) ?_
    rintro x xs H Q' ⟨w, a, as, Q, rfl, o, ra, rs, h, p⟩
    unfold mtS at h
    split at h <;> first | exact h.elim | (rename_i e; cases e; done) | skip
    obtain ⟨ys, y, h1, h3, h4, h2, q⟩ := h
    cases ra with
    | ref hn =>
      obtain ⟨v, rfl, rv⟩ := one_arg rs rfl
      cases rv
      obtain ⟨vs, e1, r1⟩ := ref_lst o hn h1
      obtain ⟨v, hv, rv⟩ := r1.get h2
      have hlt : (Int.toNat _) < vs.length := (List.getElem?_eq_some_iff.mp hv).1
      refine ⟨_, vs, _, Int.toNat _, v, rfl, rfl, e1, by omega, by omega, ?_, hv, p.chg o hn (y := .lst _) ⟨_, upd_same, (repsC hn o r1).eraseIdx _⟩ (repC hn o rv) q⟩
      unfold seqIndex?
      first | (simp; omega) | (simp only []; split <;> simp <;> omega)
  | extend =>
    refine MtR.imp (mt_extend (X := X)) ?_
    rintro x xs H Q' ⟨w, a, as, Q, rfl, o, ra, rs, h, p⟩
    unfold mtS at h
    split at h <;> first | exact h.elim | (rename_i e; cases e; done) | skip
    obtain ⟨ys, zs, h1, h2, h3, q⟩ := h
    cases ra with
    | ref hn =>
      obtain ⟨v, rfl, rv⟩ := one_arg rs rfl
      obtain ⟨vs, e1, r1⟩ := ref_lst o hn h1
      obtain ⟨b, ws, rfl, e2, r2⟩ := lst_at o h2 rv
      refine ⟨_, b, vs, ws, rfl, rfl, e1, e2, by rw [r1.length, r2.length]; exact h3, p.chg o hn (y := .lst _) ⟨_, upd_same, (repsC hn o r1).append (repsC hn o r2)⟩ .non q⟩
  | index =>
    refine MtR.imp (mt_indexD (X := X) hu) ?_
    rintro x xs H Q' ⟨w, a, as, Q, rfl, o, ra, rs, h, p⟩
    unfold mtS at h
    split at h <;> first | exact h.elim | (rename_i e; cases e; done) | skip
    obtain ⟨ys, ds, d, j, z, h1, h2, h3, h4, h5, h6, h7, h8, q⟩ := h
    obtain ⟨v, rfl, rv⟩ := one_arg rs rfl
    obtain ⟨b, ws, rfl, e2, r2⟩ := lst_at o h1 ra
    refine ⟨b, v, d, ds, j, z, rfl, rfl, .lst (SqL.of e2) (dats_dp o h2 (by have := shaped_noDict h4; simpa only [PyData.hasDict] using this) r2), dat_dp o h3 (shaped_noDict h5) rv, h4, h5, h6, h7, h8, p.here o (.int _) q⟩
  | count =>
    refine MtR.imp (mt_lcount (X := X)) ?_
    rintro x xs H Q' ⟨w, a, as, Q, rfl, o, ra, rs, h, p⟩
    unfold mtS at h
    split at h <;> first | exact h.elim | (rename_i e; cases e; done) | skip
    obtain ⟨ys, ns, h1, h2, q⟩ := h
    obtain ⟨v, rfl, rv⟩ := one_arg rs rfl
    cases rv
    obtain ⟨b, ws, rfl, e2, r2⟩ := lst_at o h1 ra
    have := Reps.ints h2 r2
    subst this
    exact ⟨b, ns, _, rfl, rfl, SqL.of e2, p.here o (.int _) q⟩
end
end RL

/-! RLSound1: expressions. -/
namespace RL
open PySem PySem.Spec PyProof.Rows L2
abbrev XF : QX := fun _ _ => False
/-- what stands for an exception: its class, its dict -/
def RepA (K : PySem.W.Frag) (H : Hp) (μ : Mu) (fld : Option Str) : Option PV → Option Addr → Prop
  | none, d => fld = none ∧ d = none
  | some v, d => ∃ f dd u, fld = some f ∧ d = some dd ∧ H dd = some (.xd [(f, u)]) ∧ Rep K H μ v u
def RepX (K : PySem.W.Frag) (mg : Str → Option Value) (pg : Pg) (H : Hp) (μ : Mu) (px : PX) (cls : Value) (d : Option Addr) : Prop :=
  ∃ (c : Cl) (C : Addr), pg.cls[px.cls]? = some c ∧ mg c.name = some (.ref C) ∧ cls = .ref C ∧ RepA K H μ c.fld px.arg d
theorem RepX.step {K : PySem.W.Frag} {mg : Str → Option Value} {pg : Pg} {w w' : Wd} (s : Step w w') (o : Ok K w) {px : PX} {cls : Value} {d : Option Addr} (r : RepX K mg pg w.H w.μ px cls d) : RepX K mg pg w'.H w'.μ px cls d := by
  obtain ⟨c, C, h1, h2, h3, h4⟩ := r
  refine ⟨c, C, h1, h2, h3, ?_⟩
  cases e : px.arg with
  | none => rw [e] at h4; exact h4
  | some v =>
    rw [e] at h4
    obtain ⟨f, dd, u, q1, q2, q3, q4⟩ := h4
    exact ⟨f, dd, u, q1, q2, s.keep _ _ q3 (o.notTup q3 ⟨by simp, by simp, by simp⟩), s.rep o q4⟩
def PostX (K : PySem.W.Frag) (mg : Str → Option Value) (pg : Pg) (w : Wd) (QX : QX) (W : WX) : Prop := ∀ w' px cls d σ', Step w w' → Ok K w' → RepX K mg pg w'.H w'.μ px cls d → QX px w'.ph → W cls d σ' w'.H
theorem PostX.step {K : PySem.W.Frag} {mg : Str → Option Value} {pg : Pg} {w w1 : Wd} {Q : QX} {W : WX} (p : PostX K mg pg w Q W) (s : Step w w1) : PostX K mg pg w1 Q W := fun w' x c d σ s' o r q => p w' x c d σ (s.trans s') o r q
theorem PostX.no {K : PySem.W.Frag} {mg : Str → Option Value} {pg : Pg} {w : Wd} {W : WX} : PostX K mg pg w noX W := fun _ _ _ _ _ _ _ _ q => q.elim
/-- what a call of the f-th def keeps -/
def spD (K : PySem.W.Frag) (mg : Str → Option Value) (pg : Pg) (k f : Nat) : Sp := fun vs H Q' E => ∃ w as Q QX, w.H = H ∧ Ok K w ∧ Reps K w.H w.μ as vs ∧ PostX K mg pg w QX (fun cls d _ H => E cls d H) ∧ callK pg k f as w.ph Q QX ∧ Post K w Q Q'
/-- a def's promise where no printing goes on -/
structure FnG (P : Program) (w : World) (K : PySem.W.Frag) (mg : Str → Option Value) (base : Heap) (k : Nat) (f : Addr) (fd : FuncData) (ps : List Str) (sp : Sp) : Prop where
  len : ∀ vs H Q E, sp vs H Q E → vs.length = ps.length
  run : ∀ (A : Around) (outer : List PySem.Env) (s : Shared) (H : Hp) (args : Args) (us : List Value) (vs : List V) (Q : VK) (E : XK), A.guards = some [] → Room k A → Env0 P w K mg base A outer s H → BindsTo s fd args (ps.zip us) → Vals vs us → sp vs H Q E →
    codeAny (model P w) A (.call (.ref f) args) (CR (L2.CX P w) outer P w H s Q E) s
/-- the text -/
structure Lw where
  pg : Pg
  sts : List Stmt
def Lw.G (L : Lw) : GT := L.pg.gt
def bnames : List Str := ["len", "tuple", "list", "int", "repr", "sum", "min", "max", "abs", "sorted", "all", "any", "str", "isinstance", "range", "enumerate", "zip", "bool", "dict"]
def Atom.v : Atom → V
  | .non => .non | .bl b => .bl b | .int i => .int i | .str s => .str s
theorem atom_rep {K : PySem.W.Frag} {H : Hp} {μ : Mu} (a : Atom) : Rep K H μ a.pv a.v := by cases a <;> constructor
/-- what the written part says of a class of exceptions without a field, with one -/
structure Cls0 (K : PySem.W.Frag) (C : Addr) : Prop where
  xC : PySem.W.excIn K C [.type "ValueError", .type "Exception", .type "BaseException", .type "object"] "ValueError.__new__" = true
structure ClsOk (K : PySem.W.Frag) (mg : Str → Option Value) (pg : Pg) (i : Nat) (c : Cl) (C : Addr) : Prop where
  gC : mg c.name = some (.ref C)
  kC : PySem.W.keepIn K (.ref C) = true
  bC : PySem.W.subIn K (.ref C) (.type "BaseException") = some true
  tC : PySem.W.typeIn K (.ref C) = some (.type "type")
  mk0 : c.fld = none → Cls0 K C
def ClsF (K : PySem.W.Frag) (mg : Str → Option Value) (pg : Pg) : Prop :=
  (∀ (i : Nat) (c : Cl), pg.cls[i]? = some c → ∃ C, ClsOk K mg pg i c C) ∧
  ∀ (i j : Nat) (c d : Cl) (C D : Addr), pg.cls[i]? = some c → pg.cls[j]? = some d → mg c.name = some (.ref C) → mg d.name = some (.ref D) → PySem.W.exmOne K (.ref C) (.ref D) = some (pg.sub i j)
/-- where an expression stands -/
structure In (L : Lw) (k : Nat) (N : List Str) (sc : Scope) (X : Cx) (W : WX) : Prop where
  names : X.N = N
  scope : X.env.scope = sc
  nd : N.Nodup
  calm : X.calm = true
  guards : X.A.guards = some []
  room : Room k X.A
  sys : HasSys X
  tk : Takes X W
  cls : ClsF X.K X.mg L.pg
  blt : ∀ x ∈ bnames, X.mg x = none
  glb : ∀ (n : Nat) (x : Str) (v : PV), L.pg.gl[n]? = some (x, v) → ∃ (a : Atom) (u : Value), v = a.pv ∧ X.mg x = some u ∧ RelV a.v u
  calls : ∀ (f : Nat) (d : Df) (st : Stmt), L.pg.defs[f]? = some d → L.sts[f]? = some st → ∃ fa fd, X.mg d.name = some (.ref fa) ∧ Fun X.K d.name d.name st fa fd ∧ FnG X.prog X.w X.K X.mg X.base k fa fd d.ps (spD X.K X.mg L.pg k f)
def PostL (K : PySem.W.Frag) (w : Wd) (n : Nat) (Q : List PV → PHp → Prop) (Q' : List V → Hp → Prop) : Prop := ∀ w' xs vs, Step w w' → Ok K w' → Reps K w'.H w'.μ xs vs → xs.length = n → Q xs w'.ph → Q' vs w'.H
def PostB (K : PySem.W.Frag) (w : Wd) (Q : Bool → PHp → Prop) (Q' : Bool → Hp → Prop) : Prop := ∀ w' b, Step w w' → Ok K w' → Q b w'.ph → Q' b w'.H
def PostO (K : PySem.W.Frag) (w : Wd) (Q : Option Int → PHp → Prop) (Q' : Option Int → Hp → Prop) : Prop := ∀ w' b, Step w w' → Ok K w' → Q b w'.ph → Q' b w'.H
section
variable (L : Lw) (N : List Str) (sc : Scope)
/-- an expression of the text and its short form -/
def SE (x : Expr) (e : E) : Prop := ∀ k X W, In L k N sc X W → ∃ t, PE X x t ∧ ∀ (w : Wd) env σ Q QX Q', Ok X.K w → REnv X.K w env σ → PostX X.K X.mg L.pg w QX W → wpE (callK L.pg k) L.G QX e env w.ph Q → Post X.K w Q Q' → t σ w.H Q'
def SA (xs : List Expr) (es : List E) : Prop := ∀ k X W, In L k N sc X W → ∃ t, PA X xs t ∧ ∀ (w : Wd) env σ Q QX Q', Ok X.K w → REnv X.K w env σ → PostX X.K X.mg L.pg w QX W → wpEs (callK L.pg k) L.G QX es env w.ph Q → PostL X.K w es.length Q Q' → t σ w.H Q'
def SO (x : Option Expr) (e : Option E) : Prop := ∀ k X W, In L k N sc X W → ∃ t, L2.PO X x t ∧ ∀ (w : Wd) env σ Q QX Q', Ok X.K w → REnv X.K w env σ → PostX X.K X.mg L.pg w QX W → wpO (callK L.pg k) L.G QX e env w.ph Q → PostO X.K w Q Q' → t σ w.H Q'
def ST (x : Expr) (e : E) : Prop := ∀ k X W, In L k N sc X W → ∃ t, PT X x t ∧ ∀ (w : Wd) env σ Q QX Q', Ok X.K w → REnv X.K w env σ → PostX X.K X.mg L.pg w QX W → wpE (callK L.pg k) L.G QX e env w.ph (toB Q) → PostB X.K w Q Q' → t σ w.H Q'
def SW (x : Expr) (e : E) : Prop := ∀ k X W, In L k N sc X W → ∃ t, PW X x t ∧ ∀ (w : Wd) env σ Q QX Q', Ok X.K w → REnv X.K w env σ → PostX X.K X.mg L.pg w QX W → wpE (callK L.pg k) L.G QX e env w.ph (toB Q) → PostB X.K w Q Q' → t σ w.H Q'
end
section
variable {L : Lw} {N : List Str} {sc : Scope} {a b c : Expr} {ea eb ec : E} {pos p : Pos}
theorem Post.step {K : PySem.W.Frag} {w w1 : Wd} {Q : QV} {Q' : VK} (p : Post K w Q Q') (s : Step w w1) : Post K w1 Q Q' := fun w' x v s' o r q => p w' x v (s.trans s') o r q
theorem PostL.step {K : PySem.W.Frag} {w w1 : Wd} {n : Nat} {Q : List PV → PHp → Prop} {Q' : List V → Hp → Prop} (p : PostL K w n Q Q') (s : Step w w1) : PostL K w1 n Q Q' := fun w' x v s' o r hl q => p w' x v (s.trans s') o r hl q
theorem PostB.step {K : PySem.W.Frag} {w w1 : Wd} {Q : Bool → PHp → Prop} {Q' : Bool → Hp → Prop} (p : PostB K w Q Q') (s : Step w w1) : PostB K w1 Q Q' := fun w' x s' o q => p w' x (s.trans s') o q
/-! ### atoms -/
theorem s_var (i : Nat) {x : Str} (h : N[i]? = some x) (hv : Vis sc x) (hd : (x == ("__debug__" : Str)) = false := by decide) (hcd : (x == ("__classdict__" : Str)) = false := by decide) : SE L N sc (.Name x pos) (.var i) := by
  intro k X W I
  refine ⟨_, pe_var (i := i) (by rw [I.names]; exact h) (by rw [I.scope]; exact hv) hd hcd, fun w env σ Q QX Q' o r px q p => ?_⟩
  obtain ⟨x, h1, q⟩ := q
  obtain ⟨v, h2, rv⟩ := r.get i x h1
  exact ⟨v, h2, p.here o rv q⟩
theorem s_int {i : Int} {j} : SE L N sc (.Constant (.int i) j pos) (.con (.int i)) := fun k X W I => ⟨_, pe_int, fun w env σ Q QX Q' o r px q p => p.here o (.int i) q⟩
theorem s_bl {i : Bool} {j} : SE L N sc (.Constant (.bool i) j pos) (.con (.bl i)) := fun k X W I => ⟨_, pe_bl, fun w env σ Q QX Q' o r px q p => p.here o (.bl i) q⟩
theorem s_non {j} : SE L N sc (.Constant .none j pos) (.con .non) := fun k X W I => ⟨_, pe_non, fun w env σ Q QX Q' o r px q p => p.here o .non q⟩
theorem s_str {i : Str} {j} : SE L N sc (.Constant (.str i) j pos) (.con (.str i)) := fun k X W I => ⟨_, pe_str, fun w env σ Q QX Q' o r px q p => p.here o (.str i) q⟩
theorem gl_of {k : Nat} {X : Cx} {W : WX} (I : In L k N sc X W) {x : Str} (h : sc.names.lookup x = some .globalImplicit) : Gl X x := by
  show X.env.scope.names.lookup x = _
  rw [I.scope]; exact h
theorem s_glob (n : Nat) {x : Str} (h : L.pg.gl[n]?.map (·.1) = some x) (hg : sc.names.lookup x = some .globalImplicit) (hd : (x == ("__debug__" : Str)) = false := by decide) : SE L N sc (.Name x pos) (.glob n) := by
  intro k X W I
  cases hq : L.pg.gl[n]? with
  | none => rw [hq] at h; cases h
  | some pr =>
    obtain ⟨x', v⟩ := pr
    rw [hq] at h; cases h
    obtain ⟨a, u, rfl, hm, ru⟩ := I.glb n _ _ hq
    refine ⟨_, pe_glob (gl_of I hg) hm ru hd, fun w env σ Q QX Q' o r px q p => ?_⟩
    obtain ⟨v, hv, q⟩ := q
    have : v = a.pv := by
      simp only [Lw.G, Pg.gt, List.getElem?_map, hq, Option.map_some, Option.some.injEq] at hv
      exact hv.symm
    subst this
    exact p.here o (atom_rep a) q
/-! ### operators -/
theorem s_bin {op : Operator} {o2 : Op2} {own : Bool} (ha : SE L N sc a ea) (hb : SE L N sc b eb) (ho : op2F o2 = binaryOp op := by rfl) : SE L N sc (.BinOp a op b pos) (.op2 o2 own ea eb) := by
  intro k X W I
  obtain ⟨ta, h1, h2⟩ := ha k X W I
  obtain ⟨tb, h3, h4⟩ := hb k X W I
  have h := op2_ok (X := X) (by have := I.room.un; omega) o2 own
  rw [ho] at h
  refine ⟨_, pe_op h h1 h3, fun w env σ Q QX Q' o r px q p => ?_⟩
  refine h2 w env σ _ _ _ o r px q fun w1 x v s1 o1 rv q => ?_
  refine h4 w1 env σ _ _ _ o1 (r.step s1 o) (px.step s1) q fun w2 y u s2 o2 ru q => ?_
  exact ⟨w2, x, y, Q, rfl, o2, s2.rep o1 rv, ru, q, (p.step s1).step s2⟩
theorem s_cmp {op : CmpOp} {o2 : Op2} {own : Bool} (ha : SE L N sc a ea) (hb : SE L N sc b eb) (ho : op2F o2 = compareOp op := by rfl) (hm : behindInMarks op b = false := by rfl) : SE L N sc (.Compare a [op] [b] pos) (.op2 o2 own ea eb) := by
  intro k X W I
  obtain ⟨ta, h1, h2⟩ := ha k X W I
  obtain ⟨tb, h3, h4⟩ := hb k X W I
  have h := op2_ok (X := X) (by have := I.room.un; omega) o2 own
  rw [ho] at h
  refine ⟨_, pe_cmpR h h1 h3 hm, fun w env σ Q QX Q' o r px q p => ?_⟩
  refine h2 w env σ _ _ _ o r px q fun w1 x v s1 o1 rv q => ?_
  refine h4 w1 env σ _ _ _ o1 (r.step s1 o) (px.step s1) q fun w2 y u s2 o2 ru q => ?_
  exact ⟨w2, x, y, Q, rfl, o2, s2.rep o1 rv, ru, q, (p.step s1).step s2⟩
theorem toB_post {K : PySem.W.Frag} {w : Wd} {Q : Bool → PHp → Prop} {Q' : Bool → Hp → Prop} (p : PostB K w Q Q') : Post K w (toB Q) (fun x H => ∃ c, x = .bl c ∧ Q' c H) := fun w' x v s o r q => by
  obtain ⟨b, rfl, q⟩ := q
  cases r
  exact ⟨b, rfl, p w' b s o q⟩
theorem t_cmp {op : CmpOp} {o2 : Op2} {own : Bool} (ha : SE L N sc a ea) (hb : SE L N sc b eb) (ho : op2F o2 = compareOp op := by rfl) (hm : behindInMarks op b = false := by rfl) : ST L N sc (.Compare a [op] [b] pos) (.op2 o2 own ea eb) := by
  intro k X W I
  obtain ⟨ta, h1, h2⟩ := ha k X W I
  obtain ⟨tb, h3, h4⟩ := hb k X W I
  have h := op2_ok (X := X) (by have := I.room.un; omega) o2 own
  rw [ho] at h
  refine ⟨_, pt_cmpR h h1 h3 hm, fun w env σ Q QX Q' o r px q p => ?_⟩
  refine h2 w env σ _ _ _ o r px q fun w1 x v s1 o1 rv q => ?_
  refine h4 w1 env σ _ _ _ o1 (r.step s1 o) (px.step s1) q fun w2 y u s2 o2 ru q => ?_
  exact ⟨w2, x, y, toB Q, rfl, o2, s2.rep o1 rv, ru, q, ((toB_post p).step s1).step s2⟩
theorem s_chain {op op' : CmpOp} {o1 o2 : Op2} (ha : SE L N sc a ea) (hb : SE L N sc b eb) (hc : SE L N sc c ec) (ho : op2F o1 = compareOp op := by rfl) (ho' : op2F o2 = compareOp op' := by rfl) (hm : lastMarks [op, op'] [b, c] = false := by rfl) :
    SE L N sc (.Compare a [op, op'] [b, c] pos) (.chain o1 o2 ea eb ec) := by
  intro k X W I
  obtain ⟨ta, h1, h2⟩ := ha k X W I
  obtain ⟨tb, h3, h4⟩ := hb k X W I
  obtain ⟨tc, h5, h6⟩ := hc k X W I
  have hu : X.A.units + 65 < cLine := by have := I.room.un; omega
  have g := op2_ok (X := X) hu o1 false
  have g' := op2_ok (X := X) hu o2 false
  rw [ho] at g
  rw [ho'] at g'
  refine ⟨_, pe_chain g g' h1 h3 h5 hm, fun w env σ Q QX Q' o r px q p => ?_⟩
  refine h2 w env σ _ _ _ o r px q fun w1 x v s1 o1 rv q => ?_
  refine h4 w1 env σ _ _ _ o1 (r.step s1 o) (px.step s1) q fun w2 y u s2 o2 ru q => ?_
  refine ⟨w2, x, y, _, rfl, o2, s2.rep o1 rv, ru, q, fun w3 z z' s3 o3 rz q => ?_⟩
  obtain ⟨kk, rfl, q⟩ := q
  cases rz
  refine ⟨kk, rfl, ?_⟩
  cases kk with
  | false => exact p _ _ _ ((s1.trans s2).trans s3) o3 (.bl _) (by simpa using q)
  | true =>
    simp only [if_true] at q ⊢
    refine h6 w3 env σ _ _ _ o3 (((r.step s1 o).step s2 o1).step s3 o2) (((px.step s1).step s2).step s3) q fun w4 m m' s4 o4 rm q => ?_
    exact ⟨w4, y, m, Q, rfl, o4, (s3.trans s4).rep o2 ru, rm, q, (((p.step s1).step s2).step s3).step s4⟩
theorem t_chain {op op' : CmpOp} {o1 o2 : Op2} (ha : SE L N sc a ea) (hb : SE L N sc b eb) (hc : SE L N sc c ec) (ho : op2F o1 = compareOp op := by rfl) (ho' : op2F o2 = compareOp op' := by rfl) (hm : lastMarks [op, op'] [b, c] = false := by rfl) :
    ST L N sc (.Compare a [op, op'] [b, c] pos) (.chain o1 o2 ea eb ec) := by
  intro k X W I
  obtain ⟨ta, h1, h2⟩ := ha k X W I
  obtain ⟨tb, h3, h4⟩ := hb k X W I
  obtain ⟨tc, h5, h6⟩ := hc k X W I
  have hu : X.A.units + 65 < cLine := by have := I.room.un; omega
  have g := op2_ok (X := X) hu o1 false
  have g' := op2_ok (X := X) hu o2 false
  rw [ho] at g
  rw [ho'] at g'
  refine ⟨_, pt_chain g g' h1 h3 h5 hm, fun w env σ Q QX Q' o r px q p => ?_⟩
  refine h2 w env σ _ _ _ o r px q fun w1 x v s1 o1 rv q => ?_
  refine h4 w1 env σ _ _ _ o1 (r.step s1 o) (px.step s1) q fun w2 y u s2 o2 ru q => ?_
  refine ⟨w2, x, y, _, rfl, o2, s2.rep o1 rv, ru, q, fun w3 z z' s3 o3 rz q => ?_⟩
  obtain ⟨kk, rfl, q⟩ := q
  cases rz
  refine ⟨kk, rfl, ?_⟩
  cases kk with
  | false =>
    rw [if_neg (by decide)] at q ⊢
    obtain ⟨b0, e0, q0⟩ := q
    cases e0
    exact ⟨false, rfl, p _ _ ((s1.trans s2).trans s3) o3 q0⟩
  | true =>
    simp only [if_true] at q ⊢
    refine h6 w3 env σ _ _ _ o3 (((r.step s1 o).step s2 o1).step s3 o2) (((px.step s1).step s2).step s3) q fun w4 m m' s4 o4 rm q => ?_
    exact ⟨w4, y, m, toB Q, rfl, o4, (s3.trans s4).rep o2 ru, rm, q, ((((toB_post p).step s1).step s2).step s3).step s4⟩
theorem s_neg (ha : SE L N sc a ea) : SE L N sc (.UnaryOp .USub a pos) (.neg ea) := by
  intro k X W I
  obtain ⟨ta, h1, h2⟩ := ha k X W I
  refine ⟨_, pe_un un_neg h1, fun w env σ Q QX Q' o r px q p => ?_⟩
  refine h2 w env σ _ _ _ o r px q fun w1 x v s1 o1 rv q => ?_
  obtain ⟨i, rfl, q⟩ := q
  cases rv
  exact ⟨i, rfl, p _ _ _ s1 o1 (.int _) q⟩
theorem s_not (ha : SE L N sc a ea) : SE L N sc (.UnaryOp .Not a pos) (.notE ea) := by
  intro k X W I
  obtain ⟨ta, h1, h2⟩ := ha k X W I
  refine ⟨_, pe_not h1, fun w env σ Q QX Q' o r px q p => ?_⟩
  refine h2 w env σ _ _ _ o r px q fun w1 x v s1 o1 rv q => ?_
  obtain ⟨i, rfl, q⟩ := q
  cases rv
  exact ⟨i, rfl, p _ _ _ s1 o1 (.bl _) q⟩
theorem s_and1 (ha : SE L N sc a ea) : SE L N sc (.BoolOp .And [a] pos) ea := by
  intro k X W I
  obtain ⟨ta, h1, h2⟩ := ha k X W I
  exact ⟨ta, pe_one h1, h2⟩
theorem s_or1 (ha : SE L N sc a ea) : SE L N sc (.BoolOp .Or [a] pos) ea := by
  intro k X W I
  obtain ⟨ta, h1, h2⟩ := ha k X W I
  exact ⟨ta, pe_one h1, h2⟩
theorem s_and {rest : List Expr} (ha : SE L N sc a ea) (hb : SE L N sc (.BoolOp .And (b :: rest) pos) eb) : SE L N sc (.BoolOp .And (a :: b :: rest) pos) (.andE ea eb) := by
  intro k X W I
  obtain ⟨ta, h1, h2⟩ := ha k X W I
  obtain ⟨tb, h3, h4⟩ := hb k X W I
  refine ⟨_, pe_and h1 h3, fun w env σ Q QX Q' o r px q p => ?_⟩
  refine h2 w env σ _ _ _ o r px q fun w1 x v s1 o1 rv q => ?_
  obtain ⟨i, rfl, q⟩ := q
  cases rv
  refine ⟨i, rfl, ?_⟩
  cases i with
  | false => exact p _ _ _ s1 o1 (.bl _) (by simpa using q)
  | true =>
    simp only [if_true] at q ⊢
    exact h4 w1 env σ _ _ _ o1 (r.step s1 o) (px.step s1) q (p.step s1)
theorem s_or {rest : List Expr} (ha : SE L N sc a ea) (hb : SE L N sc (.BoolOp .Or (b :: rest) pos) eb) : SE L N sc (.BoolOp .Or (a :: b :: rest) pos) (.orE ea eb) := by
  intro k X W I
  obtain ⟨ta, h1, h2⟩ := ha k X W I
  obtain ⟨tb, h3, h4⟩ := hb k X W I
  refine ⟨_, pe_or h1 h3, fun w env σ Q QX Q' o r px q p => ?_⟩
  refine h2 w env σ _ _ _ o r px q fun w1 x v s1 o1 rv q => ?_
  obtain ⟨i, rfl, q⟩ := q
  cases rv
  refine ⟨i, rfl, ?_⟩
  cases i with
  | true => exact p _ _ _ s1 o1 (.bl _) (by simpa using q)
  | false =>
    simp at q ⊢
    exact h4 w1 env σ _ _ _ o1 (r.step s1 o) (px.step s1) q (p.step s1)
/-! ### tests -/
theorem t_val (he : ∀ env whole, isTrue a env whole = (do let v ← whole; standAt a.pos; holding [v] (truthy v)) := by intro _ _; rfl) (ha : SE L N sc a ea) : ST L N sc a ea := by
  intro k X W I
  obtain ⟨ta, h1, h2⟩ := ha k X W I
  exact ⟨_, pt_val h1 (he _), fun w env σ Q QX Q' o r px q p => h2 w env σ _ _ _ o r px q (toB_post p)⟩
theorem t_not (ha : ST L N sc a ea) : ST L N sc (.UnaryOp .Not a pos) (.notE ea) := by
  intro k X W I
  obtain ⟨ta, h1, h2⟩ := ha k X W I
  refine ⟨_, pt_not h1, fun w env σ Q QX Q' o r px q p => ?_⟩
  have q' : wpE (callK L.pg k) L.G QX ea env w.ph (toB fun b ph => Q (!b) ph) := by
    have q0 : wpE (callK L.pg k) L.G QX ea env w.ph (fun x ph1 => ∃ b, x = .bl b ∧ toB Q (.bl (!b)) ph1) := q
    have e : (fun x ph1 => ∃ b, x = PV.bl b ∧ toB Q (.bl (!b)) ph1) = toB fun b ph => Q (!b) ph := by
      funext x ph1
      refine propext ⟨?_, ?_⟩
      · rintro ⟨b, e, b', e', q⟩
        cases e'
        exact ⟨b, e, q⟩
      · rintro ⟨b, e, q⟩
        exact ⟨b, e, _, rfl, q⟩
    rw [← e]; exact q0
  exact h2 w env σ _ _ _ o r px q' fun w' b s o q => p w' (!b) s o q
theorem t_w (ha : SW L N sc a ea) : ST L N sc a ea := by
  intro k X W I
  obtain ⟨ta, h1, h2⟩ := ha k X W I
  exact ⟨_, h1.pt, h2⟩
theorem w_and1 (ha : ST L N sc a ea) : SW L N sc (.BoolOp .And [a] pos) ea := by
  intro k X W I
  obtain ⟨ta, h1, h2⟩ := ha k X W I
  exact ⟨_, pw_and1 h1, h2⟩
theorem w_or1 (ha : ST L N sc a ea) : SW L N sc (.BoolOp .Or [a] pos) ea := by
  intro k X W I
  obtain ⟨ta, h1, h2⟩ := ha k X W I
  exact ⟨_, pw_or1 h1, h2⟩
theorem toB_if {Q : Bool → PHp → Prop} {A : PHp → Prop} {g : Bool} (A : PHp → Prop) : (fun (x : PV) ph1 => ∃ c, x = PV.bl c ∧ if c = g then A ph1 else toB Q (.bl (!g)) ph1) = toB fun c ph => if c = g then A ph else Q (!g) ph := by
  funext x ph1
  refine propext ⟨?_, ?_⟩
  · rintro ⟨b, e, q⟩
    refine ⟨b, e, ?_⟩
    by_cases h : b = g
    · rw [if_pos h] at q ⊢; exact q
    · rw [if_neg h] at q ⊢
      obtain ⟨b', e', q⟩ := q
      cases e'; exact q
  · rintro ⟨b, e, q⟩
    refine ⟨b, e, ?_⟩
    by_cases h : b = g
    · rw [if_pos h] at q ⊢; exact q
    · rw [if_neg h] at q ⊢
      exact ⟨_, rfl, q⟩
theorem w_and {rest : List Expr} (ha : ST L N sc a ea) (hb : SW L N sc (.BoolOp .And (b :: rest) pos) eb) : SW L N sc (.BoolOp .And (a :: b :: rest) pos) (.andE ea eb) := by
  intro k X W I
  obtain ⟨ta, h1, h2⟩ := ha k X W I
  obtain ⟨tb, h3, h4⟩ := hb k X W I
  refine ⟨_, pw_and h1 h3, fun w env σ Q QX Q' o r px q p => ?_⟩
  have q0 : wpE (callK L.pg k) L.G QX ea env w.ph (fun x ph1 => ∃ c, x = .bl c ∧ if c = true then wpE (callK L.pg k) L.G QX eb env ph1 (toB Q) else toB Q (.bl false) ph1) := q
  have e := toB_if (Q := Q) (A := fun _ => True) (g := true) fun ph1 => wpE (callK L.pg k) L.G QX eb env ph1 (toB Q)
  simp only [Bool.not_true] at e
  rw [e] at q0
  refine h2 w env σ _ _ _ o r px q0 fun w1 c s1 o1 q => ?_
  cases c with
  | true =>
    simp only [if_true] at q ⊢
    exact h4 w1 env σ _ _ _ o1 (r.step s1 o) (px.step s1) q (p.step s1)
  | false => exact p _ _ s1 o1 (by simpa using q)
theorem w_or {rest : List Expr} (ha : ST L N sc a ea) (hb : SW L N sc (.BoolOp .Or (b :: rest) pos) eb) : SW L N sc (.BoolOp .Or (a :: b :: rest) pos) (.orE ea eb) := by
  intro k X W I
  obtain ⟨ta, h1, h2⟩ := ha k X W I
  obtain ⟨tb, h3, h4⟩ := hb k X W I
  refine ⟨_, pw_or h1 h3, fun w env σ Q QX Q' o r px q p => ?_⟩
  have q0 : wpE (callK L.pg k) L.G QX ea env w.ph (fun x ph1 => ∃ c, x = .bl c ∧ if c = true then toB Q (.bl true) ph1 else wpE (callK L.pg k) L.G QX eb env ph1 (toB Q)) := q
  have e : (fun (x : PV) ph1 => ∃ c, x = PV.bl c ∧ if c = true then toB Q (.bl true) ph1 else wpE (callK L.pg k) L.G QX eb env ph1 (toB Q)) = toB fun c ph => if c = true then Q true ph else wpE (callK L.pg k) L.G QX eb env ph (toB Q) := by
    funext x ph1
    refine propext ⟨?_, ?_⟩
    · rintro ⟨b, e, q⟩
      refine ⟨b, e, ?_⟩
      cases b
      · simpa using q
      · simp only [if_true] at q ⊢
        obtain ⟨b', e', q⟩ := q
        cases e'; exact q
    · rintro ⟨b, e, q⟩
      refine ⟨b, e, ?_⟩
      cases b
      · simpa using q
      · simp only [if_true] at q ⊢
        exact ⟨_, rfl, q⟩
  rw [e] at q0
  refine h2 w env σ _ _ _ o r px q0 fun w1 c s1 o1 q => ?_
  cases c with
  | false =>
    simp at q ⊢
    exact h4 w1 env σ _ _ _ o1 (r.step s1 o) (px.step s1) q (p.step s1)
  | true => exact p _ _ s1 o1 (by simpa using q)
theorem s_ife (hc : ST L N sc c ec) (ha : SE L N sc a ea) (hb : SE L N sc b eb) : SE L N sc (.IfExp c a b pos) (.ife ec ea eb) := by
  intro k X W I
  obtain ⟨tc, h5, h6⟩ := hc k X W I
  obtain ⟨ta, h1, h2⟩ := ha k X W I
  obtain ⟨tb, h3, h4⟩ := hb k X W I
  refine ⟨_, pe_ifExp h5 h1 h3, fun w env σ Q QX Q' o r px q p => ?_⟩
  refine h6 w env σ (fun kk ph1 => if kk = true then wpE (callK L.pg k) L.G QX ea env ph1 Q else wpE (callK L.pg k) L.G QX eb env ph1 Q) _ _ o r px q fun w1 c s1 o1 q => ?_
  cases c with
  | true =>
    simp only [if_true] at q ⊢
    exact h2 w1 env σ _ _ _ o1 (r.step s1 o) (px.step s1) q (p.step s1)
  | false =>
    simp at q ⊢
    exact h4 w1 env σ _ _ _ o1 (r.step s1 o) (px.step s1) q (p.step s1)
end
end RL

/-! RLSound2: lists of expressions, displays, items, calls. -/
namespace RL
open PySem PySem.Spec PyProof.Rows L2
section
variable {L : Lw} {N : List Str} {sc : Scope} {a b c : Expr} {xs : List Expr} {es : List E} {ea eb ec : E} {pos p : Pos}
theorem In.hu {k : Nat} {X : Cx} {W : WX} (I : In L k N sc X W) : X.A.units + 65 < cLine := by have := I.room.un; omega
/-! ### lists -/
theorem a_nil : SA L N sc [] [] := fun k X W I => ⟨_, pa_nil, fun w env σ Q QX Q' o r px q p => p w _ _ (Step.refl w) o .nil rfl q⟩
theorem a_cons (ha : SE L N sc a ea) (hr : SA L N sc xs es) (hs : ∀ env, starEach (a :: xs) env = (false, eval a env) :: starEach xs env := by intro _; rfl) : SA L N sc (a :: xs) (ea :: es) := by
  intro k X W I
  obtain ⟨ta, h1, h2⟩ := ha k X W I
  obtain ⟨tr, h3, h4⟩ := hr k X W I
  refine ⟨_, pa_cons h1 h3 (hs _), fun w env σ Q QX Q' o r px q p => ?_⟩
  refine h2 w env σ _ _ _ o r px q fun w1 x v s1 o1 rv q => ?_
  refine h4 w1 env σ _ _ _ o1 (r.step s1 o) (px.step s1) q fun w2 ys vs s2 o2 rs hl q => ?_
  exact p w2 _ _ (s1.trans s2) o2 (.cons (s2.rep o1 rv) rs) (by simp [hl]) q
theorem s_tup {k0} (h : SA L N sc xs es) : SE L N sc (.Tuple xs k0 pos) (.tup es) := by
  intro k X W I
  obtain ⟨ta, h1, h2⟩ := h k X W I
  refine ⟨_, pe_tup h1, fun w env σ Q QX Q' o r px q p => ?_⟩
  refine h2 w env σ _ _ _ o r px q fun w1 ys vs s1 o1 rs hl q => ?_
  exact ⟨by rw [rs.length]; exact q.1, (p.step s1).tup o1 rs q.2⟩
theorem s_lst {own : Bool} (h : SA L N sc xs es) : SE L N sc (.List xs pos) (.lst own es) := by
  intro k X W I
  obtain ⟨ta, h1, h2⟩ := h k X W I
  refine ⟨_, pe_lst h1, fun w env σ Q QX Q' o r px q p => ?_⟩
  refine h2 w env σ _ _ _ o r px q fun w1 ys vs s1 o1 rs hl q => ?_
  exact ⟨by rw [rs.length]; exact q.1, (p.step s1).lst o1 rs q⟩
/-! ### dicts -/
def SP (L : Lw) (N : List Str) (sc : Scope) (pos : Pos) (keys : List (Option Expr)) (vals : List Expr) (ks : List Atom) (es : List E) : Prop := ∀ k X W, In L k N sc X W → ∃ trs, PPs X pos keys vals trs ∧ ∀ (w : Wd) env σ Q QX Q', Ok X.K w → REnv X.K w env σ → PostX X.K X.mg L.pg w QX W → wpEs (callK L.pg k) L.G QX es env w.ph Q →
  (∀ w' zs vs, Step w w' → Ok X.K w' → Reps X.K w'.H w'.μ zs vs → zs.length = ks.length → Q zs w'.ph → Q' ((ks.map Atom.v).zip vs) w'.H) → tPairs trs σ w.H Q'
theorem p_nil : SP L N sc pos [] [] [] [] := fun k X W I => ⟨_, pps_nil, fun w env σ Q QX Q' o r px q p => p w _ _ (Step.refl w) o .nil rfl q⟩
theorem p_cons {kx : Expr} {ka : Atom} {keys : List (Option Expr)} {vals : List Expr} {ks : List Atom} (hk : ∀ X : Cx, PE X kx (tC ka.v)) (ha : SE L N sc a ea) (hr : SP L N sc pos keys vals ks es) : SP L N sc pos (some kx :: keys) (a :: vals) (ka :: ks) (ea :: es) := by
  intro k X W I
  obtain ⟨ta, h1, h2⟩ := ha k X W I
  obtain ⟨tr, h3, h4⟩ := hr k X W I
  refine ⟨_, pps_cons (hk X) h1 h3, fun w env σ Q QX Q' o r px q p => ?_⟩
  refine h2 w env σ _ _ _ o r px q fun w1 x v s1 o1 rv q => ?_
  refine h4 w1 env σ _ _ _ o1 (r.step s1 o) (px.step s1) q fun w2 ys vs s2 o2 rs hl q => ?_
  exact p w2 _ _ (s1.trans s2) o2 (.cons (s2.rep o1 rv) rs) (by simp [hl]) q
theorem s_dict0 : SE L N sc (.Dict [] [] pos) (.dict [] []) := by
  intro k X W I
  refine ⟨_, pe_dnewK, fun w env σ Q QX Q' o r px q p => fun a ha => ?_⟩
  obtain ⟨kk, e, _, _, q⟩ := q
  cases e
  refine p (w.new a (.dK []) (.dK [])) (.ref w.ph.length) _ (Step.new ha) (o.new ha ⟨[], upd_same, .nil⟩) (.ref ?_) q
  show (w.μ.num ++ [a])[w.ph.length]? = some a
  rw [← o.len, List.getElem?_append_right (Nat.le_refl _), Nat.sub_self]; rfl
theorem merge_new : ∀ (kvs acc : List (Key × V)), (∀ p ∈ acc, p.1 ∉ kvs.map (·.1)) → (kvs.map (·.1)).Nodup → mergeK acc kvs = acc ++ kvs
  | [], acc, _, _ => by simp [mergeK]
  | p :: r, acc, h, nd => by
    have nd' := List.nodup_cons.mp (show (p.1 :: r.map (·.1)).Nodup from nd)
    have e : putK acc p.1 p.2 = acc ++ [(p.1, p.2)] := by
      unfold putK
      rw [if_neg]
      intro z
      obtain ⟨q, hq, e⟩ := List.any_eq_true.mp z
      exact h q hq (by simp [of_decide_eq_true e])
    show mergeK (putK acc p.1 p.2) r = _
    rw [e, merge_new r _ (fun q hq => ?_) nd'.2, List.append_assoc]; rfl
    rcases List.mem_append.mp hq with hq | hq
    · intro z; exact h q hq (by simp at z ⊢; exact .inr z)
    · rw [List.mem_singleton.mp hq]; exact nd'.1
theorem keys_zip {K : PySem.W.Frag} {H : Hp} {μ : Mu} : ∀ {ks : List Atom} {kk : List Key} {zs : List PV} {vs : List V}, keysOf (ks.map Atom.pv) = some kk → Reps K H μ zs vs → zs.length = ks.length →
    (ks.map Atom.v).zip vs = (kk.zip vs).map (fun kv => (kV kv.1, kv.2)) ∧ kk.length = vs.length ∧ RepK K H μ (kk.zip zs) (kk.zip vs)
  | [], _, _, _, e, .nil, _ => by simp [keysOf] at e; subst e; exact ⟨rfl, rfl, .nil⟩
  | k :: ks, kk, _, _, e, .cons h t, hl => by
    simp only [List.map_cons, keysOf] at e
    cases e1 : keyOf k.pv with
    | none => rw [e1] at e; simp at e
    | some k1 =>
      cases e2 : keysOf (ks.map Atom.pv) with
      | none => rw [e1, e2] at e; simp at e
      | some k2 =>
        rw [e1, e2] at e
        simp at e
        subst e
        obtain ⟨a1, a2, a3⟩ := keys_zip e2 t (by simpa using hl)
        refine ⟨?_, by simp [a2], .cons h a3⟩
        simp only [List.map_cons, List.zip_cons_cons, a1]
        congr 2
        cases k <;> simp [keyOf, Atom.pv] at e1 <;> subst e1 <;> rfl
theorem s_dict {keys : List (Option Expr)} {vals : List Expr} {ks : List Atom} (h : SP L N sc pos keys vals ks es) (hall : keys.all (·.isSome) = true := by rfl) (hl : keys.length = vals.length := by rfl) (h0 : keys ≠ [] := by simp) (h15 : keys.length ≤ 15 := by simp) :
    SE L N sc (.Dict keys vals pos) (.dict ks es) := by
  intro k X W I
  obtain ⟨trs, h1, h2⟩ := h k X W I
  refine ⟨_, pe_disp h1 hall hl h0 h15, fun w env σ Q QX Q' o r px q p => fun D hD => ?_⟩
  have s0 := Step.put (w := w) (u := .dK []) hD
  have o0 := o.put (u := .dK []) hD
  refine h2 (w.put D (.dK [])) env σ _ _ _ o0 (r.step s0 o) (px.step s0) q fun w1 zs vs s1 o1 rs hz q => ?_
  obtain ⟨kk, ek, nd, h15', q⟩ := q
  have hn : D ∉ (w.put D (.dK [])).μ.num := (o.notin hD).1
  have e1 : w1.H D = some (.dK []) := s1.keep D _ upd_same hn
  have hn1 : D ∉ w1.μ.num := by
    obtain ⟨l, el, f⟩ := s1.grow
    rw [el]
    intro z
    rcases List.mem_append.mp z with z | z
    · exact hn z
    · have e2 := f D z
      have e3 : (w.put D (.dK [])).H D = some (.dK []) := upd_same
      rw [e3] at e2; cases e2
  have bl : Blind w1 D := blind_dict o1 e1 hn1
  obtain ⟨a1, a2, a3⟩ := keys_zip ek rs hz
  refine ⟨e1, kk.zip vs, a1, by simp; omega, ?_⟩
  have hlz : kk.length = zs.length := by rw [a2, rs.length]
  have em : mergeK [] (kk.zip vs) = kk.zip vs := by
    rw [merge_new _ [] (by simp) (by rw [List.map_fst_zip (by omega)]; exact nd)]; rfl
  rw [em]
  refine p (w1.tell D (.dK (kk.zip vs)) (.dK (kk.zip zs))) (.ref w1.ph.length) _ (Step.tell o (s0.trans s1) hD) (o1.tell bl ⟨_, upd_same, repk_tell bl a3⟩) (.ref ?_) q
  show (w1.μ.num ++ [D])[w1.ph.length]? = some D
  rw [← o1.len, List.getElem?_append_right (Nat.le_refl _), Nat.sub_self]; rfl
theorem key_rep {K : PySem.W.Frag} {H : Hp} {μ : Mu} {x : PV} {v : V} {key : Key} (h : keyOf x = some key) (r : Rep K H μ x v) : v = kV key := by
  cases r <;> simp [keyOf] at h <;> subst h <;> rfl
theorem s_dict1 (ha : SE L N sc a ea) (hb : SE L N sc b eb) : SE L N sc (.Dict [some a] [b] pos) (.dict1 ea eb) := by
  intro k X W I
  obtain ⟨ta, h1, h2⟩ := ha k X W I
  obtain ⟨tb, h3, h4⟩ := hb k X W I
  refine ⟨_, pe_disp (pps_cons h1 h3 pps_nil) rfl rfl (by simp) (by simp), fun w env σ Q QX Q' o r px q p => fun D hD => ?_⟩
  have s0 := Step.put (w := w) (u := .dK []) hD
  have o0 := o.put (u := .dK []) hD
  refine h2 (w.put D (.dK [])) env σ _ _ _ o0 (r.step s0 o) (px.step s0) q fun w1 x v s1 o1 rv q => ?_
  refine h4 w1 env σ _ _ _ o1 ((r.step s0 o).step s1 o0) ((px.step s0).step s1) q fun w2 y u s2 o2 ru q => ?_
  obtain ⟨key, ek, q⟩ := q
  have s02 := s1.trans s2
  have hn : D ∉ (w.put D (.dK [])).μ.num := (o.notin hD).1
  have e1 : w2.H D = some (.dK []) := s02.keep D _ upd_same hn
  have hn1 : D ∉ w2.μ.num := by
    obtain ⟨l, el, f⟩ := s02.grow
    rw [el]
    intro z
    rcases List.mem_append.mp z with z | z
    · exact hn z
    · have e2 := f D z
      have e3 : (w.put D (.dK [])).H D = some (.dK []) := upd_same
      rw [e3] at e2; cases e2
  have bl : Blind w2 D := blind_dict o2 e1 hn1
  have ev := key_rep ek rv
  refine ⟨e1, [(key, u)], by simp [ev], by simp, ?_⟩
  have em : mergeK [] [(key, u)] = [(key, u)] := rfl
  rw [em]
  refine p (w2.tell D (.dK [(key, u)]) (.dK [(key, y)])) (.ref w2.ph.length) _ (Step.tell o (s0.trans s02) hD) (o2.tell bl ⟨_, upd_same, repk_tell bl (.cons ru .nil)⟩) (.ref ?_) q
  show (w2.μ.num ++ [D])[w2.ph.length]? = some D
  rw [← o2.len, List.getElem?_append_right (Nat.le_refl _), Nat.sub_self]; rfl
/-! ### items -/
theorem s_idx (ha : SE L N sc a ea) (hb : SE L N sc b eb) (hp : PlainIx b := by intro _ _; rfl) : SE L N sc (.Subscript a b pos) (.idx ea eb) := by
  intro k X W I
  obtain ⟨ta, h1, h2⟩ := ha k X W I
  obtain ⟨tb, h3, h4⟩ := hb k X W I
  refine ⟨_, pe_ix (idx_ok (X := X) (by have := I.hu; omega)) h1 h3 hp, fun w env σ Q QX Q' o r px q p => ?_⟩
  refine h2 w env σ _ _ _ o r px q fun w1 x v s1 o1 rv q => ?_
  refine h4 w1 env σ _ _ _ o1 (r.step s1 o) (px.step s1) q fun w2 y u s2 o2 ru q => ?_
  exact ⟨w2, x, y, Q, rfl, o2, s2.rep o1 rv, ru, q, (p.step s1).step s2⟩
theorem o_none : SO L N sc none none := fun k X W I => ⟨_, po_none, fun w env σ Q QX Q' o r px q p => p w _ (Step.refl w) o q⟩
theorem o_some (ha : SE L N sc a ea) : SO L N sc (some a) (some ea) := by
  intro k X W I
  obtain ⟨ta, h1, h2⟩ := ha k X W I
  refine ⟨_, po_some h1, fun w env σ Q QX Q' o r px q p => ?_⟩
  refine h2 w env σ _ _ _ o r px q fun w1 x v s1 o1 rv q => ?_
  obtain ⟨i, rfl, q⟩ := q
  cases rv
  exact ⟨i, rfl, p _ _ s1 o1 q⟩
theorem s_sl {lo hi : Option Expr} {elo ehi : Option E} {own : Bool} {p2 : Pos} (ha : SE L N sc a ea) (hl : SO L N sc lo elo) (hh : SO L N sc hi ehi) : SE L N sc (.Subscript a (.Slice lo hi none p2) pos) (.sl own ea elo ehi) := by
  intro k X W I
  obtain ⟨ta, h1, h2⟩ := ha k X W I
  obtain ⟨tl, h3, h4⟩ := hl k X W I
  obtain ⟨th, h5, h6⟩ := hh k X W I
  refine ⟨_, pe_slice (sl_ok (X := X) own) h1 h3 h5, fun w env σ Q QX Q' o r px q p => ?_⟩
  refine h2 w env σ _ _ _ o r px q fun w1 x v s1 o1 rv q => ?_
  refine h4 w1 env σ _ _ _ o1 (r.step s1 o) (px.step s1) q fun w2 l s2 o2 q => ?_
  refine h6 w2 env σ _ _ _ o2 ((r.step s1 o).step s2 o1) ((px.step s1).step s2) q fun w3 h s3 o3 q => ?_
  exact ⟨w3, x, Q, rfl, o3, (s2.trans s3).rep o1 rv, q, ((p.step s1).step s2).step s3⟩
theorem s_rev {own : Bool} {k0 : Nat} {p1 p2 p3 : Pos} (ha : SE L N sc a ea) : SE L N sc (.Subscript a (.Slice none none (some (.UnaryOp .USub (.Constant (.int 1) k0 p1) p2)) p3) pos) (.rev own ea) := by
  intro k X W I
  obtain ⟨ta, h1, h2⟩ := ha k X W I
  refine ⟨_, pe_revL h1, fun w env σ Q QX Q' o r px q p => ?_⟩
  refine h2 w env σ _ _ _ o r px q fun w1 x v s1 o1 rv q => ?_
  obtain ⟨xs, e, q⟩ := q
  obtain ⟨l, vs, rfl, e1, r1⟩ := lst_at o1 e rv
  exact ⟨l, vs, rfl, SqL.of e1, (p.step s1).lst o1 r1.reverse q⟩
/-! ### calls of defs -/
theorem PostX.at {K : PySem.W.Frag} {mg : Str → Option Value} {pg : Pg} {w : Wd} {Q : QX} {W : WX} (p : PostX K mg pg w Q W) (σ : L2.St) : PostX K mg pg w Q (fun cls d _ H => WE W σ cls d H) := fun w' x c d _ s' o r q => p w' x c d σ s' o r q
theorem run_g {X : Cx} {W : WX} {k : Nat} {f : Addr} {fd : FuncData} {ps : List Str} {sp : Sp} {pins : List (Addr × Obj)} {σ : L2.St} {H : Hp} {s : Shared} {Q : VK} {args : Args} {us : List Value} {vs : List V} (F : FnG X.prog X.w X.K X.mg X.base k f fd ps sp) (hg : X.A.guards = some []) (tk : Takes X W) (hr : Room k X.A)
    (hb : us.length = ps.length → BindsTo s fd args (ps.zip us)) (I : Inv X pins σ H s) (r : Vals vs us) (h : sp vs H Q (WE W σ)) : codeAny (model X.prog X.w) X.A (.call (.ref f) args) (fun r s' => match r with | .ok (.ret u) => EP X pins σ Q u s' | .error e => X.xe e s' | _ => False) s := by
  have hl : us.length = ps.length := by rw [← r.length]; exact F.len _ _ _ _ h
  refine codeAny_mono (F.run X.A X.stack s H args us vs Q (WE W σ) hg hr I.env0 (hb hl) r h) fun r s' hq => ?_
  cases r with
  | error e => exact passAt tk σ pins H s e s' I hq
  | ok fl =>
    cases fl with
    | ret u => exact I.after hq
    | next => exact False.elim hq
    | brk => exact False.elim hq
    | cont => exact False.elim hq
theorem run_g' {X : Cx} {W : WX} {k : Nat} {f : Addr} {fd : FuncData} {ps : List Str} {sp : Sp} {pins : List (Addr × Obj)} {σ : L2.St} {H : Hp} {s : Shared} {Q : VK} {us0 : List Value} {kw : List (Str × Value)} {us : List Value} {vs : List V} (F : FnG X.prog X.w X.K X.mg X.base k f fd ps sp) (hg : X.A.guards = some []) (tk : Takes X W) (hr : Room k X.A)
    (hb : us.length = ps.length → BindsTo s fd ⟨us0, kw⟩ (ps.zip us)) (I : Inv X pins σ H s) (r : Vals vs us) (h : sp vs H Q (WE W σ)) : wpAny (model X.prog X.w) X.A (call (.ref f) us0 kw) (EP X pins σ Q) X.xe s := by
  refine wpAny_call (codeAny_mono (run_g F hg tk hr hb I r h) fun r s' hq => ?_)
  cases r with
  | error e => exact hq
  | ok fl =>
    cases fl with
    | ret u => exact hq
    | next => exact False.elim hq
    | brk => exact False.elim hq
    | cont => exact False.elim hq
/-- how a def's arguments bind -/
def BindOk (d : Df) (st : Stmt) (n : Nat) (ks : List Str) (perm : List Nat) : Prop :=
  ∀ (kV doc pm : Value) (an : Option Addr) (cdv ct : Value) (us ws : List Value), us.length = n → ws.length = ks.length →
    ∃ as, perm.map (fun j => (us ++ ws)[j]?) = as.map some ∧ bindArgs (PySem.W.fnOf d.name d.name (defArgs st) (defBody st) (defScope st) .none kV doc pm an cdv ct) ⟨us, ks.zip ws⟩ = pure (d.ps.zip as)
theorem pick_reps {K : PySem.W.Frag} {H : Hp} {μ : Mu} {zs : List PV} {vs : List V} (r : Reps K H μ zs vs) : ∀ {perm : List Nat} {as : List PV}, pickL zs perm = some as → ∃ bs, perm.map (fun j => vs[j]?) = bs.map some ∧ Reps K H μ as bs
  | [], as, e => by cases e; exact ⟨[], rfl, .nil⟩
  | j :: l, as, e => by
    simp only [pickL] at e
    cases e1 : zs[j]? with
    | none => rw [e1] at e; simp at e
    | some x =>
      cases e2 : pickL zs l with
      | none => rw [e1, e2] at e; simp at e
      | some ls =>
        rw [e1, e2] at e; simp at e; subst e
        obtain ⟨v, hv, rv⟩ := r.get e1
        obtain ⟨bs, hb, rb⟩ := pick_reps r e2
        exact ⟨v :: bs, by simp [hv, hb], .cons rv rb⟩
theorem pick_vals {vs : List V} {us : List Value} (r : Vals vs us) : ∀ {perm : List Nat} {bs : List V} {cs : List Value}, perm.map (fun j => vs[j]?) = bs.map some → perm.map (fun j => us[j]?) = cs.map some → Vals bs cs
  | [], [], [], _, _ => .nil
  | [], [], _ :: _, _, e => by simp at e
  | [], _ :: _, _, e, _ => by simp at e
  | _ :: _, [], _, e, _ => by simp at e
  | _ :: _, _ :: _, [], _, e => by simp at e
  | j :: l, b :: bs, c :: cs, e, e' => by
    simp only [List.map_cons, List.cons.injEq] at e e'
    obtain ⟨u, hu, rv⟩ := r.get e.1
    rw [hu] at e'
    cases e'.1
    exact .cons rv (pick_vals r e.2 e'.2)
theorem map_some_inj {α : Type} : ∀ {xs ys : List α}, xs.map some = ys.map some → xs = ys
  | [], [], _ => rfl
  | [], _ :: _, e => by simp at e
  | _ :: _, [], e => by simp at e
  | x :: xs, y :: ys, e => by
    simp only [List.map_cons, List.cons.injEq, Option.some.injEq] at e
    rw [e.1, map_some_inj e.2]
theorem bind_to {K : PySem.W.Frag} {d : Df} {st : Stmt} {f : Addr} {fd : FuncData} {n : Nat} {ks : List Str} {perm : List Nat} (F : Fun K d.name d.name st f fd) (hb : BindOk d st n ks perm) {s : Shared} {us ws cs : List Value} (h1 : us.length = n) (h2 : ws.length = ks.length) (hc : perm.map (fun j => (us ++ ws)[j]?) = cs.map some) :
    BindsTo s fd ⟨us, ks.zip ws⟩ (d.ps.zip cs) := by
  obtain ⟨oc, od, kV, doc, pm, an, cdv, ct, osl, rfl, lk, hcd⟩ := F.ex
  obtain ⟨as, e1, e2⟩ := hb kV doc pm an cdv ct us ws h1 h2
  have : as = cs := map_some_inj (e1.symm.trans hc)
  subst this
  exact .of_eq e2
theorem map_get_self {α : Type} : ∀ (us : List α), (List.range us.length).map (fun j => us[j]?) = us.map some := fun us => by
  apply List.ext_getElem?
  intro i
  simp [List.getElem?_map, List.getElem?_range]
  by_cases h : i < us.length
  · simp [h]
  · simp [h]
theorem vals_len {vs : List V} {us : List Value} (r : Vals vs us) : us.length = vs.length := r.length.symm
/-- f(e, ..) -/
theorem s_call (f : Nat) {d : Df} {st : Stmt} {x : Str} (hd : L.pg.defs[f]? = some d) (hst : L.sts[f]? = some st) (hb : BindOk d st es.length [] (List.range es.length)) (hx : d.name = x) (hg : sc.names.lookup x = some .globalImplicit) (h : SA L N sc (a :: xs) es)
    (hdb : (x == ("__debug__" : Str)) = false := by decide) (he : ∀ env, starEach (a :: xs) env = (false, eval a env) :: starEach xs env := by intro _; rfl) (hpl : ∀ env, (backTo pos (starEach xs env)).any (·.1) = false := by intro _; rfl) :
    SE L N sc (.Call (.Name x p) (a :: xs) [] pos) (.call f es) := by
  intro k X W I
  subst hx
  obtain ⟨ta, h1, h2⟩ := h k X W I
  obtain ⟨fa, fd, hm, F, hF⟩ := I.calls f d st hd hst
  refine ⟨fun σ H Q => ta σ H fun vs H1 => vs.length = es.length ∧ spD X.K X.mg L.pg k f vs H1 Q (WE W σ), ⟨fun pins s σ H Q J hq => ?_⟩, fun w env σ Q QX Q' o r px q p => ?_⟩
  · refine wpAny_Call_Name_kw (ld_glob J (gl_of I hg) hm ?_ hdb)
    refine PySem.W.callWith_K (h₀ := X.base) J.ok.mod.kin F.kp (thn (h1.run pos pins s σ H _ J hq) fun us s1 ⟨vs, H1, J1, r, hl, q⟩ => ⟨J1.kIn, ?_⟩) (he _) (hpl _)
    have e : us.length = es.length := by rw [vals_len r]; exact hl
    exact run_g' hF I.guards I.tk I.room (fun _ => bind_to (ws := []) F hb e rfl (by rw [← e, List.append_nil]; exact map_get_self us)) J1 r q
  · refine h2 w env σ _ _ _ o r px q fun w1 ys vs s1 o1 rs hl q => ?_
    exact ⟨by rw [rs.length]; exact hl, w1, ys, Q, QX, rfl, o1, rs, (px.step s1).at σ, q, p.step s1⟩
/-- f() -/
theorem s_call0 (f : Nat) {d : Df} {st : Stmt} {x : Str} (hd : L.pg.defs[f]? = some d) (hst : L.sts[f]? = some st) (hb : BindOk d st 0 [] []) (hx : d.name = x) (hg : sc.names.lookup x = some .globalImplicit)
    (hdb : (x == ("__debug__" : Str)) = false := by decide) : SE L N sc (.Call (.Name x p) [] [] pos) (.call f []) := by
  intro k X W I
  subst hx
  obtain ⟨fa, fd, hm, F, hF⟩ := I.calls f d st hd hst
  refine ⟨fun σ H Q => spD X.K X.mg L.pg k f [] H Q (WE W σ), ⟨fun pins s σ H Q J hq => ?_⟩, fun w env σ Q QX Q' o r px q p => ?_⟩
  · refine wpAny_Call_Name_kw (ld_glob J (gl_of I hg) hm ?_ hdb)
    refine PySem.W.callWith_K0 J.kIn F.kp ?_
    exact run_g' (us := []) hF I.guards I.tk I.room (fun _ => bind_to (us := []) (ws := []) F hb rfl rfl rfl) J .nil hq
  · exact ⟨w, [], Q, QX, rfl, o, .nil, px.at σ, q, p⟩
/-! keywords -/
def SK (L : Lw) (N : List Str) (sc : Scope) (kws : List Keyword) (es : List E) : Prop := ∀ k X W, In L k N sc X W → ∃ t, PK X kws t ∧ ∀ (w : Wd) env σ Q QX Q', Ok X.K w → REnv X.K w env σ → PostX X.K X.mg L.pg w QX W → wpEs (callK L.pg k) L.G QX es env w.ph Q → PostL X.K w es.length Q Q' → t σ w.H Q'
theorem k_nil : SK L N sc [] [] := fun k X W I => ⟨_, pk_nil, fun w env σ Q QX Q' o r px q p => p w _ _ (Step.refl w) o .nil rfl q⟩
theorem k_cons {nm : Option Str} {kpos : Pos} {kws : List Keyword} (ha : SE L N sc a ea) (hr : SK L N sc kws es) : SK L N sc (⟨nm, a, kpos⟩ :: kws) (ea :: es) := by
  intro k X W I
  obtain ⟨ta, h1, h2⟩ := ha k X W I
  obtain ⟨tr, h3, h4⟩ := hr k X W I
  refine ⟨_, pk_cons h1 h3, fun w env σ Q QX Q' o r px q p => ?_⟩
  refine h2 w env σ _ _ _ o r px q fun w1 x v s1 o1 rv q => ?_
  refine h4 w1 env σ _ _ _ o1 (r.step s1 o) (px.step s1) q fun w2 ys vs s2 o2 rs hl q => ?_
  exact p w2 _ _ (s1.trans s2) o2 (.cons (s2.rep o1 rv) rs) (by simp [hl]) q
theorem picked {α : Type} {xs : List α} : ∀ {perm : List Nat}, (∀ j ∈ perm, j < xs.length) → ∃ cs : List α, perm.map (fun j => xs[j]?) = cs.map some
  | [], _ => ⟨[], rfl⟩
  | j :: l, h => by
    obtain ⟨cs, e⟩ := picked (perm := l) fun i hi => h i (List.mem_cons_of_mem _ hi)
    have hj := h j (List.mem_cons_self ..)
    exact ⟨xs[j] :: cs, by simp [e, hj]⟩
theorem pick_lt {zs : List PV} : ∀ {perm : List Nat} {as : List PV}, pickL zs perm = some as → ∀ j ∈ perm, j < zs.length
  | [], _, _ => by simp
  | j :: l, as, e => by
    simp only [pickL] at e
    cases e1 : zs[j]? with
    | none => rw [e1] at e; simp at e
    | some x =>
      cases e2 : pickL zs l with
      | none => rw [e1, e2] at e; simp at e
      | some ls =>
        intro i hi
        rcases List.mem_cons.mp hi with rfl | hi
        · exact (List.getElem?_eq_some_iff.mp e1).1
        · exact pick_lt e2 i hi
theorem callk_end {X : Cx} {k f : Nat} {d : Df} {st : Stmt} {fa : Addr} {fd : FuncData} {ks : List Str} {perm : List Nat} {n : Nat} {W : WX} (I : In L k N sc X W) (F : Fun X.K d.name d.name st fa fd) (hF : FnG X.prog X.w X.K X.mg X.base k fa fd d.ps (spD X.K X.mg L.pg k f)) (hb : BindOk d st n ks perm)
    {pins : List (Addr × Obj)} {σ : L2.St} {H : Hp} {s : Shared} {Q : VK} {us ws : List Value} {vs zs : List V} (J : Inv X pins σ H s) (r : Vals vs us) (rz : Vals zs ws) (h1 : vs.length = n) (h2 : zs.length = ks.length)
    (q : ∃ bs, perm.map (fun j => (vs ++ zs)[j]?) = bs.map some ∧ spD X.K X.mg L.pg k f bs H Q (WE W σ)) : wpAny (model X.prog X.w) X.A (call (.ref fa) us (ks.zip ws)) (EP X pins σ Q) X.xe s := by
  obtain ⟨bs, e, q⟩ := q
  have rr : Vals (vs ++ zs) (us ++ ws) := r.append rz
  have hlt : ∀ j ∈ perm, j < (us ++ ws).length := fun j hj => by
    have : (vs ++ zs)[j]? ∈ perm.map (fun j => (vs ++ zs)[j]?) := List.mem_map_of_mem hj
    rw [e] at this
    obtain ⟨b, _, eb⟩ := List.mem_map.mp this
    have := (List.getElem?_eq_some_iff.mp eb.symm).1
    rw [← rr.length]; exact this
  obtain ⟨cs, ec⟩ := picked hlt
  exact run_g' (us := cs) hF I.guards I.tk I.room (fun _ => bind_to F hb (by rw [vals_len r]; exact h1) (by rw [vals_len rz]; exact h2) ec) J (pick_vals rr e ec) q
/-- f(e, .., k = e, ..) -/
theorem s_callk (f : Nat) {d : Df} {st : Stmt} {x : Str} {ks : List Str} {perm : List Nat} {kes : List E} {kws : List Keyword} (hd : L.pg.defs[f]? = some d) (hst : L.sts[f]? = some st) (hb : BindOk d st es.length ks perm) (hx : d.name = x) (hg : sc.names.lookup x = some .globalImplicit) (h : SA L N sc (a :: xs) es) (hk : SK L N sc kws kes)
    (hks : ∀ env, (backToKw pos (keywordEach kws env)).filterMap (·.1) = ks := by intro _; rfl) (hl : kes.length = ks.length := by rfl) (hall : ∀ env, (backToKw pos (keywordEach kws env)).all (·.1.isSome) = true := by intro _; rfl)
    (hdb : (x == ("__debug__" : Str)) = false := by decide) (he : ∀ env, starEach (a :: xs) env = (false, eval a env) :: starEach xs env := by intro _; rfl)
    (hpl : ∀ env, ((backTo pos (starEach (a :: xs) env)).any (·.1) || (backToKw pos (keywordEach kws env)).any (·.1.isNone)) = false := by intro _; rfl) :
    SE L N sc (.Call (.Name x p) (a :: xs) kws pos) (.callk f es kes perm) := by
  intro k X W I
  subst hx
  obtain ⟨ta, h1, h2⟩ := h k X W I
  obtain ⟨tk, h3, h4⟩ := hk k X W I
  obtain ⟨fa, fd, hm, F, hF⟩ := I.calls f d st hd hst
  refine ⟨fun σ H Q => ta σ H fun vs H1 => vs.length = es.length ∧ tk σ H1 fun zs H2 => zs.length = ks.length ∧ ∃ bs, perm.map (fun j => (vs ++ zs)[j]?) = bs.map some ∧ spD X.K X.mg L.pg k f bs H2 Q (WE W σ), ⟨fun pins s σ H Q J hq => ?_⟩, fun w env σ Q QX Q' o r px q p => ?_⟩
  · refine wpAny_Call_Name_kw (ld_glob J (gl_of I hg) hm ?_ hdb)
    refine PySem.W.callWith_KW (h₀ := X.base) J.ok.mod.kin F.kp (hall _) (thn (h1.run pos pins s σ H _ J hq) fun us s1 ⟨vs, H1, J1, r, e1, q⟩ => ?_) (hpl _) (he _)
    refine thn (h3.run pos pins s1 σ H1 _ J1 q) fun ws s2 ⟨zs, H2, J2, rz, e2, q⟩ => ⟨J2.kIn, ?_⟩
    rw [hks]
    exact callk_end I F hF hb J2 r rz e1 e2 q
  · refine h2 w env σ _ _ _ o r px q fun w1 ys vs s1 o1 rs e1 q => ?_
    refine ⟨by rw [rs.length]; exact e1, h4 w1 env σ _ _ _ o1 (r.step s1 o) (px.step s1) q fun w2 yz zs s2 o2 rz e2 q => ?_⟩
    obtain ⟨as, e3, q⟩ := q
    obtain ⟨bs, e4, rb⟩ := pick_reps ((s2.reps o1 rs).append rz) e3
    exact ⟨by rw [rz.length, e2]; exact hl, bs, e4, w2, as, Q, QX, rfl, o2, rb, ((px.step s1).step s2).at σ, q, (p.step s1).step s2⟩
/-- f(k = e, ..) -/
theorem s_callk0 (f : Nat) {d : Df} {st : Stmt} {x : Str} {ks : List Str} {perm : List Nat} {kes : List E} {kws : List Keyword} (hd : L.pg.defs[f]? = some d) (hst : L.sts[f]? = some st) (hb : BindOk d st 0 ks perm) (hx : d.name = x) (hg : sc.names.lookup x = some .globalImplicit) (hk : SK L N sc kws kes)
    (hks : ∀ env, (backToKw pos (keywordEach kws env)).filterMap (·.1) = ks := by intro _; rfl) (hl : kes.length = ks.length := by rfl) (hall : ∀ env, (backToKw pos (keywordEach kws env)).all (·.1.isSome) = true := by intro _; rfl)
    (hdb : (x == ("__debug__" : Str)) = false := by decide)
    (hpl : ∀ env, ((backTo pos (starEach [] env)).any (·.1) || (backToKw pos (keywordEach kws env)).any (·.1.isNone)) = false := by intro _; rfl) :
    SE L N sc (.Call (.Name x p) [] kws pos) (.callk f [] kes perm) := by
  intro k X W I
  subst hx
  obtain ⟨tk, h3, h4⟩ := hk k X W I
  obtain ⟨fa, fd, hm, F, hF⟩ := I.calls f d st hd hst
  refine ⟨fun σ H Q => tk σ H fun zs H2 => zs.length = ks.length ∧ ∃ bs, perm.map (fun j => (([] : List V) ++ zs)[j]?) = bs.map some ∧ spD X.K X.mg L.pg k f bs H2 Q (WE W σ), ⟨fun pins s σ H Q J hq => ?_⟩, fun w env σ Q QX Q' o r px q p => ?_⟩
  · refine wpAny_Call_Name_kw (ld_glob J (gl_of I hg) hm ?_ hdb)
    refine PySem.W.callWith_KW0 (h₀ := X.base) J.ok.mod.kin F.kp (hall _) (thn (h3.run pos pins s σ H _ J hq) fun ws s2 ⟨zs, H2, J2, rz, e2, q⟩ => ⟨J2.kIn, ?_⟩) (hpl _)
    rw [hks]
    exact callk_end (us := []) (vs := []) I F hF hb J2 .nil rz rfl e2 q
  · have q' : wpEs (callK L.pg k) L.G QX kes env w.ph fun zs ph2 => ∃ as, pickL ([] ++ zs) perm = some as ∧ callK L.pg k f as ph2 Q QX := q
    refine h4 w env σ _ _ _ o r px q' fun w2 yz zs s2 o2 rz e2 q => ?_
    obtain ⟨as, e3, q⟩ := q
    obtain ⟨bs, e4, rb⟩ := pick_reps (vs := [] ++ zs) rz e3
    exact ⟨by rw [rz.length, e2]; exact hl, bs, e4, w2, as, Q, QX, rfl, o2, rb, (px.step s2).at σ, q, p.step s2⟩
end
end RL

/-! RLSound3: built-in functions, methods. -/
namespace RL
open PySem PySem.Spec PyProof.Rows L2
section
variable {L : Lw} {N : List Str} {sc : Scope} {a b c : Expr} {xs : List Expr} {es : List E} {ea eb ec : E} {pos p : Pos}
def biT : Bi → Option String
  | .tuple => some "tuple" | .list => some "list" | .int => some "int" | .str => some "str"
  | _ => none
def biB : Bi → Option String
  | .len => some "len" | .repr => some "repr" | .sum => some "sum" | .min => some "min" | .max => some "max" | .abs => some "abs" | .sorted => some "sorted" | .all => some "all" | .any => some "any"
  | _ => none
theorem bi_ok {k : Nat} {X : Cx} {W : WX} (I : In L k N sc X W) (b : Bi) (own : Bool) : CallR X (biF b) (liftN X.K (biS b own)) := by
  have hu := I.hu
  cases b with
  | len => exact len_ok own
  | tuple => exact tuple_ok own
  | list => exact list_ok own
  | int => exact int_ok own
  | repr => exact repr_ok I.sys I.guards (by omega) own
  | sum => exact sum_ok I.calm own
  | min => exact min_ok I.calm own
  | max => exact max_ok I.calm own
  | abs => exact abs_ok own
  | sorted => exact sorted_ok (by omega) own
  | all => exact all_ok I.calm own
  | any => exact any_ok I.calm own
  | str => exact str_ok own
  | set => exact fun pins s σ H xs us Q I r h => by obtain ⟨w, as, Q, rfl, o, r, h, p⟩ := h; exact h.elim
theorem liftN_end {X : Cx} {w w1 : Wd} {b : Bi} {own : Bool} {ys : List PV} {vs : List V} {Q : QV} {Q' : VK} (s1 : Step w w1) (o1 : Ok X.K w1) (rs : Reps X.K w1.H w1.μ ys vs) (q : biS b own ys w1.ph Q) (p : Post X.K w Q Q') : liftN X.K (biS b own) vs w1.H Q' := ⟨w1, ys, Q, rfl, o1, rs, q, p.step s1⟩
/-- len(..), .. -/
theorem s_bi (b : Bi) {own : Bool} {x : Str} {id : String} (hb : biF b = .builtin id) (hv : bootBuiltins x = some (.builtin id)) (hg : sc.names.lookup x = some .globalImplicit) (h : SA L N sc (a :: xs) es) (hx : x ∈ bnames := by decide) (hn : x ≠ "__name__" := by decide) (hdb : (x == ("__debug__" : Str)) = false := by decide)
    (he : ∀ env, starEach (a :: xs) env = (false, eval a env) :: starEach xs env := by intro _; rfl) (hpl : ∀ env, (backTo pos (starEach xs env)).any (·.1) = false := by intro _; rfl) : SE L N sc (.Call (.Name x p) (a :: xs) [] pos) (.bi b own es) := by
  intro k X W I
  obtain ⟨ta, h1, h2⟩ := h k X W I
  have hc := bi_ok I b own
  rw [hb] at hc
  refine ⟨_, pe_callB hc (gl_of I hg) (I.blt x hx) hv h1 hn hdb (he _) (hpl _), fun w env σ Q QX Q' o r px q p => ?_⟩
  exact h2 w env σ _ _ _ o r px q fun w1 ys vs s1 o1 rs _ q => liftN_end s1 o1 rs q p
theorem s_ty (b : Bi) {own : Bool} {x : Str} {id : String} (hb : biF b = .type id) (hv : bootBuiltins x = some (.type id)) (hg : sc.names.lookup x = some .globalImplicit) (h : SA L N sc (a :: xs) es) (hx : x ∈ bnames := by decide) (hn : x ≠ "__name__" := by decide) (hdb : (x == ("__debug__" : Str)) = false := by decide)
    (he : ∀ env, starEach (a :: xs) env = (false, eval a env) :: starEach xs env := by intro _; rfl) (hpl : ∀ env, (backTo pos (starEach xs env)).any (·.1) = false := by intro _; rfl) : SE L N sc (.Call (.Name x p) (a :: xs) [] pos) (.bi b own es) := by
  intro k X W I
  obtain ⟨ta, h1, h2⟩ := h k X W I
  have hc := bi_ok I b own
  rw [hb] at hc
  refine ⟨_, pe_callTy hc (gl_of I hg) (I.blt x hx) hv h1 hn hdb (he _) (hpl _), fun w env σ Q QX Q' o r px q p => ?_⟩
  exact h2 w env σ _ _ _ o r px q fun w1 ys vs s1 o1 rs _ q => liftN_end s1 o1 rs q p
theorem tyV_lst {X : Cx} {w : Wd} (o : Ok X.K w) {x : PV} {v : V} (h : (lstOf w.ph x).isSome = true) (r : Rep X.K w.H w.μ x v) : tyV X.K "list" v w.H := by
  obtain ⟨xs, e⟩ := Option.isSome_iff_exists.mp h
  obtain ⟨q, vs, rfl, e1, _⟩ := lst_at o e r
  exact .inl ⟨rfl, vs, SqL.of e1⟩
theorem mt_slot (m : Mt) : ∃ n : Str, Slot "list" n (mtN m) ∧ typeOf (.builtin (mtN m)) = pure (.type "method_descriptor") := by
  cases m with
  | append => exact ⟨_, PySem.F.slot_list_append, PySem.F.type_list_append⟩
  | pop => exact ⟨_, PySem.F.slot_list_pop, PySem.F.type_list_pop⟩
  | popAt => exact ⟨_, PySem.F.slot_list_pop, PySem.F.type_list_pop⟩
  | extend => exact ⟨_, PySem.F.slot_list_extend, PySem.F.type_list_extend⟩
  | index => exact ⟨_, PySem.F.slot_list_index, PySem.F.type_list_index⟩
  | count => exact ⟨_, PySem.F.slot_list_count, PySem.F.type_list_count⟩
/-- xs.append(..), .. -/
theorem s_mt (m : Mt) {n : Str} {apos : Pos} (slot : Slot "list" n (mtN m)) (hty : typeOf (.builtin (mtN m)) = pure (.type "method_descriptor")) (ha : SE L N sc a ea) (h : SA L N sc (b :: xs) es)
    (hbase : ∀ env, attributeBase a n env (eval a env) = eval a env := by intro _; rfl)
    (hfew : ∀ env, ((backTo pos (starEach (b :: xs) env)).all (fun x => !x.1) && (backToKw pos (keywordEach [] env)).all (fun x => x.1.isSome)
      && decide ((b :: xs).length + ([] : List Keyword).length + (if ([] : List Keyword).isEmpty then 0 else 1) < 30)) = true := by intro _; rfl)
    (hline : (apos.endLine == pos.line) = true := by rfl) (hs : ∀ env, starEach (b :: xs) env = (false, eval b env) :: starEach xs env := by intro _; rfl) (hplain : ∀ env, (backTo pos (starEach xs env)).any (·.1) = false := by intro _; rfl) :
    SE L N sc (.Call (.Attribute a n apos) (b :: xs) [] pos) (.mt m ea es) := by
  intro k X W I
  obtain ⟨ta, h1, h2⟩ := ha k X W I
  obtain ⟨tb, h3, h4⟩ := h k X W I
  refine ⟨_, pe_bm PySem.F.plainAttrs_list slot hty (mt_ok (X := X) I.hu m) h1 h3 (hbase _) (hfew _) hline (hs _) (hplain _), fun w env σ Q QX Q' o r px q p => ?_⟩
  refine h2 w env σ _ _ _ o r px q fun w1 x v s1 o1 rv q => ⟨tyV_lst o1 q.1 rv, ?_⟩
  refine h4 w1 env σ _ _ _ o1 (r.step s1 o) (px.step s1) q.2 fun w2 ys vs s2 o2 rs hl q => ?_
  exact ⟨w2, x, ys, Q, rfl, o2, s2.rep o1 rv, rs, q, (p.step s1).step s2⟩
theorem s_mt0 (m : Mt) {n : Str} {apos : Pos} (slot : Slot "list" n (mtN m)) (hty : typeOf (.builtin (mtN m)) = pure (.type "method_descriptor")) (ha : SE L N sc a ea)
    (hbase : ∀ env, attributeBase a n env (eval a env) = eval a env := by intro _; rfl) (hline : (apos.endLine == pos.line) = true := by rfl) :
    SE L N sc (.Call (.Attribute a n apos) [] [] pos) (.mt m ea []) := by
  intro k X W I
  obtain ⟨ta, h1, h2⟩ := ha k X W I
  refine ⟨_, pe_bm0 PySem.F.plainAttrs_list slot hty (mt_ok (X := X) I.hu m) h1 (hbase _) hline, fun w env σ Q QX Q' o r px q p => ?_⟩
  refine h2 w env σ _ _ _ o r px q fun w1 x v s1 o1 rv q => ⟨tyV_lst o1 q.1 rv, ?_⟩
  exact ⟨w1, x, [], Q, rfl, o1, rv, .nil, q.2, p.step s1⟩
/-- isinstance(x, T) -/
theorem s_isin (ty : Ty) {x : Str} {pt : Pos} (hg : sc.names.lookup ("isinstance" : Str) = some .globalImplicit) (hgt : sc.names.lookup x = some .globalImplicit) (hv : bootBuiltins x = some (.type (tyN ty))) (ha : SE L N sc a ea) (hx : x ∈ bnames := by decide) (hn : x ≠ "__name__" := by decide) (hdb : (x == ("__debug__" : Str)) = false := by decide)
    (he : ∀ env, starEach [a, .Name x pt] env = (false, eval a env) :: starEach [.Name x pt] env := by intro _; rfl) : SE L N sc (.Call (.Name "isinstance" p) [a, .Name x pt] [] pos) (.isin ea ty) := by
  intro k X W I
  obtain ⟨ta, h1, h2⟩ := ha k X W I
  have hT : PE X (.Name x pt) (tC (.ty (tyN ty))) := pe_bltn (gl_of I hgt) (I.blt x hx) hv rfl hn hdb
  refine ⟨_, pe_callB call_isi (gl_of I hg) (I.blt "isinstance" (by decide)) PyProof.Rows.boot_isinstance (pa_cons h1 (pa_cons hT pa_nil (by rfl)) (he _)) (by decide) (by decide) (he _) (by rfl), fun w env σ Q QX Q' o r px q p => ?_⟩
  refine h2 w env σ _ _ _ o r px q fun w1 y v s1 o1 rv q => ?_
  obtain ⟨t, e1, ty1⟩ := pvT_ty o1 rfl rv
  exact ⟨v, .ty (tyN ty), .type t, .type (tyN ty), tyIs ty w1.ph y, rfl, .ty _, ty1, kit_ty (pvT_is e1 ty), p _ _ _ s1 o1 (.bl _) q⟩
/-! ### list(range(..)) -/
theorem rg_items {i j : Int} (h : rOk i j) : (rngL i j 1).length = (j - i).toNat ∧ ∀ (K : PySem.W.Frag) (H : Hp) (μ : Mu), Reps K H μ (rngL i j 1) (rgV i j) := by
  have e : (Builtin.Range.rangeSize i j 1).toNat = (j - i).toNat := by rw [rangeSize_one]; split <;> omega
  refine ⟨by simp [rngL, e], fun K H μ => ?_⟩
  unfold rngL rgV
  rw [e]
  refine reps_map fun b _ => ?_
  rw [Int.mul_one]
  exact .int _
theorem rg_ok {i j : Int} (h : rOk i j) (hl : (rngL i j 1).length ≤ 1000000) : RgOk i j := by
  rw [(rg_items h).1] at hl
  obtain ⟨a, b, c, d⟩ := h
  exact ⟨a, b, c, d, by omega⟩
def rgS (vs : List PV) (Q : Int → Int → Prop) : Prop := match vs with
  | [.int j] => Q 0 j
  | [.int i, .int j] => Q i j
  | _ => False
theorem rgS_of {vs : List PV} {items : List PV} {Q : Int → Int → Prop} (h1 : rng12 vs = some items) (h2 : ∀ i j, rOk i j → items = rngL i j 1 → Q i j) : rgS vs Q := by
  unfold rng12 at h1
  split at h1
  · split at h1
    · rename_i hr; cases h1; exact h2 _ _ hr rfl
    · cases h1
  · split at h1
    · rename_i hr; cases h1; exact h2 _ _ hr rfl
    · cases h1
  · cases h1
/-- range(a), range(a, b) -/
def SG (L : Lw) (N : List Str) (sc : Scope) (x : Expr) (es : List E) : Prop := ∀ k X W, In L k N sc X W → ∃ t, PRg X x t ∧ ∀ (w : Wd) env σ Q QX Q', Ok X.K w → REnv X.K w env σ → PostX X.K X.mg L.pg w QX W → wpEs (callK L.pg k) L.G QX es env w.ph Q →
  (∀ w' vs, Step w w' → Ok X.K w' → Q vs w'.ph → rgS vs fun i j => Q' i j w'.H) → t σ w.H Q'
theorem g_1 (hg : sc.names.lookup ("range" : Str) = some .globalImplicit) (ha : SE L N sc a ea) (na : ∀ env, starEach [a] env = (false, eval a env) :: starEach [] env := by intro _; rfl) : SG L N sc (.Call (.Name "range" p) [a] [] pos) [ea] := by
  intro k X W I
  obtain ⟨ta, h1, h2⟩ := ha k X W I
  refine ⟨_, prg_1 (gl_of I hg) (I.blt "range" (by decide)) h1 (na _), fun w env σ Q QX Q' o r px q p => ?_⟩
  refine h2 w env σ _ _ _ o r px q fun w1 y v s1 o1 rv q => ?_
  have := p w1 [y] s1 o1 q
  unfold rgS at this
  cases rv <;> first | exact this.elim | exact ⟨_, rfl, this⟩
theorem g_2 (hg : sc.names.lookup ("range" : Str) = some .globalImplicit) (ha : SE L N sc a ea) (hb : SE L N sc b eb) (na : ∀ env, starEach [a, b] env = (false, eval a env) :: starEach [b] env := by intro _; rfl)
    (nb : ∀ env, starEach [b] env = (false, eval b env) :: starEach [] env := by intro _; rfl) (hp : ∀ env, (backTo pos (starEach [b] env)).any (·.1) = false := by intro _; rfl) : SG L N sc (.Call (.Name "range" p) [a, b] [] pos) [ea, eb] := by
  intro k X W I
  obtain ⟨ta, h1, h2⟩ := ha k X W I
  obtain ⟨tb, h3, h4⟩ := hb k X W I
  refine ⟨_, prg_2 (gl_of I hg) (I.blt "range" (by decide)) h1 h3 (na _) (nb _) (hp _), fun w env σ Q QX Q' o r px q p => ?_⟩
  refine h2 w env σ _ _ _ o r px q fun w1 y v s1 o1 rv q => ?_
  refine h4 w1 env σ _ _ _ o1 (r.step s1 o) (px.step s1) q fun w2 z u s2 o2 ru q => ?_
  have := p w2 [y, z] (s1.trans s2) o2 q
  unfold rgS at this
  cases rv <;> first | exact this.elim | (cases ru <;> first | exact this.elim | exact ⟨_, _, rfl, rfl, this⟩)
theorem s_rngL {own : Bool} {x : Expr} (hg : sc.names.lookup ("list" : Str) = some .globalImplicit) (h : SG L N sc x es) (na : ∀ env, starEach [x] env = (false, eval x env) :: starEach [] env := by intro _; rfl) : SE L N sc (.Call (.Name "list" p) [x] [] pos) (.rng false own es) := by
  intro k X W I
  obtain ⟨t, h1, h2⟩ := h k X W I
  refine ⟨_, pe_listRg I.calm (gl_of I hg) (I.blt "list" (by decide)) h1 (na _), fun w env σ Q QX Q' o r px q p => ?_⟩
  refine h2 w env σ _ _ _ o r px q fun w1 vs s1 o1 q => ?_
  obtain ⟨xs, e, hl, q⟩ := q
  refine rgS_of e fun i j hr hx => ?_
  subst hx
  exact ⟨rg_ok hr hl, (p.step s1).lst o1 ((rg_items hr).2 _ _ _) (by simpa using q)⟩
theorem s_rngT {own : Bool} {x : Expr} (hg : sc.names.lookup ("tuple" : Str) = some .globalImplicit) (h : SG L N sc x es) (na : ∀ env, starEach [x] env = (false, eval x env) :: starEach [] env := by intro _; rfl) : SE L N sc (.Call (.Name "tuple" p) [x] [] pos) (.rng true own es) := by
  intro k X W I
  obtain ⟨t, h1, h2⟩ := h k X W I
  refine ⟨_, pe_tupRg I.calm (gl_of I hg) (I.blt "tuple" (by decide)) h1 (na _), fun w env σ Q QX Q' o r px q p => ?_⟩
  refine h2 w env σ _ _ _ o r px q fun w1 vs s1 o1 q => ?_
  obtain ⟨xs, e, hl, q⟩ := q
  refine rgS_of e fun i j hr hx => ?_
  subst hx
  exact ⟨rg_ok hr hl, (p.step s1).tup o1 ((rg_items hr).2 _ _ _) (by simpa using q)⟩
end
end RL

/-! RLSound4: walks. -/
namespace RL
open PySem PySem.Spec PyProof.Rows L2

/-! ### enumerate of a tuple -/
theorem enumNew1 {v : Value} {o : Obj} {H : Heap → Prop} (B : Begins v o H) :
    Meets (Builtin.«enumerate.__new__» ⟨[.type "enumerate", v], []⟩) (fun _ R s => H s.heap ∧
      R (.ok (.ret (.ref (s.heap.push o).objs.size))) { s with heap := (s.heap.push o).push { cls := .type "enumerate", data := .fields #[.none, .bool false, .ref s.heap.objs.size, rawInt 0, .none, .none] } }) :=
  .of_wp fun prog w A R s h => by
    obtain ⟨hp, g, d, tk, os⟩ := s
    obtain ⟨h1, h⟩ := h
    have hsub := sub_enumerate
    have q1 : ∀ {A' : Around} {E : Value → Shared → Prop} {Q : Value → Shared → Prop}, Q (.ref hp.objs.size) ⟨hp.push o, g, d, tk, os⟩ → wpAny (model prog w) A' (pyIter v) Q E ⟨hp, g, d, tk, os⟩ :=
      fun q => B.iter prog w _ _ ⟨hp, g, d, tk, os⟩ _ h1 q
    wp_walk using q1
    refine wpAny_stack_any fun st => wpAny_pure ?_
    split
    · rename_i c _ _ _ _ _
      cases (c == Value.type "enumerate") <;> (wp_walk using q1; exact ⟨_, rfl, h⟩)
    · wp_walk using q1
      exact ⟨_, rfl, h⟩
section
variable {prog : Program} {w : World} {A : Around} {E : Value → Shared → Prop} {s : Shared}
theorem enumCall1 {v : Value} {o : Obj} {H : Heap → Prop} {Q : Value → Shared → Prop} (B : Begins v o H) (h1 : H s.heap)
    (h : ∀ h', IsEnum h' (s.heap.objs.size + 1) s.heap.objs.size 0 .none → h'.get? s.heap.objs.size = some o → (∀ b o, s.heap.get? b = some o → h'.get? b = some o) → Q (.ref (s.heap.objs.size + 1)) { s with heap := h' }) :
    wpAny (model prog w) A (call (.type "enumerate") [v]) Q E s := by
  refine callType_new F.called_enumerate (by decide) (F.typeCall_enumerate_1 _) (F.newCall_enumerate_1 _) (fun obj => F.args_object_init_2 obj _) F.entry_enumerate_new (enumNew1 B) ⟨h1, ?_⟩
  have hz : (s.heap.push o).objs.size = s.heap.objs.size + 1 := Heap.size_push ..
  show _ ∧ _
  rw [hz]
  have he : ((s.heap.push o).push { cls := .type "enumerate", data := .fields #[.none, .bool false, .ref s.heap.objs.size, rawInt 0, .none, .none] }).get? (s.heap.push o).objs.size = some { cls := .type "enumerate", data := .fields #[.none, .bool false, .ref s.heap.objs.size, rawInt 0, .none, .none] } := Heap.get?_push_size _ rfl
  rw [hz] at he
  exact ⟨⟨_, he, rfl⟩, h _ he (Heap.get?_push_of_some _ (Heap.get?_push_size _ B.free)) fun b o x => Heap.get?_push_of_some _ (Heap.get?_push_of_some _ x)⟩
end
/-- the items of the tuple at a, in pairs -/
def IteT (K : PySem.W.Frag) (a : Addr) : It :=
  ⟨fun i H => ∃ (xs : List V) (x : V), SqT K H a xs ∧ xs[i]? = some x, fun i H v H' => ∃ T x, v = .ref T ∧ H T = none ∧ H' = upd H T (.tup [.int (i : Nat), x]) ∧ ∀ xs, SqT K H a xs → xs[i]? = some x, fun i H => ∃ xs : List V, SqT K H a xs ∧ xs.length = i⟩
theorem fp_out {X : Cx} {pins : List (Addr × Obj)} {σ : L2.St} {H : Hp} {s : Shared} (I : Inv X pins σ H s) {a it : Addr} {its : Array Value} (h : s.heap.IsTuple a its) {o : Obj} {c : String} (hi : s.heap.get? it = some o) (hc : o.cls = .type c) (ne : c ≠ "tuple") : a ≠ it := by
  rintro rfl
  obtain ⟨o', e, e2, _⟩ := h
  rw [hi] at e
  cases e
  rw [hc] at e2
  injection e2 with e2
  exact ne e2
theorem turn_enumT {P : Program} {w : World} {K : PySem.W.Frag} {elts : List Expr} {kk : Nat} {tpos : Pos} (a e it : Addr) :
    Turn P w K (.Tuple elts kk tpos) (IteT K a) [e, it] e (fun i h => (∃ old, IsEnum h e it ((i : Nat) : Int) old) ∧ h.IsTupleIter it a i ∧ e ≠ it) where
  mem := by simp
  obj := fun i h st b hb => by
    obtain ⟨⟨old, he⟩, ⟨o, ho, hc, hd⟩, _⟩ := st
    have e' : b = e ∨ b = it := by simpa using hb
    rcases e' with z | z
    · rw [z]; exact ⟨_, he, fun v q => nomatch q⟩
    · rw [z]; exact ⟨o, ho, fun v q => by rw [hd] at q; cases q⟩
  keep := fun i h h' st k => let ⟨⟨old, he⟩, hi, hne⟩ := st; ⟨⟨old, k e (by simp) _ he⟩, hi.at fun o q => k it (by simp) o q, hne⟩
  item := by
    intro X hP hw hK hc i pins s σ H E I hf st hg
    subst hP hw hK
    obtain ⟨⟨old, he⟩, hit, hne⟩ := st
    obtain ⟨xs, x, hq, hx⟩ := hg
    obtain ⟨its, rv, p, hz⟩ := I.tuple hq
    have hlt : i < its.toArray.size := by
      have := (List.getElem?_eq_some_iff.mp hx).1
      rw [List.size_toArray, ← rv.length]; exact this
    have hel : e < s.heap.objs.size := Heap.lt_size he
    have hne1 : a ≠ it := by obtain ⟨o, q, c, _⟩ := hit; exact fp_out I (show s.heap.IsTuple a its.toArray from p) q c (by decide)
    have hne2 : a ≠ e := fp_out I (show s.heap.IsTuple a its.toArray from p) (show s.heap.get? e = some _ from he) rfl (by decide)
    have D := Draws.tuple (prog := X.prog) (w := X.w) (A := X.A.in1) (I.ok.hd hc) it a hne1 its.toArray
    refine wpAny_pyNext_enum_itemD D he ⟨hit, p⟩ hlt hne (by simp; exact ⟨hne, Ne.symm hne2⟩) fun u h' tk hu ho hst hT hsz hk => ?_
    obtain ⟨hit', _⟩ := hst
    have hu' : its[i]? = some u := by simpa using hu
    have ru : RelV x u := by
      obtain ⟨u2, e2, r2⟩ := rv.get hx
      rw [hu'] at e2; cases e2; exact r2
    refine ⟨_, rfl, wpAny_letOwnedTupleGo_enum (s := { s with heap := h', toks := tk + 1 }) ho fun h'' he' sb => ?_⟩
    have hT2 : h''.get? s.heap.objs.size = some { cls := .type "tuple", data := .seq #[.int i tk, u] } := (sb.2 _ (Nat.ne_of_gt hel)).trans hT
    have new : ObjOk X.prog X.w (upd H s.heap.objs.size (.tup [.int (i : Nat), x])) h'' s.heap.objs.size (.tup [.int (i : Nat), x]) :=
      ⟨by show 2 ≤ sizeLine; decide, [.int i tk, u], .cons ⟨_, rfl⟩ (.cons ru .nil), ⟨_, hT2, rfl, _, rfl⟩⟩
    have I1 : Inv X pins σ (upd H s.heap.objs.size (.tup [.int (i : Nat), x])) { s with heap := h'', toks := tk + 1 } :=
      I.turnedNew (ch := [e, it]) (fun b ob hb q => (sb.2 b (fun z => hb (by simp [z]))).trans (hk b ob (fun z => hb (by simp [z])) (fun z => hb (by simp [z])) q)) hf (Nat.le_refl _) new
    refine ⟨.ref s.heap.objs.size, _, I1, rfl, ⟨_, x, rfl, I.hok.fresh (Nat.le_refl _), rfl, fun ys hy => by rw [I.tuple_inj hy hq]; exact hx⟩, ⟨⟨u, ?_⟩, hit'.at fun o q => (sb.2 it (Ne.symm hne)).trans q, hne⟩, fun b hb => ?_⟩
    · have e1 : ((i + 1 : Nat) : Int) = (i : Int) + 1 := by omega
      rw [e1]; exact he'
    · have hil : it < s.heap.objs.size := by obtain ⟨_, q, _⟩ := hit; exact Heap.lt_size q
      have hb' : b < s.heap.objs.size := by
        have e' : b = e ∨ b = it := by simpa using hb
        rcases e' with z | z
        · rw [z]; exact hel
        · rw [z]; exact hil
      rw [upd_ne (Nat.ne_of_lt hb')]
      exact (hf b hb).1
  done := by
    intro X hP hw hK hc i pins s σ H E I hf st hg
    subst hP hw hK
    obtain ⟨⟨old, he⟩, hit, hne⟩ := st
    obtain ⟨xs, hq, hx⟩ := hg
    obtain ⟨its, rv, p, hz⟩ := I.tuple hq
    obtain ⟨f0, f1, f2, f3, f4, f5⟩ := hf it (by simp)
    have hne1 : a ≠ it := by obtain ⟨o, q, c, _⟩ := hit; exact fp_out I (show s.heap.IsTuple a its.toArray from p) q c (by decide)
    have D := Draws.tuple (prog := X.prog) (w := X.w) (A := X.A.in1) (I.ok.hd hc) it a hne1 its.toArray
    have hi : i = its.toArray.size := by rw [List.size_toArray, ← rv.length]; omega
    exact wpAny_pyNext_enum_endD D he ⟨hi ▸ hit, p⟩ fun h' eb => ⟨rfl, I.turned (t' := s.toks) (fun b o hb q => eb b o hb q) f0 f1 f3 f4 f5⟩
  self := fun A i s Q E st h => let ⟨⟨_, he⟩, _⟩ := st; wpAny_pyIter_enum he h
/-- enumerate(list or tuple) -/
def iEnumA (K : PySem.W.Frag) (ta : TA) : L2.TI := fun σ H R => ta σ H fun vs H1 => ∃ a xs, vs = [.ref a] ∧ ((SqL K H1 a xs ∧ R (Ite K a) H1) ∨ (SqT K H1 a xs ∧ R (IteT K a) H1))
theorem pi_enumA {X : Cx} {e : Expr} {ta : TA} {p pos tpos : Pos} {elts : List Expr} {kk : Nat} (hg : Gl X "enumerate") (hm : X.mg "enumerate" = none) (ha : PA X [e] ta) (hs : starEach [e] X.env = [(false, eval e X.env)]) :
    PI X (.Tuple elts kk tpos) (.Call (.Name "enumerate" p) [e] [] pos) (iEnumA X.K ta) := by
  refine ⟨fun pins s σ H R I h => ?_⟩
  refine Call_ (ld_blt I hg hm boot_enumerate (PyProof.Rows.callWith_type1 (thn (ha.run pos pins s σ H _ I h) fun us s1 ⟨vs, H1, I1, r1, q1⟩ => ?_) hs rfl))
  obtain ⟨a, xs, ex, q1⟩ := q1
  subst ex
  obtain ⟨u, rfl, ru⟩ := vals1 r1
  cases ru
  have fresh2 : ∀ b ∈ [s1.heap.objs.size + 1, s1.heap.objs.size], FpOk X pins H1 b := fun b hb => by
    have e' : b = s1.heap.objs.size + 1 ∨ b = s1.heap.objs.size := by simpa using hb
    have hle : s1.heap.objs.size ≤ b := by
      rcases e' with z | z
      · rw [z]; exact Nat.le_add_right _ _
      · rw [z]; exact Nat.le_refl _
    exact I1.fpOk hle (I1.hok.fresh hle)
  rcases q1 with ⟨hq, q⟩ | ⟨hq, q⟩
  · obtain ⟨its, rv, p', hz⟩ := I1.list hq
    refine call_enumerate_list p'.isList fun h' he hit hsz hk => wpAny_pyIter_enum he ?_
    exact ⟨s1.heap.objs.size + 1, [s1.heap.objs.size + 1, s1.heap.objs.size], _, _, H1, rfl, I1.kept (t' := s1.toks) hk, turn_enum a (s1.heap.objs.size + 1) s1.heap.objs.size, ⟨⟨.none, he⟩, hit, Nat.succ_ne_self _⟩, fresh2, q⟩
  · obtain ⟨its, rv, p', hz⟩ := I1.tuple hq
    refine enumCall1 (begins_tuple a its.toArray) (show s1.heap.IsTuple a its.toArray from p') fun h' he hit hk => wpAny_pyIter_enum he ?_
    exact ⟨s1.heap.objs.size + 1, [s1.heap.objs.size + 1, s1.heap.objs.size], _, _, H1, rfl, I1.kept (t' := s1.toks) hk, turn_enumT a (s1.heap.objs.size + 1) s1.heap.objs.size, ⟨⟨.none, he⟩, ⟨_, hit, rfl, rfl⟩, Nat.succ_ne_self _⟩, fresh2, q⟩
/-- a list, a tuple, a text -/
def iSeq (K : PySem.W.Frag) (tl : TE) : L2.TI := fun σ H R => tl σ H fun x H1 => (∃ a xs, x = .ref a ∧ SqL K H1 a xs ∧ R (Itl K a) H1) ∨ (∃ a xs, x = .ref a ∧ SqT K H1 a xs ∧ R (Itt K a) H1) ∨ ∃ z, x = .str z ∧ R (Its z) H1
theorem pi_seqA {X : Cx} {tg l : Expr} {tl : TE} (hl : PE X l tl) : PI X tg l (iSeq X.K tl) := by
  refine ⟨fun pins s σ H R I h => ?_⟩
  refine thn (hl.run pins s σ H _ I h) fun v s1 ⟨x, H1, I1, r1, q1⟩ => ?_
  rcases q1 with ⟨a, xs, rfl, hq, q⟩ | ⟨a, xs, rfl, hq, q⟩ | ⟨z, rfl, q⟩
  · cases r1
    obtain ⟨its, rv, p, hz⟩ := I1.list hq
    exact wpAny_pyIter_list p.isList (pi_one (tk := s1.toks) I1 _ (turn_list a _) ⟨_, Heap.get?_push_size _ rfl, rfl, rfl⟩ q)
  · cases r1
    obtain ⟨its, rv, p, hz⟩ := I1.tuple hq
    exact wpAny_pyIter_tuple (show s1.heap.IsTuple a its.toArray from p) (pi_one (tk := s1.toks) I1 _ (turn_tuple a _) ⟨_, Heap.get?_push_size _ rfl, rfl, rfl⟩ q)
  · obtain ⟨t, rfl⟩ := r1
    cases ha : z.cps.all (· < 128)
    · exact wpAny_pyIter_wide ha (pi_one (tk := s1.toks) I1 _ (turn_str _ z t "str_iterator" (.inr rfl)) ⟨_, Heap.get?_push_size _ rfl, rfl, rfl⟩ q)
    · exact wpAny_pyIter_ascii ha (pi_one (tk := s1.toks) I1 _ (turn_str _ z t "str_ascii_iterator" (.inl rfl)) ⟨_, Heap.get?_push_size _ rfl, rfl, rfl⟩ q)
end RL

/-! RLSound5: walks, by plain data. -/
namespace RL
open PySem PySem.Spec PyProof.Rows L2
/-- the iterator J walks through the items of args -/
def IOk (K : PySem.W.Frag) (J : It) (k : ItK) (args : List PV) (us : List V) : Prop :=
  ∀ w, Ok K w → Reps K w.H w.μ args us → ∀ items, itItems k args w.ph = some items →
    (∀ (i : Nat) (x : PV), items[i]? = some x → J.go i w.H ∧ ∀ v H', J.yld i w.H v H' → ∃ w', Step w w' ∧ Ok K w' ∧ w'.H = H' ∧ w'.ph = w.ph ∧ Rep K w'.H w'.μ x v) ∧ J.stop items.length w.H
section
variable {K : PySem.W.Frag}
theorem one_rep {H : Hp} {μ : Mu} {a : PV} {us : List V} (r : Reps K H μ [a] us) : ∃ v, us = [v] ∧ Rep K H μ a v := by
  cases r with
  | cons h t => cases t; exact ⟨_, rfl, h⟩
theorem iok_l {a : PV} {l : Addr} (ha : ∀ w, Ok K w → Rep K w.H w.μ a (.ref l) → ∀ items, seqOf w.ph a = some items → ∃ vs, SqL K w.H l vs ∧ Reps K w.H w.μ items vs) (hs : ∀ s, a ≠ .str s) : IOk K (Itl K l) .seq [a] [.ref l] := by
  intro w o r items h
  have h' : seqOf w.ph a = some items := by
    have h0 : seqIt w.ph [a] = some items := h
    unfold seqIt at h0
    split at h0
    · rename_i e; simp at e; exact absurd e (hs _)
    · rename_i e; simp at e; rw [e]; exact h0
    · rename_i e _ _; cases h0
  obtain ⟨v, e, rv⟩ := one_rep r
  cases e
  obtain ⟨vs, h1, h2⟩ := ha w o rv items h'
  refine ⟨fun i x hx => ?_, vs, h1, by rw [h2.length]; exact Nat.le_refl _⟩
  obtain ⟨u, hu, ru⟩ := h2.get hx
  refine ⟨⟨vs, u, h1, hu⟩, fun v H' hy => ?_⟩
  obtain ⟨rfl, hy⟩ := hy
  have := hy vs h1
  rw [hu] at this; cases this
  exact ⟨w, Step.refl w, o, rfl, rfl, ru⟩
theorem iok_t {xs : List PV} {l : Addr} : IOk K (Itt K l) .seq [.tup xs] [.ref l] := by
  intro w o r items h
  have h' : some xs = some items := h
  cases h'
  obtain ⟨v, e, rv⟩ := one_rep r
  cases e
  cases rv with
  | @tup a xs vs h1 h2 =>
    refine ⟨fun i x hx => ?_, vs, SqT.of h1, by rw [h2.length]; exact Nat.le_refl _⟩
    obtain ⟨u, hu, ru⟩ := h2.get hx
    refine ⟨⟨vs, u, SqT.of h1, hu⟩, fun v H' hy => ?_⟩
    obtain ⟨rfl, hy⟩ := hy
    have := hy vs (SqT.of h1)
    rw [hu] at this; cases this
    exact ⟨w, Step.refl w, o, rfl, rfl, ru⟩
theorem iok_s {s : Str} : IOk K (Its s) .seq [.str s] [.str s] := by
  intro w o r items h
  have h' : some (signsL s) = some items := h
  cases h'
  refine ⟨fun i x hx => ?_, by show s.cps.size ≤ _; simp [signsL]⟩
  simp only [signsL, List.getElem?_map, Option.map_eq_some_iff] at hx
  obtain ⟨c, hc, rfl⟩ := hx
  have hi : i < s.cps.size := by
    have := (List.getElem?_eq_some_iff.mp hc).1
    simpa using this
  refine ⟨hi, fun v H' hy => ?_⟩
  obtain ⟨rfl, c', hc', rfl⟩ := hy
  have : c' = c := by
    have e : s.cps[i]? = some c := by rw [← hc]; simp
    rw [e] at hc'; cases hc'; rfl
  subst this
  exact ⟨w, Step.refl w, o, rfl, rfl, .str _⟩
theorem enumL_get : ∀ {xs : List PV} {i j : Nat} {x : PV}, (enumL j xs)[i]? = some x → ∃ y, xs[i]? = some y ∧ x = .tup [.int (((j + i : Nat)) : Int), y]
  | [], i, j, x, h => by simp [enumL] at h
  | y :: ys, 0, j, x, h => by simp [enumL] at h; exact ⟨y, rfl, h.symm⟩
  | y :: ys, i + 1, j, x, h => by
    simp only [enumL, List.getElem?_cons_succ] at h
    obtain ⟨z, h1, h2⟩ := enumL_get h
    refine ⟨z, by simpa using h1, ?_⟩
    rw [h2]
    have : j + 1 + i = j + (i + 1) := by omega
    rw [this]
theorem enumL_length : ∀ (xs : List PV) (j : Nat), (enumL j xs).length = xs.length
  | [], _ => rfl
  | x :: xs, j => by simp [enumL, enumL_length xs]
theorem enum_items {a : PV} {ph : PHp} {items : List PV} (h : itItems .enum [a] ph = some items) : ∃ xs, seqOf ph a = some xs ∧ items = enumL 0 xs := by
  have h0 : (seqOf ph a).map (enumL 0) = some items := h
  simp only [Option.map_eq_some_iff] at h0
  obtain ⟨xs, h1, h2⟩ := h0
  exact ⟨xs, h1, h2.symm⟩
theorem pair_step {w : Wd} (o : Ok K w) {x y : PV} {u v : V} {T : Addr} (hT : w.H T = none) (rx : Rep K w.H w.μ x u) (ry : Rep K w.H w.μ y v) : ∃ w', Step w w' ∧ Ok K w' ∧ w'.H = upd w.H T (.tup [u, v]) ∧ w'.ph = w.ph ∧ Rep K w'.H w'.μ (.tup [x, y]) (.ref T) :=
  ⟨w.put T (.tup [u, v]), Step.put hT, o.put hT, rfl, rfl, .tup upd_same (.cons ((Step.put hT).rep o rx) (.cons ((Step.put hT).rep o ry) .nil))⟩
theorem iok_el {a : PV} {l : Addr} (ha : ∀ w, Ok K w → Rep K w.H w.μ a (.ref l) → ∀ items, seqOf w.ph a = some items → ∃ vs, SqL K w.H l vs ∧ Reps K w.H w.μ items vs) : IOk K (Ite K l) .enum [a] [.ref l] := by
  intro w o r items h
  obtain ⟨xs, h', rfl⟩ := enum_items h
  obtain ⟨v, e, rv⟩ := one_rep r
  cases e
  obtain ⟨vs, h1, h2⟩ := ha w o rv xs h'
  refine ⟨fun i x hx => ?_, vs, h1, by rw [h2.length, enumL_length]; exact Nat.le_refl _⟩
  obtain ⟨y, hy, rfl⟩ := enumL_get hx
  obtain ⟨u, hu, ru⟩ := h2.get hy
  refine ⟨⟨vs, u, h1, hu⟩, fun v H' hz => ?_⟩
  obtain ⟨T, u', rfl, hT, rfl, hz⟩ := hz
  have := hz vs h1
  rw [hu] at this; cases this
  rw [Nat.zero_add]
  exact pair_step o hT (.int _) ru
theorem iok_et {xs : List PV} {l : Addr} : IOk K (IteT K l) .enum [.tup xs] [.ref l] := by
  intro w o r items h
  obtain ⟨xs', h', rfl⟩ := enum_items h
  have h'' : some xs = some xs' := h'
  cases h''
  obtain ⟨v, e, rv⟩ := one_rep r
  cases e
  cases rv with
  | @tup a xs vs h1 h2 =>
    refine ⟨fun i x hx => ?_, vs, SqT.of h1, by rw [h2.length, enumL_length]⟩
    obtain ⟨y, hy, rfl⟩ := enumL_get hx
    obtain ⟨u, hu, ru⟩ := h2.get hy
    refine ⟨⟨vs, u, SqT.of h1, hu⟩, fun v H' hz => ?_⟩
    obtain ⟨T, u', rfl, hT, rfl, hz⟩ := hz
    have := hz vs (SqT.of h1)
    rw [hu] at this; cases this
    rw [Nat.zero_add]
    exact pair_step o hT (.int _) ru
/-- a list, read -/
theorem seq_l {a : PV} {v : V} {w : Wd} {xs : List PV} (o : Ok K w) (r : Rep K w.H w.μ a v) (h : seqOf w.ph a = some xs) : (isTup a = false ∧ ∃ l vs, v = .ref l ∧ SqL K w.H l vs ∧ Reps K w.H w.μ xs vs ∧ ∀ w', Ok K w' → Rep K w'.H w'.μ a (.ref l) → ∀ items, seqOf w'.ph a = some items → ∃ vs, SqL K w'.H l vs ∧ Reps K w'.H w'.μ items vs) ∨ ∃ l vs, v = .ref l ∧ a = .tup xs ∧ SqT K w.H l vs ∧ Reps K w.H w.μ xs vs := by
  have gen : (∀ ys, a ≠ .tup ys) → (∃ l vs, v = .ref l ∧ SqL K w.H l vs ∧ Reps K w.H w.μ xs vs) → ∃ l vs, v = .ref l ∧ SqL K w.H l vs ∧ Reps K w.H w.μ xs vs ∧ ∀ w', Ok K w' → Rep K w'.H w'.μ a (.ref l) → ∀ items, seqOf w'.ph a = some items → ∃ vs, SqL K w'.H l vs ∧ Reps K w'.H w'.μ items vs := by
    rintro nt ⟨l, vs, rfl, h1, h2⟩
    refine ⟨l, vs, rfl, h1, h2, fun w' o' r' items h' => ?_⟩
    obtain ⟨l', vs', e, h3, h4⟩ := seq_at o' h' r'
    cases e
    rcases h3 with h3 | h3
    · exact ⟨vs', h3, h4⟩
    · -- a tuple is no list
      cases a with
      | tup ys => exact absurd rfl (nt ys)
      | scr ns =>
        have h'' : some (ns.map PV.int) = some items := h'
        cases h''
        cases r' with
        | scr q => exact ⟨_, q.l, Reps.ofInts _⟩
      | lst ys =>
        have h'' : some ys = some items := h'
        cases h''
        cases r' with
        | lst q _ q2 => exact ⟨_, SqL.of q, q2⟩
      | ref n =>
        have h'' : lstOf w'.ph (.ref n) = some items := h'
        obtain ⟨l2, vs2, e, q, q2⟩ := lst_at o' h'' r'
        cases e
        exact ⟨_, SqL.of q, q2⟩
      | non => cases h'
      | bl _ => cases h'
      | int _ => cases h'
      | str _ => cases h'
  cases r with
  | @tup l ys vs h1 h2 =>
    have h' : some ys = some xs := h
    cases h'
    exact .inr ⟨l, vs, rfl, rfl, SqT.of h1, h2⟩
  | scr q =>
    have h' : some (_) = some xs := h
    cases h'
    exact .inl ⟨rfl, gen (by simp) ⟨_, _, rfl, q.l, Reps.ofInts _⟩⟩
  | lst h1 h2 h3 =>
    obtain ⟨l, vs, e, q, q2⟩ := lst_at o (show lstOf w.ph (PV.lst _) = some xs from h) (.lst h1 h2 h3)
    exact .inl ⟨rfl, gen (by simp) ⟨l, vs, e, SqL.of q, q2⟩⟩
  | ref hn =>
    obtain ⟨l, vs, e, q, q2⟩ := lst_at o (show lstOf w.ph (PV.ref _) = some xs from h) (.ref hn)
    exact .inl ⟨rfl, gen (by simp) ⟨l, vs, e, SqL.of q, q2⟩⟩
  | non => cases h
  | bl _ => cases h
  | int _ => cases h
  | str _ => cases h
/-! ranges -/
theorem rng_get {a b c : Int} {i : Nat} {x : PV} (h : (rngL a b c)[i]? = some x) : x = .int (a + (i : Nat) * c) ∧ i < (Builtin.Range.rangeSize a b c).toNat := by
  unfold rngL at h
  rw [List.getElem?_map, Option.map_eq_some_iff] at h
  obtain ⟨j, hj, rfl⟩ := h
  have hi := (List.getElem?_eq_some_iff.mp hj).1
  rw [List.length_range] at hi
  rw [List.getElem?_range hi] at hj
  cases hj
  exact ⟨rfl, hi⟩
theorem iok_r {i j : Int} {args : List PV} {us : List V} (he : rng12 args = some (rngL i j 1)) (hc : rngIt args = rng12 args) : IOk K (Itr i (j - i).toNat) .range args us := by
  intro w o r items h
  have h' : rngIt args = some items := h
  rw [hc, he] at h'
  cases h'
  have e : (Builtin.Range.rangeSize i j 1).toNat = (j - i).toNat := by rw [rangeSize_one]; split <;> omega
  refine ⟨fun m x hx => ?_, by show _ ≤ _; simp [rngL, e]⟩
  obtain ⟨rfl, hm⟩ := rng_get hx
  refine ⟨by rw [e] at hm; exact hm, fun v H' hy => ?_⟩
  obtain ⟨rfl, rfl⟩ := hy
  rw [Int.mul_one]
  exact ⟨w, Step.refl w, o, rfl, rfl, .int _⟩
theorem iok_c {i j c : Int} {us : List V} {n : Nat} (hn : Builtin.Range.rangeSize i j c = n) : IOk K (Itc i c n) .range [.int i, .int j, .int c] us := by
  intro w o r items h
  have h' : (if rOk i j ∧ c = -1 then some (rngL i j c) else none) = some items := h
  split at h'
  · cases h'
    refine ⟨fun m x hx => ?_, by show _ ≤ _; simp [rngL, hn]⟩
    obtain ⟨rfl, hm⟩ := rng_get hx
    refine ⟨by show m < n; rw [hn] at hm; simpa using hm, fun v H' hy => ?_⟩
    obtain ⟨rfl, rfl⟩ := hy
    exact ⟨w, Step.refl w, o, rfl, rfl, .int _⟩
  · cases h'
/-! zip -/
theorem zip2_get : ∀ {xs ys : List PV} {i : Nat} {x : PV}, (zip2L xs ys)[i]? = some x → ∃ a b, xs[i]? = some a ∧ ys[i]? = some b ∧ x = .tup [a, b]
  | [], _, i, x, h => by simp [zip2L] at h
  | _ :: _, [], i, x, h => by simp [zip2L] at h
  | a :: xs, b :: ys, 0, x, h => by simp [zip2L] at h; exact ⟨a, b, rfl, rfl, h.symm⟩
  | a :: xs, b :: ys, i + 1, x, h => by
    simp only [zip2L, List.getElem?_cons_succ] at h
    obtain ⟨a', b', h1, h2, h3⟩ := zip2_get h
    exact ⟨a', b', by simpa using h1, by simpa using h2, h3⟩
theorem zip2_length : ∀ xs ys : List PV, (zip2L xs ys).length = min xs.length ys.length
  | [], _ => by simp [zip2L]
  | _ :: _, [] => by simp [zip2L]
  | x :: xs, y :: ys => by simp [zip2L, zip2_length xs ys]
theorem zip_items {a b : PV} {ph : PHp} {items : List PV} (h : itItems .zip [a, b] ph = some items) : ∃ xs ys, seqOf ph a = some xs ∧ seqOf ph b = some ys ∧ isTup a = isTup b ∧ items = zip2L xs ys := by
  have h0 : zipIt ph [a, b] = some items := h
  unfold zipIt at h0
  simp only at h0
  cases e1 : seqOf ph a with
  | none => rw [e1] at h0; simp at h0
  | some xs =>
    cases e2 : seqOf ph b with
    | none => rw [e1, e2] at h0; simp at h0
    | some ys =>
      rw [e1, e2] at h0
      simp at h0
      exact ⟨xs, ys, rfl, rfl, h0.1, h0.2.symm⟩
theorem two_rep {H : Hp} {μ : Mu} {a b : PV} {us : List V} (r : Reps K H μ [a, b] us) : ∃ v w, us = [v, w] ∧ Rep K H μ a v ∧ Rep K H μ b w := by
  cases r with
  | cons h t =>
    cases t with
    | cons h2 t => cases t; exact ⟨_, _, rfl, h, h2⟩
theorem iok_zl {a b : PV} {l m : Addr} (ha : ∀ w, Ok K w → Rep K w.H w.μ a (.ref l) → ∀ items, seqOf w.ph a = some items → ∃ vs, SqL K w.H l vs ∧ Reps K w.H w.μ items vs)
    (hb : ∀ w, Ok K w → Rep K w.H w.μ b (.ref m) → ∀ items, seqOf w.ph b = some items → ∃ vs, SqL K w.H m vs ∧ Reps K w.H w.μ items vs) : IOk K (Itz K l m) .zip [a, b] [.ref l, .ref m] := by
  intro w o r items h
  obtain ⟨xs, ys, hx, hy, _, rfl⟩ := zip_items h
  obtain ⟨v, v', e, rv, rv'⟩ := two_rep r
  cases e
  obtain ⟨vs, h1, h2⟩ := ha w o rv xs hx
  obtain ⟨vs', h1', h2'⟩ := hb w o rv' ys hy
  refine ⟨fun i x hi => ?_, vs, vs', h1, h1', by rw [h2.length, h2'.length, zip2_length]; omega⟩
  obtain ⟨p, q, e1, e2, rfl⟩ := zip2_get hi
  obtain ⟨u, hu, ru⟩ := h2.get e1
  obtain ⟨u', hu', ru'⟩ := h2'.get e2
  refine ⟨⟨vs, vs', u, u', h1, h1', hu, hu'⟩, fun v H' hz => ?_⟩
  obtain ⟨T, z, z', rfl, hT, rfl, hz1, hz2⟩ := hz
  have := hz1 vs h1
  rw [hu] at this; cases this
  have := hz2 vs' h1'
  rw [hu'] at this; cases this
  exact pair_step o hT ru ru'
theorem iok_zt {xs0 ys0 : List PV} {l m : Addr} : IOk K (RZ.ItzT K l m) .zip [.tup xs0, .tup ys0] [.ref l, .ref m] := by
  intro w o r items h
  obtain ⟨xs, ys, hx, hy, _, rfl⟩ := zip_items h
  have hx' : some xs0 = some xs := hx
  have hy' : some ys0 = some ys := hy
  cases hx'
  cases hy'
  obtain ⟨v, v', e, rv, rv'⟩ := two_rep r
  cases e
  cases rv with
  | @tup _ _ vs h1 h2 =>
    cases rv' with
    | @tup _ _ vs' h1' h2' =>
      refine ⟨fun i x hi => ?_, vs, vs', SqT.of h1, SqT.of h1', by rw [h2.length, h2'.length, zip2_length]; omega⟩
      obtain ⟨p, q, e1, e2, rfl⟩ := zip2_get hi
      obtain ⟨u, hu, ru⟩ := h2.get e1
      obtain ⟨u', hu', ru'⟩ := h2'.get e2
      refine ⟨⟨vs, vs', u, u', SqT.of h1, SqT.of h1', hu, hu'⟩, fun v H' hz => ?_⟩
      obtain ⟨T, z, z', rfl, hT, rfl, hz1, hz2⟩ := hz
      have := hz1 vs (SqT.of h1)
      rw [hu] at this; cases this
      have := hz2 vs' (SqT.of h1')
      rw [hu'] at this; cases this
      exact pair_step o hT ru ru'
end
/-! ### the rules -/
def SI (L : Lw) (N : List Str) (sc : Scope) (tg x : Expr) (k : ItK) (es : List E) : Prop := ∀ kk X W, In L kk N sc X W → ∃ wi, PI X tg x wi ∧ ∀ (w : Wd) env σ (Q : List PV → List PV → PHp → Prop) QX R, Ok X.K w → REnv X.K w env σ → PostX X.K X.mg L.pg w QX W →
  wpEs (callK L.pg kk) L.G QX es env w.ph (fun vs ph1 => ∃ items, itItems k vs ph1 = some items ∧ Q items vs ph1) →
  (∀ w' args us items, Step w w' → Ok X.K w' → Reps X.K w'.H w'.μ args us → itItems k args w'.ph = some items → Q items args w'.ph → ∀ J, IOk X.K J k args us → R J w'.H) → wi σ w.H R
section
variable {L : Lw} {N : List Str} {sc : Scope} {tg a b c : Expr} {es : List E} {ea eb ec : E} {pos p : Pos}
theorem i_seq (ha : SE L N sc a ea) : SI L N sc tg a .seq [ea] := by
  intro kk X W I
  obtain ⟨ta, h1, h2⟩ := ha kk X W I
  refine ⟨_, pi_seqA h1, fun w env σ Q QX R o r px q p => ?_⟩
  refine h2 w env σ _ _ _ o r px q fun w1 x v s1 o1 rv q => ?_
  obtain ⟨items, e, q⟩ := q
  by_cases hs : ∃ s, x = .str s
  · obtain ⟨s, rfl⟩ := hs
    cases rv
    exact .inr (.inr ⟨s, rfl, p w1 [.str s] [.str s] items s1 o1 (.cons (.str s) .nil) e q _ iok_s⟩)
  · have e' : seqOf w1.ph x = some items := by
      have e0 : seqIt w1.ph [x] = some items := e
      unfold seqIt at e0
      split at e0
      · rename_i q; simp at q; exact absurd ⟨_, q⟩ hs
      · rename_i q; simp at q; rw [q]; exact e0
      · cases e0
    rcases seq_l o1 rv e' with ⟨_, l, vs, rfl, h3, h4, h5⟩ | ⟨l, vs, rfl, rfl, h3, h4⟩
    · exact .inl ⟨l, vs, rfl, h3, p w1 [x] [.ref l] items s1 o1 (.cons rv .nil) e q _ (iok_l h5 fun s z => hs ⟨s, z⟩)⟩
    · exact .inr (.inl ⟨l, vs, rfl, h3, p w1 [_] [.ref l] items s1 o1 (.cons rv .nil) e q _ iok_t⟩)
theorem i_enum {elts : List Expr} {kk : Nat} {tpos : Pos} (hg : sc.names.lookup ("enumerate" : Str) = some .globalImplicit) (ha : SE L N sc a ea) (hs : ∀ env, starEach [a] env = [(false, eval a env)] := by intro _; rfl) : SI L N sc (.Tuple elts kk tpos) (.Call (.Name "enumerate" p) [a] [] pos) .enum [ea] := by
  intro kk X W I
  obtain ⟨ta, h1, h2⟩ := ha kk X W I
  refine ⟨_, pi_enumA (gl_of I hg) (I.blt "enumerate" (by decide)) (pa_cons h1 pa_nil (by rw [hs]; rfl)) (hs _), fun w env σ Q QX R o r px q p => ?_⟩
  refine h2 w env σ _ _ _ o r px q fun w1 x v s1 o1 rv q => ?_
  obtain ⟨items, e, q⟩ := q
  obtain ⟨xs, e', _⟩ := enum_items e
  rcases seq_l o1 rv e' with ⟨_, l, vs, rfl, h3, h4, h5⟩ | ⟨l, vs, rfl, rfl, h3, h4⟩
  · exact ⟨l, vs, rfl, .inl ⟨h3, p w1 [x] [.ref l] items s1 o1 (.cons rv .nil) e q _ (iok_el h5)⟩⟩
  · exact ⟨l, vs, rfl, .inr ⟨h3, p w1 [_] [.ref l] items s1 o1 (.cons rv .nil) e q _ iok_et⟩⟩
theorem i_r1 (hg : sc.names.lookup ("range" : Str) = some .globalImplicit) (ha : SE L N sc a ea) (hs : ∀ env, starEach [a] env = [(false, eval a env)] := by intro _; rfl) : SI L N sc tg (.Call (.Name "range" p) [a] [] pos) .range [ea] := by
  intro kk X W I
  obtain ⟨ta, h1, h2⟩ := ha kk X W I
  refine ⟨_, pi_range1 (gl_of I hg) (I.blt "range" (by decide)) (pa_cons h1 pa_nil (by rw [hs]; rfl)) (hs _), fun w env σ Q QX R o r px q p => ?_⟩
  refine h2 w env σ _ _ _ o r px q fun w1 x v s1 o1 rv q => ?_
  obtain ⟨items, e, q⟩ := q
  have e0 : rngIt [x] = some items := e
  cases rv with
  | int j =>
    have e1 : (if rOk 0 j then some (rngL 0 j 1) else none) = some items := e0
    split at e1
    · rename_i hr
      cases e1
      refine ⟨j, rfl, hr.2.2.1, hr.2.2.2, ?_⟩
      have := p w1 [.int j] [.int j] _ s1 o1 (.cons (.int j) .nil) e q (Itr 0 (j - 0).toNat) (iok_r (by show (if rOk 0 j then some (rngL 0 j 1) else none) = _; rw [if_pos hr]) rfl)
      simpa using this
    · cases e1
  | _ => cases e0
theorem i_r2 (hg : sc.names.lookup ("range" : Str) = some .globalImplicit) (ha : SE L N sc a ea) (hb : SE L N sc b eb) (hs : ∀ env, starEach [a, b] env = [(false, eval a env), (false, eval b env)] := by intro _; rfl) (hs2 : ∀ env, starEach [b] env = [(false, eval b env)] := by intro _; rfl) : SI L N sc tg (.Call (.Name "range" p) [a, b] [] pos) .range [ea, eb] := by
  intro kk X W I
  obtain ⟨ta, h1, h2⟩ := ha kk X W I
  obtain ⟨tb, h3, h4⟩ := hb kk X W I
  refine ⟨_, pi_range2 (gl_of I hg) (I.blt "range" (by decide)) (pa_cons h1 (pa_cons h3 pa_nil (by rw [hs2]; rfl)) (by rw [hs, hs2])) (hs _) (hs2 _), fun w env σ Q QX R o r px q p => ?_⟩
  refine h2 w env σ _ _ _ o r px q fun w1 x v s1 o1 rv q => ?_
  refine h4 w1 env σ _ _ _ o1 (r.step s1 o) (px.step s1) q fun w2 y u s2 o2 ru q => ?_
  obtain ⟨items, e, q⟩ := q
  have e0 : rngIt [x, y] = some items := e
  cases rv with
  | int i =>
    cases ru with
    | int j =>
      have e1 : (if rOk i j then some (rngL i j 1) else none) = some items := e0
      split at e1
      · rename_i hr
        cases e1
        refine ⟨i, j, rfl, hr, ?_⟩
        exact p w2 [.int i, .int j] [.int i, .int j] _ (s1.trans s2) o2 (.cons (.int i) (.cons (.int j) .nil)) e q _ (iok_r (by show (if rOk i j then some (rngL i j 1) else none) = _; rw [if_pos hr]) rfl)
      · cases e1
    | _ => cases e0
  | _ => cases e0
theorem i_r3 (hg : sc.names.lookup ("range" : Str) = some .globalImplicit) (ha : SE L N sc a ea) (hb : SE L N sc b eb) (hc : SE L N sc c ec) (hs : ∀ env, starEach [a, b, c] env = (false, eval a env) :: starEach [b, c] env := by intro _; rfl) (hs2 : ∀ env, starEach [b, c] env = (false, eval b env) :: starEach [c] env := by intro _; rfl)
    (hs3 : ∀ env, starEach [c] env = (false, eval c env) :: starEach [] env := by intro _; rfl) (hpl : ∀ env, (backTo pos (starEach [b, c] env)).any (·.1) = false := by intro _; rfl) : SI L N sc tg (.Call (.Name "range" p) [a, b, c] [] pos) .range [ea, eb, ec] := by
  intro kk X W I
  obtain ⟨ta, h1, h2⟩ := ha kk X W I
  obtain ⟨tb, h3, h4⟩ := hb kk X W I
  obtain ⟨tc, h5, h6⟩ := hc kk X W I
  refine ⟨_, pi_range3 (gl_of I hg) (I.blt "range" (by decide)) (pa_cons h1 (pa_cons h3 (pa_cons h5 pa_nil (hs3 _)) (hs2 _)) (hs _)) (hs _) (hpl _), fun w env σ Q QX R o r px q p => ?_⟩
  refine h2 w env σ _ _ _ o r px q fun w1 x v s1 o1 rv q => ?_
  refine h4 w1 env σ _ _ _ o1 (r.step s1 o) (px.step s1) q fun w2 y u s2 o2 ru q => ?_
  refine h6 w2 env σ _ _ _ o2 ((r.step s1 o).step s2 o1) ((px.step s1).step s2) q fun w3 z t s3 o3 rt q => ?_
  obtain ⟨items, e, q⟩ := q
  have e0 : rngIt [x, y, z] = some items := e
  cases rv with
  | int i =>
    cases ru with
    | int j =>
      cases rt with
      | int c =>
        have e1 : (if rOk i j ∧ c = -1 then some (rngL i j c) else none) = some items := e0
        split at e1
        · rename_i hr
          obtain ⟨hr, rfl⟩ := hr
          cases e1
          have rg := RgC.neg (i := i) (j := j) hr.1 hr.2.1 hr.2.2.1 hr.2.2.2
          refine ⟨i, j, -1, _, rfl, rg, ?_⟩
          exact p w3 [.int i, .int j, .int (-1)] [.int i, .int j, .int (-1)] _ ((s1.trans s2).trans s3) o3 (.cons (.int i) (.cons (.int j) (.cons (.int _) .nil))) e q _ (iok_c rg.2.2.2)
        · cases e1
      | _ => cases e0
    | _ => cases rt <;> cases e0
  | _ => cases ru <;> cases rt <;> cases e0
theorem i_zip {elts : List Expr} {kk : Nat} {tpos : Pos} (hg : sc.names.lookup ("zip" : Str) = some .globalImplicit) (ha : SE L N sc a ea) (hb : SE L N sc b eb) (hs : ∀ env, starEach [a, b] env = (false, eval a env) :: starEach [b] env := by intro _; rfl) (hs2 : ∀ env, starEach [b] env = (false, eval b env) :: starEach [] env := by intro _; rfl)
    (hpl : ∀ env, (backTo pos (starEach [b] env)).any (·.1) = false := by intro _; rfl) : SI L N sc (.Tuple elts kk tpos) (.Call (.Name "zip" p) [a, b] [] pos) .zip [ea, eb] := by
  intro kk X W I
  obtain ⟨ta, h1, h2⟩ := ha kk X W I
  obtain ⟨tb, h3, h4⟩ := hb kk X W I
  refine ⟨_, RZ.pi_zipA (gl_of I hg) (I.blt "zip" (by decide)) (pa_cons h1 (pa_cons h3 pa_nil (hs2 _)) (hs _)) (hs _) (hpl _), fun w env σ Q QX R o r px q p => ?_⟩
  refine h2 w env σ _ _ _ o r px q fun w1 x v s1 o1 rv q => ?_
  refine h4 w1 env σ _ _ _ o1 (r.step s1 o) (px.step s1) q fun w2 y u s2 o2 ru q => ?_
  obtain ⟨items, e, q⟩ := q
  obtain ⟨xs, ys, e1, e2, et, _⟩ := zip_items e
  have rv2 := s2.rep o1 rv
  have rr : Reps X.K w2.H w2.μ [x, y] [v, u] := .cons rv2 (.cons ru .nil)
  rcases seq_l o2 rv2 e1 with ⟨n1, l, vs, rfl, h5, h6, h7⟩ | ⟨l, vs, rfl, rfl, h5, h6⟩
  · rcases seq_l o2 ru e2 with ⟨n2, m, us, rfl, h8, h9, h10⟩ | ⟨m, us, rfl, rfl, h8, h9⟩
    · exact ⟨l, m, vs, us, rfl, .inl ⟨h5, h8, p w2 _ _ items (s1.trans s2) o2 rr e q _ (iok_zl h7 h10)⟩⟩
    · rw [n1] at et; cases et
  · rcases seq_l o2 ru e2 with ⟨n2, m, us, rfl, h8, h9, h10⟩ | ⟨m, us, rfl, rfl, h8, h9⟩
    · rw [n2] at et; cases et
    · exact ⟨l, m, vs, us, rfl, .inr ⟨h5, h8, p w2 _ _ items (s1.trans s2) o2 rr e q _ iok_zt⟩⟩
end
end RL

/-! RLSound6: targets, comprehensions. -/
namespace RL
open PySem PySem.Spec PyProof.Rows L2
theorem wipe_set {σ : L2.St} {i : Nat} {x : Option V} : ∀ {vs : List Nat}, i ∈ vs → L2.wipe (σ.set i x) vs = L2.wipe σ vs
  | v :: vs, h => by
    unfold L2.wipe
    by_cases hv : i ∈ vs
    · rw [wipe_set hv]
    · have e : i = v := by
        rcases List.mem_cons.mp h with e | e
        · exact e
        · exact absurd e hv
      subst e
      have key : ∀ (l : List Nat), i ∉ l → L2.wipe (σ.set i x) l = (L2.wipe σ l).set i x := by
        intro l
        induction l with
        | nil => intro _; rfl
        | cons a l ih =>
          intro hn
          unfold L2.wipe
          rw [ih fun z => hn (List.mem_cons_of_mem _ z)]
          exact List.set_comm _ _ fun z => hn (by rw [z]; exact List.mem_cons_self ..)
      rw [key vs hv]
      exact List.set_set ..
theorem wipe_wipe {σ : L2.St} : ∀ {vs ws : List Nat}, (∀ i ∈ vs, i ∈ ws) → L2.wipe (L2.wipe σ vs) ws = L2.wipe σ ws
  | [], ws, _ => rfl
  | v :: vs, ws, h => by
    show L2.wipe ((L2.wipe σ vs).set v none) ws = _
    rw [wipe_set (h v (List.mem_cons_self ..)), wipe_wipe fun i hi => h i (List.mem_cons_of_mem _ hi)]
section
variable (L : Lw) (N : List Str) (sc : Scope) (fl : Str → Bool)
/-- a target of the text and its short form -/
def STg (x : Expr) (t : Tg) : Prop := ∀ k X W, In L k N sc X W → (∀ y, fl y = true → X.fn y = true) → ∃ g, PG X x g ∧ ∀ (w : Wd) env σ (z : PV) (v : V) (K : Env → Prop) Q', Ok X.K w → REnv X.K w env σ → Rep X.K w.H w.μ z v → bindT t z env K →
  (∀ env' σ', REnv X.K w env' σ' → K env' → (∀ vs : List Nat, (∀ i ∈ t.slots, i ∈ vs) → L2.wipe σ' vs = L2.wipe σ vs) → Q' σ' w.H) → g v σ w.H Q'
def STgs (xs : List Expr) (ts : List Tg) : Prop := ∀ k X W, In L k N sc X W → (∀ y, fl y = true → X.fn y = true) → ∃ g, PGs X xs g ∧ ∀ (w : Wd) env σ (zs : List PV) (vs : List V) (K : Env → Prop) Q', Ok X.K w → REnv X.K w env σ → Reps X.K w.H w.μ zs vs → zs.length = ts.length → bindTs ts zs env K →
  (∀ env' σ', REnv X.K w env' σ' → K env' → (∀ vs : List Nat, (∀ i ∈ slotsAll ts, i ∈ vs) → L2.wipe σ' vs = L2.wipe σ vs) → Q' σ' w.H) → g vs σ w.H Q'
end
section
variable {L : Lw} {N : List Str} {sc : Scope} {fl : Str → Bool} {a : Expr} {xs : List Expr} {t : Tg} {ts : List Tg} {pos p : Pos}
theorem g_name (i : Nat) {x : Str} (hi : N[i]? = some x) (hx : Loc sc x) (hf : fl x = true ∨ sc.names.lookup x = some .local) : STg L N sc fl (.Name x pos) (.name i) := by
  intro k X W I hX
  refine ⟨_, pg_name (i := i) (by rw [I.names]; exact I.nd) (by rw [I.names]; exact hi) (by rw [I.scope]; exact hx) (by rw [I.scope]; exact hf.imp (hX _) id), fun w env σ z v K Q' o r rz q p => ?_⟩
  refine p _ _ (r.set rz) q.2 fun vs h => wipe_set (h i ?_)
  simp [Tg.slots]
theorem gs_nil : STgs L N sc fl [] [] := fun k X W I hX => ⟨_, pgs_nil, fun w env σ zs vs K Q' o r rz hl q p => by
  cases rz with
  | nil => exact ⟨rfl, p _ _ r q fun _ _ => rfl⟩
  | cons _ _ => cases hl⟩
theorem gs_cons (h1 : STg L N sc fl a t) (h2 : STgs L N sc fl xs ts) (hs : ∀ env, (assignEach (a :: xs) env).map (·.2) = assign a env :: (assignEach xs env).map (·.2) := by intro _; rfl) : STgs L N sc fl (a :: xs) (t :: ts) := by
  intro k X W I hX
  obtain ⟨g, p1, q1⟩ := h1 k X W I hX
  obtain ⟨g2, p2, q2⟩ := h2 k X W I hX
  refine ⟨_, pgs_cons p1 p2 (hs _), fun w env σ zs vs K Q' o r rz hl q p => ?_⟩
  cases rz with
  | nil => cases hl
  | cons ra rr =>
    refine ⟨_, _, rfl, q1 w env σ _ _ _ _ o r ra q fun env' σ' r' q' hw => ?_⟩
    refine q2 w env' σ' _ _ _ _ o r' rr (by simpa using hl) q' fun env2 σ2 r2 q3 hw2 => ?_
    refine p _ _ r2 q3 fun vs h => ?_
    simp only [slotsAll, List.mem_append] at h
    rw [hw2 vs fun i hi => h i (.inr hi), hw vs fun i hi => h i (.inl hi)]
theorem g_tup {kk : Nat} (h : STgs L N sc fl xs ts) (hn : ∀ env, (assignEach xs env).length = ts.length := by intro _; rfl) (hst : ∀ env, (assignEach xs env).findIdx? (·.1) = none := by intro _; rfl) : STg L N sc fl (.Tuple xs kk pos) (.tup ts) := by
  intro k X W I hX
  obtain ⟨g, p1, q1⟩ := h k X W I hX
  refine ⟨_, pg_tup (n := ts.length) I.calm p1 (hn _) (hst _), fun w env σ z v K Q' o r rz q p => ?_⟩
  obtain ⟨zs, rfl, hl, q⟩ := q
  cases rz with
  | tup e rr =>
    refine ⟨_, _, rfl, SqT.of e, by rw [rr.length]; exact hl, ?_⟩
    exact q1 w env σ _ _ _ _ o r rr hl q fun env' σ' r' q' hw => p _ _ r' q' fun vs h => hw vs (by simpa [Tg.slots] using h)
/-! ### comprehensions -/
/-- a block's names, as they stand in the block -/
def relS (scope sc : Scope) : Scope := { scope with names := scope.names.map fun (n, k) => if (k == .free && sc.kind == .function && sc.names.lookup n == some .cell) then (n, .cell) else (n, k) }
theorem In.blk {k : Nat} {X : Cx} {W : WX} (I : In L k N sc X W) (s : Shared) (H : Hp) (scope : Scope) (C : Addr) (cl : List (Str × Addr)) (fp : List Addr) : In L k N (relS scope sc) (X.blk s H scope (compEnvC scope cl C X.env) fp) (fun _ _ _ _ => False) := by
  refine ⟨I.names, ?_, I.nd, I.calm, I.guards, I.room, I.sys, takes_none5, I.cls, I.blt, I.glb, I.calls⟩
  show relabel scope X.env = relS scope sc
  unfold relabel relS Env.kindOf
  rw [I.scope]
def SC (L : Lw) (N : List Str) (sc : Scope) (ifs : List Expr) (cond : Option E) : Prop := ∀ k X W, In L k N sc X W → ∃ t, PTs X ifs t ∧ ∀ (w : Wd) env σ Q QX Q', Ok X.K w → REnv X.K w env σ → PostX X.K X.mg L.pg w QX W → wpC (callK L.pg k) L.G QX cond env w.ph Q → PostB X.K w Q Q' → t σ w.H Q'
theorem c_nil : SC L N sc [] none := fun k X W I => ⟨_, pts_nil, fun w env σ Q QX Q' o r px q p => p w true (Step.refl w) o q⟩
theorem c_one {ea : E} (ha : ST L N sc a ea) : SC L N sc [a] (some ea) := by
  intro k X W I
  obtain ⟨ta, h1, h2⟩ := ha k X W I
  exact ⟨_, pts_one h1, h2⟩
theorem compL_still {still : PHp → Prop} {bind : PV → (Env → Prop) → Prop} {cnd : Env → PHp → (Bool → PHp → Prop) → Prop} {el : Env → PHp → QV → Prop} {l acc : List PV} {ph : PHp} {Q : List PV → PHp → Prop} (h : compL still bind cnd el l acc ph Q) : still ph := by
  cases l with
  | nil => exact h.1
  | cons v r => exact h.1
section
variable {X : Cx} {k : Nat} {elt tg iter : Expr} {ifs : List Expr} {scope : Scope} {own : List (Str × Nat)} {wi : L2.TI} {g : TG} {tt : TT} {te : TE} {kk : ItK} {its : List E} {tgs : Tg} {cond : Option E} {eelt : E} {o1 : Bool}
theorem comp_ok {W : WX} (slots : List Nat) (htg : ∀ i ∈ tgs.slots, i ∈ slots)
    (hi : ∀ (w : Wd) env σ (Q : List PV → List PV → PHp → Prop) QX R, Ok X.K w → REnv X.K w env σ → PostX X.K X.mg L.pg w QX W → wpEs (callK L.pg k) L.G QX its env w.ph (fun vs ph1 => ∃ items, itItems kk vs ph1 = some items ∧ Q items vs ph1) →
      (∀ w' args us items, Step w w' → Ok X.K w' → Reps X.K w'.H w'.μ args us → itItems kk args w'.ph = some items → Q items args w'.ph → ∀ J, IOk X.K J kk args us → R J w'.H) → wi σ w.H R)
    (hg : ∀ (w : Wd) env σ (z : PV) (v : V) (K : Env → Prop) Q', Ok X.K w → REnv X.K w env σ → Rep X.K w.H w.μ z v → bindT tgs z env K →
      (∀ env' σ', REnv X.K w env' σ' → K env' → (∀ vs : List Nat, (∀ i ∈ tgs.slots, i ∈ vs) → L2.wipe σ' vs = L2.wipe σ vs) → Q' σ' w.H) → g v σ w.H Q')
    (ht : ∀ (w : Wd) env σ Q Q', Ok X.K w → REnv X.K w env σ → wpC (callK L.pg k) L.G noX cond env w.ph Q → PostB X.K w Q Q' → tt σ w.H Q')
    (he : ∀ (w : Wd) env σ Q Q', Ok X.K w → REnv X.K w env σ → wpE (callK L.pg k) L.G noX eelt env w.ph Q → Post X.K w Q Q' → te σ w.H Q')
    (w : Wd) (env : Env) (σ : L2.St) (Q : QV) (QX : QX) (Q' : VK) (o : Ok X.K w) (r : REnv X.K w env σ) (px : PostX X.K X.mg L.pg w QX W) (q : wpE (callK L.pg k) L.G QX (.comp o1 eelt tgs kk its cond slots) env w.ph Q) (p : Post X.K w Q Q') : tLc wi g tt te slots σ w.H Q' := by
  refine hi w env σ (fun items vs ph1 => compL (fun h => itItems kk vs h = some items) (fun v K => bindT tgs v (wipeE env slots) K) (fun env' h K => wpC (callK L.pg k) L.G noX cond env' h K) (fun env' h K => wpE (callK L.pg k) L.G noX eelt env' h K) items [] ph1 fun xs ph2 => newL o1 xs ph2 Q) _ _ o r px q ?_
  intro w1 args us items s1 ok1 rs e1 q J hJ D hD
  have r1 := r.step s1 o
  let P := fun (l acc : List PV) (ph1 : PHp) => compL (fun h => itItems kk args h = some items) (fun v K => bindT tgs v (wipeE env slots) K) (fun env' h K => wpC (callK L.pg k) L.G noX cond env' h K) (fun env' h K => wpE (callK L.pg k) L.G noX eelt env' h K) l acc ph1 fun xs ph2 => newL o1 xs ph2 Q
  refine ⟨fun i m H => i + m = items.length ∧ ∃ w2, w2.H = H ∧ Ok X.K w2 ∧ Step w1 w2 ∧ w2.μ.hid D ∧ ∃ accP accV, w2.H D = some (.lst accV) ∧ Reps X.K w2.H w2.μ accP accV ∧ P (items.drop i) accP w2.ph, ⟨items.length, ?_⟩, ?_⟩
  · exact ⟨by omega, w1.hide D [], rfl, ok1.hide hD, Step.hide hD, .inr rfl, [], [], upd_same, .nil, q⟩
  · rintro i m H ⟨him, w2, rfl, ok2, s2, hh, accP, accV, eD, ra, q⟩
    have hst : itItems kk args w2.ph = some items := compL_still q
    have rs2 := s2.reps ok1 rs
    obtain ⟨j1, j2⟩ := hJ w2 ok2 rs2 items hst
    have hDn : D ∉ w2.μ.num := (ok2.hid D hh).1
    cases hd : items.drop i with
    | nil =>
      have hl : items.length ≤ i := List.drop_eq_nil_iff.mp hd
      have hi' : i = items.length := by omega
      refine .inl ⟨by rw [hi']; exact j2, ?_⟩
      rw [hd] at q
      obtain ⟨_, q⟩ := q
      obtain ⟨_, q⟩ := q
      cases o1 with
      | true =>
        have := p (w2.tell D (.lst accV) (.lst accP)) (.ref w2.ph.length) (.ref D) (s1.trans (Step.tell ok1 s2 hD)) (ok2.tell (ok2.blind hh) ⟨accV, upd_same, reps_tell (ok2.blind hh) ra⟩) (.ref (by
          show (w2.μ.num ++ [D])[w2.ph.length]? = some D
          rw [← ok2.len, List.getElem?_append_right (Nat.le_refl _), Nat.sub_self]; rfl)) (by simp only [if_true] at q; exact q)
        have e : (w2.tell D (.lst accV) (.lst accP)).H = w2.H := upd_self eD
        rw [e] at this
        exact this
      | false =>
        exact p (w2.show D) (.lst accP) (.ref D) (s1.trans (Step.show' ok1 s2 hD)) ok2.show (.lst eD ⟨hDn, fun z => z.2 rfl⟩ (reps_show ra)) (by rw [if_neg (by decide)] at q; exact q)
    | cons z rest =>
      have hlt : i < items.length := by
        apply Nat.lt_of_not_le
        intro z
        rw [List.drop_eq_nil_of_le z] at hd; cases hd
      have hz : items[i]? = some z := by
        have h0 : (items.drop i)[0]? = some z := by rw [hd]; rfl
        rw [List.getElem?_drop] at h0; simpa using h0
      have hrest : items.drop (i + 1) = rest := by
        have : (items.drop i).drop 1 = rest := by rw [hd]; rfl
        rw [List.drop_drop] at this; exact this
      obtain ⟨jgo, jy⟩ := j1 i z hz
      refine .inr ⟨jgo, fun H' => ∃ m', m' < m ∧ (i + 1 + m' = items.length ∧ ∃ w2, w2.H = H' ∧ Ok X.K w2 ∧ Step w1 w2 ∧ w2.μ.hid D ∧ ∃ accP accV, w2.H D = some (.lst accV) ∧ Reps X.K w2.H w2.μ accP accV ∧ P (items.drop (i + 1)) accP w2.ph), fun H' h => h, fun v H' hy => ?_⟩
      obtain ⟨w3, s3, ok3, rfl, eph, rz⟩ := jy v H' hy
      rw [hd] at q
      obtain ⟨_, q⟩ := q
      have r3 : REnv X.K w3 (wipeE env slots) (L2.wipe σ slots) := ((r1.step s2 ok1).step s3 ok2).wipe slots
      refine hg w3 _ _ z v _ _ ok3 r3 rz q fun env' σ' r' q' hw => ⟨?_, ?_⟩
      · rw [hw slots htg, wipe_wipe fun i hi => hi]
      · rw [← eph] at q'
        refine ht w3 env' σ' _ _ ok3 r' q' fun w4 b s4 ok4 q4 => ?_
        have hh4 : w4.μ.hid D := s4.hidk D (s3.hidk D hh)
        have e3 : w3.H D = some (.lst accV) := s3.keep D _ eD hDn
        have e4 : w4.H D = some (.lst accV) := s4.keep D _ e3 (ok3.hid D (s3.hidk D hh)).1
        cases b with
        | false =>
          simp only [Bool.false_eq_true, if_false] at q4 ⊢
          exact ⟨m - 1, by omega, by omega, w4, rfl, ok4, (s2.trans s3).trans s4, hh4, accP, accV, e4, s4.reps ok3 (s3.reps ok2 ra), by rw [hrest]; exact q4⟩
        | true =>
          simp only [if_true] at q4 ⊢
          refine he w4 env' σ' _ _ ok4 (r'.step s4 ok3) q4 fun w5 y u s5 ok5 ru q5 => ?_
          obtain ⟨hlen, q5⟩ := q5
          have hh5 : w5.μ.hid D := s5.hidk D hh4
          have e5 : w5.H D = some (.lst accV) := s5.keep D _ e4 (ok4.hid D hh4).1
          have ra5 := s5.reps ok4 (s4.reps ok3 (s3.reps ok2 ra))
          refine ⟨accV, e5, by rw [ra5.length]; exact hlen, m - 1, by omega, by omega, w5.more D (.lst (accV ++ [u])), rfl, ok5.more hh5, Step.more (((s2.trans s3).trans s4).trans s5) hD, hh5, accP ++ [y], accV ++ [u], upd_same, ?_, by rw [hrest]; exact q5⟩
          exact reps_more (ok5.blind hh5) (ra5.append (.cons ru .nil))
end
/-- the same reading in every block -/
def gCan (K : PySem.W.Frag) (tgs : Tg) : TG := fun v σ H Q' => ∃ (w : Wd) (env : Env) (z : PV) (P : Env → Prop), w.H = H ∧ Ok K w ∧ REnv K w env σ ∧ Rep K w.H w.μ z v ∧ bindT tgs z env P ∧
  ∀ env' σ', REnv K w env' σ' → P env' → (∀ vs : List Nat, (∀ i ∈ tgs.slots, i ∈ vs) → L2.wipe σ' vs = L2.wipe σ vs) → Q' σ' w.H
def tCan (K : PySem.W.Frag) (L : Lw) (k : Nat) (cond : Option E) : TT := fun σ H Q' => ∃ (w : Wd) (env : Env) (Q : Bool → PHp → Prop), w.H = H ∧ Ok K w ∧ REnv K w env σ ∧ wpC (callK L.pg k) L.G noX cond env w.ph Q ∧ PostB K w Q Q'
def eCan (K : PySem.W.Frag) (L : Lw) (k : Nat) (e : E) : TE := fun σ H Q' => ∃ (w : Wd) (env : Env) (Q : QV), w.H = H ∧ Ok K w ∧ REnv K w env σ ∧ wpE (callK L.pg k) L.G noX e env w.ph Q ∧ Post K w Q Q'
theorem lc_parts {k : Nat} {X : Cx} {W : WX} (I : In L k N sc X W) {elt tg iter : Expr} {ifs : List Expr} {scope : Scope} {kk : ItK} {its : List E} {tgs : Tg} {cond : Option E} {eelt : E} (hi : SI L N sc tg iter kk its)
    (hg : STg L N (relS scope sc) (fun x => scope.names.lookup x == some .cell) tg tgs) (ht : SC L N (relS scope sc) ifs cond) (he : SE L N (relS scope sc) elt eelt) :
    ∃ wi, PI X tg iter wi ∧ (∀ (s : Shared) (H : Hp) (C : Addr) (cl : List (Str × Addr)) (fp : List Addr), PG (X.blk s H scope (compEnvC scope cl C X.env) fp) tg (gCan X.K tgs)) ∧
      (∀ (s : Shared) (H : Hp) (C : Addr) (cl : List (Str × Addr)) (fp : List Addr), PTs (X.blk s H scope (compEnvC scope cl C X.env) fp) ifs (tCan X.K L k cond)) ∧
      (∀ (s : Shared) (H : Hp) (C : Addr) (cl : List (Str × Addr)) (fp : List Addr), PE (X.blk s H scope (compEnvC scope cl C X.env) fp) elt (eCan X.K L k eelt)) ∧
      ∀ (slots : List Nat) (o1 : Bool), (∀ i ∈ tgs.slots, i ∈ slots) → ∀ (w : Wd) (env : Env) (σ : L2.St) (Q : QV) (QX : QX) (Q' : VK), Ok X.K w → REnv X.K w env σ → PostX X.K X.mg L.pg w QX W → wpE (callK L.pg k) L.G QX (.comp o1 eelt tgs kk its cond slots) env w.ph Q → Post X.K w Q Q' → tLc wi (gCan X.K tgs) (tCan X.K L k cond) (eCan X.K L k eelt) slots σ w.H Q' := by
  obtain ⟨wi, h1, h2⟩ := hi k X W I
  refine ⟨wi, h1, fun s H C cl fp => ?_, fun s H C cl fp => ?_, fun s H C cl fp => ?_, fun slots o1 hs w env σ Q QX Q' o r px q p => ?_⟩
  · obtain ⟨g, p1, q1⟩ := hg k _ _ (I.blk s H scope C cl fp) fun y hy => hy
    refine ⟨fun pins s σ H v u Q J r h => p1.run pins s σ H v u Q J r ?_⟩
    obtain ⟨w, env, z, P, rfl, o, re, rz, b, c⟩ := h
    exact q1 w env σ z v P Q o re rz b c
  · obtain ⟨g, p1, q1⟩ := ht k _ _ (I.blk s H scope C cl fp)
    refine ⟨fun pins s σ H Q J h => p1.run pins s σ H Q J ?_⟩
    obtain ⟨w, env, P, rfl, o, re, b, c⟩ := h
    exact q1 w env σ P _ Q o re PostX.no b c
  · obtain ⟨g, p1, q1⟩ := he k _ _ (I.blk s H scope C cl fp)
    refine ⟨fun pins s σ H Q J h => p1.run pins s σ H Q J ?_⟩
    obtain ⟨w, env, P, rfl, o, re, b, c⟩ := h
    exact q1 w env σ P _ Q o re PostX.no b c
  · exact comp_ok slots hs h2 (fun w env σ z v P Q' o re rz b c => ⟨w, env, z, P, rfl, o, re, rz, b, c⟩) (fun w env σ P Q' o re b c => ⟨w, env, P, rfl, o, re, b, c⟩) (fun w env σ P Q' o re b c => ⟨w, env, P, rfl, o, re, b, c⟩) w env σ Q QX Q' o r px q p
theorem slots_in {tgs : Tg} {slots : List Nat} (h : (tgs.slots.all fun i => slots.contains i) = true) : ∀ i ∈ tgs.slots, i ∈ slots := fun i hi => by
  have := List.all_eq_true.mp h i hi
  simpa using this
theorem s_comp {elt tg iter : Expr} {ifs : List Expr} {scope : Scope} (own : List (Str × Nat)) {kk : ItK} {its : List E} {tgs : Tg} {cond : Option E} {eelt : E} {o1 : Bool} {slots : List Nat} (hi : SI L N sc tg iter kk its) (hb : blkC N sc scope own = true) (hsl : own.map (·.2) = slots) (htg : (tgs.slots.all fun i => slots.contains i) = true)
    (hg : STg L N (relS scope sc) (fun x => scope.names.lookup x == some .cell) tg tgs) (ht : SC L N (relS scope sc) ifs cond) (he : SE L N (relS scope sc) elt eelt) (hs : ∀ env x, foldedSetIterable iter env x = pure x := by intro _ _; rfl) :
    SE L N sc (.ListComp elt [⟨tg, iter, ifs, 0⟩] scope pos) (.comp o1 eelt tgs kk its cond slots) := by
  intro k X W I
  subst hsl
  obtain ⟨wi, h1, h2, h3, h4, h5⟩ := lc_parts I hi hg ht he
  have hB : BlkOk X.N X.env.scope scope own := by rw [I.names, I.scope]; exact blkOk_by hb
  exact ⟨_, pe_lc I.calm (by rw [I.names]; exact I.nd) h1 hB h2 h3 h4 (hs _), h5 _ o1 (slots_in htg)⟩
end
end RL

/-! RLSound7: statements. -/
namespace RL
open PySem PySem.Spec PyProof.Rows L2
structure InS (L : Lw) (k : Nat) (N : List Str) (sc : Scope) (X : Cx) (W : WX) : Prop where
  base : In L k N sc X W
  fn : ∀ x, X.fn x = true
  own : PassesOwn (model X.prog X.w) X.A X.env X.xe
  stk : X.stack = X.env :: X.outer
  frm : X.env.frame = some X.env.locals
def PostN (K : PySem.W.Frag) (w : Wd) (Q : Env → PHp → Prop) (Q' : L2.St → Hp → Prop) : Prop := ∀ w' env' σ', Step w w' → Ok K w' → REnv K w' env' σ' → Q env' w'.ph → Q' σ' w'.H
structure DPost (K : PySem.W.Frag) (mg : Str → Option Value) (pg : Pg) (w : Wd) (W : WX) (D : Dn) (D' : Ends) : Prop where
  nx : PostN K w D.nx D'.nx
  rt : Post K w D.rt D'.rt
  bk : PostN K w D.bk D'.bk
  ct : PostN K w D.ct D'.ct
  xc : PostX K mg pg w D.xc W
theorem PostN.step {K : PySem.W.Frag} {w w1 : Wd} {Q : Env → PHp → Prop} {Q' : L2.St → Hp → Prop} (p : PostN K w Q Q') (s : Step w w1) : PostN K w1 Q Q' := fun w' e σ s' o r q => p w' e σ (s.trans s') o r q
theorem DPost.step {K : PySem.W.Frag} {mg : Str → Option Value} {pg : Pg} {w w1 : Wd} {W : WX} {D : Dn} {D' : Ends} (p : DPost K mg pg w W D D') (s : Step w w1) : DPost K mg pg w1 W D D' := ⟨p.nx.step s, p.rt.step s, p.bk.step s, p.ct.step s, p.xc.step s⟩
section
variable (L : Lw) (N : List Str) (sc : Scope)
def SS (st : Stmt) (s : S) : Prop := ∀ k X W, InS L k N sc X W → ∃ t, PS X st t ∧ ∀ (w : Wd) env σ D D', Ok X.K w → REnv X.K w env σ → wpS (callK L.pg k) L.G s D env w.ph → DPost X.K X.mg L.pg w W D D' → t D' σ w.H
def SB (sts : List Stmt) (ss : List S) : Prop := ∀ k X W, InS L k N sc X W → ∃ t, PSs X sts t ∧ ∀ (w : Wd) env σ D D', Ok X.K w → REnv X.K w env σ → wpB (callK L.pg k) L.G ss D env w.ph → DPost X.K X.mg L.pg w W D D' → t D' σ w.H
end
section
variable {L : Lw} {N : List Str} {sc : Scope} {a b c tgx : Expr} {ea eb ec : E} {xs : List Expr} {es : List E} {st : Stmt} {s : S} {sts sts' : List Stmt} {ss ss' : List S} {pos p : Pos}
theorem b_nil : SB L N sc [] [] := fun k X W I => ⟨_, pss_nil, fun w env σ D D' o r q p => p.nx w env σ (Step.refl w) o r q⟩
theorem b_cons (h1 : SS L N sc st s) (h2 : SB L N sc sts ss) : SB L N sc (st :: sts) (s :: ss) := by
  intro k X W I
  obtain ⟨t, p1, q1⟩ := h1 k X W I
  obtain ⟨u, p2, q2⟩ := h2 k X W I
  refine ⟨_, pss_cons p1 p2, fun w env σ D D' o r q p => ?_⟩
  exact q1 w env σ _ _ o r q ⟨fun w' e' σ' s' o' r' q' => q2 w' e' σ' _ _ o' r' q' (p.step s'), p.rt, p.bk, p.ct, p.xc⟩
theorem st_pass : SS L N sc (.Pass pos) .pass := fun k X W I => ⟨_, ps_pass, fun w env σ D D' o r q p => p.nx w env σ (Step.refl w) o r q⟩
theorem st_brk : SS L N sc (.Break pos) .brk := fun k X W I => ⟨_, ps_break, fun w env σ D D' o r q p => p.bk w env σ (Step.refl w) o r q⟩
theorem st_cont : SS L N sc (.Continue pos) .cont := fun k X W I => ⟨_, ps_continue, fun w env σ D D' o r q p => p.ct w env σ (Step.refl w) o r q⟩
theorem st_retN : SS L N sc (.Return none pos) .retN := fun k X W I => ⟨_, ps_retN, fun w env σ D D' o r q p => p.rt.here o .non q⟩
theorem raises_cls {X : Cx} {pg : Pg} {i : Nat} {c : Cl} {C : Addr} (h : ClsOk X.K X.mg pg i c C) : Raises X (.ref C) := raises_own h.bC h.tC
/-- X() -/
theorem pmk_own0 {X : Cx} {C : Addr} {x : Str} {p pos : Pos} {bmB : List Value} {B newId initId : String} (F : ExcBaseFacts B newId initId bmB) (q : PySem.W.excIn X.K C bmB newId = true) (gC : X.mg x = some (.ref C)) (kC : PySem.W.keepIn X.K (.ref C) = true) (r : Raises X (.ref C)) (hg : Gl X x)
    (hdb : (x == ("__debug__" : Str)) = false := by decide) : PMk X (.Call (.Name x p) [] [] pos) (fun _ H Q => Q (.ref C) none H) := by
  intro pins s σ H Q I h
  refine wpAny_Call_Name_kw (ld_glob I hg gC ?_ hdb)
  refine PySem.W.callWith_K0 I.kIn kC ?_
  show wpAny _ _ (call (.ref C) []) _ _ _
  obtain ⟨bm, N, nm, qn, bs, hdct, sn, sub, ab, col, dd, k0, k1, k2, k3, k5, mN, hC, hN, hni, T⟩ := exc_obj I.kIn q
  refine wpAny_call_exc_subT F T hC hN hni (fun h' e hm => ?_) (by show 0 ≤ sizeLine; omega)
  exact mk_of I hm r h (I.hok.gone hm.new)
theorem st_raise0 (c : Nat) {cl : Cl} {x : Str} (hc : L.pg.cls[c]? = some cl) (hx : cl.name = x) (hf : cl.fld = none) (hg : sc.names.lookup x = some .globalImplicit) (hdb : (x == ("__debug__" : Str)) = false := by decide) {p2 p3 : Pos} :
    SS L N sc (.Raise (some (.Call (.Name x p2) [] [] p3)) none pos) (.raise_ c []) := by
  intro k X W I
  subst hx
  obtain ⟨C, hC⟩ := I.base.cls.1 c cl hc
  refine ⟨_, ps_raise I.base.calm I.base.tk (pmk_own0 PySem.F.excBase_ValueError (hC.mk0 hf).xC hC.gC hC.kC (raises_cls hC) (gl_of I.base hg) hdb), fun w env σ D D' o r q p => ?_⟩
  exact p.xc w ⟨c, none⟩ (.ref C) none σ (Step.refl w) o ⟨cl, C, hc, hC.gC, rfl, hf, rfl⟩ q
theorem st_ret (ha : SE L N sc a ea) : SS L N sc (.Return (some a) pos) (.ret ea) := by
  intro k X W I
  obtain ⟨t, p1, q1⟩ := ha k X W I.base
  exact ⟨_, ps_ret p1, fun w env σ D D' o r q p => q1 w env σ _ _ _ o r p.xc q p.rt⟩
theorem st_expr (ha : SE L N sc a ea) (hs : ∀ l env, swapsWith a none l env = pure false := by intro _ _; rfl) : SS L N sc (.Expr a pos) (.expr ea) := by
  intro k X W I
  obtain ⟨t, p1, q1⟩ := ha k X W I.base
  refine ⟨_, ps_expr p1 (hs _ _), fun w env σ D D' o r q p => ?_⟩
  exact q1 w env σ _ _ _ o r p.xc q fun w' x v s' o' rv q' => p.nx w' env σ s' o' (r.step s' o) q'
theorem st_set (i : Nat) {x : Str} {px : Pos} (hi : N[i]? = some x) (hx : Loc sc x) (ha : SE L N sc a ea) (hs : ∀ l env, swapsWith a (some (.Name x px)) l env = pure false := by intro _ _; rfl) : SS L N sc (.Assign [.Name x px] a pos) (.set i ea) := by
  intro k X W I
  obtain ⟨t, p1, q1⟩ := ha k X W I.base
  refine ⟨_, ps_set (i := i) (by rw [I.base.names]; exact I.base.nd) (by rw [I.base.names]; exact hi) (by rw [I.base.scope]; exact hx) p1 (hs _ _) (.inl (I.fn _)), fun w env σ D D' o r q p => ?_⟩
  exact q1 w env σ _ _ _ o r p.xc q fun w' x v s' o' rv q' => p.nx w' _ _ s' o' ((r.step s' o).set rv) q'.2
theorem swaps_lc {elt : Expr} {cs : List Comprehension} {scope : Scope} {y : Str} {py lp : Pos} {l : Nat} {env : PySem.Env} : swapsWith (.ListComp elt cs scope lp) (some (.Name y py)) l env =
    pure (env.blockKind == .function && env.kindOf y == some .local && py.line == lp.line && !(scope.names.any fun (n, k) => n == y && (k == .local || k == .cell))) := rfl
def swapB (sc scope : Scope) (y : Str) (l l' : Nat) : Bool := sc.kind == .function && sc.names.lookup y == some .local && l == l' && !(scope.names.any fun (n, k) => n == y && (k == .local || k == .cell))
theorem In.swap {k : Nat} {X : Cx} {W : WX} (I : In L k N sc X W) {elt : Expr} {cs : List Comprehension} {scope : Scope} {y : Str} {py lp : Pos} {l : Nat} (hk : sc.kind = .function) : swapsWith (.ListComp elt cs scope lp) (some (.Name y py)) l X.env = pure (swapB sc scope y py.line lp.line) := by
  rw [swaps_lc]
  unfold swapB
  have e1 : X.env.blockKind = sc.kind := by
    unfold PySem.Env.blockKind
    rw [I.scope, hk]; rfl
  have e2 : X.env.kindOf y = sc.names.lookup y := by
    unfold PySem.Env.kindOf
    rw [I.scope]
  rw [e1, e2]
/-- x = [..], the list stored as it is made, or behind -/
theorem st_setC (i : Nat) {x : Str} {px : Pos} {elt tg iter : Expr} {ifs : List Expr} {scope : Scope} (own : List (Str × Nat)) {kk : ItK} {its : List E} {tgs : Tg} {cond : Option E} {eelt : E} {o1 : Bool} {slots : List Nat} {lp : Pos} (hi : N[i]? = some x) (hx : Loc sc x) (hk : sc.kind = .function)
    (hit : SI L N sc tg iter kk its) (hb : blkC N sc scope own = true) (hsl : own.map (·.2) = slots) (htg : (tgs.slots.all fun i => slots.contains i) = true)
    (hg : STg L N (relS scope sc) (fun x => scope.names.lookup x == some .cell) tg tgs) (ht : SC L N (relS scope sc) ifs cond) (he : SE L N (relS scope sc) elt eelt) (hs : ∀ env x, foldedSetIterable iter env x = pure x := by intro _ _; rfl) :
    SS L N sc (.Assign [.Name x px] (.ListComp elt [⟨tg, iter, ifs, 0⟩] scope lp) pos) (.set i (.comp o1 eelt tgs kk its cond slots)) := by
  intro k X W I
  subst hsl
  obtain ⟨wi, h1, h2, h3, h4, h5⟩ := lc_parts I.base hit hg ht he
  have hB : BlkOk X.N X.env.scope scope own := by rw [I.base.names, I.base.scope]; exact blkOk_by hb
  have hN : X.N.Nodup := by rw [I.base.names]; exact I.base.nd
  have hi' : X.N[i]? = some x := by rw [I.base.names]; exact hi
  cases hw : swapB sc scope x px.line lp.line with
  | true =>
    have hsw := I.base.swap (elt := elt) (cs := [⟨tg, iter, ifs, 0⟩]) (scope := scope) (y := x) (py := px) (lp := lp) (l := pos.line) hk
    rw [hw] at hsw
    have hloc : sc.names.lookup x = some .local := by
      unfold swapB at hw
      simp only [Bool.and_eq_true, beq_iff_eq] at hw
      exact hw.1.1.2
    refine ⟨_, ps_setLc (i := i) I.base.calm hN hi' (by rw [I.base.scope]; exact hloc) hsw h1 hB h2 h3 h4 (hs _), fun w env σ D D' o r q p => ?_⟩
    exact h5 _ o1 (slots_in htg) w env σ _ _ _ o r p.xc q fun w' x v s' o' rv q' => p.nx w' _ _ s' o' ((r.step s' o).set rv) q'.2
  | false =>
    have hsw := I.base.swap (elt := elt) (cs := [⟨tg, iter, ifs, 0⟩]) (scope := scope) (y := x) (py := px) (lp := lp) (l := pos.line) hk
    rw [hw] at hsw
    refine ⟨_, ps_set (i := i) hN hi' (by rw [I.base.scope]; exact hx) (pe_lc I.base.calm hN h1 hB h2 h3 h4 (hs _)) hsw (.inl (I.fn _)), fun w env σ D D' o r q p => ?_⟩
    exact h5 _ o1 (slots_in htg) w env σ _ _ _ o r p.xc q fun w' x v s' o' rv q' => p.nx w' _ _ s' o' ((r.step s' o).set rv) q'.2
theorem st_setT {t : Tg} (ha : SE L N sc a ea) (hg : STg L N sc (fun _ => true) tgx t) (hs : ∀ l env, swapsWithSole [tgx] a l env = pure false := by intro _ _; rfl) (hw : ∀ env, env.scope = sc → swappedStores [tgx] a env = pure none) (h1 : ∀ env, (assignEach [tgx] env).map (·.2) = [assign tgx env] := by intro _; rfl) :
    SS L N sc (.Assign [tgx] a pos) (.setT t ea) := by
  intro k X W I
  obtain ⟨ta, p1, q1⟩ := ha k X W I.base
  obtain ⟨g, p2, q2⟩ := hg k X W I.base fun y _ => I.fn y
  refine ⟨_, ps_asg p1 p2 (hs _ _) (hw _ I.base.scope) (h1 _), fun w env σ D D' o r q p => ?_⟩
  refine q1 w env σ _ _ _ o r p.xc q fun w' x v s' o' rv q' => ?_
  exact q2 w' env σ x v _ _ o' (r.step s' o) rv q' fun env' σ' r' q'' _ => p.nx w' _ _ s' o' r' q''
theorem st_par2 (i j : Nat) {x y : Str} {px py pt pt2 : Pos} {kt k2} (hi : N[i]? = some x) (hj : N[j]? = some y) (hij : i ≠ j) (hx : sc.names.lookup x = some .local) (hy : sc.names.lookup y = some .local) (h : SA L N sc [a, b] [ea, eb])
    (hw : ∀ env, env.scope = sc → swappedStores [.Tuple [.Name x px, .Name y py] kt pt] (.Tuple [a, b] k2 pt2) env = pure (some [x, y]))
    (hs : ∀ l env, swapsWithSole [.Tuple [.Name x px, .Name y py] kt pt] (.Tuple [a, b] k2 pt2) l env = pure false := by intro _ _; rfl) : SS L N sc (.Assign [.Tuple [.Name x px, .Name y py] kt pt] (.Tuple [a, b] k2 pt2) pos) (.par [i, j] [ea, eb]) := by
  intro k X W I
  obtain ⟨ta, p1, q1⟩ := h k X W I.base
  refine ⟨_, ps_par (i := i) (j := j) I.base.calm (by rw [I.base.names]; exact I.base.nd) (by rw [I.base.names]; exact hi) (by rw [I.base.names]; exact hj) hij (by rw [I.base.scope]; exact hx) (by rw [I.base.scope]; exact hy) p1 (hw _ I.base.scope) (hs _ _), fun w env σ D D' o r q p => ?_⟩
  refine q1 w env σ (fun vs ph1 => D.nx (setSl [i, j] vs env) ph1) _ _ o r p.xc q fun w' zs vs s' o' rs hl q' => ?_
  cases rs with
  | nil => cases hl
  | cons r1 rs =>
    cases rs with
    | nil => cases hl
    | cons r2 rs =>
      cases rs with
      | cons _ _ => cases hl
      | nil => exact ⟨_, _, rfl, p.nx w' _ _ s' o' (((r.step s' o).set r1).set r2) q'⟩
theorem st_par3 (i j l : Nat) {x y z : Str} {px py pz pt pt2 : Pos} {kt k2} (hi : N[i]? = some x) (hj : N[j]? = some y) (hl : N[l]? = some z) (hij : i ≠ j) (hil : i ≠ l) (hjl : j ≠ l) (hx : sc.names.lookup x = some .local) (hy : sc.names.lookup y = some .local) (hz : sc.names.lookup z = some .local) (h : SA L N sc [a, b, c] [ea, eb, ec])
    (hw : ∀ env, env.scope = sc → swappedStores [.Tuple [.Name x px, .Name y py, .Name z pz] kt pt] (.Tuple [a, b, c] k2 pt2) env = pure (some [x, y, z]))
    (hs : ∀ l env, swapsWithSole [.Tuple [.Name x px, .Name y py, .Name z pz] kt pt] (.Tuple [a, b, c] k2 pt2) l env = pure false := by intro _ _; rfl) : SS L N sc (.Assign [.Tuple [.Name x px, .Name y py, .Name z pz] kt pt] (.Tuple [a, b, c] k2 pt2) pos) (.par [i, j, l] [ea, eb, ec]) := by
  intro k X W I
  obtain ⟨ta, p1, q1⟩ := h k X W I.base
  refine ⟨_, ps_par3 (i := i) (j := j) (l := l) I.base.calm (by rw [I.base.names]; exact I.base.nd) (by rw [I.base.names]; exact hi) (by rw [I.base.names]; exact hj) (by rw [I.base.names]; exact hl) hij hil hjl (by rw [I.base.scope]; exact hx) (by rw [I.base.scope]; exact hy) (by rw [I.base.scope]; exact hz) p1 (hw _ I.base.scope) (hs _ _), fun w env σ D D' o r q p => ?_⟩
  refine q1 w env σ (fun vs ph1 => D.nx (setSl [i, j, l] vs env) ph1) _ _ o r p.xc q fun w' zs vs s' o' rs hl q' => ?_
  cases rs with
  | nil => cases hl
  | cons r1 rs =>
    cases rs with
    | nil => cases hl
    | cons r2 rs =>
      cases rs with
      | nil => cases hl
      | cons r3 rs =>
        cases rs with
        | cons _ _ => cases hl
        | nil => exact ⟨_, _, _, rfl, p.nx w' _ _ s' o' ((((r.step s' o).set r1).set r2).set r3) q'⟩
/-! ### items -/
def setF (env : PySem.Env) (o i : Expr) (pos : Pos) : Prop := ∀ v, assign (.Subscript o i pos) env v = (do
      let ov ← holding [v] (eval o env)
      let iv ← holding [v, ov] (eval i env)
      standAt pos
      holding [v, ov, iv] (setItem ov iv v)
      release [v, ov, iv] [])
theorem st_seti {o i : Expr} {eo ei : E} {ps : Pos} (ha : SE L N sc a ea) (ho : SE L N sc o eo) (hi : SE L N sc i ei) (hf : ∀ env, setF env o i ps := by intro _ _; rfl) (hs : ∀ l env, swapsWithSole [.Subscript o i ps] a l env = pure false := by intro _ _; rfl)
    (hw : ∀ env, swappedStores [.Subscript o i ps] a env = pure none := by intro _; rfl) (h1 : ∀ env, (assignEach [.Subscript o i ps] env).map (·.2) = [assign (.Subscript o i ps) env] := by intro _; rfl) : SS L N sc (.Assign [.Subscript o i ps] a pos) (.seti eo ei ea) := by
  intro k X W I
  obtain ⟨ta, p1, q1⟩ := ha k X W I.base
  obtain ⟨to, p2, q2⟩ := ho k X W I.base
  obtain ⟨ti, p3, q3⟩ := hi k X W I.base
  refine ⟨_, ps_asg p1 (pg_sub p2 p3 (seti_ok (X := X) (by have := I.base.hu; omega)) (hf _)) (hs _ _) (hw _) (h1 _), fun w env σ D D' ok r q p => ?_⟩
  refine q1 w env σ _ _ _ ok r p.xc q fun w1 x v s1 o1 rv q => ?_
  refine q2 w1 env σ _ _ _ o1 (r.step s1 ok) (p.xc.step s1) q fun w2 y u s2 o2 ru q => ?_
  refine q3 w2 env σ _ _ _ o2 ((r.step s1 ok).step s2 o1) ((p.xc.step s1).step s2) q fun w3 z t s3 o3 rt q => ?_
  refine ⟨w3, y, z, x, fun ph4 => D.nx env ph4, rfl, o3, s3.rep o2 ru, rt, (s2.trans s3).rep o1 rv, q, fun w4 s4 o4 q => ?_⟩
  exact p.nx w4 env σ (((s1.trans s2).trans s3).trans s4) o4 ((((r.step s1 ok).step s2 o1).step s3 o2).step s4 o3) q
def SIs (L : Lw) (N : List Str) (sc : Scope) (tgs : List Expr) (is : List (E × E)) : Prop := ∀ k X W, InS L k N sc X W → ∃ g, PGs X tgs g ∧ ∀ (w : Wd) env σ (zs : List PV) (vs : List V) (K : PHp → Prop) QX Q', Ok X.K w → REnv X.K w env σ → PostX X.K X.mg L.pg w QX W → Reps X.K w.H w.μ zs vs → zs.length = is.length → wpIs (callK L.pg k) L.G QX is zs env w.ph K →
  (∀ w', Step w w' → Ok X.K w' → K w'.ph → Q' σ w'.H) → g vs σ w.H Q'
theorem is_nil : SIs L N sc [] [] := fun k X W I => ⟨_, pgs_nil, fun w env σ zs vs K QX Q' o r px rz hl q p => by
  cases rz with
  | nil => exact ⟨rfl, p w (Step.refl w) o q⟩
  | cons _ _ => cases hl⟩
theorem is_cons {o i : Expr} {eo ei : E} {ps : Pos} {tgs : List Expr} {is : List (E × E)} (ho : SE L N sc o eo) (hi : SE L N sc i ei) (h : SIs L N sc tgs is) (hf : ∀ env, setF env o i ps := by intro _ _; rfl)
    (hs : ∀ env, (assignEach (.Subscript o i ps :: tgs) env).map (·.2) = assign (.Subscript o i ps) env :: (assignEach tgs env).map (·.2) := by intro _; rfl) : SIs L N sc (.Subscript o i ps :: tgs) ((eo, ei) :: is) := by
  intro k X W I
  obtain ⟨to, p2, q2⟩ := ho k X W I.base
  obtain ⟨ti, p3, q3⟩ := hi k X W I.base
  obtain ⟨g, p4, q4⟩ := h k X W I
  refine ⟨_, pgs_cons (pg_sub p2 p3 (seti_ok (X := X) (by have := I.base.hu; omega)) (hf _)) p4 (hs _), fun w env σ zs vs K QX Q' ok r px rz hl q p => ?_⟩
  cases rz with
  | nil => cases hl
  | cons rv rr =>
    refine ⟨_, _, rfl, ?_⟩
    refine q2 w env σ _ _ _ ok r px q fun w2 y u s2 o2 ru q => ?_
    refine q3 w2 env σ _ _ _ o2 (r.step s2 ok) (px.step s2) q fun w3 z t s3 o3 rt q => ?_
    refine ⟨w3, y, z, _, _, rfl, o3, s3.rep o2 ru, rt, (s2.trans s3).rep ok rv, q, fun w4 s4 o4 q => ?_⟩
    refine q4 w4 env σ _ _ _ _ _ o4 (((r.step s2 ok).step s3 o2).step s4 o3) (((px.step s2).step s3).step s4) (((s2.trans s3).trans s4).reps ok rr) (by simpa using hl) q fun w5 s5 o5 q => ?_
    exact p w5 (((s2.trans s3).trans s4).trans s5) o5 q
theorem st_setis {tgs : List Expr} {is : List (E × E)} {kt k2} {pt pt2 : Pos} (h : SA L N sc xs es) (hg : SIs L N sc tgs is) (hl : is.length = es.length := by rfl) (hsz : es.length ≤ sizeLine := by decide) (hn : ∀ env, (assignEach tgs env).length = is.length := by intro _; rfl) (hst : ∀ env, (assignEach tgs env).findIdx? (·.1) = none := by intro _; rfl)
    (hs : ∀ l env, swapsWithSole [.Tuple tgs kt pt] (.Tuple xs k2 pt2) l env = pure false := by intro _ _; rfl) (hw : ∀ env, env.scope = sc → swappedStores [.Tuple tgs kt pt] (.Tuple xs k2 pt2) env = pure none) (h1 : ∀ env, (assignEach [.Tuple tgs kt pt] env).map (·.2) = [assign (.Tuple tgs kt pt) env] := by intro _; rfl) :
    SS L N sc (.Assign [.Tuple tgs kt pt] (.Tuple xs k2 pt2) pos) (.setis is es) := by
  intro k X W I
  obtain ⟨ta, p1, q1⟩ := h k X W I.base
  obtain ⟨g, p2, q2⟩ := hg k X W I
  refine ⟨_, ps_asg (pe_tup p1) (pg_tup (n := is.length) I.base.calm p2 (hn _) (hst _)) (hs _ _) (hw _ I.base.scope) (h1 _), fun w env σ D D' ok r q p => ?_⟩
  refine q1 w env σ _ _ _ ok r p.xc q fun w1 zs vs s1 o1 rs hz q => ⟨by rw [rs.length, hz]; exact hsz, fun T hT => ?_⟩
  have s2 := Step.put (w := w1) (u := .tup vs) hT
  have o2 := o1.put (u := .tup vs) hT
  refine ⟨T, vs, rfl, SqT.of upd_same, by rw [rs.length, hz, hl], ?_⟩
  refine q2 (w1.put T (.tup vs)) env σ zs vs _ _ _ o2 ((r.step s1 ok).step s2 o1) ((p.xc.step s1).step s2) (s2.reps o1 rs) (by rw [hz, hl]) q fun w3 s3 o3 q => ?_
  exact p.nx w3 env σ ((s1.trans s2).trans s3) o3 (((r.step s1 ok).step s2 o1).step s3 o2) q
/-! ### names and items -/
def SMs (L : Lw) (N : List Str) (sc : Scope) (tgs : List Expr) (ts : List MT) : Prop := ∀ k X W, InS L k N sc X W → ∃ g, PGs X tgs g ∧ ∀ (w : Wd) env σ (zs : List PV) (vs : List V) (K : Env → PHp → Prop) QX Q', Ok X.K w → REnv X.K w env σ → PostX X.K X.mg L.pg w QX W → Reps X.K w.H w.μ zs vs → zs.length = ts.length → wpMs (callK L.pg k) L.G QX ts zs env w.ph K →
  (∀ w' env' σ', Step w w' → Ok X.K w' → REnv X.K w' env' σ' → K env' w'.ph → Q' σ' w'.H) → g vs σ w.H Q'
theorem ms_nil : SMs L N sc [] [] := fun k X W I => ⟨_, pgs_nil, fun w env σ zs vs K QX Q' o r px rz hl q p => by
  cases rz with
  | nil => exact ⟨rfl, p w env σ (Step.refl w) o r q⟩
  | cons _ _ => cases hl⟩
theorem ms_n {i : Nat} {tg : Expr} {tgs : List Expr} {ts : List MT} (hg : STg L N sc (fun _ => true) tg (.name i)) (h : SMs L N sc tgs ts) (hs : ∀ env, (assignEach (tg :: tgs) env).map (·.2) = assign tg env :: (assignEach tgs env).map (·.2) := by intro _; rfl) : SMs L N sc (tg :: tgs) (.n i :: ts) := by
  intro k X W I
  obtain ⟨g, p2, q2⟩ := hg k X W I.base fun y _ => I.fn y
  obtain ⟨g', p4, q4⟩ := h k X W I
  refine ⟨_, pgs_cons p2 p4 (hs _), fun w env σ zs vs K QX Q' o r px rz hl q p => ?_⟩
  cases rz with
  | nil => cases hl
  | @cons z v zs vs rv rr =>
    refine ⟨_, _, rfl, ?_⟩
    have b : bindT (.name i) z env fun env' => wpMs (callK L.pg k) L.G QX ts zs env' w.ph K := q
    exact q2 w env σ z v _ _ o r rv b fun env' σ' r' q' _ => q4 w env' σ' _ _ _ _ _ o r' px rr (by simpa using hl) q' p
theorem ms_s {o i : Expr} {eo ei : E} {ps : Pos} {tgs : List Expr} {ts : List MT} (ho : SE L N sc o eo) (hi : SE L N sc i ei) (h : SMs L N sc tgs ts) (hf : ∀ env, setF env o i ps := by intro _ _; rfl)
    (hs : ∀ env, (assignEach (.Subscript o i ps :: tgs) env).map (·.2) = assign (.Subscript o i ps) env :: (assignEach tgs env).map (·.2) := by intro _; rfl) : SMs L N sc (.Subscript o i ps :: tgs) (.s eo ei :: ts) := by
  intro k X W I
  obtain ⟨to, p2, q2⟩ := ho k X W I.base
  obtain ⟨ti, p3, q3⟩ := hi k X W I.base
  obtain ⟨g, p4, q4⟩ := h k X W I
  refine ⟨_, pgs_cons (pg_sub p2 p3 (seti_ok (X := X) (by have := I.base.hu; omega)) (hf _)) p4 (hs _), fun w env σ zs vs K QX Q' ok r px rz hl q p => ?_⟩
  cases rz with
  | nil => cases hl
  | cons rv rr =>
    refine ⟨_, _, rfl, ?_⟩
    refine q2 w env σ _ _ _ ok r px q fun w2 y u s2 o2 ru q => ?_
    refine q3 w2 env σ _ _ _ o2 (r.step s2 ok) (px.step s2) q fun w3 z t s3 o3 rt q => ?_
    refine ⟨w3, y, z, _, _, rfl, o3, s3.rep o2 ru, rt, (s2.trans s3).rep ok rv, q, fun w4 s4 o4 q => ?_⟩
    refine q4 w4 env σ _ _ _ _ _ o4 (((r.step s2 ok).step s3 o2).step s4 o3) (((px.step s2).step s3).step s4) (((s2.trans s3).trans s4).reps ok rr) (by simpa using hl) q fun w5 env5 σ5 s5 o5 r5 q => ?_
    exact p w5 env5 σ5 (((s2.trans s3).trans s4).trans s5) o5 r5 q
theorem st_setm {tgs : List Expr} {ts : List MT} {kt k2} {pt pt2 : Pos} (h : SA L N sc xs es) (hg : SMs L N sc tgs ts) (hl : ts.length = es.length := by rfl) (hsz : es.length ≤ sizeLine := by decide) (hn : ∀ env, (assignEach tgs env).length = ts.length := by intro _; rfl) (hst : ∀ env, (assignEach tgs env).findIdx? (·.1) = none := by intro _; rfl)
    (hs : ∀ l env, swapsWithSole [.Tuple tgs kt pt] (.Tuple xs k2 pt2) l env = pure false := by intro _ _; rfl) (hw : ∀ env, env.scope = sc → swappedStores [.Tuple tgs kt pt] (.Tuple xs k2 pt2) env = pure none) (h1 : ∀ env, (assignEach [.Tuple tgs kt pt] env).map (·.2) = [assign (.Tuple tgs kt pt) env] := by intro _; rfl) :
    SS L N sc (.Assign [.Tuple tgs kt pt] (.Tuple xs k2 pt2) pos) (.setm ts es) := by
  intro k X W I
  obtain ⟨ta, p1, q1⟩ := h k X W I.base
  obtain ⟨g, p2, q2⟩ := hg k X W I
  refine ⟨_, ps_asg (pe_tup p1) (pg_tup (n := ts.length) I.base.calm p2 (hn _) (hst _)) (hs _ _) (hw _ I.base.scope) (h1 _), fun w env σ D D' ok r q p => ?_⟩
  refine q1 w env σ _ _ _ ok r p.xc q fun w1 zs vs s1 o1 rs hz q => ⟨by rw [rs.length, hz]; exact hsz, fun T hT => ?_⟩
  have s2 := Step.put (w := w1) (u := .tup vs) hT
  have o2 := o1.put (u := .tup vs) hT
  refine ⟨T, vs, rfl, SqT.of upd_same, by rw [rs.length, hz, hl], ?_⟩
  refine q2 (w1.put T (.tup vs)) env σ zs vs _ _ _ o2 ((r.step s1 ok).step s2 o1) ((p.xc.step s1).step s2) (s2.reps o1 rs) (by rw [hz, hl]) q fun w3 env3 σ3 s3 o3 r3 q => ?_
  exact p.nx w3 env3 σ3 ((s1.trans s2).trans s3) o3 r3 q
/-! ### branches, loops -/
theorem st_ife (hc : ST L N sc c ec) (ha : SB L N sc sts ss) (hb : SB L N sc sts' ss') : SS L N sc (.If c sts sts' pos) (.ife ec ss ss') := by
  intro k X W I
  obtain ⟨tc, p1, q1⟩ := hc k X W I.base
  obtain ⟨ta, p2, q2⟩ := ha k X W I
  obtain ⟨tb, p3, q3⟩ := hb k X W I
  refine ⟨_, ps_if p1 p2 p3, fun w env σ D D' o r q p => ?_⟩
  refine q1 w env σ (fun kk ph1 => if kk = true then wpB (callK L.pg k) L.G ss D env ph1 else wpB (callK L.pg k) L.G ss' D env ph1) _ _ o r p.xc q fun w1 b s1 o1 q => ?_
  cases b with
  | true =>
    simp only [if_true] at q ⊢
    exact q2 w1 env σ _ _ o1 (r.step s1 o) q (p.step s1)
  | false =>
    simp only [Bool.false_eq_true, if_false] at q ⊢
    exact q3 w1 env σ _ _ o1 (r.step s1 o) q (p.step s1)
theorem st_while (hc : ST L N sc c ec) (ha : SB L N sc sts ss) : SS L N sc (.While c sts [] pos) (.while_ ec ss) := by
  intro k X W I
  obtain ⟨tc, p1, q1⟩ := hc k X W I.base
  obtain ⟨ta, p2, q2⟩ := ha k X W I
  refine ⟨_, ps_while I.own p1 p2, fun w env σ D D' o r q p => ?_⟩
  obtain ⟨n, q⟩ := q
  refine ⟨fun m σ' H' => ∃ w' env', w'.H = H' ∧ Step w w' ∧ Ok X.K w' ∧ REnv X.K w' env' σ' ∧ whl (fun env' h K => wpE (callK L.pg k) L.G D.xc ec env' h fun v h1 => ∃ b, v = .bl b ∧ K b h1) (fun D' env' h => wpB (callK L.pg k) L.G ss D' env' h) D m env' w'.ph, ⟨n, w, env, rfl, Step.refl w, o, r, q⟩, ?_⟩
  rintro m σ' H' ⟨w1, env1, rfl, s1, o1, r1, q⟩
  cases m with
  | zero => exact q.elim
  | succ m =>
    refine q1 w1 env1 σ' _ _ _ o1 r1 (p.xc.step s1) q fun w2 b s2 o2 q => ?_
    cases b with
    | false =>
      simp only [Bool.false_eq_true, if_false] at q ⊢
      exact p.nx w2 env1 σ' (s1.trans s2) o2 (r1.step s2 o1) q
    | true =>
      simp only [if_true] at q ⊢
      refine ⟨fun σ'' H'' => ∃ m', m' < m + 1 ∧ ∃ w' env', w'.H = H'' ∧ Step w w' ∧ Ok X.K w' ∧ REnv X.K w' env' σ'' ∧ whl (fun env' h K => wpE (callK L.pg k) L.G D.xc ec env' h fun v h1 => ∃ b, v = .bl b ∧ K b h1) (fun D' env' h => wpB (callK L.pg k) L.G ss D' env' h) D m' env' w'.ph, fun _ _ h => h, ?_⟩
      refine q2 w2 env1 σ' _ _ o2 (r1.step s2 o1) q ⟨?_, p.rt.step (s1.trans s2), p.nx.step (s1.trans s2), ?_, p.xc.step (s1.trans s2)⟩
      · exact fun w3 env3 σ3 s3 o3 r3 q3 => ⟨m, Nat.lt_succ_self _, w3, env3, rfl, (s1.trans s2).trans s3, o3, r3, q3⟩
      · exact fun w3 env3 σ3 s3 o3 r3 q3 => ⟨m, Nat.lt_succ_self _, w3, env3, rfl, (s1.trans s2).trans s3, o3, r3, q3⟩
theorem forL_still {still : PHp → Prop} {t : Tg} {bd : Dn → Env → PHp → Prop} {D : Dn} {l : List PV} {env : Env} {ph : PHp} (h : forL still t bd D l env ph) : still ph := by
  cases l with
  | nil => exact h.1
  | cons v r => exact h.1
theorem st_for {tg iter : Expr} {t : Tg} {kk : ItK} {its : List E} (hi : SI L N sc tg iter kk its) (hg : STg L N sc (fun _ => true) tg t) (hb : SB L N sc sts ss) (hs : ∀ env x, foldedSetIterable iter env x = pure x := by intro _ _; rfl) : SS L N sc (.For tg iter sts [] pos) (.for_ t kk its ss) := by
  intro k X W I
  obtain ⟨wi, p1, q1⟩ := hi k X W I.base
  obtain ⟨g, p2, q2⟩ := hg k X W I.base fun y _ => I.fn y
  obtain ⟨tb, p3, q3⟩ := hb k X W I
  refine ⟨_, ps_for I.own I.base.calm p1 p2 p3 (hs _), fun w env σ D D' o r q p => ?_⟩
  refine q1 w env σ (fun items vs ph1 => forL (fun h => itItems kk vs h = some items) t (fun D' env' h => wpB (callK L.pg k) L.G ss D' env' h) D items env ph1) _ _ o r p.xc q ?_
  intro w1 args us items s1 o1 rs e1 q J hJ
  let P := fun (l : List PV) (env' : Env) (ph1 : PHp) => forL (fun h => itItems kk args h = some items) t (fun D' env' h => wpB (callK L.pg k) L.G ss D' env' h) D l env' ph1
  refine ⟨fun i m σ' H' => i + m = items.length ∧ ∃ w2 env2, w2.H = H' ∧ Ok X.K w2 ∧ Step w1 w2 ∧ REnv X.K w2 env2 σ' ∧ P (items.drop i) env2 w2.ph, ⟨items.length, by omega, w1, env, rfl, o1, Step.refl w1, r.step s1 o, q⟩, ?_⟩
  rintro i m σ' H' ⟨him, w2, env2, rfl, o2, s2, r2, q⟩
  have hst : itItems kk args w2.ph = some items := forL_still q
  obtain ⟨j1, j2⟩ := hJ w2 o2 (s2.reps o1 rs) items hst
  cases hd : items.drop i with
  | nil =>
    have hl : items.length ≤ i := List.drop_eq_nil_iff.mp hd
    have hi' : i = items.length := by omega
    rw [hd] at q
    exact .inl ⟨by rw [hi']; exact j2, p.nx w2 env2 σ' (s1.trans s2) o2 r2 q.2⟩
  | cons z rest =>
    have hlt : i < items.length := by
      apply Nat.lt_of_not_le
      intro z
      rw [List.drop_eq_nil_of_le z] at hd; cases hd
    have hz : items[i]? = some z := by
      have h0 : (items.drop i)[0]? = some z := by rw [hd]; rfl
      rw [List.getElem?_drop] at h0; simpa using h0
    have hrest : items.drop (i + 1) = rest := by
      have : (items.drop i).drop 1 = rest := by rw [hd]; rfl
      rw [List.drop_drop] at this; exact this
    obtain ⟨jgo, jy⟩ := j1 i z hz
    refine .inr ⟨jgo, fun σ'' H'' => ∃ m', m' < m ∧ (i + 1 + m' = items.length ∧ ∃ w2 env2, w2.H = H'' ∧ Ok X.K w2 ∧ Step w1 w2 ∧ REnv X.K w2 env2 σ'' ∧ P (items.drop (i + 1)) env2 w2.ph), fun _ _ h => h, fun v H'' hy => ?_⟩
    obtain ⟨w3, s3, o3, rfl, eph, rz⟩ := jy v H'' hy
    rw [hd] at q
    obtain ⟨_, q⟩ := q
    refine q2 w3 env2 σ' z v _ _ o3 (r2.step s3 o2) rz q fun env' σ'' r' q' _ => ?_
    rw [← eph] at q'
    have hnx : PostN X.K w3 (P rest) (fun σ'' H'' => ∃ m', m' < m ∧ (i + 1 + m' = items.length ∧ ∃ w2 env2, w2.H = H'' ∧ Ok X.K w2 ∧ Step w1 w2 ∧ REnv X.K w2 env2 σ'' ∧ P (items.drop (i + 1)) env2 w2.ph)) := fun w4 env4 σ4 s4 o4 r4 q4 =>
      ⟨m - 1, by omega, by omega, w4, env4, rfl, o4, (s2.trans s3).trans s4, r4, by rw [hrest]; exact q4⟩
    exact q3 w3 env' σ'' _ _ o3 r' q' ⟨hnx, p.rt.step ((s1.trans s2).trans s3), p.nx.step ((s1.trans s2).trans s3), hnx, p.xc.step ((s1.trans s2).trans s3)⟩
end
end RL

/-! RLTry: try, its handlers. -/
namespace RL
open PySem PySem.Spec PyProof.Rows L2
/-- what a handler's value is read as: at the exception's address, class, dict -/
abbrev TH := Addr → Value → Option Addr → TE
/-- what the clauses wish -/
def wHs (K : PySem.W.Frag) (Wout : WX) (D : Ends) : List (Value × Option Nat × TH) → WX
  | [] => Wout
  | (c, oi, te) :: r => fun cls d σ H => ∃ b, PySem.W.exmOne K cls c = some b ∧ (b = true → ∀ a, H a = none → te a cls d (match oi with | none => σ | some i => σ.set i (some (.ref a))) H D.rt) ∧ (b = false → wHs K Wout D r cls d σ H)
inductive HdsR (X : Cx) : List ExceptHandler → List (Value × Option Nat × TH) → Prop
  | nil : HdsR X [] []
  | plain {x : Str} {c : Value} {te : TH} {e : Expr} {np pr ph : Pos} {hds : List ExceptHandler} {l : List (Value × Option Nat × TH)} (hc : Names X x c) (he : ∀ (a : Addr) (oe : Obj) (cls : Value) (d : Option Addr) (pn : List (Addr × Obj)), Zc cls d oe → (∃ vs, oe.data = .fields vs) → PE (X.suite a ((a, oe) :: pn)) e (te a cls d))
      (r : HdsR X hds l) : HdsR X (.ExceptHandler (some (.Name x np)) none [.Return (some e) pr] ph :: hds) ((c, none, te) :: l)
  | named {x n : Str} {i : Nat} {c : Value} {te : TH} {e : Expr} {np pr ph : Pos} {hds : List ExceptHandler} {l : List (Value × Option Nat × TH)} (hi : X.N[i]? = some n) (hn : X.env.kindOf n = some .local) (hc : Names X x c)
      (he : ∀ (a : Addr) (oe : Obj) (cls : Value) (d : Option Addr) (pn : List (Addr × Obj)), Zc cls d oe → (∃ vs, oe.data = .fields vs) → PE (X.suite a ((a, oe) :: pn)) e (te a cls d))
      (r : HdsR X hds l) : HdsR X (.ExceptHandler (some (.Name x np)) (some n) [.Return (some e) pr] ph :: hds) ((c, some i, te) :: l)
section
variable {X : Cx} {body : List Stmt} {h₀ : ExceptHandler} {hds : List ExceptHandler} {l : List (Value × Option Nat × TH)} {pos : Pos} {tb : WX → TS} {Wout : WX}
theorem ps_tryR (hs : X.stack = X.env :: X.outer) (hf : X.env.frame = some X.env.locals) (hN : X.N.Nodup) (tk : Takes X Wout)
    (hb : ∀ (W : WX) (pn : List (Addr × Obj)) (xe : Value → Shared → Prop), Takes (X.tr pn xe) W → PassesOwn (model X.prog X.w) X.A X.env xe → PSs (X.tr pn xe) body (tb W))
    (hh : HdsR X (h₀ :: hds) l) : PS X (.Try body (h₀ :: hds) [] [] pos) (fun D σ H => tb (wHs X.K Wout D l) D σ H) := by
  constructor
  intro pins s σ H D I h
  have ok := I.ok
  have fr : X.A.frames = some (X.env :: X.outer) := by rw [ok.frames, hs]
  apply wpAny_Try_except
  refine wpAny_mono ((hb (wHs X.K Wout D l) (X.pn ++ pins) (fun e t1 => wpAny (model X.prog X.w) X.A (noteFrame e X.env) (fun _ t2 => wpAny (model X.prog X.w) X.A (setFlight e none)
    (fun _ t3 => wpAny (model X.prog X.w) X.A (handleBy e X.env (h₀ :: hds)) (L2.SP X pins D) X.xe t3) X.xe t2) X.xe t1) (fun u t hx => ?caught) PassesOwn.looking).run [] s σ H D (I.toTry _) h) (fun f t hsp => ?ends) (fun _ _ z => z)
  case ends =>
    cases f with
    | next => obtain ⟨σ1, H1, J, q⟩ := hsp; exact wpAny_execs_nil ⟨σ1, H1, J.ofTry ok, q⟩
    | brk => obtain ⟨σ1, H1, J, q⟩ := hsp; exact ⟨σ1, H1, J.ofTry ok, q⟩
    | cont => obtain ⟨σ1, H1, J, q⟩ := hsp; exact ⟨σ1, H1, J.ofTry ok, q⟩
    | ret u => obtain ⟨v, σ1, H1, J, r, q⟩ := hsp; exact ⟨v, σ1, H1, J.ofTry ok, r, q⟩
  case caught =>
    obtain ⟨a, B, sI, pins1, σ1, H1, cls, d, rfl, J1, nb, up, sky, na, os, ag, wish⟩ := hx
    have J : Inv X pins σ1 H1 sI := J1.ofTry ok
    have sky1 := sky
    rw [show (X.tr (X.pn ++ pins) _).stack = X.env :: X.outer from hs] at sky1
    show wpAny (model X.prog X.w) X.A (noteFrame (.ref a) X.env) _ _ _
    refine Sky.land Zc.steady fr hf sky1 fun h3 fl up3 => ?_
    have J3 : Inv X pins σ1 H1 { t with heap := h3 } := J.landed nb fl.1 (up.trans up3) os ag
    obtain ⟨o3, vs3, e3, z3, d3⟩ := fl.there
    have out : a ∉ frs (X.env :: X.outer) := fun hm => by
      obtain ⟨_, o', e', no⟩ := (fl.2.2.1).mem hm
      rw [e3] at e'
      cases e'
      exact no _ d3
    have nL : a ≠ X.env.locals := fun z => out (List.mem_filterMap.mpr ⟨X.env, List.mem_cons_self, by rw [hf, z]⟩)
    have nF : a ∉ X.fs := fun hm => by
      obtain ⟨e, he, q⟩ := List.mem_filterMap.mp hm
      exact out (List.mem_filterMap.mpr ⟨e, List.mem_cons_of_mem _ he, q⟩)
    have S3 := J3.suite e3 d3 na nL nF
    have LT : PySem.W.Looks (model X.prog X.w) h3 (typeOf (.ref a)) cls := fun A Q E s k q => wpAny_typeOf_ref (k _ _ e3) (by rw [z3.1]; exact q)
    have test : ∀ {x : Str} {c : Value} {np : Pos} {Q E : Value → Shared → Prop}, Names X x c → Q c { t with heap := h3 } → wpAny (model X.prog X.w) (X.A.mark (some (.ref a))) (eval (.Name x np) X.env) Q E { t with heap := h3 } := fun {x c np Q E} hc q => by
      obtain ⟨hg, hdb, hm | ⟨hm, hv, hnn⟩⟩ := hc
      · exact ld_glob (X := X.suite a ((a, o3) :: (X.pn ++ pins))) S3 hg hm q hdb
      · exact ld_blt (X := X.suite a ((a, o3) :: (X.pn ++ pins))) S3 hg hm hv q hnn hdb
    have go : ∀ {hds1 : List ExceptHandler} {l1 : List (Value × Option Nat × TH)}, HdsR X hds1 l1 → wHs X.K Wout D l1 cls d σ1 H1 → wpAny (model X.prog X.w) X.A (handleBy (.ref a) X.env hds1) (L2.SP X pins D) X.xe { t with heap := h3 } := by
      intro hds1 l1 hk
      induction hk with
      | nil =>
        intro wish
        apply wpAny_handleBy_nil
        obtain ⟨_, _, _, oe, vs, T, _, _, he, _, hd, h1, _⟩ := id fl
        unfold PySem.passOn
        refine wpAny_bind (wpAny_field he hd h1 ?_)
        rw [if_neg (by simp)]
        have up_ : wpAny (model X.prog X.w) X.A (setFlight (.ref a) X.env.frame) (fun _ t4 => wpAny (model X.prog X.w) X.A (throw (.ref a) : Sem Flow) (L2.SP X pins D) X.xe t4) X.xe { t with heap := h3 } := by
          rw [hf]
          refine HandSPX.setFlight_upZ fl fun h4 hh4 up4 => wpAny_throw (tk _ _ ⟨a, B, sI, pins, σ1, H1, cls, d, rfl, J, nb, (up.trans up3).trans up4, .inr (.inr ?_), na, os, ag, wish⟩)
          rw [hs]; exact hh4
        first
          | exact wpAny_bind (wpAny_pure (wpAny_bind up_))
          | exact wpAny_bind up_
      | @plain x c te e np pr ph hds2 l2 hc he r ih =>
        rintro ⟨b, hb1, hyes, hno⟩
        have LM := PySem.W.exm_one (M := model X.prog X.w) J3.kIn LT hb1
        refine wpAny_handleBy_cons (codeAny_handlers_test (test hc (LM.here ?_))) (fun q => by cases q)
        cases b with
        | false => exact ih (hno rfl)
        | true =>
          refine codeAny_handlers_suite (HandSPX.lands_againZ fl fun h4 fl4 up4 => ?_)
          have J4 : Inv X pins σ1 H1 { t with heap := h4 } := J.landed nb fl4.1 ((up.trans up3).trans up4) os ag
          obtain ⟨o4, vs4, e4, z4, d4⟩ := fl4.there
          have S4 := J4.suite e4 d4 na nL nF
          have P := pss_one (ps_ret (pos := pr) (he a o4 cls d (X.pn ++ pins) z4 ⟨_, d4⟩))
          refine wpAny_mono (P.run [] _ _ H1 { nx := fun _ _ => False, rt := D.rt } S4 (hyes rfl a na)) (fun f t6 hsp => ?_) (fun _ _ z => False.elim z)
          cases f with
          | next => obtain ⟨_, _, _, q⟩ := hsp; exact q.elim
          | brk => obtain ⟨_, _, _, q⟩ := hsp; exact q.elim
          | cont => obtain ⟨_, _, _, q⟩ := hsp; exact q.elim
          | ret u => obtain ⟨v, σ6, H6, S6, r6, q6⟩ := hsp; exact ⟨v, σ6, H6, S6.unsuite ok, r6, q6⟩
      | @named x n i c te e np pr ph hds2 l2 hi hn hc he r ih =>
        rintro ⟨b, hb1, hyes, hno⟩
        have LM := PySem.W.exm_one (M := model X.prog X.w) J3.kIn LT hb1
        refine wpAny_handleBy_cons (codeAny_handlers_test (test hc (LM.here ?_))) (fun q => by cases q)
        cases b with
        | false => exact ih (hno rfl)
        | true =>
          refine codeAny_handlers_suite_as (HandSPX.lands_againZ fl fun h4 fl4 up4 => ?_)
          have J4 : Inv X pins σ1 H1 { t with heap := h4 } := J.landed nb fl4.1 ((up.trans up3).trans up4) os ag
          obtain ⟨o4, vs4, e4, z4, d4⟩ := fl4.there
          have S4 := J4.suite e4 d4 na nL nF
          refine store_ok (X := X.suite a ((a, o4) :: (X.pn ++ pins))) (v := .ref a) S4 hN hi (.inl hn) rfl (fun t5 S5 => ?_) (.inr hn)
          have P := pss_one (ps_ret (pos := pr) (he a o4 cls d (X.pn ++ pins) z4 ⟨_, d4⟩))
          refine wpAny_mono (P.run [] t5 _ H1 { nx := fun _ _ => False, rt := D.rt } S5 (hyes rfl a na)) (fun f t6 hsp => ?_) (fun _ _ z => False.elim z)
          cases f with
          | next => obtain ⟨_, _, _, q⟩ := hsp; exact q.elim
          | brk => obtain ⟨_, _, _, q⟩ := hsp; exact q.elim
          | cont => obtain ⟨_, _, _, q⟩ := hsp; exact q.elim
          | ret u =>
            obtain ⟨v, σ6, H6, S6, r6, q6⟩ := hsp
            exact gone_ok (S6.unsuite ok) hN hi hn fun t7 J7 => ⟨v, _, H6, J7, r6, q6⟩
    exact go hh wish
end

/-! ### the handlers' values -/
/-- the canonical reading of a handler's value -/
def hCan (K : PySem.W.Frag) (mg : Str → Option Value) (L : Lw) (n : Option Nat) (he : HE) : TH := fun a cls d σ H Q' => ∃ (w : Wd) (px : PX) (v : PV), w.H = H ∧ Ok K w ∧ RepX K mg L.pg w.H w.μ px cls d ∧ (∀ i, n = some i → ∃ σ0 : L2.St, σ = σ0.set i (some (.ref a))) ∧
  he.val L.G px = some v ∧ ∀ w' u, Step w w' → Ok K w' → w'.ph = w.ph → Rep K w'.H w'.μ v u → Q' u w'.H
def hsCan (K : PySem.W.Frag) (mg : Str → Option Value) (L : Lw) (n : Option Nat) (es : List HE) (a : Addr) (cls : Value) (d : Option Addr) : TA := fun σ H Q' => ∃ (w : Wd) (px : PX) (vs : List PV), w.H = H ∧ Ok K w ∧ RepX K mg L.pg w.H w.μ px cls d ∧ (∀ i, n = some i → ∃ σ0 : L2.St, σ = σ0.set i (some (.ref a))) ∧
  HE.vals L.G px es = some vs ∧ ∀ w' us, Step w w' → Ok K w' → w'.ph = w.ph → Reps K w'.H w'.μ vs us → Q' us w'.H
section
variable (L : Lw) (N : List Str) (sc : Scope) (n : Option Nat)
def SH (x : Expr) (he : HE) : Prop := ∀ k X W, In L k N sc X W → ∀ (a : Addr) (oe : Obj) (cls : Value) (d : Option Addr) (pn : List (Addr × Obj)), Zc cls d oe → (∃ vs, oe.data = .fields vs) → PE (X.suite a ((a, oe) :: pn)) x (hCan X.K X.mg L n he a cls d)
def SHs (xs : List Expr) (es : List HE) : Prop := ∀ k X W, In L k N sc X W → ∀ (a : Addr) (oe : Obj) (cls : Value) (d : Option Addr) (pn : List (Addr × Obj)), Zc cls d oe → (∃ vs, oe.data = .fields vs) → PA (X.suite a ((a, oe) :: pn)) xs (hsCan X.K X.mg L n es a cls d)
end
section
variable {L : Lw} {N : List Str} {sc : Scope} {n : Option Nat} {x : Expr} {xs : List Expr} {he : HE} {hes : List HE} {pos p : Pos}
theorem pe_imp {X : Cx} {x : Expr} {t t' : TE} (h : PE X x t) (i : ∀ σ H Q, t' σ H Q → t σ H Q) : PE X x t' := ⟨fun pins s σ H Q J q => h.run pins s σ H Q J (i σ H Q q)⟩
theorem pa_imp {X : Cx} {x : List Expr} {t t' : TA} (h : PA X x t) (i : ∀ σ H Q, t' σ H Q → t σ H Q) : PA X x t' := ⟨fun pos pins s σ H Q J q => h.run pos pins s σ H Q J (i σ H Q q)⟩
theorem h_str {i : Str} {j} : SH L N sc n (.Constant (.str i) j pos) (.con (.str i)) := fun k X W I a oe cls d pn hz hf => pe_imp pe_str fun σ H Q ⟨w, px, v, e, o, r, s, hv, q⟩ => by
  cases hv; subst e; exact q w _ (Step.refl w) o rfl (.str i)
theorem h_int {i : Int} {j} : SH L N sc n (.Constant (.int i) j pos) (.con (.int i)) := fun k X W I a oe cls d pn hz hf => pe_imp pe_int fun σ H Q ⟨w, px, v, e, o, r, s, hv, q⟩ => by
  cases hv; subst e; exact q w _ (Step.refl w) o rfl (.int i)
theorem h_non {j} : SH L N sc n (.Constant .none j pos) (.con .non) := fun k X W I a oe cls d pn hz hf => pe_imp pe_non fun σ H Q ⟨w, px, v, e, o, r, s, hv, q⟩ => by
  cases hv; subst e; exact q w _ (Step.refl w) o rfl .non
theorem h_bl {b : Bool} {j} : SH L N sc n (.Constant (.bool b) j pos) (.con (.bl b)) := fun k X W I a oe cls d pn hz hf => pe_imp pe_bl fun σ H Q ⟨w, px, v, e, o, r, s, hv, q⟩ => by
  cases hv; subst e; exact q w _ (Step.refl w) o rfl (.bl b)
theorem h_glob (m : Nat) {y : Str} (h : L.pg.gl[m]?.map (·.1) = some y) (hg : sc.names.lookup y = some .globalImplicit) (hd : (y == ("__debug__" : Str)) = false := by decide) : SH L N sc n (.Name y pos) (.glob m) := by
  intro k X W I a oe cls d pn hz hf
  cases hq : L.pg.gl[m]? with
  | none => rw [hq] at h; cases h
  | some pr =>
    obtain ⟨x', v0⟩ := pr
    rw [hq] at h; cases h
    obtain ⟨at_, u, rfl, hm, ru⟩ := I.glb m _ _ hq
    refine pe_imp (pe_glob (gl_of I hg) hm ru hd) fun σ H Q ⟨w, px, v, e, o, r, s, hv, q⟩ => ?_
    have hv' : L.pg.gt.gl[m]? = some v := hv
    simp only [Pg.gt, List.getElem?_map, hq, Option.map_some, Option.some.injEq] at hv'
    subst hv'
    subst e
    exact q w _ (Step.refl w) o rfl (atom_rep at_)
theorem hs_nil : SHs L N sc n [] [] := fun k X W I a oe cls d pn hz hf => pa_imp pa_nil fun σ H Q ⟨w, px, v, e, o, r, s, hv, q⟩ => by
  cases hv; subst e; exact q w _ (Step.refl w) o rfl .nil
theorem hs_cons (h1 : SH L N sc n x he) (h2 : SHs L N sc n xs hes) (hs : ∀ env, starEach (x :: xs) env = (false, eval x env) :: starEach xs env := by intro _; rfl) : SHs L N sc n (x :: xs) (he :: hes) := by
  intro k X W I a oe cls d pn hz hf
  refine pa_imp (pa_cons (h1 k X W I a oe cls d pn hz hf) (h2 k X W I a oe cls d pn hz hf) (hs _)) fun σ H Q ⟨w, px, v, e, o, r, s, hv, q⟩ => ?_
  simp only [HE.vals] at hv
  cases e1 : HE.val L.G px he with
  | none => rw [e1] at hv; simp at hv
  | some v1 =>
    cases e2 : HE.vals L.G px hes with
    | none => rw [e1, e2] at hv; simp at hv
    | some vs =>
      rw [e1, e2] at hv
      simp at hv
      subst hv
      refine ⟨w, px, v1, e, o, r, s, e1, fun w1 u s1 o1 p1 r1 => ⟨w1, px, vs, rfl, o1, r.step s1 o, s, e2, fun w2 us s2 o2 p2 r2 => ?_⟩⟩
      exact q w2 _ (s1.trans s2) o2 (p2.trans p1) (.cons (s2.rep o1 r1) r2)
theorem HE.vals_length {G : GT} {px : PX} : ∀ {es : List HE} {vs : List PV}, HE.vals G px es = some vs → vs.length = es.length
  | [], vs, h => by cases h; rfl
  | e :: es, vs, h => by
    simp only [HE.vals] at h
    split at h
    · cases h; simp [HE.vals_length (by assumption)]
    · cases h
theorem h_lst (h : SHs L N sc n xs hes) (hl : hes.length ≤ 100 := by simp) : SH L N sc n (.List xs pos) (.lst hes) := by
  intro k X W I a oe cls d pn hz hf
  refine pe_imp (pe_lst (h k X W I a oe cls d pn hz hf)) fun σ H Q ⟨w, px, v, e, o, r, s, hv, q⟩ => ?_
  simp only [HE.val, Option.map_eq_some_iff] at hv
  obtain ⟨vs, hv, rfl⟩ := hv
  have hvl := HE.vals_length hv
  refine ⟨w, px, vs, e, o, r, s, hv, fun w1 us s1 o1 p1 r1 => ?_⟩
  have hsz : us.length ≤ sizeLine := by rw [r1.length, hvl]; exact Nat.le_trans hl (by decide)
  have P : Post X.K w1 (fun v' ph' => v' = .lst vs ∧ ph' = w1.ph) (fun u H' => Q u H') := fun w2 v' u s2 o2 r2 e2 => by
    obtain ⟨rfl, e2⟩ := e2
    exact q w2 u (s1.trans s2) o2 (e2.trans p1) r2
  exact ⟨hsz, P.lst (own := false) o1 r1 ⟨by rw [← r1.length]; exact hsz, rfl, rfl⟩⟩
theorem h_tup {k0} (h : SHs L N sc n xs hes) (hl : hes.length ≤ 100 := by simp) : SH L N sc n (.Tuple xs k0 pos) (.tup hes) := by
  intro k X W I a oe cls d pn hz hf
  refine pe_imp (pe_tup (h k X W I a oe cls d pn hz hf)) fun σ H Q ⟨w, px, v, e, o, r, s, hv, q⟩ => ?_
  simp only [HE.val, Option.map_eq_some_iff] at hv
  obtain ⟨vs, hv, rfl⟩ := hv
  have hvl := HE.vals_length hv
  refine ⟨w, px, vs, e, o, r, s, hv, fun w1 us s1 o1 p1 r1 => ?_⟩
  have hsz : us.length ≤ sizeLine := by rw [r1.length, hvl]; exact Nat.le_trans hl (by decide)
  have P : Post X.K w1 (fun v' ph' => v' = .tup vs ∧ ph' = w1.ph) (fun u H' => Q u H') := fun w2 v' u s2 o2 r2 e2 => by
    obtain ⟨rfl, e2⟩ := e2
    exact q w2 u (s1.trans s2) o2 (e2.trans p1) r2
  exact ⟨hsz, P.tup o1 r1 ⟨rfl, rfl⟩⟩
end
/-! ### the clauses -/
/-- a clause of the text and its short form -/
inductive SHd (L : Lw) (N : List Str) (sc : Scope) : List ExceptHandler → List Hd → Prop
  | nil : SHd L N sc [] []
  | plain {x : Str} {e : Expr} {he : HE} {np pr ph : Pos} {hds : List ExceptHandler} {l : List Hd} (c : Nat) {cl : Cl} (hc : L.pg.cls[c]? = some cl) (hx : cl.name = x) (hg : sc.names.lookup x = some .globalImplicit) (hdb : (x == ("__debug__" : Str)) = false) (h : SH L N sc none e he) (r : SHd L N sc hds l) :
      SHd L N sc (.ExceptHandler (some (.Name x np)) none [.Return (some e) pr] ph :: hds) (⟨[c], he⟩ :: l)
  | named {x n : Str} {e : Expr} {he : HE} {np pr ph : Pos} {hds : List ExceptHandler} {l : List Hd} (c i : Nat) {cl : Cl} (hc : L.pg.cls[c]? = some cl) (hx : cl.name = x) (hg : sc.names.lookup x = some .globalImplicit) (hdb : (x == ("__debug__" : Str)) = false) (hi : N[i]? = some n) (hn : sc.names.lookup n = some .local)
      (h : SH L N sc (some i) e he) (r : SHd L N sc hds l) : SHd L N sc (.ExceptHandler (some (.Name x np)) (some n) [.Return (some e) pr] ph :: hds) (⟨[c], he⟩ :: l)
/-- a block's canonical reading -/
def sCan (K : PySem.W.Frag) (mg : Str → Option Value) (L : Lw) (k : Nat) (ss : List S) (W : WX) : TS := fun D' σ H => ∃ (w : Wd) (env : Env) (D : Dn), w.H = H ∧ Ok K w ∧ REnv K w env σ ∧ wpB (callK L.pg k) L.G ss D env w.ph ∧ DPost K mg L.pg w W D D'
theorem hd_parts {L : Lw} {N : List Str} {sc : Scope} {k : Nat} {X : Cx} {W : WX} (I : InS L k N sc X W) {hds : List ExceptHandler} {l : List Hd} (h : SHd L N sc hds l) :
    ∃ l', HdsR X hds l' ∧ ∀ (w0 w : Wd) (D : Dn) (D' : Ends), DPost X.K X.mg L.pg w0 W D D' → Step w0 w → ∀ (px : PX) (cls : Value) (d : Option Addr) (σ : L2.St), Ok X.K w → RepX X.K X.mg L.pg w.H w.μ px cls d → hdX L.G l D px w.ph → wHs X.K W D' l' cls d σ w.H := by
  induction h with
  | nil => exact ⟨[], .nil, fun w0 w D D' p s px cls d σ o r q => p.xc w px cls d σ s o r q⟩
  | @plain x e he np pr ph hds l c cl hc hx hg hdb h r ih =>
    obtain ⟨l', h1, h2⟩ := ih
    subst hx
    obtain ⟨C, hC⟩ := I.base.cls.1 c cl hc
    refine ⟨(.ref C, none, hCan X.K X.mg L none he) :: l', .plain ⟨gl_of I.base hg, hdb, .inl hC.gC⟩ (h k X W I.base) h1, fun w0 w D D' p s px cls d σ o rx q => ?_⟩
    obtain ⟨pc, PC, e1, e2, rfl, e4⟩ := id rx
    refine ⟨L.pg.sub px.cls c, I.base.cls.2 px.cls c pc cl PC C e1 hc e2 hC.gC, fun hb a ha => ?_, fun hb => ?_⟩
    · have q' : ∃ v, he.val L.G px = some v ∧ D.rt v w.ph := by
        unfold hdX at q
        rw [List.find?_cons_of_pos (by simpa [Lw.G, Pg.gt] using hb)] at q
        exact q
      obtain ⟨v, hv, q⟩ := q'
      exact ⟨w, px, v, rfl, o, rx, fun i hi => (by cases hi), hv, fun w' u s' o' p' r' => p.rt w' v u (s.trans s') o' r' (by rw [p']; exact q)⟩
    · refine h2 w0 w D D' p s px _ d σ o rx ?_
      unfold hdX at q
      rw [List.find?_cons_of_neg (by simpa [Lw.G, Pg.gt] using hb)] at q
      exact q
  | @named x n e he np pr ph hds l c i cl hc hx hg hdb hi hn h r ih =>
    obtain ⟨l', h1, h2⟩ := ih
    subst hx
    obtain ⟨C, hC⟩ := I.base.cls.1 c cl hc
    refine ⟨(.ref C, some i, hCan X.K X.mg L (some i) he) :: l', .named (by rw [I.base.names]; exact hi) (by show X.env.scope.names.lookup n = _; rw [I.base.scope]; exact hn) ⟨gl_of I.base hg, hdb, .inl hC.gC⟩ (h k X W I.base) h1, fun w0 w D D' p s px cls d σ o rx q => ?_⟩
    obtain ⟨pc, PC, e1, e2, rfl, e4⟩ := id rx
    refine ⟨L.pg.sub px.cls c, I.base.cls.2 px.cls c pc cl PC C e1 hc e2 hC.gC, fun hb a ha => ?_, fun hb => ?_⟩
    · have q' : ∃ v, he.val L.G px = some v ∧ D.rt v w.ph := by
        unfold hdX at q
        rw [List.find?_cons_of_pos (by simpa [Lw.G, Pg.gt] using hb)] at q
        exact q
      obtain ⟨v, hv, q⟩ := q'
      exact ⟨w, px, v, rfl, o, rx, fun j hj => (by cases hj; exact ⟨σ, rfl⟩), hv, fun w' u s' o' p' r' => p.rt w' v u (s.trans s') o' r' (by rw [p']; exact q)⟩
    · refine h2 w0 w D D' p s px _ d σ o rx ?_
      unfold hdX at q
      rw [List.find?_cons_of_neg (by simpa [Lw.G, Pg.gt] using hb)] at q
      exact q
theorem st_try {L : Lw} {N : List Str} {sc : Scope} {sts : List Stmt} {ss : List S} {h₀ : ExceptHandler} {hds : List ExceptHandler} {l : List Hd} {pos : Pos} (hb : SB L N sc sts ss) (hh : SHd L N sc (h₀ :: hds) l) : SS L N sc (.Try sts (h₀ :: hds) [] [] pos) (.try_ ss l) := by
  intro k X W I
  obtain ⟨l', h1, h2⟩ := hd_parts I hh
  refine ⟨_, ps_tryR (tb := fun W' => sCan X.K X.mg L k ss W') I.stk I.frm (by rw [I.base.names]; exact I.base.nd) I.base.tk (fun W' pn xe tk' own' => ?_) h1, fun w env σ D D' o r q p => ?_⟩
  · have I' : InS L k N sc (X.tr pn xe) W' := ⟨⟨I.base.names, I.base.scope, I.base.nd, I.base.calm, I.base.guards, I.base.room, I.base.sys, tk', I.base.cls, I.base.blt, I.base.glb, I.base.calls⟩, I.fn, own', I.stk, I.frm⟩
    obtain ⟨t, p1, q1⟩ := hb k _ _ I'
    refine ⟨fun pins s σ H D J h => p1.run pins s σ H D J ?_⟩
    obtain ⟨w, env, D0, rfl, o, r, q, p⟩ := h
    exact q1 w env σ D0 D o r q p
  · refine ⟨w, env, { D with xc := hdX L.G l D }, rfl, o, r, q, ⟨p.nx, p.rt, p.bk, p.ct, fun w' px cls d σ' s' o' rx q' => ?_⟩⟩
    exact h2 w w' D D' p s' px cls d σ' o' rx q'
end RL

/-! RLSound8: defs. -/
namespace RL
open PySem PySem.Spec PyProof.Rows L2
/-! ### behind a body: new numbers are let go -/
def Wd.cutoff (w : Wd) (n : Nat) : Wd := ⟨⟨w.μ.num.take n, w.μ.hid⟩, w.ph.take n, w.H⟩
section
variable {K : PySem.W.Frag} {w : Wd} {n : Nat}
theorem out_cut {a : Addr} (h : w.μ.out a) : (w.cutoff n).μ.out a := ⟨fun z => h.1 (List.mem_of_mem_take z), h.2⟩
theorem num_cut {m : Nat} {a : Addr} (h : w.μ.num[m]? = some a) (hm : m < n) : (w.cutoff n).μ.num[m]? = some a := by
  show (w.μ.num.take n)[m]? = some a
  rw [List.getElem?_take_of_lt hm]; exact h
mutual
theorem rep_old : ∀ {x : PV} {v : V}, Old n x → Rep K w.H w.μ x v → Rep K w.H (w.cutoff n).μ x v
  | _, _, _, .non => .non
  | _, _, _, .bl b => .bl b
  | _, _, _, .int b => .int b
  | _, _, _, .str b => .str b
  | _, _, h, .tup e r => by cases h with | tup h => exact .tup e (reps_old h r)
  | _, _, h, .lst e o r => by cases h with | lst h => exact .lst e (out_cut o) (reps_old h r)
  | _, _, _, .scr h => .scr (by
      rcases h with ⟨h, o⟩ | h
      · exact .inl ⟨h, out_cut o⟩
      · exact .inr h)
  | _, _, h, .ref e => by cases h with | ref h => exact .ref (num_cut e h)
theorem reps_old : ∀ {x : List PV} {v : List V}, OldL n x → Reps K w.H w.μ x v → Reps K w.H (w.cutoff n).μ x v
  | _, _, _, .nil => .nil
  | _, _, h, .cons r t => by cases h with | cons h1 h2 => exact .cons (rep_old h1 r) (reps_old h2 t)
end
theorem repk_old {κ : Type} : ∀ {x : List (κ × PV)} {v : List (κ × V)}, OldL n (x.map (·.2)) → RepK K w.H w.μ x v → RepK K w.H (w.cutoff n).μ x v
  | _, _, _, .nil => .nil
  | _, _, h, .cons r t => by cases h with | cons h1 h2 => exact .cons (rep_old h1 r) (repk_old h2 t)
theorem gone (o : Ok K w) {m : Nat} {a : Addr} (h : w.μ.num[m]? = some a) (hm : n ≤ m) : (w.cutoff n).μ.out a := by
  refine ⟨fun z => ?_, fun z => (o.hid a z).1 (List.mem_of_getElem? h)⟩
  obtain ⟨i, hi, e⟩ := List.getElem_of_mem z
  have hi' : i < w.μ.num.length ∧ i < n := by
    have : i < (w.μ.num.take n).length := hi
    rw [List.length_take] at this; omega
  have e2 : w.μ.num[i]? = some a := by
    have : (w.μ.num.take n)[i]? = some a := by
      have q : (w.cutoff n).μ.num[i]? = some a := by rw [List.getElem?_eq_getElem hi, e]
      exact q
    rwa [List.getElem?_take_of_lt hi'.2] at this
  obtain ⟨j1, f1⟩ := List.getElem?_eq_some_iff.mp e2
  obtain ⟨j2, f2⟩ := List.getElem?_eq_some_iff.mp h
  have := (List.getElem_inj o.nd).mp (f1.trans f2.symm)
  omega
mutual
theorem rep_frz (o : Ok K w) : ∀ {x y : PV} {v : V}, Frz n w.ph x y → Rep K w.H w.μ x v → Rep K w.H (w.cutoff n).μ y v
  | _, _, _, .non, r => by cases r; exact .non
  | _, _, _, .bl b, r => by cases r; exact .bl b
  | _, _, _, .int b, r => by cases r; exact .int b
  | _, _, _, .str b, r => by cases r; exact .str b
  | _, _, _, .scr b, r => by
    cases r with
    | scr h =>
      refine .scr ?_
      rcases h with ⟨h, o⟩ | h
      · exact .inl ⟨h, out_cut o⟩
      · exact .inr h
  | _, _, _, .tup h, r => by cases r with | tup e r => exact .tup e (reps_frz o h r)
  | _, _, _, .lst h, r => by cases r with | lst e o' r => exact .lst e (out_cut o') (reps_frz o h r)
  | _, _, _, .old h, r => by cases r with | ref e => exact .ref (num_cut e h)
  | _, _, _, .ref hm hx h, r => by
    cases r with
    | ref e =>
      obtain ⟨vs, e1, r1⟩ := o.ob _ _ _ e hx
      exact .lst e1 (gone o e hm) (reps_frz o h r1)
theorem reps_frz (o : Ok K w) : ∀ {x y : List PV} {v : List V}, FrzL n w.ph x y → Reps K w.H w.μ x v → Reps K w.H (w.cutoff n).μ y v
  | _, _, _, .nil, r => by cases r; exact .nil
  | _, _, _, .cons h t, r => by cases r with | cons a b => exact .cons (rep_frz o h a) (reps_frz o t b)
end
mutual
theorem old_rep {H : Hp} {μ : Mu} : ∀ {x : PV} {v : V}, Rep K H μ x v → Old μ.num.length x
  | _, _, .non => .non
  | _, _, .bl b => .bl b
  | _, _, .int b => .int b
  | _, _, .str b => .str b
  | _, _, .tup e r => .tup (old_reps r)
  | _, _, .lst e o r => .lst (old_reps r)
  | _, _, .scr h => .scr _
  | _, _, .ref e => .ref (List.getElem?_eq_some_iff.mp e).1
theorem old_reps {H : Hp} {μ : Mu} : ∀ {x : List PV} {v : List V}, Reps K H μ x v → OldL μ.num.length x
  | _, _, .nil => .nil
  | _, _, .cons a b => .cons (old_rep a) (old_reps b)
end
theorem old_repk {κ : Type} {H : Hp} {μ : Mu} : ∀ {x : List (κ × PV)} {v : List (κ × V)}, RepK K H μ x v → OldL μ.num.length (x.map (·.2))
  | _, _, .nil => .nil
  | _, _, .cons a b => .cons (old_rep a) (old_repk b)
theorem old_ob (o : Ok K w) {i : Nat} {x : PO} (h : w.ph[i]? = some x) : OldO w.ph.length x := by
  have hi := (List.getElem?_eq_some_iff.mp h).1
  have hn : i < w.μ.num.length := by rw [o.len]; exact hi
  have r := o.ob i _ x (List.getElem?_eq_getElem hn) h
  rw [← o.len]
  cases x with
  | lst xs => obtain ⟨_, _, r⟩ := r; exact old_reps r
  | dK xs => obtain ⟨_, _, r⟩ := r; exact old_repk r
  | dT xs => obtain ⟨_, _, r⟩ := r; exact old_repk r
theorem cut_ok {w0 : Wd} (o0 : Ok K w0) (s : Step w0 w) (o : Ok K w) (hold : ∀ i z, i < w0.ph.length → w.ph[i]? = some z → w0.ph[i]? = some z ∨ OldO w0.ph.length z) : Step w0 (w.cutoff w0.ph.length) ∧ Ok K (w.cutoff w0.ph.length) := by
  obtain ⟨l, el, hl⟩ := s.grow
  have e0 : w.μ.num.take w0.ph.length = w0.μ.num := by
    rw [el, ← o0.len, List.take_left']; rfl
  have s2 : Step w0 (w.cutoff w0.ph.length) := ⟨⟨[], by show w.μ.num.take _ = _; rw [e0, List.append_nil], fun _ h => absurd h (by simp)⟩, s.keep, s.some_, s.hidn, s.hidk⟩
  have o2 : Ok K (w.cutoff w0.ph.length) := by
    refine ⟨?_, ?_, fun i a z h1 h2 => ?_, fun a ha => ?_⟩
    · show (w.μ.num.take _).length = (w.ph.take _).length
      rw [List.length_take, List.length_take, o.len]
    · exact o.nd.sublist (List.take_sublist ..)
    · have hi : i < w0.ph.length := by
        have : (w.ph.take w0.ph.length)[i]? = some z := h2
        have := (List.getElem?_eq_some_iff.mp this).1
        rw [List.length_take] at this; omega
      have h2' : w.ph[i]? = some z := by
        have : (w.ph.take w0.ph.length)[i]? = some z := h2
        rwa [List.getElem?_take_of_lt hi] at this
      have h1' : w.μ.num[i]? = some a := by
        have : (w.μ.num.take w0.ph.length)[i]? = some a := h1
        rwa [List.getElem?_take_of_lt hi] at this
      have old : OldO w0.ph.length z := by
        rcases hold i z hi h2' with h | h
        · exact old_ob o0 h
        · exact h
      have r := o.ob i a z h1' h2'
      cases z with
      | lst xs => obtain ⟨vs, e, r⟩ := r; exact ⟨vs, e, reps_old old r⟩
      | dK xs => obtain ⟨vs, e, r⟩ := r; exact ⟨vs, e, repk_old old r⟩
      | dT xs => obtain ⟨vs, e, r⟩ := r; exact ⟨vs, e, repk_old old r⟩
    · obtain ⟨h1, vs, e⟩ := o.hid a ha
      exact ⟨fun z => h1 (List.mem_of_mem_take z), vs, e⟩
  exact ⟨s2, o2⟩
theorem ret_ok {w0 : Wd} (o0 : Ok K w0) {gc : Bool} {Q : QV} {Q' : VK} (p : Post K w0 Q Q') : Post K w0 (retS gc w0.ph Q) Q' := by
  intro w x v s o r q
  unfold retS at q
  split at q
  · obtain ⟨y, hf, hold, q⟩ := q
    obtain ⟨s2, o2⟩ := cut_ok o0 s o hold
    exact p (w.cutoff w0.ph.length) y v s2 o2 (rep_frz o hf r) q
  · exact p w x v s o r q
end
/-- an exception leaves the body -/
theorem retX_ok {K : PySem.W.Frag} {mg : Str → Option Value} {pg : Pg} {w0 : Wd} (o0 : Ok K w0) {gc : Bool} {X : QX} {W : WX} (p : PostX K mg pg w0 X W) : PostX K mg pg w0 (retX gc w0.ph X) W := by
  intro w px cls d σ' s o r q
  unfold retX at q
  split at q
  · obtain ⟨hf, hold, q⟩ := q
    obtain ⟨s2, o2⟩ := cut_ok o0 s o hold
    refine p (w.cutoff w0.ph.length) px cls d σ' s2 o2 ?_ q
    obtain ⟨c, C, h1, h2, h3, h4⟩ := r
    refine ⟨c, C, h1, h2, h3, ?_⟩
    cases e : px.arg with
    | none => rw [e] at h4; exact h4
    | some v =>
      rw [e] at h4
      obtain ⟨f, dd, u, q1, q2, q3, q4⟩ := h4
      exact ⟨f, dd, u, q1, q2, q3, rep_old (hf v e) q4⟩
  · exact p w px cls d σ' s o r q
/-! ### defs -/
/-- a def of the text and its short form -/
structure DefS (L : Lw) (d : Df) (st : Stmt) : Prop where
  scope : FnScope d.N d.ps (defScope st)
  body : SB L d.N (defScope st) (defBody st) d.body
structure Ground0 (L : Lw) (K : PySem.W.Frag) (mg : Str → Option Value) : Prop where
  sys : ∃ o, K.lookup sysModules = some o
  blt : ∀ x ∈ bnames, mg x = none
  glb : ∀ (n : Nat) (x : Str) (v : PV), L.pg.gl[n]? = some (x, v) → ∃ (a : Atom) (u : Value), v = a.pv ∧ mg x = some u ∧ RelV a.v u
  cls : ClsF K mg L.pg
  fns : ∀ (f : Nat) (d : Df) (st : Stmt), L.pg.defs[f]? = some d → L.sts[f]? = some st → ∃ fa fd, mg d.name = some (.ref fa) ∧ Fun K d.name d.name st fa fd
theorem start_env {K : PySem.W.Frag} {w : Wd} {N : List Str} {n : Nat} {as : List PV} {vs : List V} (r : Reps K w.H w.μ as vs) : REnv K w (as.map some ++ List.replicate (N.length - as.length) none) (L2.start N vs) := by
  have hl := r.length
  refine ⟨by simp [L2.start, hl], fun i x h => ?_⟩
  by_cases hi : i < as.length
  · rw [List.getElem?_append_left (by simpa using hi), List.getElem?_map] at h
    cases e : as[i]? with
    | none => rw [e] at h; cases h
    | some y =>
      rw [e] at h; cases h
      obtain ⟨v, hv, rv⟩ := r.get e
      refine ⟨v, ?_, rv⟩
      unfold L2.start
      rw [List.getElem?_append_left (by simp [hl]; exact hi), List.getElem?_map, hv]; rfl
  · rw [List.getElem?_append_right (by simpa using hi), List.getElem?_replicate] at h
    split at h <;> cases h
theorem guards_deeper {A : Around} {env : PySem.Env} (h : A.guards = some []) : (A.deeper env).guards = some [] := h
theorem fn_all {L : Lw} {P : Program} {wd : World} {K : PySem.W.Frag} {mg : Str → Option Value} {base : Heap} (B : Ground0 L K mg) (D : ∀ (f : Nat) (d : Df) (st : Stmt), L.pg.defs[f]? = some d → L.sts[f]? = some st → DefS L d st) :
    ∀ (k f : Nat) (d : Df) (st : Stmt), L.pg.defs[f]? = some d → L.sts[f]? = some st → ∀ (fa : Addr) (fd : FuncData), Fun K d.name d.name st fa fd → FnG P wd K mg base k fa fd d.ps (spD K mg L.pg k f)
  | 0, f, d, st, hd, hst, fa, fd, F => ⟨fun vs H Q E h => by obtain ⟨w, as, Q, QX, rfl, o, r, px, h, p⟩ := h; exact h.elim, fun A outer s H args us vs Q E _ _ _ _ _ h => by obtain ⟨w, as, Q, QX, rfl, o, r, px, h, p⟩ := h; exact h.elim⟩
  | k + 1, f, d, st, hd, hst, fa, fd, F => by
    have unf : ∀ (as : List PV) (ph : PHp) (Q : QV) (QX : QX), callK L.pg (k + 1) f as ph Q QX → bodyS (callK L.pg k) L.G QX d as ph Q := fun as ph Q QX h => by
      have h' : (match L.pg.defs[f]? with
        | some d => bodyS (callK L.pg k) L.pg.gt QX d as ph Q
        | none => False) := h
      rw [hd] at h'
      exact h'
    have len : ∀ (vs : List V) (H : Hp) (Q : VK) (E : XK), spD K mg L.pg (k + 1) f vs H Q E → vs.length = d.ps.length := fun vs H Q E h => by
      obtain ⟨w, as, Q, QX, rfl, o, r, px, h, p⟩ := h
      rw [r.length]; exact (unf as _ _ _ h).1
    refine ⟨len, fun A outer s H args us vs Q E hg hr e0 hb r hsp => ?_⟩
    have hl := len _ _ _ _ hsp
    obtain ⟨S, hbody⟩ := D f d st hd hst
    obtain ⟨oc, od, kV, doc, pm, an, cdv, ct, osl, rfl, lk, hcd⟩ := F.ex
    have KX : K.In s.heap := e0.mod.kin.keeps fun b o e => (e0.bs b o e).1
    have lim : s.heap.NoLimit := e0.mod.nolimit.keeps fun b o e => (e0.bs b o e).1
    have kinds : ∀ y ∈ d.ps.zip us, (defScope st).names.lookup y.1 = some .local ∨ ((defScope st).names.lookup y.1 = some .cell ∧ ((cellsFrom (s.heap.objs.size + 1) (defScope st).names []).lookup y.1).isSome = true) := by
      rintro ⟨y, v⟩ hy
      exact (S.par y (List.of_mem_zip hy).1).imp id fun q => ⟨q, PySem.W.cellsFrom_some _ _ _ (.inl q)⟩
    refine codeAny_call_function hr.depth (KX _ _ lk) rfl S.co S.gen rfl (PySem.W.codeRec_of KX hcd) (hb _ _ _ _ (wpAny_newFunctionEnv_cells S.kind kinds fun env he s1 x => ?_))
    subst he
    refine ⟨lim.keeps x.toInCall.keep, codeAny_func ?_⟩
    have I0 := inv_start (CX := L2.CX P wd) (E := E) S hr.hd e0 hl r x
    -- where the body stands
    have hX : InS L k d.N (defScope st) (cxOf (L2.CX P wd) P wd K mg base d.N d.name (defScope st) fa cdv A outer s H E) (fun cls d _ H => E cls d H) :=
      ⟨⟨rfl, rfl, S.nd, rfl, guards_deeper hg, hr.deeper _, B.sys, takes_of rfl rfl rfl rfl, B.cls, B.blt, B.glb, fun f' d' st' h1 h2 => by
        obtain ⟨fa', fd', m1, F'⟩ := B.fns f' d' st' h1 h2
        exact ⟨fa', fd', m1, F', fn_all B D k f' d' st' h1 h2 fa' fd' F'⟩⟩, fun _ => rfl, passes_of rfl, rfl, rfl⟩
    obtain ⟨t, ht, hq⟩ := hbody k _ _ hX
    obtain ⟨w, as, Qp, QXp, rfl, o, ra, px, hc, p⟩ := hsp
    obtain ⟨_, hc⟩ := unf as _ _ _ hc
    have post : Post K w (retS d.gc w.ph Qp) Q := ret_ok o p
    have hrun := hq w _ (L2.start d.N vs) { nx := fun _ h => retS d.gc w.ph Qp .non h, rt := retS d.gc w.ph Qp, xc := retX d.gc w.ph QXp } { nx := fun _ H' => Q .non H', rt := Q } o (start_env (n := 0) ra) hc
      ⟨fun w' e' σ' s' o' r' q' => post w' .non .non s' o' .non q', post, fun w' e' σ' s' o' r' q' => q'.elim, fun w' e' σ' s' o' r' q' => q'.elim, retX_ok o px⟩
    refine wpAny_mono (ht.run [] s1 (L2.start d.N vs) w.H _ I0 hrun) (fun fl s' hs => ?_) fun e s' hs => hs
    cases fl with
    | ret u =>
      obtain ⟨v, σ', H', J, rv, q⟩ := hs
      exact ⟨v, H', J.os, J.bare, J.base, J.hok, rv, q⟩
    | next =>
      obtain ⟨σ', H', J, q⟩ := hs
      exact ⟨.non, H', J.os, J.bare, J.base, J.hok, rfl, q⟩
    | brk =>
      obtain ⟨_, _, _, q⟩ := hs
      exact q.elim
    | cont =>
      obtain ⟨_, _, _, q⟩ := hs
      exact q.elim
end RL

/-! RLSound9: the law's call. -/
namespace RL
open PySem PySem.Spec PySem.W PySem.Calls PyProof.Rows L2
/-- the script, as it lies -/
def scrO (us : List Value) : Obj := { cls := .type "list", data := .seq us.toArray }
section
variable {P : Program} {wd : World} {K : PySem.W.Frag} {mg mb : Str → Option Value} {k : Nat} {fa a : Addr} {fd : FuncData} {x : Str} {sp : Sp} {s1 : Shared} {us : List Value} {ns : List Int}
theorem begin_at (H : Hp) (only : ∀ b u, H b = some u → b = a ∧ u = .frz (scrO us) (.lst (ns.map V.int)) ∧ K.lookup a = none) (hS : SqL K H a (ns.map V.int)) (KX : K.In s1.heap) (hns : s1.heap.Ns mainGlobals mg) (hb : s1.heap.Ns builtinsNs mb) (hbb : ∀ x : Str, x ≠ "__name__" → mb x = bootBuiltins x)
    (hlim : s1.heap.NoLimit) (hg : s1.gens = #[]) (ha : s1.heap.get? a = some (scrO us)) (hi : IntsAre us ns) (hl : ns.length ≤ sizeLine) (hr : Room k callerA) (F : ∀ base : Heap, FnG P wd K mg base k fa fd [x] sp) (hbind : ∀ (s : Shared) (u : Value), BindsTo s fd ⟨[u], []⟩ [(x, u)])
    (hsp : sp [.ref a] H (fun v _ => v = .bl true) E0) : codeAny (model P wd) callerA (.call (.ref fa) ⟨[.ref a], []⟩) (fun r s' => r = .ok (.ret (.bool true)) ∧ OldK s1.heap s'.heap ∧ s'.os = s1.os ∧ AllBare s'.gens) s1 := by
  have free : ∀ {b : Addr} {o : Obj} {es : Array DictEntry} {ep : Nat}, s1.heap.get? b = some o → o.data = .dict es ep → H b = none := fun {b o es ep} e d => by
    cases q : H b with
    | none => rfl
    | some u =>
      obtain ⟨rfl, _⟩ := only b u q
      rw [ha] at e
      cases e
      cases d
  have ns' : ∀ {b : Addr} {m : Str → Option Value}, s1.heap.Ns b m → (hidT s1.heap H).Ns b m := fun ⟨o, es, ep, e, d, r⟩ => ⟨o, es, ep, hidT_get e (free e d), d, r⟩
  have hKb : K.In (hidT s1.heap H) := fun b o e => hidT_get (KX b o e) (by
    cases q : H b with
    | none => rfl
    | some u =>
      obtain ⟨rfl, _, z⟩ := only b u q
      rw [e] at z; cases z)
  have hok : HOk P wd H s1.heap := fun b u q => by
    obtain ⟨rfl, rfl, _⟩ := only b u q
    exact ⟨ha, by rw [List.length_map]; exact hl, us, _, vals_ints hi, ha⟩
  obtain ⟨mc, c1, c2⟩ := hlim
  have e0 : Env0 P wd K mg (hidT s1.heap H) callerA [] s1 H := ⟨rfl, ⟨hKb, ns' hns, ⟨mb, ns' hb, hbb⟩, ⟨mc, ns' c1, c2⟩⟩, fun b o e => of_hidT e, Nat.le_of_eq (hidT_size _ _), trivial, fun b z => absurd z (by simp [frs]), hok, AllBare.of_eq hg⟩
  refine codeAny_mono ((F (hidT s1.heap H)).run callerA [] s1 H ⟨[.ref a], []⟩ [.ref a] [.ref a] _ _ rfl hr e0 (hbind s1 (.ref a)) (.cons rfl .nil) hsp) fun r s' h => ?_
  rcases r with e | fl
  · obtain ⟨_, _, _, _, _, _, _, _, _, _, _, _, z⟩ := h
    exact z.elim
  · cases fl with
    | ret u =>
      obtain ⟨v, H', os, bare, un, hok', r', q⟩ := h
      obtain rfl : v = .bl true := q
      obtain rfl : u = Value.bool true := r'
      refine ⟨rfl, OldK.of_keep fun b o e => ?_, os, bare⟩
      cases q : H b with
      | none => exact un.keep b o e q (by simp [frs]) (by simp)
      | some u =>
        obtain ⟨rfl, rfl, _⟩ := only b u q
        have := (hok' b _ (un.frzs b _ _ q)).1
        rw [ha] at e; cases e
        exact this
    | next => exact h.elim
    | brk => exact h.elim
    | cont => exact h.elim
theorem begin_law (KX : K.In s1.heap) (hns : s1.heap.Ns mainGlobals mg) (hb : s1.heap.Ns builtinsNs mb) (hbb : ∀ x : Str, x ≠ "__name__" → mb x = bootBuiltins x)
    (hlim : s1.heap.NoLimit) (hg : s1.gens = #[]) (ha : s1.heap.get? a = some (scrO us)) (hi : IntsAre us ns) (hl : ns.length ≤ sizeLine) (hr : Room k callerA) (F : ∀ base : Heap, FnG P wd K mg base k fa fd [x] sp) (hbind : ∀ (s : Shared) (u : Value), BindsTo s fd ⟨[u], []⟩ [(x, u)])
    (hsp : ∀ H : Hp, SqL K H a (ns.map V.int) → sp [.ref a] H (fun v _ => v = .bl true) E0) : codeAny (model P wd) callerA (.call (.ref fa) ⟨[.ref a], []⟩) (fun r s' => r = .ok (.ret (.bool true)) ∧ OldK s1.heap s'.heap ∧ s'.os = s1.os ∧ AllBare s'.gens) s1 := by
  cases hk : K.lookup a with
  | some o =>
    have e := KX a o hk
    rw [ha] at e
    cases e
    have hS : SqL K (fun _ => none) a (ns.map V.int) := .inr ⟨_, us.toArray, _, hk, rfl, rfl, rfl, by rw [List.size_toArray, hi.length]; exact hl, by simpa using vals_ints hi⟩
    exact begin_at (fun _ => none) (fun b u z => absurd (show (none : Option HO) = some u from z) (by simp)) hS KX hns hb hbb hlim hg ha hi hl hr F hbind (hsp _ hS)
  | none =>
    have hS : SqL K (upd (fun _ => none) a (.frz (scrO us) (.lst (ns.map V.int)))) a (ns.map V.int) := .inl (.inr ⟨scrO us, upd_same⟩)
    refine begin_at (upd (fun _ => none) a (.frz (scrO us) (.lst (ns.map V.int)))) (fun b u z => ?_) hS KX hns hb hbb hlim hg ha hi hl hr F hbind (hsp _ hS)
    by_cases e : b = a
    · subst e
      rw [upd_same] at z
      cases z
      exact ⟨rfl, rfl, hk⟩
    · rw [upd_ne e] at z
      exact absurd (show (none : Option HO) = some u from z) (by simp)
end
/-- THE END: a law by its short form -/
theorem walk {l : PySem.W.OpenLaw} {n k f : Nat} {q : Program} {loose : List Str} {XP : (Str → Option Value) → Heap → Prop} {YP : World → Heap → Prop} {dr : DefRec} {K : Params → PySem.W.Frag} {x : Str} (L : Lw) (d : Df) (st : Stmt)
    (hn : l.most = some n) (hn2 : n ≤ sizeLine) (hdf : dr.params.defaults = []) (hr : Room k callerA) (hd : L.pg.defs[f]? = some d) (hst : L.sts[f]? = some st) (hname : d.name = dr.name) (hps : d.ps = [x]) (hbo : BindOk d st 1 [] [0])
    (D : ∀ (f : Nat) (d : Df) (st : Stmt), L.pg.defs[f]? = some d → L.sts[f]? = some st → DefS L d st)
    (law : ∀ ns : List Int, ns.length ≤ n → (∀ z ∈ ns, Builtin.Int.intBits z ≤ 1048576) → callK L.pg k f [.scr ns] [] (fun v _ => v = .bl true) noX)
    (hY : ∀ (w : World) (h : Heap), YP w h → (K w.params).In h)
    (B : ∀ (w : World) (mg : Str → Option Value) (h : Heap), (K w.params).In h → h.Ns mainGlobals mg → Ground0 L (K w.params) mg) :
    PySem.W.WalkO q loose XP YP l.row.toRowW dr [] (fun f vs => PySem.call f vs) := by
  refine Att.attach_callB hn hdf fun w s₀ s₁ mg mb fa o pm cd doc a vs ns G Y ho hdd hcd hmg hobj hints hlen hbits hg => ?_
  have KX := hY w _ Y
  have b := B w mg _ KX G.T.g
  obtain ⟨fa', fd, m1, F⟩ := b.fns f d st hd hst
  rw [hname, hmg] at m1
  cases m1
  refine begin_law KX G.T.g G.T.b G.T.builtins G.T.nolimit hg hobj hints (Nat.le_trans hlen hn2) hr (x := x) (fd := fd) (sp := spD (K w.params) mg L.pg k f) (fun base => ?_) (fun s u => ?_) fun H hS => ?_
  · have := fn_all (P := l.prog) (wd := w) (base := base) b D k f d st hd hst fa fd F
    rw [hps] at this
    exact this
  · have := bind_to F hbo (s := s) (us := [u]) (ws := []) (cs := [u]) rfl rfl rfl
    rw [hps] at this
    exact this
  · have o0 : Ok (K w.params) ⟨⟨[], fun _ => False⟩, [], H⟩ := ⟨rfl, List.nodup_nil, fun n a o h _ => by simp at h, fun a h => h.elim⟩
    refine ⟨⟨⟨[], fun _ => False⟩, [], H⟩, [.scr ns], fun v _ => v = .bl true, noX, rfl, o0, .cons (.scr ?_) .nil, PostX.no, law ns hlen hbits, fun w' y v _ _ r e => ?_⟩
    · rcases hS with h | h
      · exact .inl ⟨h, by simp [Mu.out]⟩
      · exact .inr h
    · subst e
      cases r
      rfl
end RL

/-! RLSoundA: side conditions as looks. -/
namespace RL
open PySem PySem.Spec PyProof.Rows L2
def visB (sc : Scope) (x : Str) : Bool := match sc.names.lookup x with
  | some .local => true
  | some .cell => true
  | some .free => true
  | _ => false
theorem vis_of {sc : Scope} {x : Str} (h : visB sc x = true) : Vis sc x := by
  unfold visB at h
  unfold Vis
  split at h <;> first | (exact .inl (by assumption)) | (exact .inr (.inl (by assumption))) | (exact .inr (.inr (by assumption))) | cases h
def locB (sc : Scope) (x : Str) : Bool := match sc.names.lookup x with
  | some .local => true
  | some .cell => true
  | _ => false
theorem loc_of {sc : Scope} {x : Str} (h : locB sc x = true) : L2.Loc sc x := by
  unfold locB at h
  unfold L2.Loc
  split at h <;> first | (exact .inl (by assumption)) | (exact .inr (by assumption)) | cases h
def envS (sc : Scope) : PySem.Env := { scope := sc, locals := 0, globals := 0, cells := [] }
theorem swap_env (t : List Expr) (v : Expr) (env : PySem.Env) : swappedStores t v env = swappedStores t v (envS env.scope) := rfl
theorem swap_of {sc : Scope} {t : List Expr} {v : Expr} {r : Sem (Option (List Str))} (h : swappedStores t v (envS sc) = r) : ∀ env : PySem.Env, env.scope = sc → swappedStores t v env = r := fun env e => by rw [swap_env, e]; exact h
section
variable {L : Lw} {N : List Str} {sc : Scope} {fl : Str → Bool} {a : Expr} {ea : E} {pos : Pos}
theorem s_v (i : Nat) {x : Str} (h : N[i]? = some x) (hv : visB sc x = true) (hd : (x == ("__debug__" : Str)) = false := by decide) (hcd : (x == ("__classdict__" : Str)) = false := by decide) : SE L N sc (.Name x pos) (.var i) := s_var i h (vis_of hv) hd hcd
theorem g_n (i : Nat) {x : Str} (hi : N[i]? = some x) (hx : locB sc x = true) (hf : (fl x || decide (sc.names.lookup x = some .local)) = true) : STg L N sc fl (.Name x pos) (.name i) := g_name i hi (loc_of hx) (by
  rcases Bool.or_eq_true_iff.mp hf with h | h
  · exact .inl h
  · exact .inr (of_decide_eq_true h))
theorem st_s (i : Nat) {x : Str} {px : Pos} (hi : N[i]? = some x) (hx : locB sc x = true) (ha : SE L N sc a ea) (hs : ∀ l env, swapsWith a (some (.Name x px)) l env = pure false := by intro _ _; rfl) : SS L N sc (.Assign [.Name x px] a pos) (.set i ea) := st_set i hi (loc_of hx) ha hs
end
end RL

/-! RLSoundB: what a law's end asks. -/
namespace RL
open PySem PySem.Spec PyProof.Rows L2
def FnsOk (K : PySem.W.Frag) (mg : Str → Option Value) : List Df → List Stmt → Prop
  | d :: ds, s :: ss => (∃ fa fd, mg d.name = some (.ref fa) ∧ Fun K d.name d.name s fa fd) ∧ FnsOk K mg ds ss
  | _, _ => True
theorem FnsOk.get {K : PySem.W.Frag} {mg : Str → Option Value} : ∀ {ds : List Df} {ss : List Stmt}, FnsOk K mg ds ss → ∀ (f : Nat) (d : Df) (s : Stmt), ds[f]? = some d → ss[f]? = some s → ∃ fa fd, mg d.name = some (.ref fa) ∧ Fun K d.name d.name s fa fd
  | [], _, _, f, d, s, h, _ => by simp at h
  | _ :: _, [], _, f, d, s, _, h => by simp at h
  | d :: ds, s :: ss, h, 0, d', s', h1, h2 => by simp at h1 h2; subst h1 h2; exact h.1
  | d :: ds, s :: ss, h, f + 1, d', s', h1, h2 => FnsOk.get h.2 f d' s' (by simpa using h1) (by simpa using h2)
def DsOk (L : Lw) : List Df → List Stmt → Prop
  | d :: ds, s :: ss => DefS L d s ∧ DsOk L ds ss
  | _, _ => True
theorem DsOk.get {L : Lw} : ∀ {ds : List Df} {ss : List Stmt}, DsOk L ds ss → ∀ (f : Nat) (d : Df) (s : Stmt), ds[f]? = some d → ss[f]? = some s → DefS L d s
  | [], _, _, f, d, s, h, _ => by simp at h
  | _ :: _, [], _, f, d, s, _, h => by simp at h
  | d :: ds, s :: ss, h, 0, d', s', h1, h2 => by simp at h1 h2; subst h1 h2; exact h.1
  | d :: ds, s :: ss, h, f + 1, d', s', h1, h2 => DsOk.get h.2 f d' s' (by simpa using h1) (by simpa using h2)
theorem fun_at {K : PySem.W.Frag} {mg : Str → Option Value} {h : Heap} (X : K.In h) (G : h.Ns mainGlobals mg) {x : Str} {st : Stmt} {f : Addr} {oc : Value} {od an : Option Addr} {osl : Array (Option Value)} {kV doc pm cdv ct : Value}
    (a : PySem.W.nsIn K mainGlobals x = some (some (.ref f))) (l : K.lookup f = some ⟨oc, od, .func (PySem.W.fnOf x x (defArgs st) (defBody st) (defScope st) .none kV doc pm an cdv ct), osl⟩) (c : PySem.W.codeIn K cdv x = true) (k : PySem.W.keepIn K (.ref f) = true) :
    ∃ fa fd, mg x = some (.ref fa) ∧ Fun K x x st fa fd := ⟨f, _, PySem.W.mg_of X G a, fun_mk l c k⟩
theorem blt_of {K : PySem.W.Frag} {mg : Str → Option Value} {h : Heap} (X : K.In h) (G : h.Ns mainGlobals mg) (z : bnames.all (fun x => decide (PySem.W.nsIn K mainGlobals x = some none)) = true) : ∀ x ∈ bnames, mg x = none := fun x hx => PySem.W.mg_none_of X G (of_decide_eq_true (List.all_eq_true.mp z x hx))
def GlOk (mg : Str → Option Value) : List (Str × PV) → Prop
  | [] => True
  | (x, v) :: r => (∃ (a : Atom) (u : Value), v = a.pv ∧ mg x = some u ∧ RelV a.v u) ∧ GlOk mg r
theorem GlOk.get {mg : Str → Option Value} : ∀ {l : List (Str × PV)}, GlOk mg l → ∀ (n : Nat) (x : Str) (v : PV), l[n]? = some (x, v) → ∃ (a : Atom) (u : Value), v = a.pv ∧ mg x = some u ∧ RelV a.v u
  | [], _, n, x, v, h => by simp at h
  | (x', v') :: r, g, 0, x, v, h => by simp at h; obtain ⟨rfl, rfl⟩ := h; exact g.1
  | (x', v') :: r, g, n + 1, x, v, h => GlOk.get g.2 n x v (by simpa using h)
def ClsAll (K : PySem.W.Frag) (mg : Str → Option Value) (pg : Pg) : Nat → List Cl → List Addr → Prop
  | i, c :: cs, C :: Cs => ClsOk K mg pg i c C ∧ ClsAll K mg pg (i + 1) cs Cs
  | _, [], [] => True
  | _, _, _ => False
def ExRow (K : PySem.W.Frag) (pg : Pg) (i : Nat) (C : Addr) : Nat → List Addr → Prop
  | _, [] => True
  | j, D :: r => PySem.W.exmOne K (.ref C) (.ref D) = some (pg.sub i j) ∧ ExRow K pg i C (j + 1) r
def ExTab (K : PySem.W.Frag) (pg : Pg) (all : List Addr) : Nat → List Addr → Prop
  | _, [] => True
  | i, C :: r => ExRow K pg i C 0 all ∧ ExTab K pg all (i + 1) r
theorem ClsAll.get {K : PySem.W.Frag} {mg : Str → Option Value} {pg : Pg} : ∀ {cs : List Cl} {Cs : List Addr} {n : Nat}, ClsAll K mg pg n cs Cs → ∀ (i : Nat) (c : Cl), cs[i]? = some c → ∃ C, Cs[i]? = some C ∧ ClsOk K mg pg (n + i) c C
  | [], _, _, _, i, c, e => by simp at e
  | _ :: _, [], _, h, _, _, _ => h.elim
  | c :: cs, C :: Cs, n, h, 0, d, e => by simp at e; subst e; exact ⟨C, rfl, h.1⟩
  | c :: cs, C :: Cs, n, h, i + 1, d, e => by
    obtain ⟨D, h1, h2⟩ := ClsAll.get h.2 i d (by simpa using e)
    exact ⟨D, by simpa using h1, by rw [show n + (i + 1) = n + 1 + i by omega]; exact h2⟩
theorem ExRow.get {K : PySem.W.Frag} {pg : Pg} {i : Nat} {C : Addr} : ∀ {Ds : List Addr} {n : Nat}, ExRow K pg i C n Ds → ∀ (j : Nat) (D : Addr), Ds[j]? = some D → PySem.W.exmOne K (.ref C) (.ref D) = some (pg.sub i (n + j))
  | [], _, _, j, D, e => by simp at e
  | D :: Ds, n, h, 0, E, e => by simp at e; subst e; exact h.1
  | D :: Ds, n, h, j + 1, E, e => by
    have := ExRow.get h.2 j E (by simpa using e)
    rw [show n + (j + 1) = n + 1 + j by omega]; exact this
theorem ExTab.get {K : PySem.W.Frag} {pg : Pg} {all : List Addr} : ∀ {Cs : List Addr} {n : Nat}, ExTab K pg all n Cs → ∀ (i : Nat) (C : Addr), Cs[i]? = some C → ExRow K pg (n + i) C 0 all
  | [], _, _, j, D, e => by simp at e
  | D :: Ds, n, h, 0, E, e => by simp at e; subst e; exact h.1
  | D :: Ds, n, h, j + 1, E, e => by
    have := ExTab.get h.2 j E (by simpa using e)
    rw [show n + (j + 1) = n + 1 + j by omega]; exact this
theorem ClsF.of {K : PySem.W.Frag} {mg : Str → Option Value} {pg : Pg} {cs : List Cl} {Cs : List Addr} (e : pg.cls = cs) (h : ClsAll K mg pg 0 cs Cs) (t : ExTab K pg Cs 0 Cs) : ClsF K mg pg := by
  subst e
  refine ⟨fun i c hc => ?_, fun i j c d C D hc hd mc md => ?_⟩
  · obtain ⟨C, _, h2⟩ := h.get i c hc
    rw [Nat.zero_add] at h2
    exact ⟨C, h2⟩
  · obtain ⟨C', e1, h1⟩ := h.get i c hc
    obtain ⟨D', e2, h2⟩ := h.get j d hd
    have hC : C' = C := by have := h1.gC; rw [mc] at this; cases this; rfl
    have hD : D' = D := by have := h2.gC; rw [md] at this; cases this; rfl
    subst hC hD
    have := (t.get i C' e1).get j D' e2
    rwa [Nat.zero_add, Nat.zero_add] at this
theorem ClsF.nil {K : PySem.W.Frag} {mg : Str → Option Value} {pg : Pg} (e : pg.cls = []) : ClsF K mg pg := ClsF.of (Cs := []) e trivial trivial
end RL

namespace RLT
open PySem PySem.Spec PyProof.Rows L2 RL
def topS (i : Nat) : Stmt := PySem.Challenge.pw_roadloans_k40_whole_fire_in_other_orders.main.body.getD i (.Pass ⟨0, 0, 0, 0⟩)
abbrev st_0 : Stmt := topS 1
abbrev st_1 : Stmt := topS 2
abbrev st_2 : Stmt := topS 4
abbrev st_3 : Stmt := topS 5
abbrev st_4 : Stmt := topS 6
abbrev st_5 : Stmt := topS 7
abbrev st_6 : Stmt := topS 8
abbrev st_7 : Stmt := topS 9
abbrev st_8 : Stmt := topS 10
abbrev st_9 : Stmt := topS 11
abbrev st_10 : Stmt := topS 12
abbrev st_11 : Stmt := topS 13
abbrev st_12 : Stmt := topS 14
def df_0 : Df where
  name := "burnt"
  ps := ["town", "purse", "root"]
  N := ["town", "purse", "root", "cold", "heat", "lots", "fresh", "house", "a", "b"]
  gc := true
  body := [.setT (.tup [(.name 4), (.name 5), (.name 6)]) (.tup [.op2 .mul true (.lst false [.con (.int 0)]) (.idx (.var 0) (.con (.int 0))), .lst true [], .lst false [.var 2]]), .set 3 (.comp false (.var 7) (.name 7) .range [.idx (.var 0) (.con (.int 0))] (some (.op2 .ne false (.var 7) (.var 2))) [7]), .while_ (.op2 .ne false (.var 6) (.lst false [])) [.expr (.mt .append (.var 5) [.bi .tuple false [.var 6]]), .for_ (.tup [(.name 8), (.name 9)]) .seq [.idx (.var 0) (.con (.int 1))] [.ife (.andE (.op2 .in_ false (.var 8) (.var 6)) (.op2 .in_ false (.var 9) (.var 3))) [.seti (.var 4) (.var 9) (.op2 .add true (.idx (.var 4) (.var 9)) (.con (.int 1)))] [.ife (.andE (.op2 .in_ false (.var 9) (.var 6)) (.op2 .in_ false (.var 8) (.var 3))) [.seti (.var 4) (.var 8) (.op2 .add true (.idx (.var 4) (.var 8)) (.con (.int 1)))] []]], .set 6 (.comp false (.var 7) (.name 7) .seq [.var 3] (some (.op2 .lt false (.idx (.var 1) (.var 7)) (.idx (.var 4) (.var 7)))) [7]), .set 3 (.comp false (.var 7) (.name 7) .seq [.var 3] (some (.op2 .notin false (.var 7) (.var 6))) [7])], .ret (.tup [.bi .tuple false [.var 5], .bi .tuple false [.var 3]])]
def df_1 : Df where
  name := "is_reduced"
  ps := ["town", "purse", "root"]
  N := ["town", "purse", "root", "house", "item"]
  gc := false
  body := [.ife (.bi .any false [.comp false (.op2 .lt false (.var 4) (.con (.int 0))) (.tup [(.name 3), (.name 4)]) .enum [.var 1] (some (.op2 .ne false (.var 3) (.var 2))) [3, 4]]) [.ret (.con (.bl false))] [], .ret (.op2 .eq false (.idx (.call 0 [.var 0, .var 1, .var 2]) (.con (.int 1))) (.tup []))]
def df_2 : Df where
  name := "_law_deck"
  ps := ["script"]
  N := ["script", "cell", "cells", "mixed"]
  gc := false
  body := [.par [2, 3] [.comp false (.bi .abs false [.var 1]) (.name 1) .seq [.sl false (.var 0) none (some (.con (.int 63)))] none [1], .op2 .add false (.con (.int 16245)) (.bi .len false [.sl false (.var 0) none (some (.con (.int 63)))])], .for_ (.name 1) .seq [.var 2] [.set 3 (.op2 .mod false (.op2 .add false (.op2 .add false (.op2 .mul false (.var 3) (.con (.int 48271))) (.op2 .mod false (.var 1) (.con (.int 2147483629)))) (.con (.int 7))) (.con (.int 2147483647)))], .ret (.lst true [.rev true (.comp false (.var 1) (.name 1) .seq [.var 2] (some (.op2 .ge false (.var 1) (.op2 .pow false (.con (.int 10)) (.con (.int 9))))) [1]), .var 3])]
def df_3 : Df where
  name := "_law_next"
  ps := ["deck", "many"]
  N := ["deck", "many", "rest"]
  gc := false
  body := [.while_ (.andE (.op2 .gt false (.var 1) (.con (.int 1))) (.op2 .ne false (.idx (.var 0) (.con (.int 0))) (.lst false []))) [.set 2 (.mt .pop (.idx (.var 0) (.con (.int 0))) []), .ife (.op2 .gt false (.var 2) (.con (.int 0))) [.expr (.mt .append (.idx (.var 0) (.con (.int 0))) [.op2 .fdiv false (.var 2) (.var 1)]), .ret (.op2 .mod false (.var 2) (.var 1))] []], .seti (.var 0) (.con (.int 1)) (.op2 .mod true (.op2 .add false (.op2 .mul false (.idx (.var 0) (.con (.int 1))) (.con (.int 48271))) (.con (.int 11))) (.con (.int 2147483647))), .ret (.op2 .mod false (.op2 .fdiv false (.op2 .mod false (.op2 .mul false (.idx (.var 0) (.con (.int 1))) (.idx (.var 0) (.con (.int 1)))) (.con (.int 2147483629))) (.con (.int 7))) (.var 1))]
def df_4 : Df where
  name := "_law_pick"
  ps := ["deck", "some"]
  N := ["deck", "some"]
  gc := false
  body := [.ret (.idx (.var 1) (.call 3 [.var 0, .bi .len false [.var 1]]))]
def df_5 : Df where
  name := "_law_mixed"
  ps := ["deck", "some"]
  N := ["deck", "some", "left", "found"]
  gc := true
  body := [.par [2, 3] [.bi .list true [.var 1], .lst true []], .while_ (.op2 .ne false (.var 2) (.lst false [])) [.expr (.mt .append (.var 3) [.mt .popAt (.var 2) [.call 3 [.var 0, .bi .len false [.var 2]]]])], .ret (.var 3)]
def df_6 : Df where
  name := "_law_pair"
  ps := ["one", "other"]
  N := ["one", "other"]
  gc := false
  body := [.ret (.ife (.op2 .lt false (.var 0) (.var 1)) (.tup [.var 0, .var 1]) (.tup [.var 1, .var 0]))]
def df_7 : Df where
  name := "_law_town"
  ps := ["deck", "most", "more"]
  N := ["deck", "most", "more", "houses", "names", "pairs", "step", "k", "one", "other"]
  gc := true
  body := [.set 3 (.op2 .add false (.con (.int 1)) (.call 3 [.var 0, .var 1])), .set 4 (.call 5 [.var 0, .rng false false [.var 3]]), .set 5 (.comp true (.call 6 [.idx (.var 4) (.var 7), .idx (.var 4) (.call 3 [.var 0, .var 7])]) (.name 7) .range [.con (.int 1), .var 3] none [7]), .for_ (.name 6) .range [.call 3 [.var 0, .op2 .add false (.var 2) (.con (.int 1))]] [.par [8, 9] [.call 3 [.var 0, .var 3], .call 3 [.var 0, .var 3]], .ife (.andE (.op2 .ne false (.var 8) (.var 9)) (.op2 .lt false (.bi .len false [.var 5]) (.con (.int 14)))) [.expr (.mt .append (.var 5) [.ife (.op2 .eq false (.call 3 [.var 0, .con (.int 4)]) (.con (.int 0))) (.call 4 [.var 0, .var 5]) (.call 6 [.var 8, .var 9])])] []], .ret (.tup [.var 3, .bi .tuple false [.bi .sorted false [.var 5]]])]
def df_8 : Df where
  name := "_law_degrees"
  ps := ["town"]
  N := ["town", "found", "one", "other"]
  gc := true
  body := [.set 1 (.op2 .mul true (.lst false [.con (.int 0)]) (.idx (.var 0) (.con (.int 0)))), .for_ (.tup [(.name 2), (.name 3)]) .seq [.idx (.var 0) (.con (.int 1))] [.seti (.var 1) (.var 2) (.op2 .add true (.idx (.var 1) (.var 2)) (.con (.int 1))), .seti (.var 1) (.var 3) (.op2 .add true (.idx (.var 1) (.var 3)) (.con (.int 1)))], .ret (.var 1)]
def df_9 : Df where
  name := "_law_fire"
  ps := ["town", "root", "purse", "tree"]
  N := ["town", "root", "purse", "tree", "step", "burning", "gone", "taken", "counts", "coins", "open_ones", "k", "house", "one", "other"]
  gc := true
  body := [.setT (.tup [(.name 5), (.name 6), (.name 7), (.name 8), (.name 9)]) (.tup [.lst true [.var 1], .lst true [], .lst true [], .op2 .mul true (.lst false [.con (.int 0)]) (.idx (.var 0) (.con (.int 0))), .op2 .mul true (.lst false [.con (.int 0)]) (.idx (.var 0) (.con (.int 0)))]), .for_ (.name 4) .range [.bi .len false [.idx (.var 0) (.con (.int 1))]] [.set 10 (.lst true []), .for_ (.tup [(.name 11), (.tup [(.name 13), (.name 14)])]) .enum [.idx (.var 0) (.con (.int 1))] [.ife (.andE (.op2 .notin false (.var 11) (.var 6)) (.op2 .ne false (.op2 .in_ false (.var 13) (.var 5)) (.op2 .in_ false (.var 14) (.var 5)))) [.expr (.mt .append (.var 10) [.var 11])] []], .ife (.op2 .eq false (.var 10) (.lst false [])) [.brk] [], .set 11 (.idx (.var 10) (.neg (.con (.int 1)))), .setT (.tup [(.name 13), (.name 14)]) (.idx (.idx (.var 0) (.con (.int 1))) (.var 11)), .set 12 (.ife (.op2 .in_ false (.var 13) (.var 5)) (.var 14) (.var 13)), .expr (.mt .append (.var 6) [.var 11]), .seti (.var 8) (.var 12) (.op2 .add true (.idx (.var 8) (.var 12)) (.con (.int 1))), .ife (.orE (.andE (.op2 .is false (.var 3) (.con .non)) (.op2 .gt false (.idx (.var 8) (.var 12)) (.idx (.var 2) (.var 12)))) (.andE (.op2 .isnot false (.var 3) (.con .non)) (.op2 .in_ false (.var 11) (.var 3)))) [.expr (.mt .append (.var 5) [.var 12]), .expr (.mt .append (.var 7) [.var 11]), .seti (.var 9) (.var 12) (.op2 .sub true (.idx (.var 8) (.var 12)) (.con (.int 1)))] []], .ret (.tup [.bi .tuple false [.var 6], .bi .tuple false [.bi .sorted false [.var 7]], .bi .tuple false [.var 9], .var 5])]
def df_10 : Df where
  name := "_law_any_fire"
  ps := ["deck", "town", "root", "purse"]
  N := ["deck", "town", "root", "purse", "step", "burning", "gone", "counts", "some", "k", "house", "one", "other"]
  gc := true
  body := [.par [5, 6, 7] [.lst true [.var 2], .lst true [], .op2 .mul true (.lst false [.con (.int 0)]) (.idx (.var 1) (.con (.int 0)))], .for_ (.name 4) .range [.bi .len false [.idx (.var 1) (.con (.int 1))]] [.set 8 (.lst true []), .for_ (.tup [(.name 9), (.tup [(.name 11), (.name 12)])]) .enum [.idx (.var 1) (.con (.int 1))] [.ife (.andE (.op2 .notin false (.var 9) (.var 6)) (.op2 .ne false (.op2 .in_ false (.var 11) (.var 5)) (.op2 .in_ false (.var 12) (.var 5)))) [.expr (.mt .append (.var 8) [.var 9])] []], .ife (.op2 .eq false (.var 8) (.lst false [])) [.brk] [], .set 9 (.call 4 [.var 0, .var 8]), .setT (.tup [(.name 11), (.name 12)]) (.idx (.idx (.var 1) (.con (.int 1))) (.var 9)), .set 10 (.ife (.op2 .in_ false (.var 11) (.var 5)) (.var 12) (.var 11)), .expr (.mt .append (.var 6) [.var 9]), .seti (.var 7) (.var 10) (.op2 .add true (.idx (.var 7) (.var 10)) (.con (.int 1))), .ife (.op2 .gt false (.idx (.var 7) (.var 10)) (.idx (.var 3) (.var 10))) [.expr (.mt .append (.var 5) [.var 10])] []], .ret (.bi .sorted false [.var 5])]
def df_11 : Df where
  name := "_law_any_tree"
  ps := ["deck", "town"]
  N := ["deck", "town", "k", "parts", "found", "one", "other", "part"]
  gc := true
  body := [.par [3, 4] [.rng false false [.idx (.var 1) (.con (.int 0))], .lst true []], .for_ (.name 2) .seq [.call 5 [.var 0, .rng false false [.bi .len false [.idx (.var 1) (.con (.int 1))]]]] [.setT (.tup [(.name 5), (.name 6)]) (.tup [.idx (.var 3) (.idx (.idx (.idx (.var 1) (.con (.int 1))) (.var 2)) (.con (.int 0))), .idx (.var 3) (.idx (.idx (.idx (.var 1) (.con (.int 1))) (.var 2)) (.con (.int 1)))]), .ife (.op2 .ne false (.var 5) (.var 6)) [.expr (.mt .append (.var 4) [.var 2]), .set 3 (.comp false (.ife (.op2 .eq false (.var 7) (.var 6)) (.var 5) (.var 7)) (.name 7) .seq [.var 3] none [7])] []], .ret (.bi .tuple false [.bi .sorted false [.var 4]])]
def df_12 : Df where
  name := "law"
  ps := ["script"]
  N := ["script", "deck", "step", "town", "degrees", "root", "again", "purse", "first", "turn", "due", "told", "never", "tree", "house", "kept", "houses", "count"]
  gc := false
  body := [.set 1 (.call 2 [.var 0]), .for_ (.name 2) .range [.con (.int 4)] [.set 3 (.call 7 [.var 1, .call 4 [.var 1, .lst false [.con (.int 1), .con (.int 4), .con (.int 5), .con (.int 7)]], .call 4 [.var 1, .lst false [.con (.int 0), .con (.int 3), .con (.int 6)]]]), .set 4 (.call 8 [.var 3]), .set 5 (.call 3 [.var 1, .idx (.var 3) (.con (.int 0))]), .for_ (.name 6) .range [.con (.int 3)] [.set 7 (.bi .tuple false [.comp false (.call 3 [.var 1, .op2 .add false (.con (.int 1)) (.bi .max false [.con (.int 1), .op2 .sub false (.var 17) (.call 3 [.var 1, .con (.int 2)])])]) (.name 17) .seq [.var 4] none [17]]), .ife (.op2 .eq false (.call 3 [.var 1, .con (.int 2)]) (.con (.int 0))) [.set 13 (.call 11 [.var 1, .var 3]), .set 7 (.idx (.call 9 [.var 3, .var 5, .con .non, .var 13]) (.con (.int 2))), .set 14 (.call 3 [.var 1, .idx (.var 3) (.con (.int 0))]), .set 7 (.op2 .add false (.op2 .add false (.sl false (.var 7) none (some (.var 14))) (.tup [.op2 .add false (.idx (.var 7) (.var 14)) (.call 3 [.var 1, .con (.int 3)])])) (.sl false (.var 7) (some (.op2 .add false (.var 14) (.con (.int 1)))) none))] [], .par [15, 16] [.bi .repr false [.lst false [.var 3, .var 5, .var 7]], .rng false false [.idx (.var 3) (.con (.int 0))]], .set 8 (.call 10 [.var 1, .var 3, .var 5, .var 7]), .for_ (.name 9) .range [.con (.int 2)] [.ife (.op2 .ne false (.call 10 [.var 1, .var 3, .var 5, .var 7]) (.var 8)) [.ret (.con (.bl false))] []], .ife (.op2 .ne false (.bi .sorted false [.idx (.call 9 [.var 3, .var 5, .var 7, .con .non]) (.con (.int 3))]) (.var 8)) [.ret (.con (.bl false))] [], .set 10 (.op2 .eq false (.var 8) (.var 16)), .set 11 (.lst false [.call 1 [.var 3, .var 7, .var 5], .callk 1 [] [.var 3, .var 7, .var 5] [0, 1, 2]]), .ife (.op2 .ne false (.bi .repr false [.var 11]) (.bi .repr false [.lst false [.var 10, .var 10]])) [.ret (.con (.bl false))] [], .set 12 (.bi .tuple false [.comp false (.var 14) (.name 14) .seq [.var 16] (some (.op2 .notin false (.var 14) (.var 8))) [14]]), .set 11 (.lst false [.idx (.call 0 [.var 3, .var 7, .var 5]) (.con (.int 1)), .idx (.callk 0 [] [.var 3, .var 7, .var 5] [0, 1, 2]) (.con (.int 1))]), .ife (.op2 .ne false (.bi .repr false [.var 11]) (.bi .repr false [.lst false [.var 12, .var 12]])) [.ret (.con (.bl false))] [], .ife (.op2 .ne false (.bi .repr false [.lst false [.var 3, .var 5, .var 7]]) (.var 15)) [.ret (.con (.bl false))] []]], .ret (.con (.bl true))]
def pgm : Pg := ⟨[df_0, df_1, df_2, df_3, df_4, df_5, df_6, df_7, df_8, df_9, df_10, df_11, df_12], [], []⟩
def lw : Lw := ⟨pgm, [st_0, st_1, st_2, st_3, st_4, st_5, st_6, st_7, st_8, st_9, st_10, st_11, st_12]⟩
theorem bd_0_0_town_purse_root : BindOk df_0 st_0 0 ["town", "purse", "root"] [0, 1, 2] := fun _ _ _ _ _ _ us ws h1 h2 => match us, ws, h1, h2 with | [], [a0, a1, a2], _, _ => ⟨[a0, a1, a2], rfl, rfl⟩
theorem bd_0_3 : BindOk df_0 st_0 3 [] (List.range 3) := fun _ _ _ _ _ _ us ws h1 h2 => match us, ws, h1, h2 with | [a0, a1, a2], [], _, _ => ⟨[a0, a1, a2], rfl, rfl⟩
theorem bd_1_0_town_purse_root : BindOk df_1 st_1 0 ["town", "purse", "root"] [0, 1, 2] := fun _ _ _ _ _ _ us ws h1 h2 => match us, ws, h1, h2 with | [], [a0, a1, a2], _, _ => ⟨[a0, a1, a2], rfl, rfl⟩
theorem bd_1_3 : BindOk df_1 st_1 3 [] (List.range 3) := fun _ _ _ _ _ _ us ws h1 h2 => match us, ws, h1, h2 with | [a0, a1, a2], [], _, _ => ⟨[a0, a1, a2], rfl, rfl⟩
theorem bd_2_1 : BindOk df_2 st_2 1 [] (List.range 1) := fun _ _ _ _ _ _ us ws h1 h2 => match us, ws, h1, h2 with | [a0], [], _, _ => ⟨[a0], rfl, rfl⟩
theorem bd_3_2 : BindOk df_3 st_3 2 [] (List.range 2) := fun _ _ _ _ _ _ us ws h1 h2 => match us, ws, h1, h2 with | [a0, a1], [], _, _ => ⟨[a0, a1], rfl, rfl⟩
theorem bd_4_2 : BindOk df_4 st_4 2 [] (List.range 2) := fun _ _ _ _ _ _ us ws h1 h2 => match us, ws, h1, h2 with | [a0, a1], [], _, _ => ⟨[a0, a1], rfl, rfl⟩
theorem bd_5_2 : BindOk df_5 st_5 2 [] (List.range 2) := fun _ _ _ _ _ _ us ws h1 h2 => match us, ws, h1, h2 with | [a0, a1], [], _, _ => ⟨[a0, a1], rfl, rfl⟩
theorem bd_6_2 : BindOk df_6 st_6 2 [] (List.range 2) := fun _ _ _ _ _ _ us ws h1 h2 => match us, ws, h1, h2 with | [a0, a1], [], _, _ => ⟨[a0, a1], rfl, rfl⟩
theorem bd_7_3 : BindOk df_7 st_7 3 [] (List.range 3) := fun _ _ _ _ _ _ us ws h1 h2 => match us, ws, h1, h2 with | [a0, a1, a2], [], _, _ => ⟨[a0, a1, a2], rfl, rfl⟩
theorem bd_8_1 : BindOk df_8 st_8 1 [] (List.range 1) := fun _ _ _ _ _ _ us ws h1 h2 => match us, ws, h1, h2 with | [a0], [], _, _ => ⟨[a0], rfl, rfl⟩
theorem bd_9_4 : BindOk df_9 st_9 4 [] (List.range 4) := fun _ _ _ _ _ _ us ws h1 h2 => match us, ws, h1, h2 with | [a0, a1, a2, a3], [], _, _ => ⟨[a0, a1, a2, a3], rfl, rfl⟩
theorem bd_10_4 : BindOk df_10 st_10 4 [] (List.range 4) := fun _ _ _ _ _ _ us ws h1 h2 => match us, ws, h1, h2 with | [a0, a1, a2, a3], [], _, _ => ⟨[a0, a1, a2, a3], rfl, rfl⟩
theorem bd_11_2 : BindOk df_11 st_11 2 [] (List.range 2) := fun _ _ _ _ _ _ us ws h1 h2 => match us, ws, h1, h2 with | [a0, a1], [], _, _ => ⟨[a0, a1], rfl, rfl⟩
theorem bd_law : BindOk df_12 st_12 1 [] [0] := fun _ _ _ _ _ _ us ws h1 h2 => match us, ws, h1, h2 with | [a0], [], _, _ => ⟨[a0], rfl, rfl⟩
theorem dfs_0 : DefS lw df_0 st_0 := ⟨⟨rfl, rfl, rfl, by decide +kernel, rfl, by decide +kernel, by decide +kernel⟩, (b_cons (st_setT (s_tup (a_cons (s_bin (s_lst (a_cons s_int a_nil)) (s_idx (s_v 0 rfl rfl) s_int)) (a_cons (s_lst a_nil) (a_cons (s_lst (a_cons (s_v 2 rfl rfl) a_nil)) a_nil)))) (g_tup (gs_cons (g_n 4 rfl rfl rfl) (gs_cons (g_n 5 rfl rfl rfl) (gs_cons (g_n 6 rfl rfl rfl) gs_nil)))) (hw := swap_of rfl)) (b_cons (st_setC 3 [("house", 7)] rfl (loc_of rfl) rfl (i_r1 rfl (s_idx (s_v 0 rfl rfl) s_int)) (by decide +kernel) rfl (by decide) (g_n 7 rfl rfl rfl) (c_one (t_cmp (s_v 7 rfl rfl) (s_v 2 rfl rfl))) (s_v 7 rfl rfl)) (b_cons (st_while (t_cmp (s_v 6 rfl rfl) (s_lst a_nil)) (b_cons (st_expr (s_mt .append PySem.F.slot_list_append PySem.F.type_list_append (s_v 5 rfl rfl) (a_cons (s_ty .tuple rfl PyProof.Rows.boot_tuple rfl (a_cons (s_v 6 rfl rfl) a_nil)) a_nil))) (b_cons (st_for (i_seq (s_idx (s_v 0 rfl rfl) s_int)) (g_tup (gs_cons (g_n 8 rfl rfl rfl) (gs_cons (g_n 9 rfl rfl rfl) gs_nil))) (b_cons (st_ife (t_w (w_and (t_cmp (s_v 8 rfl rfl) (s_v 6 rfl rfl)) (w_and1 (t_cmp (s_v 9 rfl rfl) (s_v 3 rfl rfl))))) (b_cons (st_seti (s_bin (s_idx (s_v 4 rfl rfl) (s_v 9 rfl rfl)) s_int) (s_v 4 rfl rfl) (s_v 9 rfl rfl)) b_nil) (b_cons (st_ife (t_w (w_and (t_cmp (s_v 9 rfl rfl) (s_v 6 rfl rfl)) (w_and1 (t_cmp (s_v 8 rfl rfl) (s_v 3 rfl rfl))))) (b_cons (st_seti (s_bin (s_idx (s_v 4 rfl rfl) (s_v 8 rfl rfl)) s_int) (s_v 4 rfl rfl) (s_v 8 rfl rfl)) b_nil) b_nil) b_nil)) b_nil)) (b_cons (st_setC 6 [("house", 7)] rfl (loc_of rfl) rfl (i_seq (s_v 3 rfl rfl)) (by decide +kernel) rfl (by decide) (g_n 7 rfl rfl rfl) (c_one (t_cmp (s_idx (s_v 1 rfl rfl) (s_v 7 rfl rfl)) (s_idx (s_v 4 rfl rfl) (s_v 7 rfl rfl)))) (s_v 7 rfl rfl)) (b_cons (st_setC 3 [("house", 7)] rfl (loc_of rfl) rfl (i_seq (s_v 3 rfl rfl)) (by decide +kernel) rfl (by decide) (g_n 7 rfl rfl rfl) (c_one (t_cmp (s_v 7 rfl rfl) (s_v 6 rfl rfl))) (s_v 7 rfl rfl)) b_nil))))) (b_cons (st_ret (s_tup (a_cons (s_ty .tuple rfl PyProof.Rows.boot_tuple rfl (a_cons (s_v 5 rfl rfl) a_nil)) (a_cons (s_ty .tuple rfl PyProof.Rows.boot_tuple rfl (a_cons (s_v 3 rfl rfl) a_nil)) a_nil)))) b_nil))))⟩
theorem dfs_1 : DefS lw df_1 st_1 := ⟨⟨rfl, rfl, rfl, by decide +kernel, rfl, by decide +kernel, by decide +kernel⟩, (b_cons (st_ife (t_val (by intro _ _; rfl) (s_bi .any rfl PyProof.Rows.boot_any rfl (a_cons (s_comp [("house", 3), ("item", 4)] (i_enum rfl (s_v 1 rfl rfl)) (by decide +kernel) rfl (by decide) (g_tup (gs_cons (g_n 3 rfl rfl rfl) (gs_cons (g_n 4 rfl rfl rfl) gs_nil))) (c_one (t_cmp (s_v 3 rfl rfl) (s_v 2 rfl rfl))) (s_cmp (s_v 4 rfl rfl) s_int)) a_nil))) (b_cons (st_ret s_bl) b_nil) b_nil) (b_cons (st_ret (s_cmp (s_idx (s_call 0 rfl rfl bd_0_3 rfl rfl (a_cons (s_v 0 rfl rfl) (a_cons (s_v 1 rfl rfl) (a_cons (s_v 2 rfl rfl) a_nil)))) s_int) (s_tup a_nil))) b_nil))⟩
theorem dfs_2 : DefS lw df_2 st_2 := ⟨⟨rfl, rfl, rfl, by decide +kernel, rfl, by decide +kernel, by decide +kernel⟩, (b_cons (st_par2 2 3 rfl rfl (by decide) rfl rfl (a_cons (s_comp [("cell", 1)] (i_seq (s_sl (s_v 0 rfl rfl) o_none (o_some s_int))) (by decide +kernel) rfl (by decide) (g_n 1 rfl rfl rfl) c_nil (s_bi .abs rfl PyProof.Rows.boot_abs rfl (a_cons (s_v 1 rfl rfl) a_nil))) (a_cons (s_bin s_int (s_bi .len rfl PySem.boot_len rfl (a_cons (s_sl (s_v 0 rfl rfl) o_none (o_some s_int)) a_nil))) a_nil)) (swap_of rfl)) (b_cons (st_for (i_seq (s_v 2 rfl rfl)) (g_n 1 rfl rfl rfl) (b_cons (st_s 3 rfl rfl (s_bin (s_bin (s_bin (s_bin (s_v 3 rfl rfl) s_int) (s_bin (s_v 1 rfl rfl) s_int)) s_int) s_int)) b_nil)) (b_cons (st_ret (s_lst (a_cons (s_rev (s_comp [("cell", 1)] (i_seq (s_v 2 rfl rfl)) (by decide +kernel) rfl (by decide) (g_n 1 rfl rfl rfl) (c_one (t_cmp (s_v 1 rfl rfl) (s_bin s_int s_int))) (s_v 1 rfl rfl))) (a_cons (s_v 3 rfl rfl) a_nil)))) b_nil)))⟩
theorem dfs_3 : DefS lw df_3 st_3 := ⟨⟨rfl, rfl, rfl, by decide +kernel, rfl, by decide +kernel, by decide +kernel⟩, (b_cons (st_while (t_w (w_and (t_cmp (s_v 1 rfl rfl) s_int) (w_and1 (t_cmp (s_idx (s_v 0 rfl rfl) s_int) (s_lst a_nil))))) (b_cons (st_s 2 rfl rfl (s_mt0 .pop PySem.F.slot_list_pop PySem.F.type_list_pop (s_idx (s_v 0 rfl rfl) s_int))) (b_cons (st_ife (t_cmp (s_v 2 rfl rfl) s_int) (b_cons (st_expr (s_mt .append PySem.F.slot_list_append PySem.F.type_list_append (s_idx (s_v 0 rfl rfl) s_int) (a_cons (s_bin (s_v 2 rfl rfl) (s_v 1 rfl rfl)) a_nil))) (b_cons (st_ret (s_bin (s_v 2 rfl rfl) (s_v 1 rfl rfl))) b_nil)) b_nil) b_nil))) (b_cons (st_seti (s_bin (s_bin (s_bin (s_idx (s_v 0 rfl rfl) s_int) s_int) s_int) s_int) (s_v 0 rfl rfl) s_int) (b_cons (st_ret (s_bin (s_bin (s_bin (s_bin (s_idx (s_v 0 rfl rfl) s_int) (s_idx (s_v 0 rfl rfl) s_int)) s_int) s_int) (s_v 1 rfl rfl))) b_nil)))⟩
theorem dfs_4 : DefS lw df_4 st_4 := ⟨⟨rfl, rfl, rfl, by decide +kernel, rfl, by decide +kernel, by decide +kernel⟩, (b_cons (st_ret (s_idx (s_v 1 rfl rfl) (s_call 3 rfl rfl bd_3_2 rfl rfl (a_cons (s_v 0 rfl rfl) (a_cons (s_bi .len rfl PySem.boot_len rfl (a_cons (s_v 1 rfl rfl) a_nil)) a_nil))))) b_nil)⟩
theorem dfs_5 : DefS lw df_5 st_5 := ⟨⟨rfl, rfl, rfl, by decide +kernel, rfl, by decide +kernel, by decide +kernel⟩, (b_cons (st_par2 2 3 rfl rfl (by decide) rfl rfl (a_cons (s_ty .list rfl PyProof.Rows.boot_list rfl (a_cons (s_v 1 rfl rfl) a_nil)) (a_cons (s_lst a_nil) a_nil)) (swap_of rfl)) (b_cons (st_while (t_cmp (s_v 2 rfl rfl) (s_lst a_nil)) (b_cons (st_expr (s_mt .append PySem.F.slot_list_append PySem.F.type_list_append (s_v 3 rfl rfl) (a_cons (s_mt .popAt PySem.F.slot_list_pop PySem.F.type_list_pop (s_v 2 rfl rfl) (a_cons (s_call 3 rfl rfl bd_3_2 rfl rfl (a_cons (s_v 0 rfl rfl) (a_cons (s_bi .len rfl PySem.boot_len rfl (a_cons (s_v 2 rfl rfl) a_nil)) a_nil))) a_nil)) a_nil))) b_nil)) (b_cons (st_ret (s_v 3 rfl rfl)) b_nil)))⟩
theorem dfs_6 : DefS lw df_6 st_6 := ⟨⟨rfl, rfl, rfl, by decide +kernel, rfl, by decide +kernel, by decide +kernel⟩, (b_cons (st_ret (s_ife (t_cmp (s_v 0 rfl rfl) (s_v 1 rfl rfl)) (s_tup (a_cons (s_v 0 rfl rfl) (a_cons (s_v 1 rfl rfl) a_nil))) (s_tup (a_cons (s_v 1 rfl rfl) (a_cons (s_v 0 rfl rfl) a_nil))))) b_nil)⟩
theorem dfs_7 : DefS lw df_7 st_7 := ⟨⟨rfl, rfl, rfl, by decide +kernel, rfl, by decide +kernel, by decide +kernel⟩, (b_cons (st_s 3 rfl rfl (s_bin s_int (s_call 3 rfl rfl bd_3_2 rfl rfl (a_cons (s_v 0 rfl rfl) (a_cons (s_v 1 rfl rfl) a_nil))))) (b_cons (st_s 4 rfl rfl (s_call 5 rfl rfl bd_5_2 rfl rfl (a_cons (s_v 0 rfl rfl) (a_cons (s_rngL rfl (g_1 rfl (s_v 3 rfl rfl))) a_nil)))) (b_cons (st_setC 5 [("k", 7)] rfl (loc_of rfl) rfl (i_r2 rfl s_int (s_v 3 rfl rfl)) (by decide +kernel) rfl (by decide) (g_n 7 rfl rfl rfl) c_nil (s_call 6 rfl rfl bd_6_2 rfl rfl (a_cons (s_idx (s_v 4 rfl rfl) (s_v 7 rfl rfl)) (a_cons (s_idx (s_v 4 rfl rfl) (s_call 3 rfl rfl bd_3_2 rfl rfl (a_cons (s_v 0 rfl rfl) (a_cons (s_v 7 rfl rfl) a_nil)))) a_nil)))) (b_cons (st_for (i_r1 rfl (s_call 3 rfl rfl bd_3_2 rfl rfl (a_cons (s_v 0 rfl rfl) (a_cons (s_bin (s_v 2 rfl rfl) s_int) a_nil)))) (g_n 6 rfl rfl rfl) (b_cons (st_par2 8 9 rfl rfl (by decide) rfl rfl (a_cons (s_call 3 rfl rfl bd_3_2 rfl rfl (a_cons (s_v 0 rfl rfl) (a_cons (s_v 3 rfl rfl) a_nil))) (a_cons (s_call 3 rfl rfl bd_3_2 rfl rfl (a_cons (s_v 0 rfl rfl) (a_cons (s_v 3 rfl rfl) a_nil))) a_nil)) (swap_of rfl)) (b_cons (st_ife (t_w (w_and (t_cmp (s_v 8 rfl rfl) (s_v 9 rfl rfl)) (w_and1 (t_cmp (s_bi .len rfl PySem.boot_len rfl (a_cons (s_v 5 rfl rfl) a_nil)) s_int)))) (b_cons (st_expr (s_mt .append PySem.F.slot_list_append PySem.F.type_list_append (s_v 5 rfl rfl) (a_cons (s_ife (t_cmp (s_call 3 rfl rfl bd_3_2 rfl rfl (a_cons (s_v 0 rfl rfl) (a_cons s_int a_nil))) s_int) (s_call 4 rfl rfl bd_4_2 rfl rfl (a_cons (s_v 0 rfl rfl) (a_cons (s_v 5 rfl rfl) a_nil))) (s_call 6 rfl rfl bd_6_2 rfl rfl (a_cons (s_v 8 rfl rfl) (a_cons (s_v 9 rfl rfl) a_nil)))) a_nil))) b_nil) b_nil) b_nil))) (b_cons (st_ret (s_tup (a_cons (s_v 3 rfl rfl) (a_cons (s_ty .tuple rfl PyProof.Rows.boot_tuple rfl (a_cons (s_bi .sorted rfl PyProof.Rows.boot_sorted rfl (a_cons (s_v 5 rfl rfl) a_nil)) a_nil)) a_nil)))) b_nil)))))⟩
theorem dfs_8 : DefS lw df_8 st_8 := ⟨⟨rfl, rfl, rfl, by decide +kernel, rfl, by decide +kernel, by decide +kernel⟩, (b_cons (st_s 1 rfl rfl (s_bin (s_lst (a_cons s_int a_nil)) (s_idx (s_v 0 rfl rfl) s_int))) (b_cons (st_for (i_seq (s_idx (s_v 0 rfl rfl) s_int)) (g_tup (gs_cons (g_n 2 rfl rfl rfl) (gs_cons (g_n 3 rfl rfl rfl) gs_nil))) (b_cons (st_seti (s_bin (s_idx (s_v 1 rfl rfl) (s_v 2 rfl rfl)) s_int) (s_v 1 rfl rfl) (s_v 2 rfl rfl)) (b_cons (st_seti (s_bin (s_idx (s_v 1 rfl rfl) (s_v 3 rfl rfl)) s_int) (s_v 1 rfl rfl) (s_v 3 rfl rfl)) b_nil))) (b_cons (st_ret (s_v 1 rfl rfl)) b_nil)))⟩
theorem dfs_9 : DefS lw df_9 st_9 := ⟨⟨rfl, rfl, rfl, by decide +kernel, rfl, by decide +kernel, by decide +kernel⟩, (b_cons (st_setT (s_tup (a_cons (s_lst (a_cons (s_v 1 rfl rfl) a_nil)) (a_cons (s_lst a_nil) (a_cons (s_lst a_nil) (a_cons (s_bin (s_lst (a_cons s_int a_nil)) (s_idx (s_v 0 rfl rfl) s_int)) (a_cons (s_bin (s_lst (a_cons s_int a_nil)) (s_idx (s_v 0 rfl rfl) s_int)) a_nil)))))) (g_tup (gs_cons (g_n 5 rfl rfl rfl) (gs_cons (g_n 6 rfl rfl rfl) (gs_cons (g_n 7 rfl rfl rfl) (gs_cons (g_n 8 rfl rfl rfl) (gs_cons (g_n 9 rfl rfl rfl) gs_nil)))))) (hw := swap_of rfl)) (b_cons (st_for (i_r1 rfl (s_bi .len rfl PySem.boot_len rfl (a_cons (s_idx (s_v 0 rfl rfl) s_int) a_nil))) (g_n 4 rfl rfl rfl) (b_cons (st_s 10 rfl rfl (s_lst a_nil)) (b_cons (st_for (i_enum rfl (s_idx (s_v 0 rfl rfl) s_int)) (g_tup (gs_cons (g_n 11 rfl rfl rfl) (gs_cons (g_tup (gs_cons (g_n 13 rfl rfl rfl) (gs_cons (g_n 14 rfl rfl rfl) gs_nil))) gs_nil))) (b_cons (st_ife (t_w (w_and (t_cmp (s_v 11 rfl rfl) (s_v 6 rfl rfl)) (w_and1 (t_cmp (s_cmp (s_v 13 rfl rfl) (s_v 5 rfl rfl)) (s_cmp (s_v 14 rfl rfl) (s_v 5 rfl rfl)))))) (b_cons (st_expr (s_mt .append PySem.F.slot_list_append PySem.F.type_list_append (s_v 10 rfl rfl) (a_cons (s_v 11 rfl rfl) a_nil))) b_nil) b_nil) b_nil)) (b_cons (st_ife (t_cmp (s_v 10 rfl rfl) (s_lst a_nil)) (b_cons st_brk b_nil) b_nil) (b_cons (st_s 11 rfl rfl (s_idx (s_v 10 rfl rfl) (s_neg s_int))) (b_cons (st_setT (s_idx (s_idx (s_v 0 rfl rfl) s_int) (s_v 11 rfl rfl)) (g_tup (gs_cons (g_n 13 rfl rfl rfl) (gs_cons (g_n 14 rfl rfl rfl) gs_nil))) (hw := swap_of rfl)) (b_cons (st_s 12 rfl rfl (s_ife (t_cmp (s_v 13 rfl rfl) (s_v 5 rfl rfl)) (s_v 14 rfl rfl) (s_v 13 rfl rfl))) (b_cons (st_expr (s_mt .append PySem.F.slot_list_append PySem.F.type_list_append (s_v 6 rfl rfl) (a_cons (s_v 11 rfl rfl) a_nil))) (b_cons (st_seti (s_bin (s_idx (s_v 8 rfl rfl) (s_v 12 rfl rfl)) s_int) (s_v 8 rfl rfl) (s_v 12 rfl rfl)) (b_cons (st_ife (t_w (w_or (t_w (w_and (t_cmp (s_v 3 rfl rfl) s_non) (w_and1 (t_cmp (s_idx (s_v 8 rfl rfl) (s_v 12 rfl rfl)) (s_idx (s_v 2 rfl rfl) (s_v 12 rfl rfl)))))) (w_or1 (t_w (w_and (t_cmp (s_v 3 rfl rfl) s_non) (w_and1 (t_cmp (s_v 11 rfl rfl) (s_v 3 rfl rfl)))))))) (b_cons (st_expr (s_mt .append PySem.F.slot_list_append PySem.F.type_list_append (s_v 5 rfl rfl) (a_cons (s_v 12 rfl rfl) a_nil))) (b_cons (st_expr (s_mt .append PySem.F.slot_list_append PySem.F.type_list_append (s_v 7 rfl rfl) (a_cons (s_v 11 rfl rfl) a_nil))) (b_cons (st_seti (s_bin (s_idx (s_v 8 rfl rfl) (s_v 12 rfl rfl)) s_int) (s_v 9 rfl rfl) (s_v 12 rfl rfl)) b_nil))) b_nil) b_nil)))))))))) (b_cons (st_ret (s_tup (a_cons (s_ty .tuple rfl PyProof.Rows.boot_tuple rfl (a_cons (s_v 6 rfl rfl) a_nil)) (a_cons (s_ty .tuple rfl PyProof.Rows.boot_tuple rfl (a_cons (s_bi .sorted rfl PyProof.Rows.boot_sorted rfl (a_cons (s_v 7 rfl rfl) a_nil)) a_nil)) (a_cons (s_ty .tuple rfl PyProof.Rows.boot_tuple rfl (a_cons (s_v 9 rfl rfl) a_nil)) (a_cons (s_v 5 rfl rfl) a_nil)))))) b_nil)))⟩
theorem dfs_10 : DefS lw df_10 st_10 := ⟨⟨rfl, rfl, rfl, by decide +kernel, rfl, by decide +kernel, by decide +kernel⟩, (b_cons (st_par3 5 6 7 rfl rfl rfl (by decide) (by decide) (by decide) rfl rfl rfl (a_cons (s_lst (a_cons (s_v 2 rfl rfl) a_nil)) (a_cons (s_lst a_nil) (a_cons (s_bin (s_lst (a_cons s_int a_nil)) (s_idx (s_v 1 rfl rfl) s_int)) a_nil))) (swap_of rfl)) (b_cons (st_for (i_r1 rfl (s_bi .len rfl PySem.boot_len rfl (a_cons (s_idx (s_v 1 rfl rfl) s_int) a_nil))) (g_n 4 rfl rfl rfl) (b_cons (st_s 8 rfl rfl (s_lst a_nil)) (b_cons (st_for (i_enum rfl (s_idx (s_v 1 rfl rfl) s_int)) (g_tup (gs_cons (g_n 9 rfl rfl rfl) (gs_cons (g_tup (gs_cons (g_n 11 rfl rfl rfl) (gs_cons (g_n 12 rfl rfl rfl) gs_nil))) gs_nil))) (b_cons (st_ife (t_w (w_and (t_cmp (s_v 9 rfl rfl) (s_v 6 rfl rfl)) (w_and1 (t_cmp (s_cmp (s_v 11 rfl rfl) (s_v 5 rfl rfl)) (s_cmp (s_v 12 rfl rfl) (s_v 5 rfl rfl)))))) (b_cons (st_expr (s_mt .append PySem.F.slot_list_append PySem.F.type_list_append (s_v 8 rfl rfl) (a_cons (s_v 9 rfl rfl) a_nil))) b_nil) b_nil) b_nil)) (b_cons (st_ife (t_cmp (s_v 8 rfl rfl) (s_lst a_nil)) (b_cons st_brk b_nil) b_nil) (b_cons (st_s 9 rfl rfl (s_call 4 rfl rfl bd_4_2 rfl rfl (a_cons (s_v 0 rfl rfl) (a_cons (s_v 8 rfl rfl) a_nil)))) (b_cons (st_setT (s_idx (s_idx (s_v 1 rfl rfl) s_int) (s_v 9 rfl rfl)) (g_tup (gs_cons (g_n 11 rfl rfl rfl) (gs_cons (g_n 12 rfl rfl rfl) gs_nil))) (hw := swap_of rfl)) (b_cons (st_s 10 rfl rfl (s_ife (t_cmp (s_v 11 rfl rfl) (s_v 5 rfl rfl)) (s_v 12 rfl rfl) (s_v 11 rfl rfl))) (b_cons (st_expr (s_mt .append PySem.F.slot_list_append PySem.F.type_list_append (s_v 6 rfl rfl) (a_cons (s_v 9 rfl rfl) a_nil))) (b_cons (st_seti (s_bin (s_idx (s_v 7 rfl rfl) (s_v 10 rfl rfl)) s_int) (s_v 7 rfl rfl) (s_v 10 rfl rfl)) (b_cons (st_ife (t_cmp (s_idx (s_v 7 rfl rfl) (s_v 10 rfl rfl)) (s_idx (s_v 3 rfl rfl) (s_v 10 rfl rfl))) (b_cons (st_expr (s_mt .append PySem.F.slot_list_append PySem.F.type_list_append (s_v 5 rfl rfl) (a_cons (s_v 10 rfl rfl) a_nil))) b_nil) b_nil) b_nil)))))))))) (b_cons (st_ret (s_bi .sorted rfl PyProof.Rows.boot_sorted rfl (a_cons (s_v 5 rfl rfl) a_nil))) b_nil)))⟩
theorem dfs_11 : DefS lw df_11 st_11 := ⟨⟨rfl, rfl, rfl, by decide +kernel, rfl, by decide +kernel, by decide +kernel⟩, (b_cons (st_par2 3 4 rfl rfl (by decide) rfl rfl (a_cons (s_rngL rfl (g_1 rfl (s_idx (s_v 1 rfl rfl) s_int))) (a_cons (s_lst a_nil) a_nil)) (swap_of rfl)) (b_cons (st_for (i_seq (s_call 5 rfl rfl bd_5_2 rfl rfl (a_cons (s_v 0 rfl rfl) (a_cons (s_rngL rfl (g_1 rfl (s_bi .len rfl PySem.boot_len rfl (a_cons (s_idx (s_v 1 rfl rfl) s_int) a_nil)))) a_nil)))) (g_n 2 rfl rfl rfl) (b_cons (st_setT (s_tup (a_cons (s_idx (s_v 3 rfl rfl) (s_idx (s_idx (s_idx (s_v 1 rfl rfl) s_int) (s_v 2 rfl rfl)) s_int)) (a_cons (s_idx (s_v 3 rfl rfl) (s_idx (s_idx (s_idx (s_v 1 rfl rfl) s_int) (s_v 2 rfl rfl)) s_int)) a_nil))) (g_tup (gs_cons (g_n 5 rfl rfl rfl) (gs_cons (g_n 6 rfl rfl rfl) gs_nil))) (hw := swap_of rfl)) (b_cons (st_ife (t_cmp (s_v 5 rfl rfl) (s_v 6 rfl rfl)) (b_cons (st_expr (s_mt .append PySem.F.slot_list_append PySem.F.type_list_append (s_v 4 rfl rfl) (a_cons (s_v 2 rfl rfl) a_nil))) (b_cons (st_setC 3 [("part", 7)] rfl (loc_of rfl) rfl (i_seq (s_v 3 rfl rfl)) (by decide +kernel) rfl (by decide) (g_n 7 rfl rfl rfl) c_nil (s_ife (t_cmp (s_v 7 rfl rfl) (s_v 6 rfl rfl)) (s_v 5 rfl rfl) (s_v 7 rfl rfl))) b_nil)) b_nil) b_nil))) (b_cons (st_ret (s_ty .tuple rfl PyProof.Rows.boot_tuple rfl (a_cons (s_bi .sorted rfl PyProof.Rows.boot_sorted rfl (a_cons (s_v 4 rfl rfl) a_nil)) a_nil))) b_nil)))⟩
theorem dfs_12 : DefS lw df_12 st_12 := ⟨⟨rfl, rfl, rfl, by decide +kernel, rfl, by decide +kernel, by decide +kernel⟩, (b_cons (st_s 1 rfl rfl (s_call 2 rfl rfl bd_2_1 rfl rfl (a_cons (s_v 0 rfl rfl) a_nil))) (b_cons (st_for (i_r1 rfl s_int) (g_n 2 rfl rfl rfl) (b_cons (st_s 3 rfl rfl (s_call 7 rfl rfl bd_7_3 rfl rfl (a_cons (s_v 1 rfl rfl) (a_cons (s_call 4 rfl rfl bd_4_2 rfl rfl (a_cons (s_v 1 rfl rfl) (a_cons (s_lst (a_cons s_int (a_cons s_int (a_cons s_int (a_cons s_int a_nil))))) a_nil))) (a_cons (s_call 4 rfl rfl bd_4_2 rfl rfl (a_cons (s_v 1 rfl rfl) (a_cons (s_lst (a_cons s_int (a_cons s_int (a_cons s_int a_nil)))) a_nil))) a_nil))))) (b_cons (st_s 4 rfl rfl (s_call 8 rfl rfl bd_8_1 rfl rfl (a_cons (s_v 3 rfl rfl) a_nil))) (b_cons (st_s 5 rfl rfl (s_call 3 rfl rfl bd_3_2 rfl rfl (a_cons (s_v 1 rfl rfl) (a_cons (s_idx (s_v 3 rfl rfl) s_int) a_nil)))) (b_cons (st_for (i_r1 rfl s_int) (g_n 6 rfl rfl rfl) (b_cons (st_s 7 rfl rfl (s_ty .tuple rfl PyProof.Rows.boot_tuple rfl (a_cons (s_comp [("count", 17)] (i_seq (s_v 4 rfl rfl)) (by decide +kernel) rfl (by decide) (g_n 17 rfl rfl rfl) c_nil (s_call 3 rfl rfl bd_3_2 rfl rfl (a_cons (s_v 1 rfl rfl) (a_cons (s_bin s_int (s_bi .max rfl PyProof.Rows.boot_max rfl (a_cons s_int (a_cons (s_bin (s_v 17 rfl rfl) (s_call 3 rfl rfl bd_3_2 rfl rfl (a_cons (s_v 1 rfl rfl) (a_cons s_int a_nil)))) a_nil)))) a_nil)))) a_nil))) (b_cons (st_ife (t_cmp (s_call 3 rfl rfl bd_3_2 rfl rfl (a_cons (s_v 1 rfl rfl) (a_cons s_int a_nil))) s_int) (b_cons (st_s 13 rfl rfl (s_call 11 rfl rfl bd_11_2 rfl rfl (a_cons (s_v 1 rfl rfl) (a_cons (s_v 3 rfl rfl) a_nil)))) (b_cons (st_s 7 rfl rfl (s_idx (s_call 9 rfl rfl bd_9_4 rfl rfl (a_cons (s_v 3 rfl rfl) (a_cons (s_v 5 rfl rfl) (a_cons s_non (a_cons (s_v 13 rfl rfl) a_nil))))) s_int)) (b_cons (st_s 14 rfl rfl (s_call 3 rfl rfl bd_3_2 rfl rfl (a_cons (s_v 1 rfl rfl) (a_cons (s_idx (s_v 3 rfl rfl) s_int) a_nil)))) (b_cons (st_s 7 rfl rfl (s_bin (s_bin (s_sl (s_v 7 rfl rfl) o_none (o_some (s_v 14 rfl rfl))) (s_tup (a_cons (s_bin (s_idx (s_v 7 rfl rfl) (s_v 14 rfl rfl)) (s_call 3 rfl rfl bd_3_2 rfl rfl (a_cons (s_v 1 rfl rfl) (a_cons s_int a_nil)))) a_nil))) (s_sl (s_v 7 rfl rfl) (o_some (s_bin (s_v 14 rfl rfl) s_int)) o_none))) b_nil)))) b_nil) (b_cons (st_par2 15 16 rfl rfl (by decide) rfl rfl (a_cons (s_bi .repr rfl PyProof.Rows.boot_repr rfl (a_cons (s_lst (a_cons (s_v 3 rfl rfl) (a_cons (s_v 5 rfl rfl) (a_cons (s_v 7 rfl rfl) a_nil)))) a_nil)) (a_cons (s_rngL rfl (g_1 rfl (s_idx (s_v 3 rfl rfl) s_int))) a_nil)) (swap_of rfl)) (b_cons (st_s 8 rfl rfl (s_call 10 rfl rfl bd_10_4 rfl rfl (a_cons (s_v 1 rfl rfl) (a_cons (s_v 3 rfl rfl) (a_cons (s_v 5 rfl rfl) (a_cons (s_v 7 rfl rfl) a_nil)))))) (b_cons (st_for (i_r1 rfl s_int) (g_n 9 rfl rfl rfl) (b_cons (st_ife (t_cmp (s_call 10 rfl rfl bd_10_4 rfl rfl (a_cons (s_v 1 rfl rfl) (a_cons (s_v 3 rfl rfl) (a_cons (s_v 5 rfl rfl) (a_cons (s_v 7 rfl rfl) a_nil))))) (s_v 8 rfl rfl)) (b_cons (st_ret s_bl) b_nil) b_nil) b_nil)) (b_cons (st_ife (t_cmp (s_bi .sorted rfl PyProof.Rows.boot_sorted rfl (a_cons (s_idx (s_call 9 rfl rfl bd_9_4 rfl rfl (a_cons (s_v 3 rfl rfl) (a_cons (s_v 5 rfl rfl) (a_cons (s_v 7 rfl rfl) (a_cons s_non a_nil))))) s_int) a_nil)) (s_v 8 rfl rfl)) (b_cons (st_ret s_bl) b_nil) b_nil) (b_cons (st_s 10 rfl rfl (s_cmp (s_v 8 rfl rfl) (s_v 16 rfl rfl))) (b_cons (st_s 11 rfl rfl (s_lst (a_cons (s_call 1 rfl rfl bd_1_3 rfl rfl (a_cons (s_v 3 rfl rfl) (a_cons (s_v 7 rfl rfl) (a_cons (s_v 5 rfl rfl) a_nil)))) (a_cons (s_callk0 1 rfl rfl bd_1_0_town_purse_root rfl rfl (k_cons (s_v 3 rfl rfl) (k_cons (s_v 7 rfl rfl) (k_cons (s_v 5 rfl rfl) k_nil)))) a_nil)))) (b_cons (st_ife (t_cmp (s_bi .repr rfl PyProof.Rows.boot_repr rfl (a_cons (s_v 11 rfl rfl) a_nil)) (s_bi .repr rfl PyProof.Rows.boot_repr rfl (a_cons (s_lst (a_cons (s_v 10 rfl rfl) (a_cons (s_v 10 rfl rfl) a_nil))) a_nil))) (b_cons (st_ret s_bl) b_nil) b_nil) (b_cons (st_s 12 rfl rfl (s_ty .tuple rfl PyProof.Rows.boot_tuple rfl (a_cons (s_comp [("house", 14)] (i_seq (s_v 16 rfl rfl)) (by decide +kernel) rfl (by decide) (g_n 14 rfl rfl rfl) (c_one (t_cmp (s_v 14 rfl rfl) (s_v 8 rfl rfl))) (s_v 14 rfl rfl)) a_nil))) (b_cons (st_s 11 rfl rfl (s_lst (a_cons (s_idx (s_call 0 rfl rfl bd_0_3 rfl rfl (a_cons (s_v 3 rfl rfl) (a_cons (s_v 7 rfl rfl) (a_cons (s_v 5 rfl rfl) a_nil)))) s_int) (a_cons (s_idx (s_callk0 0 rfl rfl bd_0_0_town_purse_root rfl rfl (k_cons (s_v 3 rfl rfl) (k_cons (s_v 7 rfl rfl) (k_cons (s_v 5 rfl rfl) k_nil)))) s_int) a_nil)))) (b_cons (st_ife (t_cmp (s_bi .repr rfl PyProof.Rows.boot_repr rfl (a_cons (s_v 11 rfl rfl) a_nil)) (s_bi .repr rfl PyProof.Rows.boot_repr rfl (a_cons (s_lst (a_cons (s_v 12 rfl rfl) (a_cons (s_v 12 rfl rfl) a_nil))) a_nil))) (b_cons (st_ret s_bl) b_nil) b_nil) (b_cons (st_ife (t_cmp (s_bi .repr rfl PyProof.Rows.boot_repr rfl (a_cons (s_lst (a_cons (s_v 3 rfl rfl) (a_cons (s_v 5 rfl rfl) (a_cons (s_v 7 rfl rfl) a_nil)))) a_nil)) (s_v 15 rfl rfl)) (b_cons (st_ret s_bl) b_nil) b_nil) b_nil)))))))))))))) b_nil))))) (b_cons (st_ret s_bl) b_nil)))⟩
end RLT

/-! RLLib: reasoning about the short form. -/
namespace RL
open PySem L2
/-! ### calls -/
theorem callK_def {pg : Pg} {k f : Nat} {d : Df} {vs : List PV} {ph : PHp} {Q : QV} {X : QX} (h : pg.defs[f]? = some d) (hb : bodyS (callK pg k) pg.gt X d vs ph Q) : callK pg (k + 1) f vs ph Q X := by
  show (match pg.defs[f]? with
    | some d => bodyS (callK pg k) pg.gt X d vs ph Q
    | none => False)
  rw [h]; exact hb
/-! ### loops -/
theorem forL_rule {still : PHp → Prop} {t : Tg} {bd : Dn → Env → PHp → Prop} {D : Dn} (Inv : Nat → Env → PHp → Prop) {items : List PV}
    (hs : ∀ (i : Nat) (v : PV) (env : Env) (ph : PHp), items[i]? = some v → Inv i env ph → still ph ∧ ∀ N : Env → PHp → Prop, (∀ env ph, Inv (i + 1) env ph → N env ph) → bindT t v env fun env' => bd { D with nx := N, ct := N, bk := D.nx } env' ph)
    (he : ∀ env ph, Inv items.length env ph → still ph ∧ D.nx env ph) {env : Env} {ph : PHp} (h0 : Inv 0 env ph) : forL still t bd D items env ph := by
  have key : ∀ (n i : Nat), i + n = items.length → ∀ env ph, Inv i env ph → forL still t bd D (items.drop i) env ph := by
    intro n
    induction n with
    | zero =>
      intro i hi env ph h
      have : i = items.length := by omega
      subst this
      rw [List.drop_length]
      exact he env ph h
    | succ n ih =>
      intro i hi env ph h
      have hlt : i < items.length := by omega
      have e : items.drop i = items[i] :: items.drop (i + 1) := List.drop_eq_getElem_cons hlt
      rw [e]
      obtain ⟨h1, h2⟩ := hs i items[i] env ph (List.getElem?_eq_getElem hlt) h
      exact ⟨h1, h2 _ fun env' ph' h' => ih (i + 1) (by omega) env' ph' h'⟩
  have := key items.length 0 (by omega) env ph h0
  rwa [List.drop_zero] at this
theorem whl_rule {cnd : Env → PHp → (Bool → PHp → Prop) → Prop} {bd : Dn → Env → PHp → Prop} {D : Dn} (Inv : Env → PHp → Prop) (μ : Env → PHp → Nat)
    (hs : ∀ (env : Env) (ph : PHp), Inv env ph → ∀ N : Env → PHp → Prop, (∀ env' ph', Inv env' ph' → μ env' ph' < μ env ph → N env' ph') → cnd env ph fun b ph1 => if b = true then bd { D with nx := N, ct := N, bk := D.nx } env ph1 else D.nx env ph1)
    {env : Env} {ph : PHp} (h0 : Inv env ph) : ∃ n, whl cnd bd D n env ph := by
  refine ⟨μ env ph + 1, ?_⟩
  have key : ∀ (n : Nat) (env : Env) (ph : PHp), Inv env ph → μ env ph < n → whl cnd bd D n env ph := by
    intro n
    induction n with
    | zero => intro _ _ _ h; omega
    | succ n ih =>
      intro env ph h hn
      exact hs env ph h _ fun env' ph' h' hlt => ih env' ph' h' (by omega)
  exact key _ env ph h0 (Nat.lt_succ_self _)
theorem compL_rule {still : PHp → Prop} {bind : PV → (Env → Prop) → Prop} {cnd : Env → PHp → (Bool → PHp → Prop) → Prop} {el : Env → PHp → QV → Prop} {Q : List PV → PHp → Prop} (Inv : Nat → List PV → PHp → Prop) {items : List PV}
    (hs : ∀ (i : Nat) (v : PV) (acc : List PV) (ph : PHp), items[i]? = some v → Inv i acc ph → still ph ∧ ∀ N : List PV → PHp → Prop, (∀ acc ph, Inv (i + 1) acc ph → N acc ph) →
      bind v fun env' => cnd env' ph fun b ph1 => if b = true then el env' ph1 fun x ph2 => acc.length < sizeLine ∧ N (acc ++ [x]) ph2 else N acc ph1)
    (he : ∀ acc ph, Inv items.length acc ph → still ph ∧ Q acc ph) {ph : PHp} (h0 : Inv 0 [] ph) : compL still bind cnd el items [] ph Q := by
  have key : ∀ (n i : Nat), i + n = items.length → ∀ acc ph, Inv i acc ph → compL still bind cnd el (items.drop i) acc ph Q := by
    intro n
    induction n with
    | zero =>
      intro i hi acc ph h
      have : i = items.length := by omega
      subst this
      rw [List.drop_length]
      exact he acc ph h
    | succ n ih =>
      intro i hi acc ph h
      have hlt : i < items.length := by omega
      have e : items.drop i = items[i] :: items.drop (i + 1) := List.drop_eq_getElem_cons hlt
      rw [e]
      obtain ⟨h1, h2⟩ := hs i items[i] acc ph (List.getElem?_eq_getElem hlt) h
      exact ⟨h1, h2 _ fun acc' ph' h' => ih (i + 1) (by omega) acc' ph' h'⟩
  have := key items.length 0 (by omega) [] ph h0
  rwa [List.drop_zero] at this
section
variable {still : PHp → Prop} {bind : PV → (Env → Prop) → Prop} {cnd : Env → PHp → (Bool → PHp → Prop) → Prop} {el : Env → PHp → QV → Prop} {Q : List PV → PHp → Prop} {items : List PV} {ph : PHp}
/-- a comprehension that leaves the heap alone -/
theorem comp_filter (p : PV → Bool) (f : PV → PV) (hst : still ph) (hl : items.length ≤ sizeLine)
    (hs : ∀ v ∈ items, ∀ (K : QV) (R : PHp → Prop), (p v = true → K (f v) ph) → (p v = false → R ph) → bind v fun env' => cnd env' ph fun b ph1 => if b = true then el env' ph1 K else R ph1)
    (hq : Q ((items.filter p).map f) ph) : compL still bind cnd el items [] ph Q := by
  refine compL_rule (fun i acc ph' => ph' = ph ∧ acc = ((items.take i).filter p).map f) ?_ ?_ ⟨rfl, by simp⟩
  · rintro i v acc ph' hv ⟨rfl, rfl⟩
    refine ⟨hst, fun N hN => hs v (List.mem_of_getElem? hv) _ _ (fun hp => ?_) fun hp => ?_⟩
    · have hi := (List.getElem?_eq_some_iff.mp hv).1
      have e : ((items.take (i + 1)).filter p).map f = ((items.take i).filter p).map f ++ [f v] := by
        rw [List.take_add_one, hv]; simp [List.filter_append, hp]
      refine ⟨?_, hN _ _ ⟨rfl, e.symm⟩⟩
      have h1 : (((items.take i).filter p).map f).length ≤ (items.take i).length := by
        rw [List.length_map]; exact List.length_filter_le _ _
      rw [List.length_take] at h1
      omega
    · have e : ((items.take (i + 1)).filter p).map f = ((items.take i).filter p).map f := by
        rw [List.take_add_one, hv]; simp [List.filter_append, hp]
      exact hN _ _ ⟨rfl, e.symm⟩
  · rintro acc ph' ⟨rfl, rfl⟩
    rw [List.take_length]
    exact ⟨hst, hq⟩
theorem comp_map (f : PV → PV) (hst : still ph) (hl : items.length ≤ sizeLine)
    (hs : ∀ v ∈ items, ∀ (K : QV) (R : PHp → Prop), K (f v) ph → bind v fun env' => cnd env' ph fun b ph1 => if b = true then el env' ph1 K else R ph1)
    (hq : Q (items.map f) ph) : compL still bind cnd el items [] ph Q :=
  comp_filter (fun _ => true) f hst hl (fun v hv K R h _ => hs v hv K R (h rfl)) (by rw [List.filter_eq_self.mpr (by simp)]; exact hq)
end
/-! ### unfolding -/
theorem wpE_var {C : CallS} {G : GT} {X : QX} {i : Nat} {env : Env} {ph : PHp} {Q : QV} {v : PV} (h : env[i]? = some (some v)) (q : Q v ph) : wpE C G X (.var i) env ph Q := ⟨v, h, q⟩
theorem ex_some {P : PV → Prop} {a : PV} : (∃ v, some (some a) = some (some v) ∧ P v) ↔ P a := ⟨fun ⟨v, e, h⟩ => by cases e; exact h, fun h => ⟨a, rfl, h⟩⟩
theorem ex_some1 {α : Type} {P : α → Prop} {a : α} : (∃ v, some a = some v ∧ P v) ↔ P a := ⟨fun ⟨v, e, h⟩ => by cases e; exact h, fun h => ⟨a, rfl, h⟩⟩
theorem ex_bl {P : Bool → Prop} {a : Bool} : (∃ v, PV.bl a = .bl v ∧ P v) ↔ P a := ⟨fun ⟨v, e, h⟩ => by cases e; exact h, fun h => ⟨a, rfl, h⟩⟩
theorem ex_int {P : Int → Prop} {a : Int} : (∃ v, PV.int a = .int v ∧ P v) ↔ P a := ⟨fun ⟨v, e, h⟩ => by cases e; exact h, fun h => ⟨a, rfl, h⟩⟩
theorem ex_tup {P : List PV → Prop} {a : List PV} : (∃ v, PV.tup a = .tup v ∧ P v) ↔ P a := ⟨fun ⟨v, e, h⟩ => by cases e; exact h, fun h => ⟨a, rfl, h⟩⟩
end RL
namespace RL
open PySem L2
section
variable {C : CallS} {G : GT} {X : QX} {env : Env} {ph : PHp}
theorem atI_0 {α : Type} {x : α} {xs : List α} : atI (x :: xs) 0 = some x := atI_nat (j := 0) rfl
theorem atI_1 {α : Type} {x y : α} {xs : List α} : atI (x :: y :: xs) 1 = some y := atI_nat (j := 1) rfl
theorem atI_2 {α : Type} {x y z : α} {xs : List α} : atI (x :: y :: z :: xs) 2 = some z := atI_nat (j := 2) rfl
theorem ixN_0 {n : Nat} : ixN (n + 1) 0 = some 0 := by unfold ixN; simp
theorem ixN_1 {n : Nat} : ixN (n + 1 + 1) 1 = some 1 := by unfold ixN; rw [if_pos (by decide), if_pos (by omega)]; rfl
theorem ixN_2 {n : Nat} : ixN (n + 1 + 1 + 1) 2 = some 2 := by unfold ixN; rw [if_pos (by decide), if_pos (by omega)]; rfl
theorem eqP_int {i j : Int} {k : Bool → Prop} : eqP (.int i) (.int j) ph k = k (decide (i = j)) := rfl
theorem eqP_str {i j : Str} {k : Bool → Prop} : eqP (.str i) (.str j) ph k = k (decide (i = j)) := rfl
theorem eqP_of {a b : PV} {d e : PyData} {k : Bool → Prop} (hd : Dat ph a d) (he : Dat ph b e) (s1 : SeqAt.shaped d = true) (s2 : SeqAt.shaped e = true) (hk : k (PyData.eqv d e)) : eqP a b ph k := by
  unfold eqP
  split
  · cases hd; cases he; exact hk
  · cases hd; cases he; exact hk
  · cases hd; cases he
    simp only [PyData.eqv] at hk
    exact (show k (decide (_ = _)) from by
      rename_i s t
      have : (s == t) = decide (s = t) := by
        by_cases h : s = t
        · subst h; simp
        · rw [decide_eq_false h]; simpa using h
      rw [this] at hk; exact hk)
  · cases hd; cases he
    simp only [PyData.eqv] at hk
    exact (show k (decide (_ = _)) from by
      rename_i s t
      have : (s == t) = decide (s = t) := by cases s <;> cases t <;> rfl
      rw [this] at hk; exact hk)
  · exact ⟨d, e, hd, he, s1, s2, hk⟩
theorem e_var {i : Nat} {Q : QV} : wpE C G X (.var i) env ph Q = ∃ v, env[i]? = some (some v) ∧ Q v ph := rfl
theorem e_con {a : Atom} {Q : QV} : wpE C G X (.con a) env ph Q = Q a.pv ph := rfl
theorem e_op {o : Op2} {own : Bool} {a b : E} {Q : QV} : wpE C G X (.op2 o own a b) env ph Q = wpE C G X a env ph fun x ph1 => wpE C G X b env ph1 fun y ph2 => op2S o own x y ph2 Q := rfl
theorem add_i {own : Bool} {i j : Int} {Q : QV} : op2S .add own (.int i) (.int j) ph Q = Q (.int (i + j)) ph := rfl
theorem sub_i {own : Bool} {i j : Int} {Q : QV} : op2S .sub own (.int i) (.int j) ph Q = Q (.int (i - j)) ph := rfl
theorem mul_i {own : Bool} {i j : Int} {Q : QV} : op2S .mul own (.int i) (.int j) ph Q = (mulOk i j ∧ Q (.int (i * j)) ph) := rfl
theorem mod_i {own : Bool} {i j : Int} {Q : QV} : op2S .mod own (.int i) (.int j) ph Q = (j ≠ 0 ∧ Q (.int (i.fmod j)) ph) := rfl
theorem fdiv_i {own : Bool} {i j : Int} {Q : QV} : op2S .fdiv own (.int i) (.int j) ph Q = (((0 < j ∧ j.natAbs.log2 < 9000) ∨ (j ≠ 0 ∧ j.natAbs < 1073741824)) ∧ Q (.int (i.fdiv j)) ph) := rfl
theorem pow_i {own : Bool} {i j : Int} {Q : QV} : op2S .pow own (.int i) (.int j) ph Q = ((0 ≤ j ∧ j ≤ 1000000 ∧ i.natAbs < 2 ^ 64) ∧ Q (.int (i ^ j.toNat)) ph) := rfl
theorem lt_i {own : Bool} {i j : Int} {Q : QV} : op2S .lt own (.int i) (.int j) ph Q = Q (.bl (decide (i < j))) ph := rfl
theorem le_i {own : Bool} {i j : Int} {Q : QV} : op2S .le own (.int i) (.int j) ph Q = Q (.bl (decide (i ≤ j))) ph := rfl
theorem gt_i {own : Bool} {i j : Int} {Q : QV} : op2S .gt own (.int i) (.int j) ph Q = Q (.bl (decide (j < i))) ph := rfl
theorem ge_i {own : Bool} {i j : Int} {Q : QV} : op2S .ge own (.int i) (.int j) ph Q = Q (.bl (decide (j ≤ i))) ph := rfl
theorem eq_ {own : Bool} {a b : PV} {Q : QV} : op2S .eq own a b ph Q = eqP a b ph fun k => Q (.bl k) ph := rfl
theorem ne_ {own : Bool} {a b : PV} {Q : QV} : op2S .ne own a b ph Q = eqP a b ph fun k => Q (.bl (!k)) ph := rfl
theorem in_e {own : Bool} {a b : PV} {Q : QV} : op2S .in_ own a b ph Q = isIn a b ph fun k => Q (.bl k) ph := rfl
theorem nin_e {own : Bool} {a b : PV} {Q : QV} : op2S .notin own a b ph Q = isIn a b ph fun k => Q (.bl (!k)) ph := rfl
theorem is_n {own : Bool} {a : PV} {Q : QV} : op2S .is own a .non ph Q = Q (.bl (isNon a)) ph := rfl
theorem isnot_n {own : Bool} {a : PV} {Q : QV} : op2S .isnot own a .non ph Q = Q (.bl (!isNon a)) ph := rfl
theorem idx_tup {xs : List PV} {i : Int} {Q : QV} : idxS (.tup xs) (.int i) ph Q = ∃ v, atI xs i = some v ∧ Q v ph := rfl
theorem idx_lst {xs : List PV} {i : Int} {Q : QV} : idxS (.lst xs) (.int i) ph Q = ∃ v, atI xs i = some v ∧ Q v ph := rfl
theorem idx_ref {n : Nat} {i : Int} {xs : List PV} {Q : QV} (h : ph[n]? = some (.lst xs)) : idxS (.ref n) (.int i) ph Q = ∃ v, atI xs i = some v ∧ Q v ph := by
  show (match ph[n]? with
    | some (.lst xs) => ∃ v, L2.atI xs i = some v ∧ Q v ph
    | some (.dK kvs) => ∃ key v, keyOf (.int i) = some key ∧ pkLook kvs key = some v ∧ Q v ph
    | some (.dT kvs) => ∃ key v, tkeyOf (.int i) = some key ∧ pkLook kvs key = some v ∧ Q v ph
    | none => False) = _
  rw [h]
theorem seti_ref {n : Nat} {i : Int} {v : PV} {xs : List PV} {Q : PHp → Prop} (h : ph[n]? = some (.lst xs)) : setiS (.ref n) (.int i) v ph Q = ∃ j, ixN xs.length i = some j ∧ Q (setO ph n (.lst (xs.set j v))) := by
  show (match ph[n]? with
    | some (.lst xs) => ∃ j, L2.ixN xs.length i = some j ∧ Q (setO ph n (.lst (xs.set j v)))
    | some (.dK kvs) => _
    | some (.dT kvs) => _
    | none => False) = _
  rw [h]
end
end RL
namespace RL
open PySem L2
section
variable {ph : PHp} {Q : QV}
theorem newL_f {xs : List PV} (h : xs.length ≤ sizeLine) (q : Q (.lst xs) ph) : newL false xs ph Q := ⟨h, by rw [if_neg (by decide)]; exact q⟩
theorem newL_t {xs : List PV} (h : xs.length ≤ sizeLine) (q : Q (.ref ph.length) (ph ++ [.lst xs])) : newL true xs ph Q := ⟨h, by rw [if_pos rfl]; exact q⟩
theorem rng12_1 {n : Int} (h : rOk 0 n) : rng12 [.int n] = some (rngL 0 n 1) := by show (if rOk 0 n then some (rngL 0 n 1) else none) = _; rw [if_pos h]
theorem it_r1 {n : Int} (h : rOk 0 n) : itItems .range [.int n] ph = some (rngL 0 n 1) := rng12_1 h
theorem it_r2 {i j : Int} (h : rOk i j) : itItems .range [.int i, .int j] ph = some (rngL i j 1) := by show (if rOk i j then some (rngL i j 1) else none) = _; rw [if_pos h]
theorem rOk_small {i j : Int} (h1 : 0 ≤ i) (h2 : i ≤ 1000000) (h3 : 0 ≤ j) (h4 : j ≤ 1000000) : rOk i j := by unfold rOk; omega
end
end RL
namespace RL
open PySem L2
section
variable {ph : PHp} {Q : QV} {own : Bool}
theorem tuple_l {xs : List PV} {v : PV} (h : lstOf ph v = some xs) (q : Q (.tup xs) ph) : biS .tuple own [v] ph Q := by
  show RL.bi_tuple own [v] ph Q
  unfold RL.bi_tuple
  split
  · rename_i e; cases e; cases h
  · rename_i e; cases e; exact ⟨xs, h, q⟩
  · rename_i h1 h2; exact absurd rfl (h2 v)
theorem repr_of {v : PV} {d : PyData} (h : Dat ph v d) (hr : reprS d) (q : Q (.str d.shown) ph) : biS .repr own [v] ph Q := ⟨d, h, hr, q⟩
theorem int_bl {b : Bool} : biS .int own [.bl b] ph Q = Q (.int (if b then 1 else 0)) ph := rfl
theorem add_l {xs ys : List PV} {a b : PV} (h1 : lstOf ph a = some xs) (h2 : lstOf ph b = some ys) (hl : xs.length + ys.length ≤ sizeLine) (q : newL own (xs ++ ys) ph Q) : op2S .add own a b ph Q := by
  have g : ∃ xs ys, lstOf ph a = some xs ∧ lstOf ph b = some ys ∧ xs.length + ys.length ≤ sizeLine ∧ newL own (xs ++ ys) ph Q := ⟨xs, ys, h1, h2, hl, q⟩
  cases a <;> first | cases h1; done | (cases b <;> first | cases h2; done | exact g)
theorem mul_l {xs : List PV} {a : PV} {k : Int} (h1 : lstOf ph a = some xs) (hk : -1000 ≤ k ∧ k ≤ 1000) (hl : xs.length ≤ 1000) (q : newL own (List.replicate k.toNat xs).flatten ph Q) : op2S .mul own a (.int k) ph Q := by
  have g : ∃ xs, lstOf ph a = some xs ∧ (-1000 ≤ k ∧ k ≤ 1000) ∧ xs.length ≤ 1000 ∧ newL own (List.replicate k.toNat xs).flatten ph Q := ⟨xs, h1, hk, hl, q⟩
  cases a <;> first | cases h1; done | exact g
end
end RL

/-! RLRepr: texts of values that are not too long. -/
namespace RL
open PySem L2
/-- leaves of at most B signs, a weight, a depth -/
structure Sm (B w dp : Nat) (d : PyData) : Prop where
  leaf : d.leavesShort B = true
  show_ : d.showable = true
  wt : d.weight ≤ w
  dep : d.depth ≤ dp
structure SmA (B w dp : Nat) (ds : List PyData) : Prop where
  leaf : PyData.leavesShortAll B ds = true
  show_ : PyData.showableAll ds = true
  wt : PyData.weightAll ds ≤ w
  dep : PyData.depthAll ds ≤ dp
section
variable {B : Nat}
theorem sm_non {w dp : Nat} : Sm B w dp .none := ⟨rfl, rfl, by simp [PyData.weight], by simp [PyData.depth]⟩
theorem sm_bl {w dp : Nat} (b : Bool) : Sm B w dp (.bool b) := ⟨rfl, rfl, by simp [PyData.weight], by simp [PyData.depth]⟩
theorem log_lt {n k : Nat} (h : n < 2 ^ k) (hk : 0 < k) : n.log2 < k := by
  by_cases hz : n = 0
  · subst hz; simpa using hk
  · exact (Nat.log2_lt hz).mpr h
theorem sm_int {i : Int} {w dp : Nat} (k : Nat) (h : i.natAbs < 10 ^ k) (hk : 0 < k) (hB : k + 1 ≤ B) (hw : 4 * k ≤ w) (hs : k ≤ 450) : Sm B w dp (.int i) := by
  have hl : i.natAbs.log2 < 4 * k := log_lt (Nat.lt_of_lt_of_le h (by
    rw [Nat.pow_mul]
    exact Nat.pow_le_pow_left (by decide) k)) (by omega)
  refine ⟨?_, ?_, ?_, by simp [PyData.depth]⟩
  · simp only [PyData.leavesShort, decide_eq_true_eq]
    show (Str.ofString (toString i)).length ≤ B
    rw [ofString_length]
    exact Nat.le_trans (int_text_length_le10 hk h) hB
  · simp only [PyData.showable, decide_eq_true_eq]; omega
  · simp only [PyData.weight]; split <;> omega
theorem sm_str {x : Str} {w dp : Nat} (h : (x.cps.toList.all fun c => decide (c < 16 ^ 8)) = true) (hw : x.cps.size ≤ w) : Sm B w dp (.str x) := ⟨by simpa only [PyData.leavesShort] using h, rfl, by simpa only [PyData.weight] using hw, by simp [PyData.depth]⟩
theorem sma_nil {w dp : Nat} : SmA B w dp [] := ⟨rfl, rfl, by simp [PyData.weightAll], by simp [PyData.depthAll]⟩
theorem sma_cons {w1 w2 dp : Nat} {d : PyData} {ds : List PyData} (h : Sm B w1 dp d) (t : SmA B w2 dp ds) : SmA B (w1 + 1 + w2) dp (d :: ds) := by
  refine ⟨?_, ?_, ?_, ?_⟩
  · simp only [PyData.leavesShortAll, h.leaf, t.leaf]; rfl
  · simp only [PyData.showableAll, h.show_, t.show_]; rfl
  · have := h.wt; have := t.wt; simp only [PyData.weightAll]; omega
  · have := h.dep; have := t.dep; simp only [PyData.depthAll]; omega
theorem Sm.mono {w w' dp dp' : Nat} {d : PyData} (h : Sm B w dp d) (hw : w ≤ w') (hd : dp ≤ dp') : Sm B w' dp' d := ⟨h.leaf, h.show_, Nat.le_trans h.wt hw, Nat.le_trans h.dep hd⟩
theorem SmA.mono {w w' dp dp' : Nat} {d : List PyData} (h : SmA B w dp d) (hw : w ≤ w') (hd : dp ≤ dp') : SmA B w' dp' d := ⟨h.leaf, h.show_, Nat.le_trans h.wt hw, Nat.le_trans h.dep hd⟩
theorem sma_all {w dp : Nat} : ∀ {ds : List PyData}, (∀ d ∈ ds, Sm B w dp d) → SmA B ((w + 1) * ds.length) dp ds
  | [], _ => sma_nil
  | x :: xs, h => by
    have t := sma_all (ds := xs) fun y hy => h y (List.mem_cons_of_mem _ hy)
    refine (sma_cons (h x (List.mem_cons_self ..)) t).mono ?_ (Nat.le_refl _)
    rw [List.length_cons, Nat.mul_succ]; omega
theorem sma_map {α : Type} {w dp : Nat} {f : α → PyData} {xs : List α} (h : ∀ x ∈ xs, Sm B w dp (f x)) : SmA B ((w + 1) * xs.length) dp (xs.map f) := by
  have := sma_all (B := B) (w := w) (dp := dp) (ds := xs.map f) fun d hd => by
    obtain ⟨x, hx, rfl⟩ := List.mem_map.mp hd
    exact h x hx
  rwa [List.length_map] at this
theorem sm_tup {w dp : Nat} {ds : List PyData} (h : SmA B w dp ds) : Sm B w (dp + 1) (.tuple ds) := ⟨by simpa only [PyData.leavesShort] using h.leaf, by simpa only [PyData.showable] using h.show_, by simpa only [PyData.weight] using h.wt, by have := h.dep; simp only [PyData.depth]; omega⟩
theorem sm_lst {w dp : Nat} {ds : List PyData} (h : SmA B w dp ds) : Sm B w (dp + 1) (.list ds) := ⟨by simpa only [PyData.leavesShort] using h.leaf, by simpa only [PyData.showable] using h.show_, by simpa only [PyData.weight] using h.wt, by have := h.dep; simp only [PyData.depth]; omega⟩
theorem sm_dict0 {w dp : Nat} : Sm B w (dp + 1) (.dict []) := ⟨rfl, rfl, by simp [PyData.weight, PyData.weightKv], by simp [PyData.depth, PyData.depthKv]⟩
theorem sm_dict1 {w1 w2 dp : Nat} {k v : PyData} (hk : Sm B w1 dp k) (hv : Sm B w2 dp v) : Sm B (w1 + w2 + 2) (dp + 1) (.dict [(k, v)]) := by
  refine ⟨?_, ?_, ?_, ?_⟩
  · simp only [PyData.leavesShort, PyData.leavesShortKv, hk.leaf, hv.leaf]; rfl
  · simp only [PyData.showable, PyData.showableKv, hk.show_, hv.show_]; rfl
  · have := hk.wt; have := hv.wt; simp only [PyData.weight, PyData.weightKv]; omega
  · have := hk.dep; have := hv.dep; simp only [PyData.depth, PyData.depthKv]; omega
theorem Sm.reprS {w dp : Nat} {d : PyData} (h : Sm B w dp d) (hB : 8 ≤ B) (hw : (B + 2) * w + B ≤ 16000000) (hd : dp ≤ 60) : reprS d := by
  refine ⟨h.show_, ?_, Nat.le_trans h.dep hd⟩
  have h1 := PyData.shown_le B hB d h.leaf
  have h2 : (B + 2) * d.weight ≤ (B + 2) * w := Nat.mul_le_mul_left _ h.wt
  have := sizeLine_eq
  omega
end
/-! ### data of a heap that grows -/
mutual
theorem dat_ext {ph zs : PHp} : ∀ {v : PV} {d : PyData}, Dat ph v d → Dat (ph ++ zs) v d
  | _, _, .non => .non
  | _, _, .bl b => .bl b
  | _, _, .int b => .int b
  | _, _, .str b => .str b
  | _, _, .tup h => .tup (dats_ext h)
  | _, _, .lst h => .lst (dats_ext h)
  | _, _, .ref hn h => .ref (by rw [List.getElem?_append_left (List.getElem?_eq_some_iff.mp hn).1]; exact hn) (dats_ext h)
  | _, _, .dict hn h => .dict (by rw [List.getElem?_append_left (List.getElem?_eq_some_iff.mp hn).1]; exact hn) (dats_ext h)
theorem dats_ext {ph zs : PHp} : ∀ {v : List PV} {d : List PyData}, DatAll ph v d → DatAll (ph ++ zs) v d
  | _, _, .nil => .nil
  | _, _, .cons h t => .cons (dat_ext h) (dats_ext t)
end
/-- a value that can be shown -/
def Shw (B w dp : Nat) (ph : PHp) (v : PV) : Prop := ∃ d, Dat ph v d ∧ Sm B w dp d
theorem shw_all {B w dp : Nat} {ph : PHp} : ∀ {xs : List PV}, (∀ x ∈ xs, Shw B w dp ph x) → ∃ ds, DatAll ph xs ds ∧ SmA B ((w + 1) * xs.length) dp ds
  | [], _ => ⟨[], .nil, sma_nil⟩
  | x :: xs, h => by
    obtain ⟨d, h1, h2⟩ := h x (List.mem_cons_self ..)
    obtain ⟨ds, h3, h4⟩ := shw_all (xs := xs) fun y hy => h y (List.mem_cons_of_mem _ hy)
    refine ⟨d :: ds, .cons h1 h3, (sma_cons h2 h4).mono ?_ (Nat.le_refl _)⟩
    rw [List.length_cons, Nat.mul_succ]; omega
theorem shw_tup {B w dp : Nat} {ph : PHp} {xs : List PV} (h : ∀ x ∈ xs, Shw B w dp ph x) : Shw B ((w + 1) * xs.length) (dp + 1) ph (.tup xs) := by
  obtain ⟨ds, h1, h2⟩ := shw_all h
  exact ⟨_, .tup h1, sm_tup h2⟩
theorem shw_lst {B w dp : Nat} {ph : PHp} {xs : List PV} (h : ∀ x ∈ xs, Shw B w dp ph x) : Shw B ((w + 1) * xs.length) (dp + 1) ph (.lst xs) := by
  obtain ⟨ds, h1, h2⟩ := shw_all h
  exact ⟨_, .lst h1, sm_lst h2⟩
theorem Shw.mono {B w w' dp dp' : Nat} {ph : PHp} {v : PV} (h : Shw B w dp ph v) (hw : w ≤ w') (hd : dp ≤ dp') : Shw B w' dp' ph v := by
  obtain ⟨d, h1, h2⟩ := h
  exact ⟨d, h1, h2.mono hw hd⟩
theorem Shw.ext {B w dp : Nat} {ph zs : PHp} {v : PV} (h : Shw B w dp ph v) : Shw B w dp (ph ++ zs) v := by
  obtain ⟨d, h1, h2⟩ := h
  exact ⟨d, dat_ext h1, h2⟩
theorem Shw.repr {B w dp : Nat} {ph : PHp} {v : PV} {own : Bool} {Q : QV} (h : Shw B w dp ph v) (hB : 8 ≤ B) (hw : (B + 2) * w + B ≤ 16000000) (hd : dp ≤ 60) (q : ∀ d, Dat ph v d → Q (.str d.shown) ph) : biS .repr own [v] ph Q := by
  obtain ⟨d, h1, h2⟩ := h
  exact repr_of h1 (h2.reprS hB hw hd) (q d h1)
/-- the data of a value are told once -/
theorem two_shw {B w dp : Nat} {ph : PHp} {x y : PV} (h1 : Shw B w dp ph x) (h2 : Shw B w dp ph y) : Shw B (2 * w + 2) (dp + 1) ph (.lst [x, y]) :=
  (shw_lst (xs := [x, y]) fun z hz => by
    rcases List.mem_cons.mp hz with rfl | hz
    · exact h1
    · rw [List.mem_singleton.mp hz]; exact h2).mono (by simp; omega) (Nat.le_refl _)
mutual
theorem dat_one {ph : PHp} : ∀ {v : PV} {d e : PyData}, Dat ph v d → Dat ph v e → d = e
  | _, _, _, .non, h => by cases h; rfl
  | _, _, _, .bl b, h => by cases h; rfl
  | _, _, _, .int b, h => by cases h; rfl
  | _, _, _, .str b, h => by cases h; rfl
  | _, _, _, .tup h, h' => by cases h' with | tup h' => rw [dats_one h h']
  | _, _, _, .lst h, h' => by cases h' with | lst h' => rw [dats_one h h']
  | _, _, _, .ref hn h, h' => by
    cases h' with
    | ref hn' h' => rw [hn] at hn'; cases hn'; rw [dats_one h h']
    | dict hn' h' => rw [hn] at hn'; cases hn'
  | _, _, _, .dict hn h, h' => by
    cases h' with
    | ref hn' h' => rw [hn] at hn'; cases hn'
    | dict hn' h' => rw [hn] at hn'; cases hn'; rw [dats_one h h']
theorem dats_one {ph : PHp} : ∀ {v : List PV} {d e : List PyData}, DatAll ph v d → DatAll ph v e → d = e
  | _, _, _, .nil, h => by cases h; rfl
  | _, _, _, .cons h t, h' => by cases h' with | cons h' t' => rw [dat_one h h', dats_one t t']
end
end RL

/-! RLLib2: what many laws want: numbers, rows, heaps, decks. -/
namespace RL
open PySem L2
/-! ### defs by their bodies -/
structure Is (pg : Pg) (f n m : Nat) (gc : Bool) (b : List S) : Prop where
  ex : ∃ d, pg.defs[f]? = some d ∧ d.ps.length = n ∧ d.N.length = m ∧ d.gc = gc ∧ d.body = b
theorem Is.call {pg : Pg} {f n m : Nat} {gc : Bool} {b : List S} (h : Is pg f n m gc b) {k : Nat} {vs : List PV} {ph : PHp} {Q : QV} {X : QX} (hl : vs.length = n)
    (q : wpB (callK pg k) pg.gt b { nx := fun _ h => retS gc ph Q .non h, rt := retS gc ph Q, xc := retX gc ph X } (vs.map some ++ List.replicate (m - vs.length) none) ph) : callK pg (k + 1) f vs ph Q X := by
  obtain ⟨d, h1, h2, h3, h4, h5⟩ := h.ex
  refine callK_def h1 ⟨by rw [hl, h2], ?_⟩
  subst h4 h5
  rw [← h3] at q
  exact q
/-! ### built-ins -/
section
variable {ph : PHp} {Q : QV} {own : Bool}
theorem len_lst {xs : List PV} : biS .len own [.lst xs] ph Q = Q (.int xs.length) ph := rfl
theorem len_tup {xs : List PV} : biS .len own [.tup xs] ph Q = Q (.int xs.length) ph := rfl
theorem len_ref {n : Nat} {xs : List PV} (h : ph[n]? = some (.lst xs)) : biS .len own [.ref n] ph Q = Q (.int xs.length) ph := by
  show RL.bi_len own [.ref n] ph Q = _
  simp only [RL.bi_len, h]
theorem int_i {i : Int} : biS .int own [.int i] ph Q = Q (.int i) ph := rfl
theorem abs_i {i : Int} : biS .abs own [.int i] ph Q = Q (.int (if i < 0 then -i else i)) ph := rfl
theorem min_i {i j : Int} : biS .min own [.int i, .int j] ph Q = Q (.int (min i j)) ph := by
  have e : (if j < i then j else i) = min i j := by split <;> omega
  show Q (.int (if j < i then j else i)) ph = _
  rw [e]
theorem max_i {i j : Int} : biS .max own [.int i, .int j] ph Q = Q (.int (max i j)) ph := by
  have e : (if j > i then j else i) = max i j := by split <;> omega
  show Q (.int (if j > i then j else i)) ph = _
  rw [e]
theorem tup_t {xs : List PV} : biS .tuple own [.tup xs] ph Q = Q (.tup xs) ph := rfl
theorem tup_l {xs : List PV} : biS .tuple own [.lst xs] ph Q = Q (.tup xs) ph := propext ⟨fun ⟨ys, e, q⟩ => by cases e; exact q, fun q => ⟨xs, rfl, q⟩⟩
theorem tup_r {n : Nat} {xs : List PV} (h : ph[n]? = some (.lst xs)) : biS .tuple own [.ref n] ph Q = Q (.tup xs) ph := propext ⟨fun ⟨ys, e, q⟩ => by simp only [lstOf, h] at e; cases e; exact q, fun q => ⟨xs, by simp only [lstOf, h], q⟩⟩
theorem list_of {v : PV} {xs : List PV} (h : seqOf ph v = some xs) (q : newL own xs ph Q) : biS .list own [v] ph Q := ⟨xs, h, q⟩
theorem idx_dK {n : Nat} {b : PV} {kvs : List (Key × PV)} {key : Key} (h : ph[n]? = some (.dK kvs)) (hk : keyOf b = some key) : idxS (.ref n) b ph Q = ∃ v, pkLook kvs key = some v ∧ Q v ph := by
  have e : idxS (.ref n) b ph Q = ∃ key v, keyOf b = some key ∧ pkLook kvs key = some v ∧ Q v ph := by
    unfold idxS
    simp only [h]
  rw [e]
  exact propext ⟨fun ⟨k, v, h1, h2, h3⟩ => by rw [hk] at h1; cases h1; exact ⟨v, h2, h3⟩, fun ⟨v, h2, h3⟩ => ⟨key, v, hk, h2, h3⟩⟩
theorem seti_dK {n : Nat} {b v : PV} {kvs : List (Key × PV)} {key : Key} {R : PHp → Prop} (h : ph[n]? = some (.dK kvs)) (hk : keyOf b = some key) : setiS (.ref n) b v ph R = (kvs.length < sizeLine ∧ R (setO ph n (.dK (pkPut kvs key v)))) := by
  have e : setiS (.ref n) b v ph R = ∃ key, keyOf b = some key ∧ kvs.length < sizeLine ∧ R (setO ph n (.dK (pkPut kvs key v))) := by
    unfold setiS
    simp only [h]
    cases b <;> first | rfl | simp [keyOf] at hk
  rw [e]
  exact propext ⟨fun ⟨k, h1, h2⟩ => by rw [hk] at h1; cases h1; exact h2, fun h2 => ⟨key, hk, h2⟩⟩
theorem str_int {i : Int} : biS .str own [.int i] ph Q = (i.natAbs.log2 < 1920 ∧ Q (.str (toString i)) ph) := rfl
theorem newL_F {xs : List PV} : newL false xs ph Q = (xs.length ≤ sizeLine ∧ Q (.lst xs) ph) := by unfold newL; rw [if_neg (by decide)]
theorem newL_T {xs : List PV} : newL true xs ph Q = (xs.length ≤ sizeLine ∧ Q (.ref ph.length) (ph ++ [.lst xs])) := by unfold newL; rw [if_pos rfl]
end
/-! ### numbers -/
def toI : PV → Int
  | .int i => i
  | _ => 0
theorem dat_ints (ph : PHp) : ∀ xs : List Int, DatAll ph (xs.map .int) (xs.map .int)
  | [] => .nil
  | x :: xs => .cons (.int x) (dat_ints ph xs)
theorem eqv_nil (xs : List Int) : PyData.eqv (.list (xs.map .int)) (.list []) = decide (xs = []) := by
  cases xs <;> simp [PyData.eqv, PyData.eqvAll]
theorem eqvL_nil {α : Type} (f : α → PyData) (xs : List α) : PyData.eqv (.list (xs.map f)) (.list []) = decide (xs = []) := by
  cases xs <;> simp [PyData.eqv, PyData.eqvAll]
theorem shaped_ints (xs : List Int) : SeqAt.shaped (.list (xs.map .int)) = true := by
  have h1 : ∀ xs : List Int, PyData.canLayAll0 (xs.map .int) = true := by
    intro xs
    induction xs with
    | nil => rfl
    | cons x xs ih => simp [PyData.canLayAll0, PyData.canLay0, ih]
  have h2 : ∀ xs : List Int, PyData.depthAll (xs.map .int) = 0 := PySem.W.depth_ints
  simp [SeqAt.shaped, PyData.canLay0, h1, PyData.depth, h2]
theorem log_small {i : Int} {k : Nat} (hk : 0 < k) (h1 : i.natAbs < 2 ^ k) : i.natAbs.log2 < k := by
  by_cases hz : i.natAbs = 0
  · rw [hz]; simpa using hk
  · rw [Nat.log2_lt hz]; exact h1
theorem lt31 {i : Int} (h0 : 0 ≤ i) (h1 : i < 2147483648) : i.natAbs.log2 < 31 := log_small (by decide) (by omega)
theorem lt200 {i : Int} (h0 : -1000000000000000000000000000000000000000000000000000000000000 ≤ i) (h1 : i ≤ 1000000000000000000000000000000000000000000000000000000000000) : i.natAbs.log2 < 200 := log_small (by decide) (by omega)
theorem mulOk_small {i j : Int} (h0 : -1000000000000000000000000000000000000000000000000000000000000 ≤ i) (h1 : i ≤ 1000000000000000000000000000000000000000000000000000000000000) (h2 : -1000000000000000000000000000000000000000000000000000000000000 ≤ j) (h3 : j ≤ 1000000000000000000000000000000000000000000000000000000000000) : mulOk i j := by
  have := lt200 h0 h1
  have := lt200 h2 h3
  exact CMulW.ok (show _ + _ < _ by omega)
theorem mulOk_2 {i : Int} : mulOk 2 i := IntMulOk.of_left (by decide)
theorem mulOk_c {i j : Int} (h : Builtin.Int.intBits i ≤ 64) : mulOk i j := IntMulOk.of_left h
theorem fdivOk {j : Int} (h0 : 0 < j) (h1 : j ≤ 1000000000000000000000000000000000000000000000000000000000000) : (0 < j ∧ j.natAbs.log2 < 9000) ∨ (j ≠ 0 ∧ j.natAbs < 1073741824) := .inl ⟨h0, by have := lt200 (i := j) (by omega) h1; omega⟩
theorem fmod_pos {i j : Int} (h : 0 < j) : 0 ≤ i.fmod j ∧ i.fmod j < j := by
  rw [Int.fmod_eq_emod_of_nonneg _ (by omega)]
  exact ⟨Int.emod_nonneg _ (by omega), Int.emod_lt_of_pos _ h⟩
theorem sz : (1000000 : Nat) ≤ sizeLine := by decide
theorem szm : (16000000 : Nat) ≤ sizeLine := by decide
theorem toNat_lt {r : Int} {n : Nat} (h0 : 0 ≤ r) (h1 : r < n) : r.toNat < n := by omega
theorem intsOf_map : ∀ xs : List Int, intsOf (xs.map .int) = some xs
  | [] => rfl
  | x :: xs => by simp [intsOf, intsOf_map xs]
theorem rows_map : ∀ rs : List (List Int), rowsOf (rs.map fun r => .tup (r.map .int)) = some rs
  | [] => rfl
  | r :: rs => by
    show (match intsOf (r.map .int), rowsOf (rs.map fun r => .tup (r.map .int)) with
      | some ns, some ls => some (ns :: ls)
      | _, _ => none) = _
    rw [intsOf_map, rows_map rs]
theorem ints_acc (acc : List Int) (x : Int) : acc.map PV.int ++ [.int x] = (acc ++ [x]).map .int := by simp
/-! ### ranges -/
theorem rng1_get {a b : Int} {i : Nat} {v : PV} (h : (rngL a b 1)[i]? = some v) : v = .int (a + i) ∧ a + i < b := by
  obtain ⟨e, hi⟩ := rng_get h
  rw [Int.mul_one] at e
  refine ⟨e, ?_⟩
  rw [rangeSize_one] at hi
  split at hi <;> omega
theorem rng1_len {a b : Int} (h : a ≤ b) : ((rngL a b 1).length : Int) = b - a := by
  simp only [rngL, List.length_map, List.length_range]
  rw [rangeSize_one]; split <;> omega
theorem rng0_len {n : Nat} : (rngL 0 (n : Int) 1).length = n := by
  have := rng1_len (a := 0) (b := (n : Int)) (by omega); omega
theorem rngn_len {m n : Nat} : (rngL (m : Int) (n : Int) 1).length = n - m := by
  simp only [rngL, List.length_map, List.length_range]
  rw [rangeSize_one]; split <;> omega
theorem rng0_get {n i : Nat} {v : PV} (h : (rngL 0 (n : Int) 1)[i]? = some v) : v = .int (i : Int) ∧ i < n := by
  obtain ⟨e, h⟩ := rng1_get h
  rw [Int.zero_add] at e
  exact ⟨e, by omega⟩
theorem rngn_get {m n i : Nat} {v : PV} (h : (rngL (m : Int) (n : Int) 1)[i]? = some v) : v = .int ((m + i : Nat) : Int) ∧ m + i < n := by
  obtain ⟨e, h⟩ := rng1_get h
  exact ⟨by rw [e]; simp, by omega⟩
theorem rng1n_len {n : Nat} : (rngL 1 (n : Int) 1).length = n - 1 := rngn_len (m := 1) (n := n)
theorem rng1n_get {n i : Nat} {v : PV} (h : (rngL 1 (n : Int) 1)[i]? = some v) : v = .int ((1 + i : Nat) : Int) ∧ 1 + i < n := rngn_get (m := 1) h
theorem rng0_nat (n : Nat) : rngL 0 (n : Int) 1 = (List.range n).map fun (i : Nat) => PV.int (i : Int) := by
  simp only [rngL, rangeSize_one]
  have : (if (0 : Int) < (n : Int) then (n : Int) - 0 else 0).toNat = n := by split <;> omega
  rw [this]
  refine List.map_congr_left fun i _ => ?_
  simp
theorem rng1_ints (b : Int) : rngL 0 b 1 = ((List.range b.toNat).map fun (i : Nat) => (i : Int)).map .int := by
  simp only [rngL, rangeSize_one, List.map_map]
  have : (if (0 : Int) < b then b - 0 else 0).toNat = b.toNat := by split <;> omega
  rw [this]
  refine List.map_congr_left fun i _ => ?_
  simp
theorem rOk_nat {m n : Nat} (h1 : m ≤ 1000000) (h2 : n ≤ 1000000) : rOk (m : Int) (n : Int) := rOk_small (by omega) (by omega) (by omega) (by omega)
theorem it_n {n : Nat} {ph : PHp} (h : n ≤ 1000000) : itItems .range [.int (n : Int)] ph = some (rngL 0 (n : Int) 1) := it_r1 (rOk_small (by omega) (by omega) (by omega) (by omega))
/-! ### items -/
theorem atI_get {α : Type} {xs : List α} {r : Int} (h0 : 0 ≤ r) (h1 : r < xs.length) : ∃ v, atI xs r = some v ∧ v ∈ xs := by
  have hl : r.toNat < xs.length := by omega
  refine ⟨xs[r.toNat], ?_, List.getElem_mem hl⟩
  have := atI_nat (xs := xs) (j := r.toNat) (v := xs[r.toNat]) (List.getElem?_eq_getElem hl)
  rwa [show ((r.toNat : Nat) : Int) = r by omega] at this
theorem atI_int {xs : List Int} {r : Int} (h0 : 0 ≤ r) (h1 : r < xs.length) : ∃ v, atI (xs.map PV.int) r = some (.int v) ∧ v ∈ xs := by
  obtain ⟨v, e, hv⟩ := atI_get (xs := xs.map PV.int) h0 (by simpa using h1)
  obtain ⟨w, hw, rfl⟩ := List.mem_map.mp hv
  exact ⟨w, e, hw⟩
/-- the a-th item -/
def nth (p : List Int) (a : Nat) : Int := p.getD a 0
theorem get_nth {p : List Int} {a : Nat} (h : a < p.length) : p[a]? = some (nth p a) := by simp [nth, h]
theorem atI_nth {p : List Int} {a : Nat} (h : a < p.length) : atI (p.map PV.int) (a : Int) = some (.int (nth p a)) := atI_nat (by rw [List.getElem?_map, get_nth h]; rfl)
theorem nth_mem {p : List Int} {a : Nat} (h : a < p.length) : nth p a ∈ p := by
  have := get_nth h
  exact List.mem_of_getElem? this
theorem nth_set {p : List Int} {a b : Nat} {x : Int} (h : a < p.length) : nth (p.set a x) b = if b = a then x else nth p b := by
  unfold nth
  rw [List.getD_eq_getElem?_getD, List.getElem?_set]
  by_cases e : a = b
  · subst e; simp [h]
  · rw [if_neg e, if_neg (Ne.symm e), List.getD_eq_getElem?_getD]
theorem set_int {p : List Int} {a : Nat} {x : Int} : (p.map PV.int).set a (.int x) = (p.set a x).map .int := by rw [List.map_set]
theorem ixN_nat {n a : Nat} (h : a < n) : ixN n (a : Int) = some a := by
  unfold ixN
  rw [if_pos (by omega), if_pos (by omega)]; simp
theorem nth_ext {p q : List Int} (hl : p.length = q.length) (h : ∀ a, a < p.length → nth p a = nth q a) : p = q := by
  apply List.ext_getElem hl
  intro i h1 h2
  have := h i h1
  simp [nth, h1, h2] at this
  exact this
/-! ### what is handed back -/
mutual
theorem frz_old {n : Nat} {ph : PHp} : ∀ {x : PV}, Old n x → Frz n ph x x
  | _, .non => .non
  | _, .bl b => .bl b
  | _, .int b => .int b
  | _, .str b => .str b
  | _, .scr b => .scr b
  | _, .tup h => .tup (frzs_old h)
  | _, .lst h => .lst (frzs_old h)
  | _, .ref h => .old h
theorem frzs_old {n : Nat} {ph : PHp} : ∀ {x : List PV}, OldL n x → FrzL n ph x x
  | _, .nil => .nil
  | _, .cons h t => .cons (frz_old h) (frzs_old t)
end
mutual
theorem Old.mono {n m : Nat} (h : n ≤ m) : ∀ {x : PV}, Old n x → Old m x
  | _, .non => .non
  | _, .bl b => .bl b
  | _, .int b => .int b
  | _, .str b => .str b
  | _, .scr b => .scr b
  | _, .tup t => .tup (OldL.mono h t)
  | _, .lst t => .lst (OldL.mono h t)
  | _, .ref t => .ref (Nat.lt_of_lt_of_le t h)
theorem OldL.mono {n m : Nat} (h : n ≤ m) : ∀ {x : List PV}, OldL n x → OldL m x
  | _, .nil => .nil
  | _, .cons a t => .cons (Old.mono h a) (OldL.mono h t)
end
theorem OldO.mono {n m : Nat} (h : n ≤ m) {o : PO} (q : OldO n o) : OldO m o := by
  cases o with
  | lst xs => exact OldL.mono h q
  | dK xs => exact OldL.mono h q
  | dT xs => exact OldL.mono h q
theorem oldL_ints {n : Nat} : ∀ xs : List Int, OldL n (xs.map .int)
  | [] => .nil
  | x :: xs => .cons (.int x) (oldL_ints xs)
theorem oldL_all {n : Nat} : ∀ {xs : List PV}, (∀ x ∈ xs, Old n x) → OldL n xs
  | [], _ => .nil
  | x :: xs, h => .cons (h x (List.mem_cons_self ..)) (oldL_all fun y hy => h y (List.mem_cons_of_mem _ hy))
/-- behind a body that only made new things -/
theorem ret_new {ph zs : PHp} {Q : QV} {v v' : PV} (hf : Frz ph.length (ph ++ zs) v v') (q : Q v' ph) : retS true ph Q v (ph ++ zs) := by
  unfold retS
  rw [if_pos rfl]
  refine ⟨v', hf, fun i o hi ho => .inl ?_, by rw [List.take_left' rfl]; exact q⟩
  rw [List.getElem?_append_left hi] at ho; exact ho
theorem ret_newO {ph zs : PHp} {Q : QV} {v : PV} (hf : Old ph.length v) (q : Q v ph) : retS true ph Q v (ph ++ zs) := ret_new (frz_old hf) q
theorem ret_old {ph : PHp} {Q : QV} {v : PV} (hf : Old ph.length v) (q : Q v ph) : retS true ph Q v ph := by
  have := ret_new (zs := []) (frz_old (ph := ph ++ []) hf) q
  rwa [List.append_nil] at this
theorem ret_f {ph ph' : PHp} {Q : QV} {v : PV} (q : Q v ph') : retS false ph Q v ph' := by
  unfold retS
  rw [if_neg (by decide)]; exact q
theorem retF {ph : PHp} {Q : QV} : retS false ph Q = Q := by
  funext v h
  unfold retS
  rw [if_neg (by decide)]
theorem retXF {ph : PHp} {X : QX} : retX false ph X = X := by
  funext v h
  unfold retX
  rw [if_neg (by decide)]
/-! ### new things in the heap -/
section
variable {ph zs : PHp} {a b c d a' b' c' d' : PO}
theorem pg0 : (ph ++ a :: zs)[ph.length]? = some a := by rw [List.getElem?_append_right (Nat.le_refl _), Nat.sub_self]; rfl
theorem pg1 : (ph ++ a :: b :: zs)[ph.length + 1]? = some b := by rw [List.getElem?_append_right (by omega), show ph.length + 1 - ph.length = 1 by omega]; rfl
theorem pg2 : (ph ++ a :: b :: c :: zs)[ph.length + 2]? = some c := by rw [List.getElem?_append_right (by omega), show ph.length + 2 - ph.length = 2 by omega]; rfl
theorem pg3 : (ph ++ a :: b :: c :: d :: zs)[ph.length + 3]? = some d := by rw [List.getElem?_append_right (by omega), show ph.length + 3 - ph.length = 3 by omega]; rfl
theorem ps0 : setO (ph ++ a :: zs) ph.length a' = ph ++ a' :: zs := by unfold setO; rw [List.set_append_right _ _ (Nat.le_refl _), Nat.sub_self]; rfl
theorem ps1 : setO (ph ++ a :: b :: zs) (ph.length + 1) b' = ph ++ a :: b' :: zs := by unfold setO; rw [List.set_append_right _ _ (by omega), show ph.length + 1 - ph.length = 1 by omega]; rfl
theorem ps2 : setO (ph ++ a :: b :: c :: zs) (ph.length + 2) c' = ph ++ a :: b :: c' :: zs := by unfold setO; rw [List.set_append_right _ _ (by omega), show ph.length + 2 - ph.length = 2 by omega]; rfl
theorem ps3 : setO (ph ++ a :: b :: c :: d :: zs) (ph.length + 3) d' = ph ++ a :: b :: c :: d' :: zs := by unfold setO; rw [List.set_append_right _ _ (by omega), show ph.length + 3 - ph.length = 3 by omega]; rfl
theorem pl1 : (ph ++ [a]).length = ph.length + 1 := by simp
theorem pl2 : (ph ++ [a, b]).length = ph.length + 2 := by simp
theorem pl3 : (ph ++ [a, b, c]).length = ph.length + 3 := by simp
theorem pa1 : (ph ++ [a]) ++ [b] = ph ++ [a, b] := by simp
theorem pa2 : (ph ++ [a, b]) ++ [c] = ph ++ [a, b, c] := by simp
theorem pa3 : (ph ++ [a, b, c]) ++ [d] = ph ++ [a, b, c, d] := by simp
end
/-! ### handlers -/
theorem hdX_hit {G : GT} {hd : Hd} {hs : List Hd} {D : Dn} {px : PX} {ph : PHp} {v : PV} (h : hd.cs.any (G.sub px.cls) = true) (hv : hd.he.val G px = some v) (q : D.rt v ph) : hdX G (hd :: hs) D px ph := by
  unfold hdX
  rw [List.find?_cons_of_pos (p := fun h : Hd => h.cs.any (G.sub px.cls)) h]
  exact ⟨v, hv, q⟩
theorem hdX_miss {G : GT} {hd : Hd} {hs : List Hd} {D : Dn} {px : PX} {ph : PHp} (h : hd.cs.any (G.sub px.cls) = false) (q : hdX G hs D px ph) : hdX G (hd :: hs) D px ph := by
  unfold hdX
  rw [List.find?_cons_of_neg (p := fun h : Hd => h.cs.any (G.sub px.cls)) (by rw [h]; decide)]
  exact q
theorem hdX_nil {G : GT} {D : Dn} {px : PX} {ph : PHp} (q : D.xc px ph) : hdX G [] D px ph := q
/-! ### slices -/
theorem cut_len {α : Type} (xs : List α) : (cut xs none (some 63)).length ≤ 63 := by
  simp only [cut, sIx]
  rw [List.length_take]
  simp; omega
theorem cut_map {α : Type} (f : α → PV) (xs : List α) (lo hi : Option Int) : cut (xs.map f) lo hi = (cut xs lo hi).map f := by
  simp [cut, List.map_take, List.map_drop]
theorem cut_mem {α : Type} {xs : List α} {lo hi : Option Int} {x : α} (h : x ∈ cut xs lo hi) : x ∈ xs := List.mem_of_mem_drop (List.mem_of_mem_take h)
theorem cut_le {α : Type} {xs : List α} {lo hi : Option Int} : (cut xs lo hi).length ≤ xs.length := by
  simp only [cut]
  rw [List.length_take, List.length_drop]; omega
theorem cut_set {α : Type} {p : List α} {i : Nat} {x : α} (h : i < p.length) : cut p none (some (i : Int)) ++ [x] ++ cut p (some ((i : Int) + 1)) none = p.set i x := by
  have e1 : sIx p.length p.length (some (i : Int)) = i := by simp only [sIx]; rw [if_neg (by omega)]; omega
  have e2 : sIx p.length 0 (some ((i : Int) + 1)) = i + 1 := by simp only [sIx]; rw [if_neg (by omega)]; omega
  unfold cut
  rw [e1, e2]
  simp only [sIx, List.drop_zero, Nat.sub_zero]
  rw [List.take_of_length_le (l := p.drop (i + 1)) (by rw [List.length_drop]; omega), List.set_eq_take_append_cons_drop, if_pos h]
  simp
theorem sl_scr {own : Bool} {ns : List Int} {lo hi : Option Int} {ph : PHp} {Q : QV} : slS own (.scr ns) lo hi ph Q = newL own (cut (ns.map PV.int) lo hi) ph Q := rfl
theorem sl_tup {own : Bool} {xs : List PV} {lo hi : Option Int} {ph : PHp} {Q : QV} : slS own (.tup xs) lo hi ph Q = Q (.tup (cut xs lo hi)) ph := rfl
theorem sl_lst {own : Bool} {xs : List PV} {lo hi : Option Int} {ph : PHp} {Q : QV} : slS own (.lst xs) lo hi ph Q = newL own (cut xs lo hi) ph Q := propext ⟨fun ⟨ys, e, q⟩ => by cases e; exact q, fun q => ⟨xs, rfl, q⟩⟩
theorem add_t {own : Bool} {xs ys : List PV} {ph : PHp} {Q : QV} : op2S .add own (.tup xs) (.tup ys) ph Q = (xs.length + ys.length ≤ sizeLine ∧ Q (.tup (xs ++ ys)) ph) := rfl
theorem mul_t {own : Bool} {xs : List PV} {k : Int} {ph : PHp} {Q : QV} : op2S .mul own (.tup xs) (.int k) ph Q = ((-1000 ≤ k ∧ k ≤ 1000) ∧ xs.length ≤ 1000 ∧ Q (.tup (List.replicate k.toNat xs).flatten) ph) := rfl
theorem mul_s {own : Bool} {x : Str} {k : Int} {ph : PHp} {Q : QV} : op2S .mul own (.str x) (.int k) ph Q = ((-1000 ≤ k ∧ k ≤ 1000) ∧ x.length ≤ 1000 ∧ Q (.str ⟨(List.replicate k.toNat x.cps.toList).flatten.toArray⟩) ph) := rfl
theorem add_ll {own : Bool} {xs ys : List PV} {ph : PHp} {Q : QV} : op2S .add own (.lst xs) (.lst ys) ph Q = (xs.length + ys.length ≤ sizeLine ∧ newL own (xs ++ ys) ph Q) := propext ⟨fun ⟨_, _, e1, e2, q⟩ => by cases e1; cases e2; exact q, fun q => ⟨xs, ys, rfl, rfl, q⟩⟩
/-! ### walks that look for something -/
/-- the first place where p fails -/
def fb (p : Nat → PV → Bool) : Nat → List PV → Option Nat
  | _, [] => none
  | i, x :: xs => if p i x = true then fb p (i + 1) xs else some i
theorem forL_find {still : PHp → Prop} {t : Tg} {bd : Dn → Env → PHp → Prop} {D : Dn} {ph : PHp} (p : Nat → PV → Bool) (E : Env → Prop) (R : Nat → Prop) (hst : still ph) {items : List PV} {env : Env} (he : E env)
    (hs : ∀ (i : Nat) (x : PV) (env : Env), items[i]? = some x → E env → ∀ N : Env → PHp → Prop, (p i x = true → ∀ env', E env' → N env' ph) → (p i x = false → R i) → bindT t x env fun env' => bd { D with nx := N, ct := N, bk := D.nx } env' ph)
    (hR : ∀ j, fb p 0 items = some j → R j) (hN : fb p 0 items = none → ∀ env, E env → D.nx env ph) : forL still t bd D items env ph := by
  have key : ∀ (xs : List PV) (i : Nat) (env : Env), E env → (∀ j, xs[j]? = items[i + j]?) → (∀ j, fb p i xs = some j → R j) → (fb p i xs = none → ∀ env, E env → D.nx env ph) → forL still t bd D xs env ph := by
    intro xs
    induction xs with
    | nil => intro i env he _ _ h; exact ⟨hst, h rfl env he⟩
    | cons x xs ih =>
      intro i env he hx h1 h2
      refine ⟨hst, hs i x env (by have := hx 0; simpa using this.symm) he _ (fun hp env' he' => ?_) fun hp => ?_⟩
      · refine ih (i + 1) env' he' (fun j => ?_) (fun j hj => h1 j ?_) fun hn => h2 ?_
        · have := hx (j + 1)
          rw [List.getElem?_cons_succ] at this
          rw [this]; congr 1; omega
        · unfold fb; rw [if_pos hp]; exact hj
        · unfold fb; rw [if_pos hp]; exact hn
      · refine h1 i ?_
        unfold fb; rw [if_neg (by rw [hp]; decide)]
  exact key items 0 env he (fun j => by rw [Nat.zero_add]) hR hN
theorem enumL_at : ∀ {xs : List PV} {i k : Nat} {v : PV}, (enumL k xs)[i]? = some v → ∃ x, xs[i]? = some x ∧ v = .tup [.int ((k + i : Nat) : Int), x] := fun h => by
  obtain ⟨y, h1, h2⟩ := enumL_get h
  exact ⟨y, h1, h2⟩
theorem enumL_len : ∀ {xs : List PV} {k : Nat}, (enumL k xs).length = xs.length := fun {xs k} => enumL_length xs k
/-- an enumerate that looks for something -/
theorem enum_find {still : PHp → Prop} {t : Tg} {bd : Dn → Env → PHp → Prop} {D : Dn} {ph : PHp} (p : PV → Bool) (E : Env → Prop) (R : Nat → Prop) (hst : still ph) {xs : List PV} {env : Env} (he : E env)
    (hs : ∀ (i : Nat) (x : PV) (env : Env), xs[i]? = some x → E env → ∀ N : Env → PHp → Prop, (p x = true → ∀ env', E env' → N env' ph) → (p x = false → R i) → bindT t (.tup [.int (i : Int), x]) env fun env' => bd { D with nx := N, ct := N, bk := D.nx } env' ph)
    (hR : ∀ j, fb (fun _ => p) 0 xs = some j → R j) (hN : fb (fun _ => p) 0 xs = none → ∀ env, E env → D.nx env ph) : forL still t bd D (enumL 0 xs) env ph := by
  let p' : Nat → PV → Bool := fun _ v => match v with
    | .tup [_, x] => p x
    | _ => true
  have e : ∀ (xs : List PV) (k i : Nat), fb p' k (enumL i xs) = fb (fun _ => p) k xs := by
    intro xs
    induction xs with
    | nil => intro k i; rfl
    | cons x xs ih =>
      intro k i
      show (if p' k (.tup [.int i, x]) = true then fb p' (k + 1) (enumL (i + 1) xs) else some k) = if p x = true then fb (fun _ => p) (k + 1) xs else some k
      rw [ih]
  refine forL_find p' E R hst he (fun i v env hv he N h1 h2 => ?_) (fun j hj => hR j (by rw [← e xs 0 0]; exact hj)) fun hn => hN (by rw [← e xs 0 0]; exact hn)
  obtain ⟨x, hx, rfl⟩ := enumL_at hv
  rw [Nat.zero_add] at h1 h2 ⊢
  exact hs i x env hx he N h1 h2
theorem fb_none {p : Nat → PV → Bool} : ∀ {xs : List PV} {i : Nat}, fb p i xs = none → ∀ j x, xs[j]? = some x → p (i + j) x = true
  | [], _, _, j, x, h => by simp at h
  | y :: ys, i, h, j, x, hx => by
    unfold fb at h
    split at h
    · rename_i hp
      cases j with
      | zero => simp at hx; subst hx; exact hp
      | succ j =>
        have := fb_none h j x (by simpa using hx)
        rw [show i + (j + 1) = i + 1 + j by omega]; exact this
    · cases h
theorem fb_some {p : Nat → PV → Bool} : ∀ {xs : List PV} {i j : Nat}, fb p i xs = some j → ∃ k x, j = i + k ∧ xs[k]? = some x ∧ p j x = false
  | [], _, _, h => by cases h
  | y :: ys, i, j, h => by
    unfold fb at h
    split at h
    · obtain ⟨k, x, h1, h2, h3⟩ := fb_some h
      exact ⟨k + 1, x, by omega, by simpa using h2, h3⟩
    · rename_i hp
      cases h
      exact ⟨0, y, rfl, rfl, by simpa using hp⟩
theorem not_tup {ph : PHp} {v : PV} (h : ∀ xs, v ≠ .tup xs) : tyIs .tuple ph v = false := by
  cases v with
  | tup xs => exact absurd rfl (h xs)
  | ref n =>
    simp only [tyIs]
    cases ph[n]? with
    | none => rfl
    | some o => cases o <;> rfl
  | _ => rfl
theorem is_tup {ph : PHp} {xs : List PV} : tyIs .tuple ph (.tup xs) = true := rfl
/-! ### comprehensions over rows -/
theorem comp_enc {α : Type} {still : PHp → Prop} {bind : PV → (Env → Prop) → Prop} {cnd : Env → PHp → (Bool → PHp → Prop) → Prop} {el : Env → PHp → QV → Prop} {Q : List PV → PHp → Prop} {ph : PHp} (enc : α → PV) (p : α → Bool) (f : α → PV) {xs : List α} (hst : still ph) (hl : xs.length ≤ sizeLine)
    (hs : ∀ x ∈ xs, ∀ (K : QV) (R : PHp → Prop), (p x = true → K (f x) ph) → (p x = false → R ph) → bind (enc x) fun env' => cnd env' ph fun b ph1 => if b = true then el env' ph1 K else R ph1)
    (hq : Q ((xs.filter p).map f) ph) : compL still bind cnd el (xs.map enc) [] ph Q := by
  refine compL_rule (fun i acc ph' => ph' = ph ∧ acc = ((xs.take i).filter p).map f) ?_ ?_ ⟨rfl, by simp⟩
  · rintro i v acc ph' hv ⟨rfl, rfl⟩
    rw [List.getElem?_map, Option.map_eq_some_iff] at hv
    obtain ⟨x, hx, rfl⟩ := hv
    have hi := (List.getElem?_eq_some_iff.mp hx).1
    refine ⟨hst, fun N hN => hs x (List.mem_of_getElem? hx) _ _ (fun hp => ?_) fun hp => ?_⟩
    · have e : ((xs.take (i + 1)).filter p).map f = ((xs.take i).filter p).map f ++ [f x] := by
        rw [List.take_add_one, hx]; simp [List.filter_append, hp]
      refine ⟨?_, hN _ _ ⟨rfl, e.symm⟩⟩
      have h1 : (((xs.take i).filter p).map f).length ≤ (xs.take i).length := by
        rw [List.length_map]; exact List.length_filter_le _ _
      rw [List.length_take] at h1
      omega
    · have e : ((xs.take (i + 1)).filter p).map f = ((xs.take i).filter p).map f := by
        rw [List.take_add_one, hx]; simp [List.filter_append, hp]
      exact hN _ _ ⟨rfl, e.symm⟩
  · rintro acc ph' ⟨rfl, rfl⟩
    rw [List.length_map, List.take_length]
    exact ⟨hst, hq⟩
theorem comp_encM {α : Type} {still : PHp → Prop} {bind : PV → (Env → Prop) → Prop} {cnd : Env → PHp → (Bool → PHp → Prop) → Prop} {el : Env → PHp → QV → Prop} {Q : List PV → PHp → Prop} {ph : PHp} (enc : α → PV) (f : α → PV) {xs : List α} (hst : still ph) (hl : xs.length ≤ sizeLine)
    (hs : ∀ x ∈ xs, ∀ (K : QV) (R : PHp → Prop), K (f x) ph → bind (enc x) fun env' => cnd env' ph fun b ph1 => if b = true then el env' ph1 K else R ph1)
    (hq : Q (xs.map f) ph) : compL still bind cnd el (xs.map enc) [] ph Q :=
  comp_enc enc (fun _ => true) f hst hl (fun x hx K R h _ => hs x hx K R (h rfl)) (by rw [List.filter_eq_self.mpr (by simp)]; exact hq)
theorem blsOf_map {α : Type} (g : α → Bool) : ∀ xs : List α, blsOf (xs.map fun x => PV.bl (g x)) = some (xs.map g)
  | [] => rfl
  | x :: xs => by simp [blsOf, blsOf_map g xs]
section
variable {ph : PHp} {Q : QV} {own : Bool} {α : Type}
theorem any_lst {g : α → Bool} {xs : List α} : biS .any own [.lst (xs.map fun x => PV.bl (g x))] ph Q = Q (.bl (xs.any g)) ph := by
  refine propext ⟨fun ⟨ys, bs, e1, e2, q⟩ => ?_, fun q => ⟨_, _, rfl, blsOf_map g xs, ?_⟩⟩
  · cases e1
    rw [blsOf_map] at e2; cases e2
    rw [List.any_map] at q
    exact q
  · rw [List.any_map]; exact q
theorem all_lst {g : α → Bool} {xs : List α} : biS .all own [.lst (xs.map fun x => PV.bl (g x))] ph Q = Q (.bl (xs.all g)) ph := by
  refine propext ⟨fun ⟨ys, bs, e1, e2, q⟩ => ?_, fun q => ⟨_, _, rfl, blsOf_map g xs, ?_⟩⟩
  · cases e1
    rw [blsOf_map] at e2; cases e2
    rw [List.all_map] at q
    exact q
  · rw [List.all_map]; exact q
end
theorem enum_ints (xs : List Int) : enumL 0 (xs.map PV.int) = (List.range xs.length).map fun v : Nat => PV.tup [.int (v : Int), .int (nth xs v)] := by
  apply List.ext_getElem?
  intro i
  by_cases h : i < xs.length
  · have h1 : i < (enumL 0 (xs.map PV.int)).length := by rw [enumL_len, List.length_map]; exact h
    obtain ⟨x, hx, e⟩ := enumL_at (List.getElem?_eq_getElem h1)
    rw [List.getElem?_eq_getElem h1, e]
    rw [List.getElem?_map, get_nth h] at hx
    cases hx
    simp [h]
  · rw [List.getElem?_eq_none (by rw [enumL_len, List.length_map]; omega), List.getElem?_eq_none (by simp; omega)]
theorem eqvAll_ints : ∀ xs ys : List Int, PyData.eqvAll (xs.map .int) (ys.map .int) = decide (xs = ys)
  | [], [] => rfl
  | [], _ :: _ => rfl
  | _ :: _, [] => rfl
  | x :: xs, y :: ys => by
    simp only [List.map_cons, PyData.eqvAll, PyData.eqv, eqvAll_ints xs ys]
    by_cases h : x = y
    · subst h; simp
    · simp [h]
theorem shaped_tints (xs : List Int) : SeqAt.shaped (.tuple (xs.map .int)) = true := by
  have h1 : ∀ xs : List Int, PyData.canLayAll0 (xs.map .int) = true := by
    intro xs
    induction xs with
    | nil => rfl
    | cons x xs ih => simp [PyData.canLayAll0, PyData.canLay0, ih]
  have h2 : ∀ xs : List Int, PyData.depthAll (xs.map .int) = 0 := PySem.W.depth_ints
  simp [SeqAt.shaped, PyData.canLay0, h1, PyData.depth, h2]
theorem eq_tints {xs ys : List Int} {ph : PHp} {k : Bool → Prop} (h : k (decide (xs = ys))) : eqP (.tup (xs.map .int)) (.tup (ys.map .int)) ph k :=
  eqP_of (.tup (dat_ints _ xs)) (.tup (dat_ints _ ys)) (shaped_tints xs) (shaped_tints ys) (by simp only [PyData.eqv, eqvAll_ints]; exact h)
theorem eq_lints {xs ys : List Int} {ph : PHp} {k : Bool → Prop} (h : k (decide (xs = ys))) : eqP (.lst (xs.map .int)) (.lst (ys.map .int)) ph k :=
  eqP_of (.lst (dat_ints _ xs)) (.lst (dat_ints _ ys)) (shaped_ints xs) (shaped_ints ys) (by simp only [PyData.eqv, eqvAll_ints]; exact h)
/-- rows of small numbers -/
def natsPV (xs : List Nat) : List PV := xs.map fun n : Nat => PV.int (n : Int)
theorem nats_len {xs : List Nat} : (natsPV xs).length = xs.length := by simp [natsPV]
theorem nats_ints {xs : List Nat} : natsPV xs = (xs.map fun n : Nat => (n : Int)).map PV.int := by rw [List.map_map]; rfl
theorem rng0_nats (n : Nat) : rngL 0 (n : Int) 1 = natsPV (List.range n) := rng0_nat n
theorem map_cast_inj {xs ys : List Nat} : (xs.map fun n : Nat => (n : Int)) = (ys.map fun n : Nat => (n : Int)) ↔ xs = ys := by
  constructor
  · intro h
    induction xs generalizing ys with
    | nil => cases ys with
      | nil => rfl
      | cons y ys => simp at h
    | cons x xs ih => cases ys with
      | nil => simp at h
      | cons y ys =>
        simp only [List.map_cons, List.cons.injEq] at h
        rw [ih h.2]; congr 1; exact Int.ofNat.inj h.1
  · rintro rfl; rfl
theorem eq_tnats {xs ys : List Nat} {ph : PHp} {k : Bool → Prop} (h : k (decide (xs = ys))) : eqP (.tup (natsPV xs)) (.tup (natsPV ys)) ph k := by
  rw [nats_ints, nats_ints]
  exact eq_tints (by rw [decide_eq_decide.mpr map_cast_inj]; exact h)
theorem eq_lnats {xs ys : List Nat} {ph : PHp} {k : Bool → Prop} (h : k (decide (xs = ys))) : eqP (.lst (natsPV xs)) (.lst (natsPV ys)) ph k := by
  rw [nats_ints, nats_ints]
  exact eq_lints (by rw [decide_eq_decide.mpr map_cast_inj]; exact h)
theorem old_nats {n : Nat} (xs : List Nat) : OldL n (natsPV xs) := by rw [nats_ints]; exact oldL_ints _
/-! ### decks -/
structure Deck where
  N : Nat
  Gd : Int → PHp → Prop
  len : ∀ {T h}, Gd T h → h.length = N
  old : ∀ {T h}, Gd T h → ∀ (i : Nat) (o : PO), h[i]? = some o → OldO N o
  mono : ∀ {T T' h}, T ≤ T' → Gd T h → Gd T' h
section
variable {D : Deck} {T : Int} {h h' ex zs : PHp} {a b c d a' b' c' d' : PO}
theorem dl0 (g : D.Gd T h) : (h ++ ex).length = D.N + ex.length := by rw [List.length_append, D.len g]
theorem dl1 (g : D.Gd T h) : (h ++ (ex ++ [a])).length = D.N + ex.length + 1 := by simp [D.len g]; omega
theorem dl2 (g : D.Gd T h) : (h ++ (ex ++ [a, b])).length = D.N + ex.length + 2 := by simp [D.len g]; omega
theorem dl3 (g : D.Gd T h) : (h ++ (ex ++ [a, b, c])).length = D.N + ex.length + 3 := by simp [D.len g]; omega
theorem dg0 (g : D.Gd T h) : (h ++ (ex ++ a :: zs))[D.N + ex.length]? = some a := by
  have := pg0 (ph := h ++ ex) (a := a) (zs := zs); rwa [dl0 g, List.append_assoc] at this
theorem dg1 (g : D.Gd T h) : (h ++ (ex ++ a :: b :: zs))[D.N + ex.length + 1]? = some b := by
  have := pg1 (ph := h ++ ex) (a := a) (b := b) (zs := zs); rwa [dl0 g, List.append_assoc] at this
theorem dg2 (g : D.Gd T h) : (h ++ (ex ++ a :: b :: c :: zs))[D.N + ex.length + 2]? = some c := by
  have := pg2 (ph := h ++ ex) (a := a) (b := b) (c := c) (zs := zs); rwa [dl0 g, List.append_assoc] at this
theorem ds0 (g : D.Gd T h) : setO (h ++ (ex ++ a :: zs)) (D.N + ex.length) a' = h ++ (ex ++ a' :: zs) := by
  have := ps0 (ph := h ++ ex) (a := a) (a' := a') (zs := zs); rwa [dl0 g, List.append_assoc, List.append_assoc] at this
theorem ds1 (g : D.Gd T h) : setO (h ++ (ex ++ a :: b :: zs)) (D.N + ex.length + 1) b' = h ++ (ex ++ a :: b' :: zs) := by
  have := ps1 (ph := h ++ ex) (a := a) (b := b) (b' := b') (zs := zs); rwa [dl0 g, List.append_assoc, List.append_assoc] at this
theorem ds2 (g : D.Gd T h) : setO (h ++ (ex ++ a :: b :: c :: zs)) (D.N + ex.length + 2) c' = h ++ (ex ++ a :: b :: c' :: zs) := by
  have := ps2 (ph := h ++ ex) (a := a) (b := b) (c := c) (c' := c') (zs := zs); rwa [dl0 g, List.append_assoc, List.append_assoc] at this
theorem ret_deck {T' : Int} (g : D.Gd T h) (g' : D.Gd T' h') {Q : QV} {v v' : PV} (hf : Frz (D.N + ex.length) (h' ++ (ex ++ zs)) v v') (q : Q v' (h' ++ ex)) : retS true (h ++ ex) Q v (h' ++ (ex ++ zs)) := by
  unfold retS
  rw [if_pos rfl, dl0 g]
  refine ⟨v', hf, fun i o hi ho => ?_, ?_⟩
  · by_cases hi' : i < h'.length
    · rw [List.getElem?_append_left hi'] at ho
      exact .inr (OldO.mono (by omega) (D.old g' i o ho))
    · refine .inl ?_
      have l1 := D.len g
      have l2 := D.len g'
      rw [List.getElem?_append_right (by omega)] at ho ⊢
      rw [List.getElem?_append_left (by omega)] at ho
      rw [l1, ← l2]; exact ho
  · have : (h' ++ (ex ++ zs)).take (D.N + ex.length) = h' ++ ex := by
      rw [← List.append_assoc]
      exact List.take_left' (dl0 g')
    rw [this]; exact q
theorem ret_deckO {T' : Int} (g : D.Gd T h) (g' : D.Gd T' h') {Q : QV} {v : PV} (hf : Old (D.N + ex.length) v) (q : Q v (h' ++ ex)) : retS true (h ++ ex) Q v (h' ++ (ex ++ zs)) := ret_deck g g' (frz_old hf) q
theorem ret_deck0 {T' : Int} (g : D.Gd T h) (g' : D.Gd T' h') {Q : QV} {v : PV} (hf : Old (D.N + ex.length) v) (q : Q v (h' ++ ex)) : retS true (h ++ ex) Q v (h' ++ ex) := by
  have := ret_deckO (zs := []) g g' hf q
  rwa [List.append_nil] at this
end
/-- what a draw keeps -/
def Draws (D : Deck) (pg : Pg) (f : Nat) : Prop := ∀ {k : Nat} {T many : Int} {h ex : PHp} {Q : QV} {X : QX}, D.Gd T h → T ≤ 1000000000000 → 1 ≤ many → many ≤ 1000000000000000000000000000000000000000000000000000000000000 →
  (∀ r h', D.Gd (T + 1) h' → 0 ≤ r → r < many → Q (.int r) (h' ++ ex)) → callK pg (k + 1) f [.ref 1, .int many] (h ++ ex) Q X
end RL

/-! RLDeck: what decks tell. -/
namespace RL
open PySem L2
/-! ### pick, mix -/
/-- _law_pick(jar, some); slots 0:jar 1:some -/
def b_law_pick (f_law_draw : Nat) : List S := [.ret (.idx (.var 1) (.call f_law_draw [.var 0, .bi .len false [.var 1]]))]
def is_law_pick (pg : Pg) (f : Nat) (f_law_draw : Nat) : Prop := Is pg f 2 2 false (b_law_pick f_law_draw)
/-- _law_mixed(jar, some); slots 0:jar 1:some 2:rest 3:found -/
def b_law_mixed (f_law_draw : Nat) : List S := [.par [2, 3] [.bi .list true [.var 1], .lst true []], .while_ (.op2 .ne false (.var 2) (.lst false [])) [.expr (.mt .append (.var 3) [.mt .popAt (.var 2) [.call f_law_draw [.var 0, .bi .len false [.var 2]]]])], .ret (.var 3)]
def is_law_mixed (pg : Pg) (f : Nat) (f_law_draw : Nat) : Prop := Is pg f 2 4 true (b_law_mixed f_law_draw)

section
variable {D : Deck} {pg : Pg} {f dr k : Nat} {T : Int} {h ex : PHp} {Q : QV} {X : QX}
theorem pickL_ok (i : is_law_pick pg f dr) (dw : Draws D pg dr) {vs : List PV} (g : D.Gd T h) (hT : T ≤ 1000000000000) (h1 : 1 ≤ vs.length) (h2 : vs.length ≤ 1000000) (q : ∀ v h', D.Gd (T + 1) h' → v ∈ vs → Q v (h' ++ ex)) : callK pg (k + 2) f [.ref 1, .lst vs] (h ++ ex) Q X := by
  refine i.call rfl ?_
  simp only [b_law_pick, bindT, bindTs, wpB, wpS, wpE, wpEs, wpO, wpC, wpIs, wpMs, ex_some, ex_some1, ex_bl, ex_int, ex_tup, List.getElem?_cons_zero, List.getElem?_cons_succ, List.set_cons_zero, List.set_cons_succ, List.length_cons, List.length_nil, Atom.pv, add_i, sub_i, mul_i, mod_i, fdiv_i, pow_i, lt_i, le_i, gt_i, ge_i, eq_, ne_, in_e, nin_e, is_n, isnot_n, idx_tup, idx_lst, eqP_int, eqP_str, atI_0, atI_1, atI_2, ixN_0, ixN_1, ixN_2, decide_eq_true_eq, Bool.not_true, Bool.not_false, if_true, Bool.false_eq_true, if_false, setSl, len_lst, len_tup, int_i, int_bl, abs_i, min_i, max_i, tup_t, tup_l, newL_F, newL_T, List.map_cons, List.map_nil, List.append_nil, List.nil_append, List.cons_append, Nat.reduceAdd, Nat.reduceSub, List.replicate_succ, List.replicate_zero, retF, retXF, RL.add_ll, RL.add_t, RL.sl_tup, RL.sl_lst, RL.sl_scr, RL.mul_t, RL.str_int, List.zip_nil_left, List.zip_cons_cons]
  refine dw g hT (by omega) (by omega) fun r h' g' r0 r1 => ?_
  obtain ⟨v, e, hv⟩ := atI_get r0 r1
  exact ⟨v, e, (q v h' g' hv)⟩
theorem pickT_ok (i : is_law_pick pg f dr) (dw : Draws D pg dr) {vs : List PV} (g : D.Gd T h) (hT : T ≤ 1000000000000) (h1 : 1 ≤ vs.length) (h2 : vs.length ≤ 1000000) (q : ∀ v h', D.Gd (T + 1) h' → v ∈ vs → Q v (h' ++ ex)) : callK pg (k + 2) f [.ref 1, .tup vs] (h ++ ex) Q X := by
  refine i.call rfl ?_
  simp only [b_law_pick, bindT, bindTs, wpB, wpS, wpE, wpEs, wpO, wpC, wpIs, wpMs, ex_some, ex_some1, ex_bl, ex_int, ex_tup, List.getElem?_cons_zero, List.getElem?_cons_succ, List.set_cons_zero, List.set_cons_succ, List.length_cons, List.length_nil, Atom.pv, add_i, sub_i, mul_i, mod_i, fdiv_i, pow_i, lt_i, le_i, gt_i, ge_i, eq_, ne_, in_e, nin_e, is_n, isnot_n, idx_tup, idx_lst, eqP_int, eqP_str, atI_0, atI_1, atI_2, ixN_0, ixN_1, ixN_2, decide_eq_true_eq, Bool.not_true, Bool.not_false, if_true, Bool.false_eq_true, if_false, setSl, len_lst, len_tup, int_i, int_bl, abs_i, min_i, max_i, tup_t, tup_l, newL_F, newL_T, List.map_cons, List.map_nil, List.append_nil, List.nil_append, List.cons_append, Nat.reduceAdd, Nat.reduceSub, List.replicate_succ, List.replicate_zero, retF, retXF, RL.add_ll, RL.add_t, RL.sl_tup, RL.sl_lst, RL.sl_scr, RL.mul_t, RL.str_int, List.zip_nil_left, List.zip_cons_cons]
  refine dw g hT (by omega) (by omega) fun r h' g' r0 r1 => ?_
  obtain ⟨v, e, hv⟩ := atI_get r0 r1
  exact ⟨v, e, (q v h' g' hv)⟩
theorem pickR_ok (i : is_law_pick pg f dr) (dw : Draws D pg dr) {n : Nat} {vs : List PV} (g : D.Gd T h) (hT : T ≤ 1000000000000) (hn : ex[n]? = some (.lst vs)) (h1 : 1 ≤ vs.length) (h2 : vs.length ≤ 1000000) (q : ∀ v h', D.Gd (T + 1) h' → v ∈ vs → Q v (h' ++ ex)) : callK pg (k + 2) f [.ref 1, .ref (D.N + n)] (h ++ ex) Q X := by
  have at_ : ∀ {T h}, D.Gd T h → (h ++ ex)[D.N + n]? = some (.lst vs) := fun g => by
    rw [List.getElem?_append_right (by rw [D.len g]; omega), D.len g, Nat.add_sub_cancel_left]; exact hn
  refine i.call rfl ?_
  simp only [b_law_pick, bindT, bindTs, wpB, wpS, wpE, wpEs, wpO, wpC, wpIs, wpMs, ex_some, ex_some1, ex_bl, ex_int, ex_tup, List.getElem?_cons_zero, List.getElem?_cons_succ, List.set_cons_zero, List.set_cons_succ, List.length_cons, List.length_nil, Atom.pv, add_i, sub_i, mul_i, mod_i, fdiv_i, pow_i, lt_i, le_i, gt_i, ge_i, eq_, ne_, in_e, nin_e, is_n, isnot_n, idx_tup, idx_lst, eqP_int, eqP_str, atI_0, atI_1, atI_2, ixN_0, ixN_1, ixN_2, decide_eq_true_eq, Bool.not_true, Bool.not_false, if_true, Bool.false_eq_true, if_false, setSl, len_lst, len_tup, int_i, int_bl, abs_i, min_i, max_i, tup_t, tup_l, newL_F, newL_T, List.map_cons, List.map_nil, List.append_nil, List.nil_append, List.cons_append, Nat.reduceAdd, Nat.reduceSub, List.replicate_succ, List.replicate_zero, retF, retXF, RL.add_ll, RL.add_t, RL.sl_tup, RL.sl_lst, RL.sl_scr, RL.mul_t, RL.str_int, List.zip_nil_left, List.zip_cons_cons]
  rw [len_ref (at_ g)]
  refine dw g hT (by omega) (by omega) fun r h' g' r0 r1 => ?_
  rw [idx_ref (at_ g')]
  obtain ⟨v, e, hv⟩ := atI_get r0 r1
  exact ⟨v, e, (q v h' g' hv)⟩
/-- a row of values, its data -/
structure Rw (α : Type) where
  f : α → PV
  d : α → PyData
  dat : ∀ ph a, Dat ph (f a) (d a)
  sh : ∀ xs : List α, SeqAt.shaped (.list (xs.map d)) = true
  old : ∀ n a, Old n (f a)
theorem Rw.all {α : Type} (R : Rw α) (ph : PHp) : ∀ l : List α, DatAll ph (l.map R.f) (l.map R.d)
  | [] => .nil
  | x :: l => .cons (R.dat ph x) (R.all ph l)
theorem Rw.olds {α : Type} (R : Rw α) (n : Nat) : ∀ l : List α, OldL n (l.map R.f)
  | [] => .nil
  | x :: l => .cons (R.old n x) (R.olds n l)
def RwI : Rw Int := ⟨.int, .int, fun _ a => .int a, shaped_ints, fun _ a => .int a⟩
def RwN : Rw Nat := ⟨fun n => .int (n : Int), fun n => .int (n : Int), fun _ a => .int _, fun xs => by
  have := shaped_ints (xs.map fun n : Nat => (n : Int))
  rwa [List.map_map] at this, fun _ a => .int _⟩
theorem mix_ok (i : is_law_mixed pg f dr) (dw : Draws D pg dr) {α : Type} (R : Rw α) {vs : List α} {v : PV} (g : D.Gd T h) (hT : T + vs.length ≤ 1000000000000) (hsv : seqOf (h ++ ex) v = some (vs.map R.f)) (h2 : vs.length ≤ 100000)
    (q : ∀ (ws : List α) h', D.Gd (T + vs.length) h' → ws.Perm vs → Q (.lst (ws.map R.f)) (h' ++ ex)) : callK pg (k + 2) f [.ref 1, v] (h ++ ex) Q X := by
  refine i.call rfl ?_
  have hsz := sz
  have e0 : (0 : Nat) ≤ sizeLine := by omega
  simp only [b_law_mixed, bindT, bindTs, wpB, wpS, wpE, wpEs, wpO, wpC, wpIs, wpMs, ex_some, ex_some1, ex_bl, ex_int, ex_tup, List.getElem?_cons_zero, List.getElem?_cons_succ, List.set_cons_zero, List.set_cons_succ, List.length_cons, List.length_nil, Atom.pv, add_i, sub_i, mul_i, mod_i, fdiv_i, pow_i, lt_i, le_i, gt_i, ge_i, eq_, ne_, in_e, nin_e, is_n, isnot_n, idx_tup, idx_lst, eqP_int, eqP_str, atI_0, atI_1, atI_2, ixN_0, ixN_1, ixN_2, decide_eq_true_eq, Bool.not_true, Bool.not_false, if_true, Bool.false_eq_true, if_false, setSl, len_lst, len_tup, int_i, int_bl, abs_i, min_i, max_i, tup_t, tup_l, newL_F, newL_T, List.map_cons, List.map_nil, List.append_nil, List.nil_append, List.cons_append, Nat.reduceAdd, Nat.reduceSub, List.replicate_succ, List.replicate_zero, retF, retXF, RL.add_ll, RL.add_t, RL.sl_tup, RL.sl_lst, RL.sl_scr, RL.mul_t, RL.str_int, List.zip_nil_left, List.zip_cons_cons]
  refine list_of hsv ?_
  simp only [newL_T]
  refine ⟨by rw [List.length_map]; omega, e0, ?_⟩
  rw [List.append_assoc, List.append_assoc, dl0 g, dl1 g]
  refine whl_rule (fun env ph => ∃ (l f' : List α) (h1 : PHp), D.Gd (T + f'.length) h1 ∧ env = [some (.ref 1), some v, some (.ref (D.N + ex.length)), some (.ref (D.N + ex.length + 1))] ∧ ph = h1 ++ (ex ++ [.lst (l.map R.f), .lst (f'.map R.f)]) ∧ (f' ++ l).Perm vs)
    (fun _ ph => match ph[D.N + ex.length]? with | some (.lst l) => l.length | _ => 0) ?_ ⟨vs, [], h, by simpa using g, rfl, by simp, by simp⟩
  rintro env ph ⟨l, f', h1, g1, rfl, rfl, hp⟩ N hN
  have hl := hp.length_eq
  rw [List.length_append] at hl
  simp only [bindT, bindTs, wpB, wpS, wpE, wpEs, wpO, wpC, wpIs, wpMs, ex_some, ex_some1, ex_bl, ex_int, ex_tup, List.getElem?_cons_zero, List.getElem?_cons_succ, List.set_cons_zero, List.set_cons_succ, List.length_cons, List.length_nil, Atom.pv, add_i, sub_i, mul_i, mod_i, fdiv_i, pow_i, lt_i, le_i, gt_i, ge_i, eq_, ne_, in_e, nin_e, is_n, isnot_n, idx_tup, idx_lst, eqP_int, eqP_str, atI_0, atI_1, atI_2, ixN_0, ixN_1, ixN_2, decide_eq_true_eq, Bool.not_true, Bool.not_false, if_true, Bool.false_eq_true, if_false, setSl, len_lst, len_tup, int_i, int_bl, abs_i, min_i, max_i, tup_t, tup_l, newL_F, newL_T, List.map_cons, List.map_nil, List.append_nil, List.nil_append, List.cons_append, Nat.reduceAdd, Nat.reduceSub, List.replicate_succ, List.replicate_zero, retF, retXF, RL.add_ll, RL.add_t, RL.sl_tup, RL.sl_lst, RL.sl_scr, RL.mul_t, RL.str_int, List.zip_nil_left, List.zip_cons_cons]
  refine ⟨e0, eqP_of (.ref (dg0 g1) (R.all _ l)) (.lst .nil) (R.sh l) rfl ?_⟩
  rw [eqvL_nil]
  by_cases hx : l = []
  · subst hx
    rw [decide_eq_true rfl]
    simp only [bindT, bindTs, wpB, wpS, wpE, wpEs, wpO, wpC, wpIs, wpMs, ex_some, ex_some1, ex_bl, ex_int, ex_tup, List.getElem?_cons_zero, List.getElem?_cons_succ, List.set_cons_zero, List.set_cons_succ, List.length_cons, List.length_nil, Atom.pv, add_i, sub_i, mul_i, mod_i, fdiv_i, pow_i, lt_i, le_i, gt_i, ge_i, eq_, ne_, in_e, nin_e, is_n, isnot_n, idx_tup, idx_lst, eqP_int, eqP_str, atI_0, atI_1, atI_2, ixN_0, ixN_1, ixN_2, decide_eq_true_eq, Bool.not_true, Bool.not_false, if_true, Bool.false_eq_true, if_false, setSl, len_lst, len_tup, int_i, int_bl, abs_i, min_i, max_i, tup_t, tup_l, newL_F, newL_T, List.map_cons, List.map_nil, List.append_nil, List.nil_append, List.cons_append, Nat.reduceAdd, Nat.reduceSub, List.replicate_succ, List.replicate_zero, retF, retXF, RL.add_ll, RL.add_t, RL.sl_tup, RL.sl_lst, RL.sl_scr, RL.mul_t, RL.str_int, List.zip_nil_left, List.zip_cons_cons]
    have hfl : f'.length = vs.length := by simpa using hl
    refine ret_deck (v' := .lst (f'.map R.f)) g g1 (.ref (by omega) (dg1 g1) (frzs_old (R.olds _ f'))) (q f' h1 (by rw [← hfl]; exact g1) (by simpa using hp))
  · rw [decide_eq_false hx]
    simp only [bindT, bindTs, wpB, wpS, wpE, wpEs, wpO, wpC, wpIs, wpMs, ex_some, ex_some1, ex_bl, ex_int, ex_tup, List.getElem?_cons_zero, List.getElem?_cons_succ, List.set_cons_zero, List.set_cons_succ, List.length_cons, List.length_nil, Atom.pv, add_i, sub_i, mul_i, mod_i, fdiv_i, pow_i, lt_i, le_i, gt_i, ge_i, eq_, ne_, in_e, nin_e, is_n, isnot_n, idx_tup, idx_lst, eqP_int, eqP_str, atI_0, atI_1, atI_2, ixN_0, ixN_1, ixN_2, decide_eq_true_eq, Bool.not_true, Bool.not_false, if_true, Bool.false_eq_true, if_false, setSl, len_lst, len_tup, int_i, int_bl, abs_i, min_i, max_i, tup_t, tup_l, newL_F, newL_T, List.map_cons, List.map_nil, List.append_nil, List.nil_append, List.cons_append, Nat.reduceAdd, Nat.reduceSub, List.replicate_succ, List.replicate_zero, retF, retXF, RL.add_ll, RL.add_t, RL.sl_tup, RL.sl_lst, RL.sl_scr, RL.mul_t, RL.str_int, List.zip_nil_left, List.zip_cons_cons]
    refine ⟨by simp only [lstOf, dg1 g1]; rfl, by simp only [lstOf, dg0 g1]; rfl, ?_⟩
    rw [len_ref (dg0 g1), List.length_map]
    have hpos : 0 < l.length := List.length_pos_iff.mpr hx
    refine dw g1 (by omega) (by omega) (by omega) fun r h2 g2 r0 r1 => ?_
    have hr := toNat_lt r0 r1
    refine ⟨l.map R.f, R.f l[r.toNat], dg0 g2, r0, by omega, by rw [List.getElem?_map, List.getElem?_eq_getElem hr]; rfl, ?_⟩
    rw [ds0 g2]
    refine ⟨f'.map R.f, dg1 g2, by rw [List.length_map]; omega, ?_⟩
    rw [ds1 g2]
    refine hN _ _ ⟨l.eraseIdx r.toNat, f' ++ [l[r.toNat]], h2, by rw [List.length_append]; simpa [Int.add_assoc] using g2, rfl, ?_, ?_⟩ ?_
    · congr 3
      · simp [List.eraseIdx_eq_take_drop_succ, List.map_take, List.map_drop]
      · simp
    · rw [List.append_assoc]
      have e : l = l.take r.toNat ++ l[r.toNat] :: l.drop (r.toNat + 1) := by rw [← List.drop_eq_getElem_cons hr, List.take_append_drop]
      refine (List.Perm.append_left f' ?_).trans hp
      rw [List.eraseIdx_eq_take_drop_succ]
      exact (List.perm_middle (a := l[r.toNat]) (l₁ := l.take r.toNat) (l₂ := l.drop (r.toNat + 1))).symm.trans (by rw [← e])
    · simp only [dg0 g2, dg0 g1]
      rw [List.length_eraseIdx_of_lt (by rw [List.length_map]; exact hr), List.length_map]; omega
end
end RL

/-! RLTown: towns, as data; what the package tells of them. -/
namespace RL
open PySem L2
/-! ### tables -/
def tab (n : Nat) (f : Nat → Int) : List Int := (List.range n).map f
theorem tab_len {n : Nat} {f : Nat → Int} : (tab n f).length = n := by simp [tab]
theorem nth_tab {n a : Nat} {f : Nat → Int} (h : a < n) : nth (tab n f) a = f a := by simp [nth, tab, h]
theorem tab_congr {n : Nat} {f g : Nat → Int} (h : ∀ v, v < n → f v = g v) : tab n f = tab n g := List.map_congr_left fun v hv => h v (List.mem_range.mp hv)
theorem tab_nth (p : List Int) : tab p.length (nth p) = p := nth_ext tab_len fun a h => nth_tab (by rwa [tab_len] at h)
theorem tab_of {p : List Int} {n : Nat} (h : p.length = n) : p = tab n (nth p) := by subst h; exact (tab_nth p).symm
theorem tab_set {n a : Nat} {f : Nat → Int} {x : Int} (h : a < n) : (tab n f).set a x = tab n (fun v => if v = a then x else f v) :=
  nth_ext (by simp [tab]) fun b hb => by
    rw [List.length_set, tab_len] at hb
    rw [nth_set (by rw [tab_len]; exact h), nth_tab hb, nth_tab hb]
theorem tab_rep {n : Nat} {x : Int} : (List.replicate n [PV.int x]).flatten = (tab n fun _ => x).map .int := by
  have e : ∀ n : Nat, (List.replicate n [PV.int x]).flatten = List.replicate n (PV.int x) := fun n => by
    induction n with
    | zero => rfl
    | succ n ih => rw [List.replicate_succ, List.flatten_cons, ih, List.replicate_succ]; rfl
  rw [e]
  refine (List.eq_replicate_iff.mpr ⟨by simp [tab], fun b hb => ?_⟩).symm
  obtain ⟨y, hy, rfl⟩ := List.mem_map.mp hb
  obtain ⟨_, _, rfl⟩ := List.mem_map.mp hy
  rfl
theorem atI_tab {n a : Nat} {f : Nat → Int} (h : a < n) : atI ((tab n f).map PV.int) (a : Int) = some (.int (f a)) := by
  rw [atI_nth (by rw [tab_len]; exact h), nth_tab h]
theorem tab_inj {n : Nat} {f g : Nat → Int} : tab n f = tab n g ↔ ∀ v, v < n → f v = g v := ⟨fun h v hv => by rw [← nth_tab (f := f) hv, h, nth_tab hv], tab_congr⟩
/-! ### towns -/
abbrev Rd2 := Nat × Nat
def roadPV (r : Rd2) : PV := .tup [.int r.1, .int r.2]
def townPV (n : Nat) (rs : List Rd2) : PV := .tup [.int n, .tup (rs.map roadPV)]
def pursePV (p : List Int) : PV := .tup (p.map .int)
def In2 (n : Nat) (rs : List Rd2) : Prop := ∀ r ∈ rs, r.1 < n ∧ r.2 < n
theorem In2.take {n i : Nat} {rs : List Rd2} (h : In2 n rs) : In2 n (rs.take i) := fun r hr => h r (List.mem_of_mem_take hr)
theorem old_road {n : Nat} (r : Rd2) : Old n (roadPV r) := .tup (.cons (.int _) (.cons (.int _) .nil))
theorem old_roads {n : Nat} (rs : List Rd2) : OldL n (rs.map roadPV) := oldL_all fun x hx => by
  obtain ⟨r, _, rfl⟩ := List.mem_map.mp hx
  exact old_road r
theorem old_town {n m : Nat} (rs : List Rd2) : Old n (townPV m rs) := .tup (.cons (.int _) (.cons (.tup (old_roads rs)) .nil))
theorem old_purse {n : Nat} (p : List Int) : Old n (pursePV p) := .tup (oldL_ints p)
theorem shaped_roads (rs : List Rd2) : SeqAt.shaped (.list (rs.map fun r => PyData.tuple [.int r.1, .int r.2])) = true := by
  have h1 : ∀ xs : List Rd2, PyData.canLayAll0 (xs.map fun r => PyData.tuple [.int r.1, .int r.2]) = true := by
    intro xs; induction xs with
    | nil => rfl
    | cons x xs ih => simp [PyData.canLayAll0, PyData.canLay0, ih]
  have h2 : ∀ xs : List Rd2, PyData.depthAll (xs.map fun r => PyData.tuple [.int r.1, .int r.2]) ≤ 1 := by
    intro xs; induction xs with
    | nil => simp [PyData.depthAll]
    | cons x xs ih => simp [PyData.depthAll, PyData.depth, ih]
  have := h2 rs
  simp [SeqAt.shaped, PyData.canLay0, h1, PyData.depth]
  omega
def RwR : Rw Rd2 := ⟨roadPV, fun r => .tuple [.int r.1, .int r.2], fun _ _ => .tup (.cons (.int _) (.cons (.int _) .nil)), shaped_roads, fun _ r => old_road r⟩
/-- sorted -/
def leR (a b : Rd2) : Bool := decide (a.1 < b.1 ∨ (a.1 = b.1 ∧ a.2 ≤ b.2))
def sortR (rs : List Rd2) : List Rd2 := rs.mergeSort leR
theorem leR_iff {a b : Rd2} : leR a b = true ↔ a.1 < b.1 ∨ (a.1 = b.1 ∧ a.2 ≤ b.2) := decide_eq_true_iff
theorem sortR_perm (rs : List Rd2) : (sortR rs).Perm rs := List.mergeSort_perm ..
theorem leR_trans (a b c : Rd2) (h1 : leR a b = true) (h2 : leR b c = true) : leR a c = true := by rw [leR_iff] at *; omega
theorem leR_total (a b : Rd2) : (leR a b || leR b a) = true := by rw [Bool.or_eq_true, leR_iff, leR_iff]; omega
theorem leR_anti {a b : Rd2} (h1 : leR a b = true) (h2 : leR b a = true) : a = b := by
  rw [leR_iff] at h1 h2
  exact Prod.ext (by omega) (by omega)
theorem sortR_sorted (rs : List Rd2) : (sortR rs).Pairwise fun a b => leR a b = true := List.pairwise_mergeSort leR_trans leR_total rs
theorem sorted_unique {rs ss : List Rd2} (h1 : rs.Pairwise fun a b => leR a b = true) (h2 : ss.Pairwise fun a b => leR a b = true) (hp : rs.Perm ss) : rs = ss :=
  hp.eq_of_pairwise (fun a b _ _ h1 h2 => leR_anti h1 h2) h1 h2
theorem sortR_of {rs : List Rd2} (h1 : rs.Pairwise fun a b => leR a b = true) : sortR rs = rs := sorted_unique (sortR_sorted rs) h1 (sortR_perm rs)
theorem sortR_congr {rs ss : List Rd2} (hp : rs.Perm ss) : sortR rs = sortR ss := sorted_unique (sortR_sorted rs) (sortR_sorted ss) (((sortR_perm rs).trans hp).trans (sortR_perm ss).symm)
theorem mem_sortR {rs : List Rd2} {r : Rd2} : r ∈ sortR rs ↔ r ∈ rs := (sortR_perm rs).mem_iff
theorem len_sortR {rs : List Rd2} : (sortR rs).length = rs.length := (sortR_perm rs).length_eq
theorem In2.sort {n : Nat} {rs : List Rd2} (h : In2 n rs) : In2 n (sortR rs) := fun r hr => h r (mem_sortR.mp hr)
theorem road_rows (rs : List Rd2) : rs.map roadPV = (rs.map fun r => [(r.1 : Int), (r.2 : Int)]).map fun r => .tup (r.map .int) := by
  rw [List.map_map]; rfl
theorem lexLt_road {a b : Rd2} : (!decide (([(b.1 : Int), (b.2 : Int)] : List Int) < [(a.1 : Int), (a.2 : Int)])) = leR a b := by
  have this : (([(b.1 : Int), (b.2 : Int)] : List Int) < [(a.1 : Int), (a.2 : Int)]) ↔ ¬ (a.1 < b.1 ∨ (a.1 = b.1 ∧ a.2 ≤ b.2)) := by
    have e : ¬ (([] : List Int) < []) := by simp
    simp only [List.cons_lt_cons_iff, e, and_false, or_false]
    omega
  rw [Bool.eq_iff_iff, leR_iff, Bool.not_eq_true', decide_eq_false_iff_not, this, Classical.not_not]
theorem sorted_roads {v : PV} {rs : List Rd2} {ph : PHp} {own : Bool} {Q : QV} (h : lstOf ph v = some (rs.map roadPV)) (q : newL own ((sortR rs).map roadPV) ph Q) : biS .sorted own [v] ph Q := by
  refine ⟨_, h, .inr ⟨rs.map fun r => [(r.1 : Int), (r.2 : Int)], ?_, fun r hr => ?_, ?_⟩⟩
  · rw [road_rows]; exact rows_map _
  · obtain ⟨x, _, rfl⟩ := List.mem_map.mp hr; simp
  · have e : ((rs.map fun r => [(r.1 : Int), (r.2 : Int)]).mergeSort fun a b => !decide (b < a)) = (sortR rs).map fun r => [(r.1 : Int), (r.2 : Int)] :=
      (List.map_mergeSort (fun a _ b _ => lexLt_road.symm)).symm
    rw [e, ← road_rows]; exact q
theorem idx_town0 {n : Nat} {rs : List Rd2} {ph : PHp} {Q : QV} : idxS (townPV n rs) (.int 0) ph Q = Q (.int n) ph := propext ⟨fun ⟨v, e, q⟩ => by rw [atI_0] at e; cases e; exact q, fun q => ⟨_, atI_0, q⟩⟩
theorem idx_town1 {n : Nat} {rs : List Rd2} {ph : PHp} {Q : QV} : idxS (townPV n rs) (.int 1) ph Q = Q (.tup (rs.map roadPV)) ph := propext ⟨fun ⟨v, e, q⟩ => by rw [atI_1] at e; cases e; exact q, fun q => ⟨_, atI_1, q⟩⟩
/-! ### joined towns -/
structure Tw (n : Nat) (rs : List Rd2) : Prop where
  pos : 1 ≤ n
  lt : ∀ r ∈ rs, r.1 < r.2 ∧ r.2 < n
  sorted : rs.Pairwise fun a b => leR a b = true
  joined : ∀ S : Nat → Prop, S 0 → (∀ r ∈ rs, (S r.1 ↔ S r.2)) → ∀ v, v < n → S v
  len : n ≤ rs.length + 1
theorem Tw.in2 {n : Nat} {rs : List Rd2} (t : Tw n rs) : In2 n rs := fun r hr => by
  have := t.lt r hr
  exact ⟨by omega, this.2⟩
theorem Tw.ne {n : Nat} {rs : List Rd2} (t : Tw n rs) : ∀ r ∈ rs, r.1 ≠ r.2 := fun r hr => by
  have := t.lt r hr
  omega
def ordR (r : Rd2) : Rd2 := (min r.1 r.2, max r.1 r.2)
theorem ordR_closed {S : Nat → Prop} {r : Rd2} (h : S (ordR r).1 ↔ S (ordR r).2) : S r.1 ↔ S r.2 := by
  unfold ordR at h
  simp only at h
  by_cases hle : r.1 ≤ r.2
  · rwa [Nat.min_eq_left hle, Nat.max_eq_right hle] at h
  · rw [Nat.min_eq_right (by omega), Nat.max_eq_left (by omega)] at h
    exact h.symm
theorem Tw.of {n w : Nat} {fs : List Rd2} (hn : 1 ≤ n) (hlen : n ≤ fs.length + 1) (hne : ∀ r ∈ fs, r.1 ≠ r.2) (hlt : In2 n fs) (hj : ∀ S : Nat → Prop, S w → (∀ r ∈ fs, (S r.1 ↔ S r.2)) → ∀ v, v < n → S v) : Tw n (sortR (fs.map ordR)) := by
  refine ⟨hn, fun r hr => ?_, sortR_sorted _, fun S h0 hc v hv => ?_, by rw [len_sortR, List.length_map]; exact hlen⟩
  · obtain ⟨x, hx, rfl⟩ := List.mem_map.mp (mem_sortR.mp hr)
    have := hne x hx
    have := hlt x hx
    unfold ordR
    simp only
    omega
  · have hc' : ∀ r ∈ fs, (S r.1 ↔ S r.2) := fun r hr => ordR_closed (hc _ (mem_sortR.mpr (List.mem_map_of_mem hr)))
    have all := hj (fun v => S v ↔ S w) Iff.rfl (fun r hr => by rw [hc' r hr])
    exact (all v hv).mpr ((all 0 (by omega)).mp h0)
/-! ### degrees -/
def deg (rs : List Rd2) (v : Nat) : Nat := rs.countP (fun r => r.1 == v) + rs.countP (fun r => r.2 == v)
theorem deg_nil {v : Nat} : deg [] v = 0 := rfl
theorem deg_snoc {rs : List Rd2} {a b v : Nat} : deg (rs ++ [(a, b)]) v = deg rs v + ((if v = a then 1 else 0) + (if v = b then 1 else 0)) := by
  have e1 : (a == v) = decide (v = a) := by rw [Bool.eq_iff_iff, beq_iff_eq, decide_eq_true_iff]; exact eq_comm
  have e2 : (b == v) = decide (v = b) := by rw [Bool.eq_iff_iff, beq_iff_eq, decide_eq_true_iff]; exact eq_comm
  simp only [deg, List.countP_append, List.countP_cons, List.countP_nil, e1, e2, decide_eq_true_iff]
  omega
theorem deg_le {rs : List Rd2} {v : Nat} : deg rs v ≤ 2 * rs.length := by
  have h1 := List.countP_le_length (p := fun r : Rd2 => r.1 == v) (l := rs)
  have h2 := List.countP_le_length (p := fun r : Rd2 => r.2 == v) (l := rs)
  unfold deg; omega
theorem deg_perm {rs ss : List Rd2} (h : rs.Perm ss) (v : Nat) : deg rs v = deg ss v := by unfold deg; rw [h.countP_eq, h.countP_eq]
def degs (n : Nat) (rs : List Rd2) : List Int := tab n fun v => (deg rs v : Int)
theorem degs_step {n a b : Nat} {rs : List Rd2} (ha : a < n) (hb : b < n) : (tab n fun v => if v = b then (if b = a then (deg rs a : Int) + 1 else deg rs b) + 1 else if v = a then (deg rs a : Int) + 1 else deg rs v) = degs n (rs ++ [(a, b)]) := by
  refine tab_congr fun v hv => ?_
  rw [deg_snoc]
  by_cases h1 : v = b
  · subst h1
    by_cases h2 : v = a
    · subst h2; simp; omega
    · simp [h2]
  · by_cases h2 : v = a
    · subst h2; simp [h1]
    · simp [h1, h2]
theorem take_succ' {α : Type} {rs : List α} {i : Nat} {r : α} (h : rs[i]? = some r) : rs.take (i + 1) = rs.take i ++ [r] := by rw [List.take_add_one, h]; rfl
theorem road_at {rs : List Rd2} {i : Nat} {v : PV} (h : (rs.map roadPV)[i]? = some v) : ∃ a b, rs[i]? = some (a, b) ∧ v = .tup [.int (a : Nat), .int (b : Nat)] := by
  rw [List.getElem?_map, Option.map_eq_some_iff] at h
  obtain ⟨⟨a, b⟩, e, rfl⟩ := h
  exact ⟨a, b, e, rfl⟩
/-- roads_of(town); slots 0:town 1:found 2:one 3:other -/
def b_roads_of : List S := [.set 1 (.op2 .mul true (.lst false [.con (.int 0)]) (.idx (.var 0) (.con (.int 0)))), .for_ (.tup [(.name 2), (.name 3)]) .seq [.idx (.var 0) (.con (.int 1))] [.seti (.var 1) (.var 2) (.op2 .add true (.idx (.var 1) (.var 2)) (.con (.int 1))), .seti (.var 1) (.var 3) (.op2 .add true (.idx (.var 1) (.var 3)) (.con (.int 1)))], .ret (.bi .tuple false [.var 1])]
def is_roads_of (pg : Pg) (f : Nat) : Prop := Is pg f 1 4 true (b_roads_of)
/-- other_end(road, house); slots 0:road 1:house -/
def b_other_end : List S := [.ret (.ife (.op2 .eq false (.idx (.var 0) (.con (.int 0))) (.var 1)) (.idx (.var 0) (.con (.int 1))) (.idx (.var 0) (.con (.int 0))))]
def is_other_end (pg : Pg) (f : Nat) : Prop := Is pg f 2 2 false (b_other_end)
/-- neighbours(town, house); slots 0:town 1:house 2:road -/
def b_neighbours (f_other_end : Nat) : List S := [.ret (.comp false (.call f_other_end [.var 2, .var 1]) (.name 2) .seq [.idx (.var 0) (.con (.int 1))] (some (.op2 .in_ false (.var 1) (.var 2))) [2])]
def is_neighbours (pg : Pg) (f : Nat) (f_other_end : Nat) : Prop := Is pg f 2 3 false (b_neighbours f_other_end)
/-- is_number(value); slots 0:value -/
def b_is_number : List S := [.ret (.andE (.isin (.var 0) .int) (.notE (.isin (.var 0) .bool)))]
def is_is_number (pg : Pg) (f : Nat) : Prop := Is pg f 1 1 false (b_is_number)
/-- is_within(value, least, most); slots 0:value 1:least 2:most -/
def b_is_within (f_is_number : Nat) : List S := [.ret (.andE (.call f_is_number [.var 0]) (.chain .le .le (.var 1) (.var 0) (.var 2)))]
def is_is_within (pg : Pg) (f : Nat) (f_is_number : Nat) : Prop := Is pg f 3 3 false (b_is_within f_is_number)

/-- behind(town, purse, script); slots 0:town 1:purse 2:script 3:found 4:one 5:other 6:many -/
def b_behind : List S := [.set 3 (.bi .list true [.var 1]), .for_ (.tup [(.name 4), (.name 5)]) .seq [.idx (.var 0) (.con (.int 1))] [.set 6 (.op2 .sub false (.idx (.var 2) (.var 4)) (.idx (.var 2) (.var 5))), .seti (.var 3) (.var 4) (.op2 .sub true (.idx (.var 3) (.var 4)) (.var 6)), .seti (.var 3) (.var 5) (.op2 .add true (.idx (.var 3) (.var 5)) (.var 6))], .ret (.bi .tuple false [.var 3])]
def is_behind (pg : Pg) (f : Nat) : Prop := Is pg f 3 7 true (b_behind)

section
variable {pg : Pg} {f k : Nat} {ph : PHp} {Q : QV} {X : QX}
theorem roads_of_ok (i : is_roads_of pg f) {n : Nat} {rs : List Rd2} (hn : n ≤ 1000) (hr : In2 n rs) (q : Q (pursePV (degs n rs)) ph) : callK pg (k + 1) f [townPV n rs] ph Q X := by
  refine i.call rfl ?_
  have hsz := sz
  simp only [b_roads_of, townPV, bindT, bindTs, wpB, wpS, wpE, wpEs, wpO, wpC, wpIs, wpMs, ex_some, ex_some1, ex_bl, ex_int, ex_tup, List.getElem?_cons_zero, List.getElem?_cons_succ, List.set_cons_zero, List.set_cons_succ, List.length_cons, List.length_nil, Atom.pv, add_i, sub_i, mul_i, mod_i, fdiv_i, pow_i, lt_i, le_i, gt_i, ge_i, eq_, ne_, in_e, nin_e, is_n, isnot_n, idx_tup, idx_lst, eqP_int, eqP_str, atI_0, atI_1, atI_2, ixN_0, ixN_1, ixN_2, decide_eq_true_eq, Bool.not_true, Bool.not_false, if_true, Bool.false_eq_true, if_false, setSl, len_lst, len_tup, int_i, int_bl, abs_i, min_i, max_i, tup_t, tup_l, newL_F, newL_T, List.map_cons, List.map_nil, List.append_nil, List.nil_append, List.cons_append, Nat.reduceAdd, Nat.reduceSub, List.replicate_succ, List.replicate_zero, retF, retXF, RL.add_ll, RL.add_t, RL.sl_tup, RL.sl_lst, RL.sl_scr, RL.mul_t, RL.str_int, List.zip_nil_left, List.zip_cons_cons]
  (repeat (refine And.intro (by first | assumption | omega | (decide; done) | (exact mulOk_small (by omega) (by omega) (by omega) (by omega)) | (exact fdivOk (by omega) (by omega)) | (simp; done) | (simp; omega)) ?_))
  refine mul_l rfl (by omega) (by decide) (newL_t (by simp; omega) ⟨by first | assumption | omega | (decide; done) | (exact mulOk_small (by omega) (by omega) (by omega) (by omega)) | (exact fdivOk (by omega) (by omega)) | (simp; done) | (simp; omega), _, rfl, ?_⟩)
  rw [show ((n : Int)).toNat = n from Int.toNat_natCast n, tab_rep]
  refine forL_rule (fun i env ph' => ∃ a b, env = [some (.tup [.int n, .tup (rs.map roadPV)]), some (.ref ph.length), a, b] ∧ ph' = ph ++ [.lst ((degs n (rs.take i)).map .int)]) ?_ ?_ ⟨none, none, rfl, rfl⟩
  · rintro i v env ph' hv ⟨a, b, rfl, rfl⟩
    obtain ⟨a, b, hr', rfl⟩ := road_at hv
    have hab := hr _ (List.mem_of_getElem? hr')
    refine ⟨rfl, fun N hN => ⟨_, rfl, rfl, by simp, by simp, ?_⟩⟩
    simp only [bindT, bindTs, wpB, wpS, wpE, wpEs, wpO, wpC, wpIs, wpMs, ex_some, ex_some1, ex_bl, ex_int, ex_tup, List.getElem?_cons_zero, List.getElem?_cons_succ, List.set_cons_zero, List.set_cons_succ, List.length_cons, List.length_nil, Atom.pv, add_i, sub_i, mul_i, mod_i, fdiv_i, pow_i, lt_i, le_i, gt_i, ge_i, eq_, ne_, in_e, nin_e, is_n, isnot_n, idx_tup, idx_lst, eqP_int, eqP_str, atI_0, atI_1, atI_2, ixN_0, ixN_1, ixN_2, decide_eq_true_eq, Bool.not_true, Bool.not_false, if_true, Bool.false_eq_true, if_false, setSl, len_lst, len_tup, int_i, int_bl, abs_i, min_i, max_i, tup_t, tup_l, newL_F, newL_T, List.map_cons, List.map_nil, List.append_nil, List.nil_append, List.cons_append, Nat.reduceAdd, Nat.reduceSub, List.replicate_succ, List.replicate_zero, retF, retXF, RL.add_ll, RL.add_t, RL.sl_tup, RL.sl_lst, RL.sl_scr, RL.mul_t, RL.str_int, List.zip_nil_left, List.zip_cons_cons]
    rw [idx_ref pg0]
    refine ⟨_, atI_tab hab.1, ?_⟩
    simp only [bindT, bindTs, wpB, wpS, wpE, wpEs, wpO, wpC, wpIs, wpMs, ex_some, ex_some1, ex_bl, ex_int, ex_tup, List.getElem?_cons_zero, List.getElem?_cons_succ, List.set_cons_zero, List.set_cons_succ, List.length_cons, List.length_nil, Atom.pv, add_i, sub_i, mul_i, mod_i, fdiv_i, pow_i, lt_i, le_i, gt_i, ge_i, eq_, ne_, in_e, nin_e, is_n, isnot_n, idx_tup, idx_lst, eqP_int, eqP_str, atI_0, atI_1, atI_2, ixN_0, ixN_1, ixN_2, decide_eq_true_eq, Bool.not_true, Bool.not_false, if_true, Bool.false_eq_true, if_false, setSl, len_lst, len_tup, int_i, int_bl, abs_i, min_i, max_i, tup_t, tup_l, newL_F, newL_T, List.map_cons, List.map_nil, List.append_nil, List.nil_append, List.cons_append, Nat.reduceAdd, Nat.reduceSub, List.replicate_succ, List.replicate_zero, retF, retXF, RL.add_ll, RL.add_t, RL.sl_tup, RL.sl_lst, RL.sl_scr, RL.mul_t, RL.str_int, List.zip_nil_left, List.zip_cons_cons]
    rw [seti_ref pg0]
    refine ⟨a, ixN_nat (by rw [List.length_map, degs, tab_len]; exact hab.1), ?_⟩
    rw [ps0, set_int, degs, tab_set hab.1, idx_ref pg0]
    refine ⟨_, atI_tab hab.2, ?_⟩
    simp only [bindT, bindTs, wpB, wpS, wpE, wpEs, wpO, wpC, wpIs, wpMs, ex_some, ex_some1, ex_bl, ex_int, ex_tup, List.getElem?_cons_zero, List.getElem?_cons_succ, List.set_cons_zero, List.set_cons_succ, List.length_cons, List.length_nil, Atom.pv, add_i, sub_i, mul_i, mod_i, fdiv_i, pow_i, lt_i, le_i, gt_i, ge_i, eq_, ne_, in_e, nin_e, is_n, isnot_n, idx_tup, idx_lst, eqP_int, eqP_str, atI_0, atI_1, atI_2, ixN_0, ixN_1, ixN_2, decide_eq_true_eq, Bool.not_true, Bool.not_false, if_true, Bool.false_eq_true, if_false, setSl, len_lst, len_tup, int_i, int_bl, abs_i, min_i, max_i, tup_t, tup_l, newL_F, newL_T, List.map_cons, List.map_nil, List.append_nil, List.nil_append, List.cons_append, Nat.reduceAdd, Nat.reduceSub, List.replicate_succ, List.replicate_zero, retF, retXF, RL.add_ll, RL.add_t, RL.sl_tup, RL.sl_lst, RL.sl_scr, RL.mul_t, RL.str_int, List.zip_nil_left, List.zip_cons_cons]
    rw [seti_ref pg0]
    refine ⟨b, ixN_nat (by rw [List.length_map, tab_len]; exact hab.2), ?_⟩
    rw [ps0, set_int, tab_set hab.2]
    refine hN _ _ ⟨_, _, rfl, ?_⟩
    rw [take_succ' hr', ← degs_step hab.1 hab.2]
  · rintro env ph' ⟨a, b, rfl, rfl⟩
    refine ⟨rfl, ?_⟩
    simp only [bindT, bindTs, wpB, wpS, wpE, wpEs, wpO, wpC, wpIs, wpMs, ex_some, ex_some1, ex_bl, ex_int, ex_tup, List.getElem?_cons_zero, List.getElem?_cons_succ, List.set_cons_zero, List.set_cons_succ, List.length_cons, List.length_nil, Atom.pv, add_i, sub_i, mul_i, mod_i, fdiv_i, pow_i, lt_i, le_i, gt_i, ge_i, eq_, ne_, in_e, nin_e, is_n, isnot_n, idx_tup, idx_lst, eqP_int, eqP_str, atI_0, atI_1, atI_2, ixN_0, ixN_1, ixN_2, decide_eq_true_eq, Bool.not_true, Bool.not_false, if_true, Bool.false_eq_true, if_false, setSl, len_lst, len_tup, int_i, int_bl, abs_i, min_i, max_i, tup_t, tup_l, newL_F, newL_T, List.map_cons, List.map_nil, List.append_nil, List.nil_append, List.cons_append, Nat.reduceAdd, Nat.reduceSub, List.replicate_succ, List.replicate_zero, retF, retXF, RL.add_ll, RL.add_t, RL.sl_tup, RL.sl_lst, RL.sl_scr, RL.mul_t, RL.str_int, List.zip_nil_left, List.zip_cons_cons]
    rw [List.length_map, List.take_length, tup_r pg0]
    exact ret_newO (old_purse _) q
/-! ### numbers, bounds -/
def okI (lo hi : Int) : PV → Bool
  | .int i => decide (lo ≤ i ∧ i ≤ hi)
  | _ => false
theorem isInt_ref {ph : PHp} {n : Nat} : tyIs .int ph (.ref n) = false := by
  simp only [tyIs]
  cases ph[n]? with
  | none => rfl
  | some o => cases o <;> rfl
theorem is_number_ok (i : is_is_number pg f) {v : PV} (q : ∀ b, (b = true ↔ ∃ i, v = .int i) → Q (.bl b) ph) : callK pg (k + 1) f [v] ph Q X := by
  refine i.call rfl ?_
  simp only [b_is_number, bindT, bindTs, wpB, wpS, wpE, wpEs, wpO, wpC, wpIs, wpMs, ex_some, ex_some1, ex_bl, ex_int, ex_tup, List.getElem?_cons_zero, List.getElem?_cons_succ, List.set_cons_zero, List.set_cons_succ, List.length_cons, List.length_nil, Atom.pv, add_i, sub_i, mul_i, mod_i, fdiv_i, pow_i, lt_i, le_i, gt_i, ge_i, eq_, ne_, in_e, nin_e, is_n, isnot_n, idx_tup, idx_lst, eqP_int, eqP_str, atI_0, atI_1, atI_2, ixN_0, ixN_1, ixN_2, decide_eq_true_eq, Bool.not_true, Bool.not_false, if_true, Bool.false_eq_true, if_false, setSl, len_lst, len_tup, int_i, int_bl, abs_i, min_i, max_i, tup_t, tup_l, newL_F, newL_T, List.map_cons, List.map_nil, List.append_nil, List.nil_append, List.cons_append, Nat.reduceAdd, Nat.reduceSub, List.replicate_succ, List.replicate_zero, retF, retXF, RL.add_ll, RL.add_t, RL.sl_tup, RL.sl_lst, RL.sl_scr, RL.mul_t, RL.str_int, List.zip_nil_left, List.zip_cons_cons]
  cases v with
  | int i => exact (show Q (.bl true) ph from (q true ⟨fun _ => ⟨i, rfl⟩, fun _ => rfl⟩))
  | bl b => exact (show Q (.bl false) ph from (q false ⟨fun z => (by cases z), fun ⟨_, z⟩ => (by cases z)⟩))
  | ref n =>
    rw [isInt_ref]
    exact (show Q (.bl false) ph from (q false ⟨fun z => (by cases z), fun ⟨_, z⟩ => (by cases z)⟩))
  | _ => exact (show Q (.bl false) ph from (q false ⟨fun z => (by cases z), fun ⟨_, z⟩ => (by cases z)⟩))
theorem chain_q {i lo hi : Int} (h : Q (.bl (decide (lo ≤ i ∧ i ≤ hi))) ph) : (if lo ≤ i then op2S .le false (.int i) (.int hi) ph Q else Q (.bl false) ph) := by
  split
  · rename_i h1
    have e : decide (lo ≤ i ∧ i ≤ hi) = decide (i ≤ hi) := by simp [h1]
    rw [e] at h; exact h
  · rename_i h1
    have e : decide (lo ≤ i ∧ i ≤ hi) = false := by simp [h1]
    rw [e] at h; exact h
theorem is_within_ok {fn : Nat} (i : is_is_within pg f fn) (j : is_is_number pg fn) {v : PV} {lo hi : Int} (q : Q (.bl (okI lo hi v)) ph) : callK pg (k + 2) f [v, .int lo, .int hi] ph Q X := by
  refine i.call rfl ?_
  simp only [b_is_within, bindT, bindTs, wpB, wpS, wpE, wpEs, wpO, wpC, wpIs, wpMs, ex_some, ex_some1, ex_bl, ex_int, ex_tup, List.getElem?_cons_zero, List.getElem?_cons_succ, List.set_cons_zero, List.set_cons_succ, List.length_cons, List.length_nil, Atom.pv, add_i, sub_i, mul_i, mod_i, fdiv_i, pow_i, lt_i, le_i, gt_i, ge_i, eq_, ne_, in_e, nin_e, is_n, isnot_n, idx_tup, idx_lst, eqP_int, eqP_str, atI_0, atI_1, atI_2, ixN_0, ixN_1, ixN_2, decide_eq_true_eq, Bool.not_true, Bool.not_false, if_true, Bool.false_eq_true, if_false, setSl, len_lst, len_tup, int_i, int_bl, abs_i, min_i, max_i, tup_t, tup_l, newL_F, newL_T, List.map_cons, List.map_nil, List.append_nil, List.nil_append, List.cons_append, Nat.reduceAdd, Nat.reduceSub, List.replicate_succ, List.replicate_zero, retF, retXF, RL.add_ll, RL.add_t, RL.sl_tup, RL.sl_lst, RL.sl_scr, RL.mul_t, RL.str_int, List.zip_nil_left, List.zip_cons_cons]
  refine is_number_ok j fun b hb => ⟨b, rfl, ?_⟩
  cases b with
  | false =>
    have e : okI lo hi v = false := by
      cases v with
      | int i => exact absurd (hb.mpr ⟨i, rfl⟩) (by simp)
      | _ => rfl
    rw [e] at q
    exact (show Q (.bl false) ph from q)
  | true =>
    obtain ⟨i, rfl⟩ := hb.mp rfl
    simp only [bindT, bindTs, wpB, wpS, wpE, wpEs, wpO, wpC, wpIs, wpMs, ex_some, ex_some1, ex_bl, ex_int, ex_tup, List.getElem?_cons_zero, List.getElem?_cons_succ, List.set_cons_zero, List.set_cons_succ, List.length_cons, List.length_nil, Atom.pv, add_i, sub_i, mul_i, mod_i, fdiv_i, pow_i, lt_i, le_i, gt_i, ge_i, eq_, ne_, in_e, nin_e, is_n, isnot_n, idx_tup, idx_lst, eqP_int, eqP_str, atI_0, atI_1, atI_2, ixN_0, ixN_1, ixN_2, decide_eq_true_eq, Bool.not_true, Bool.not_false, if_true, Bool.false_eq_true, if_false, setSl, len_lst, len_tup, int_i, int_bl, abs_i, min_i, max_i, tup_t, tup_l, newL_F, newL_T, List.map_cons, List.map_nil, List.append_nil, List.nil_append, List.cons_append, Nat.reduceAdd, Nat.reduceSub, List.replicate_succ, List.replicate_zero, retF, retXF, RL.add_ll, RL.add_t, RL.sl_tup, RL.sl_lst, RL.sl_scr, RL.mul_t, RL.str_int, List.zip_nil_left, List.zip_cons_cons]
    exact chain_q q
/-! ### membership -/
theorem any_ints (xs : List Int) (x : Int) : ((xs.map PyData.int).any fun z => PyData.eqv z (.int x)) = decide (x ∈ xs) := by
  rw [Bool.eq_iff_iff, decide_eq_true_iff, List.any_map, List.any_eq_true]
  constructor
  · rintro ⟨y, hy, e⟩
    have : y = x := by simpa [PyData.eqv] using e
    exact this ▸ hy
  · intro h
    exact ⟨x, h, by simp [PyData.eqv]⟩
theorem in_tints {x : Int} {xs : List Int} {k : Bool → Prop} (h : k (decide (x ∈ xs))) : isIn (.int x) (.tup (xs.map .int)) ph k :=
  ⟨.int x, xs.map .int, .int x, dat_ints ph xs, rfl, shaped_tints xs, by rw [any_ints]; exact h⟩
theorem in_lints {x : Int} {xs : List Int} {k : Bool → Prop} (h : k (decide (x ∈ xs))) : isIn (.int x) (.lst (xs.map .int)) ph k :=
  ⟨.int x, xs.map .int, .int x, .lst (dat_ints ph xs), rfl, shaped_ints xs, by rw [any_ints]; exact h⟩
theorem in_rints {n : Nat} {x : Int} {xs : List Int} {k : Bool → Prop} (e : ph[n]? = some (.lst (xs.map .int))) (h : k (decide (x ∈ xs))) : isIn (.int x) (.ref n) ph k := by
  show (match ph[n]? with
    | some (.dK kvs) => _
    | some (.dT kvs) => _
    | _ => ∃ d ds, Dat ph (.int x) d ∧ Dat ph (.ref n) (.list ds) ∧ SeqAt.shaped d = true ∧ SeqAt.shaped (.list ds) = true ∧ k (ds.any fun z => PyData.eqv z d))
  rw [e]
  exact ⟨.int x, xs.map .int, .int x, .ref e (dat_ints ph xs), rfl, shaped_ints xs, by rw [any_ints]; exact h⟩
theorem in_nat2 {x a b : Nat} {k : Bool → Prop} (h : k (decide (x = a ∨ x = b))) : isIn (.int (x : Int)) (.tup [.int (a : Int), .int (b : Int)]) ph k := by
  refine in_tints (xs := [(a : Int), (b : Int)]) ?_
  have e : decide ((x : Int) ∈ [(a : Int), (b : Int)]) = decide (x = a ∨ x = b) := by
    rw [decide_eq_decide]; simp; omega
  rw [e]; exact h
theorem in_lnats {x : Nat} {xs : List Nat} {k : Bool → Prop} (h : k (decide (x ∈ xs))) : isIn (.int (x : Int)) (.lst (natsPV xs)) ph k := by
  rw [nats_ints]
  refine in_lints ?_
  have e : decide ((x : Int) ∈ xs.map fun n : Nat => (n : Int)) = decide (x ∈ xs) := by
    rw [decide_eq_decide, List.mem_map]
    constructor
    · rintro ⟨y, hy, e⟩
      have : y = x := by omega
      exact this ▸ hy
    · intro h; exact ⟨x, h, rfl⟩
  rw [e]; exact h
theorem in_tnats {x : Nat} {xs : List Nat} {k : Bool → Prop} (h : k (decide (x ∈ xs))) : isIn (.int (x : Int)) (.tup (natsPV xs)) ph k := by
  rw [nats_ints]
  refine in_tints ?_
  have e : decide ((x : Int) ∈ xs.map fun n : Nat => (n : Int)) = decide (x ∈ xs) := by
    rw [decide_eq_decide, List.mem_map]
    constructor
    · rintro ⟨y, hy, e⟩
      have : y = x := by omega
      exact this ▸ hy
    · intro h; exact ⟨x, h, rfl⟩
  rw [e]; exact h
/-! ### neighbours -/
def other (r : Rd2) (h : Nat) : Nat := if r.1 = h then r.2 else r.1
def nbrs (rs : List Rd2) (h : Nat) : List Nat := (rs.filter fun r => decide (h = r.1 ∨ h = r.2)).map fun r => other r h
theorem other_end_ok (i : is_other_end pg f) {a b h : Nat} (q : Q (.int (other (a, b) h)) ph) : callK pg (k + 1) f [.tup [.int a, .int b], .int h] ph Q X := by
  refine i.call rfl ?_
  simp only [b_other_end, bindT, bindTs, wpB, wpS, wpE, wpEs, wpO, wpC, wpIs, wpMs, ex_some, ex_some1, ex_bl, ex_int, ex_tup, List.getElem?_cons_zero, List.getElem?_cons_succ, List.set_cons_zero, List.set_cons_succ, List.length_cons, List.length_nil, Atom.pv, add_i, sub_i, mul_i, mod_i, fdiv_i, pow_i, lt_i, le_i, gt_i, ge_i, eq_, ne_, in_e, nin_e, is_n, isnot_n, idx_tup, idx_lst, eqP_int, eqP_str, atI_0, atI_1, atI_2, ixN_0, ixN_1, ixN_2, decide_eq_true_eq, Bool.not_true, Bool.not_false, if_true, Bool.false_eq_true, if_false, setSl, len_lst, len_tup, int_i, int_bl, abs_i, min_i, max_i, tup_t, tup_l, newL_F, newL_T, List.map_cons, List.map_nil, List.append_nil, List.nil_append, List.cons_append, Nat.reduceAdd, Nat.reduceSub, List.replicate_succ, List.replicate_zero, retF, retXF, RL.add_ll, RL.add_t, RL.sl_tup, RL.sl_lst, RL.sl_scr, RL.mul_t, RL.str_int, List.zip_nil_left, List.zip_cons_cons]
  unfold other at q
  by_cases e : a = h
  · rw [if_pos (by exact e)] at q
    rw [if_pos (by omega)]; exact q
  · rw [if_neg (by exact e)] at q
    rw [if_neg (by omega)]; exact q
def toRd : PV → Rd2
  | .tup [.int a, .int b] => (a.toNat, b.toNat)
  | _ => (0, 0)
theorem toRd_road (r : Rd2) : toRd (roadPV r) = r := by simp [toRd, roadPV]
theorem filter_roads {rs : List Rd2} {p : Rd2 → Bool} {g : Rd2 → PV} : ((rs.map roadPV).filter fun v => p (toRd v)).map (fun v => g (toRd v)) = (rs.filter p).map g := by
  rw [List.filter_map, List.map_map]
  have e1 : ((fun v => p (toRd v)) ∘ roadPV) = p := by funext r; simp [toRd_road]
  have e2 : ((fun v => g (toRd v)) ∘ roadPV) = g := by funext r; simp [toRd_road]
  rw [e1, e2]
theorem neighbours_ok {fo : Nat} (i : is_neighbours pg f fo) (j : is_other_end pg fo) {n h : Nat} {rs : List Rd2} (hr : rs.length ≤ 1000000) (q : Q (.lst (natsPV (nbrs rs h))) ph) : callK pg (k + 2) f [townPV n rs, .int h] ph Q X := by
  refine i.call rfl ?_
  have hsz := sz
  simp only [b_neighbours, townPV, bindT, bindTs, wpB, wpS, wpE, wpEs, wpO, wpC, wpIs, wpMs, ex_some, ex_some1, ex_bl, ex_int, ex_tup, List.getElem?_cons_zero, List.getElem?_cons_succ, List.set_cons_zero, List.set_cons_succ, List.length_cons, List.length_nil, Atom.pv, add_i, sub_i, mul_i, mod_i, fdiv_i, pow_i, lt_i, le_i, gt_i, ge_i, eq_, ne_, in_e, nin_e, is_n, isnot_n, idx_tup, idx_lst, eqP_int, eqP_str, atI_0, atI_1, atI_2, ixN_0, ixN_1, ixN_2, decide_eq_true_eq, Bool.not_true, Bool.not_false, if_true, Bool.false_eq_true, if_false, setSl, len_lst, len_tup, int_i, int_bl, abs_i, min_i, max_i, tup_t, tup_l, newL_F, newL_T, List.map_cons, List.map_nil, List.append_nil, List.nil_append, List.cons_append, Nat.reduceAdd, Nat.reduceSub, List.replicate_succ, List.replicate_zero, retF, retXF, RL.add_ll, RL.add_t, RL.sl_tup, RL.sl_lst, RL.sl_scr, RL.mul_t, RL.str_int, List.zip_nil_left, List.zip_cons_cons]
  refine ⟨_, rfl, comp_filter (fun v => decide (h = (toRd v).1 ∨ h = (toRd v).2)) (fun v => .int (other (toRd v) h : Nat)) rfl (by rw [List.length_map]; omega) (fun v hv K R h1 h2 => ?_) ?_⟩
  · obtain ⟨⟨a, b⟩, _, rfl⟩ := List.mem_map.mp hv
    refine ⟨by simp [wipeE], ?_⟩
    simp only [wipeE, bindT, bindTs, wpB, wpS, wpE, wpEs, wpO, wpC, wpIs, wpMs, ex_some, ex_some1, ex_bl, ex_int, ex_tup, List.getElem?_cons_zero, List.getElem?_cons_succ, List.set_cons_zero, List.set_cons_succ, List.length_cons, List.length_nil, Atom.pv, add_i, sub_i, mul_i, mod_i, fdiv_i, pow_i, lt_i, le_i, gt_i, ge_i, eq_, ne_, in_e, nin_e, is_n, isnot_n, idx_tup, idx_lst, eqP_int, eqP_str, atI_0, atI_1, atI_2, ixN_0, ixN_1, ixN_2, decide_eq_true_eq, Bool.not_true, Bool.not_false, if_true, Bool.false_eq_true, if_false, setSl, len_lst, len_tup, int_i, int_bl, abs_i, min_i, max_i, tup_t, tup_l, newL_F, newL_T, List.map_cons, List.map_nil, List.append_nil, List.nil_append, List.cons_append, Nat.reduceAdd, Nat.reduceSub, List.replicate_succ, List.replicate_zero, retF, retXF, RL.add_ll, RL.add_t, RL.sl_tup, RL.sl_lst, RL.sl_scr, RL.mul_t, RL.str_int, List.zip_nil_left, List.zip_cons_cons]
    refine in_nat2 ?_
    have e : toRd (roadPV (a, b)) = (a, b) := toRd_road _
    rw [e] at h1 h2
    by_cases hh : h = a ∨ h = b
    · have e2 := decide_eq_true hh
      rw [e2] at h1 ⊢
      exact other_end_ok j (h1 rfl)
    · have e2 := decide_eq_false hh
      rw [e2] at h2 ⊢
      exact h2 rfl
  · rw [filter_roads (p := fun r => decide (h = r.1 ∨ h = r.2)) (g := fun r => .int (other r h : Nat))]
    refine newL_f ?_ ?_
    · rw [List.length_map]; have := List.length_filter_le (fun r : Rd2 => decide (h = r.1 ∨ h = r.2)) rs; omega
    · unfold nbrs natsPV at q; rw [List.map_map] at q; exact q
theorem nbrs_len {rs : List Rd2} {h : Nat} (hs : ∀ r ∈ rs, r.1 ≠ r.2) : (nbrs rs h).length = deg rs h := by
  unfold nbrs deg
  rw [List.length_map]
  induction rs with
  | nil => rfl
  | cons r rs ih =>
    have ih := ih fun x hx => hs x (List.mem_cons_of_mem _ hx)
    have hr := hs r (List.mem_cons_self ..)
    rw [List.filter_cons, List.countP_cons, List.countP_cons]
    by_cases h1 : h = r.1
    · have h2 : ¬ r.2 = h := by omega
      simp [h1.symm, h2] at ih ⊢
      omega
    · by_cases h2 : h = r.2
      · have h3 : ¬ r.1 = h := by omega
        simp [h2.symm, h3] at ih ⊢
        omega
      · simp [h1, h2, Ne.symm h1, Ne.symm h2] at ih ⊢
        exact ih
theorem nbrs_in {n h : Nat} {rs : List Rd2} (hr : In2 n rs) : ∀ x ∈ nbrs rs h, x < n := fun x hx => by
  obtain ⟨r, hr', rfl⟩ := List.mem_map.mp hx
  have := hr r (List.mem_filter.mp hr').1
  unfold other; split <;> omega
/-! ### behind a script -/
def step1 (s : Nat → Int) (r : Rd2) (v : Nat) : Int := (if v = r.1 then s r.1 - s r.2 else 0) - (if v = r.2 then s r.1 - s r.2 else 0)
def flow (rs : List Rd2) (s : Nat → Int) (v : Nat) : Int := (rs.map fun r => step1 s r v).sum
def bhd (n : Nat) (rs : List Rd2) (p s : Nat → Int) : List Int := tab n fun v => p v - flow rs s v
theorem flow_snoc {rs : List Rd2} {r : Rd2} {s : Nat → Int} {v : Nat} : flow (rs ++ [r]) s v = flow rs s v + step1 s r v := by simp [flow]
theorem flow_cons {rs : List Rd2} {r : Rd2} {s : Nat → Int} {v : Nat} : flow (r :: rs) s v = step1 s r v + flow rs s v := by simp [flow]
theorem bhd_len {n : Nat} {rs : List Rd2} {p s : Nat → Int} : (bhd n rs p s).length = n := tab_len
theorem bhd_step {n a b : Nat} {rs : List Rd2} {p s : Nat → Int} : (tab n fun v => if v = b then (if b = a then p a - flow rs s a - (s a - s b) else p b - flow rs s b) + (s a - s b) else if v = a then p a - flow rs s a - (s a - s b) else p v - flow rs s v) = bhd n (rs ++ [(a, b)]) p s := by
  refine tab_congr fun v _ => ?_
  rw [flow_snoc]
  unfold step1
  by_cases h1 : v = b
  · subst h1
    by_cases h2 : v = a
    · subst h2; simp
    · simp [h2]; omega
  · by_cases h2 : v = a
    · subst h2; simp [h1]; omega
    · simp [h1, h2]
/-- a row: tuple or list -/
def rowP (v : PV) (p : List Int) : Prop := v = .tup (p.map .int) ∨ v = .lst (p.map .int)
theorem rowP.idx {v : PV} {p : List Int} (h : rowP v p) {a : Nat} (ha : a < p.length) {Q : QV} (q : Q (.int (nth p a)) ph) : idxS v (.int a) ph Q := by
  rcases h with rfl | rfl <;> exact ⟨_, atI_nth ha, q⟩
theorem rowP.seq {v : PV} {p : List Int} (h : rowP v p) : seqOf ph v = some (p.map .int) := by rcases h with rfl | rfl <;> rfl
theorem behind_ok (i : is_behind pg f) {n : Nat} {rs : List Rd2} {pv sv : PV} {p s : List Int} (hp : rowP pv p) (hs : rowP sv s) (pl : p.length = n) (sl : s.length = n) (hn : n ≤ 1000) (hr : In2 n rs) (q : Q (pursePV (bhd n rs (nth p) (nth s))) ph) : callK pg (k + 1) f [townPV n rs, pv, sv] ph Q X := by
  refine i.call rfl ?_
  have hsz := sz
  simp only [b_behind, townPV, bindT, bindTs, wpB, wpS, wpE, wpEs, wpO, wpC, wpIs, wpMs, ex_some, ex_some1, ex_bl, ex_int, ex_tup, List.getElem?_cons_zero, List.getElem?_cons_succ, List.set_cons_zero, List.set_cons_succ, List.length_cons, List.length_nil, Atom.pv, add_i, sub_i, mul_i, mod_i, fdiv_i, pow_i, lt_i, le_i, gt_i, ge_i, eq_, ne_, in_e, nin_e, is_n, isnot_n, idx_tup, idx_lst, eqP_int, eqP_str, atI_0, atI_1, atI_2, ixN_0, ixN_1, ixN_2, decide_eq_true_eq, Bool.not_true, Bool.not_false, if_true, Bool.false_eq_true, if_false, setSl, len_lst, len_tup, int_i, int_bl, abs_i, min_i, max_i, tup_t, tup_l, newL_F, newL_T, List.map_cons, List.map_nil, List.append_nil, List.nil_append, List.cons_append, Nat.reduceAdd, Nat.reduceSub, List.replicate_succ, List.replicate_zero, retF, retXF, RL.add_ll, RL.add_t, RL.sl_tup, RL.sl_lst, RL.sl_scr, RL.mul_t, RL.str_int, List.zip_nil_left, List.zip_cons_cons]
  refine list_of hp.seq (newL_t (by rw [List.length_map]; omega) ⟨by first | assumption | omega | (decide; done) | (exact mulOk_small (by omega) (by omega) (by omega) (by omega)) | (exact fdivOk (by omega) (by omega)) | (simp; done) | (simp; omega), _, rfl, ?_⟩)
  have e0 : p = bhd n (rs.take 0) (nth p) (nth s) := by
    refine (tab_of pl).trans (tab_congr fun v hv => ?_)
    simp [flow]
  refine forL_rule (fun i env ph' => ∃ a b c, env = [some (.tup [.int n, .tup (rs.map roadPV)]), some pv, some sv, some (.ref ph.length), a, b, c] ∧ ph' = ph ++ [.lst ((bhd n (rs.take i) (nth p) (nth s)).map .int)]) ?_ ?_ ⟨none, none, none, rfl, by rw [← e0]⟩
  · rintro i v env ph' hv ⟨a, b, c, rfl, rfl⟩
    obtain ⟨a, b, hr', rfl⟩ := road_at hv
    have hab := hr _ (List.mem_of_getElem? hr')
    simp only at hab
    refine ⟨rfl, fun N hN => ⟨_, rfl, rfl, by simp, by simp, ?_⟩⟩
    simp only [bindT, bindTs, wpB, wpS, wpE, wpEs, wpO, wpC, wpIs, wpMs, ex_some, ex_some1, ex_bl, ex_int, ex_tup, List.getElem?_cons_zero, List.getElem?_cons_succ, List.set_cons_zero, List.set_cons_succ, List.length_cons, List.length_nil, Atom.pv, add_i, sub_i, mul_i, mod_i, fdiv_i, pow_i, lt_i, le_i, gt_i, ge_i, eq_, ne_, in_e, nin_e, is_n, isnot_n, idx_tup, idx_lst, eqP_int, eqP_str, atI_0, atI_1, atI_2, ixN_0, ixN_1, ixN_2, decide_eq_true_eq, Bool.not_true, Bool.not_false, if_true, Bool.false_eq_true, if_false, setSl, len_lst, len_tup, int_i, int_bl, abs_i, min_i, max_i, tup_t, tup_l, newL_F, newL_T, List.map_cons, List.map_nil, List.append_nil, List.nil_append, List.cons_append, Nat.reduceAdd, Nat.reduceSub, List.replicate_succ, List.replicate_zero, retF, retXF, RL.add_ll, RL.add_t, RL.sl_tup, RL.sl_lst, RL.sl_scr, RL.mul_t, RL.str_int, List.zip_nil_left, List.zip_cons_cons]
    refine hs.idx (by omega) (hs.idx (by omega) ⟨by simp, ?_⟩)
    rw [idx_ref pg0]
    refine ⟨_, atI_tab hab.1, ?_⟩
    simp only [bindT, bindTs, wpB, wpS, wpE, wpEs, wpO, wpC, wpIs, wpMs, ex_some, ex_some1, ex_bl, ex_int, ex_tup, List.getElem?_cons_zero, List.getElem?_cons_succ, List.set_cons_zero, List.set_cons_succ, List.length_cons, List.length_nil, Atom.pv, add_i, sub_i, mul_i, mod_i, fdiv_i, pow_i, lt_i, le_i, gt_i, ge_i, eq_, ne_, in_e, nin_e, is_n, isnot_n, idx_tup, idx_lst, eqP_int, eqP_str, atI_0, atI_1, atI_2, ixN_0, ixN_1, ixN_2, decide_eq_true_eq, Bool.not_true, Bool.not_false, if_true, Bool.false_eq_true, if_false, setSl, len_lst, len_tup, int_i, int_bl, abs_i, min_i, max_i, tup_t, tup_l, newL_F, newL_T, List.map_cons, List.map_nil, List.append_nil, List.nil_append, List.cons_append, Nat.reduceAdd, Nat.reduceSub, List.replicate_succ, List.replicate_zero, retF, retXF, RL.add_ll, RL.add_t, RL.sl_tup, RL.sl_lst, RL.sl_scr, RL.mul_t, RL.str_int, List.zip_nil_left, List.zip_cons_cons]
    rw [seti_ref pg0]
    refine ⟨a, ixN_nat (by rw [List.length_map, bhd_len]; exact hab.1), ?_⟩
    rw [ps0, set_int, bhd, tab_set hab.1, idx_ref pg0]
    refine ⟨_, atI_tab hab.2, ?_⟩
    simp only [bindT, bindTs, wpB, wpS, wpE, wpEs, wpO, wpC, wpIs, wpMs, ex_some, ex_some1, ex_bl, ex_int, ex_tup, List.getElem?_cons_zero, List.getElem?_cons_succ, List.set_cons_zero, List.set_cons_succ, List.length_cons, List.length_nil, Atom.pv, add_i, sub_i, mul_i, mod_i, fdiv_i, pow_i, lt_i, le_i, gt_i, ge_i, eq_, ne_, in_e, nin_e, is_n, isnot_n, idx_tup, idx_lst, eqP_int, eqP_str, atI_0, atI_1, atI_2, ixN_0, ixN_1, ixN_2, decide_eq_true_eq, Bool.not_true, Bool.not_false, if_true, Bool.false_eq_true, if_false, setSl, len_lst, len_tup, int_i, int_bl, abs_i, min_i, max_i, tup_t, tup_l, newL_F, newL_T, List.map_cons, List.map_nil, List.append_nil, List.nil_append, List.cons_append, Nat.reduceAdd, Nat.reduceSub, List.replicate_succ, List.replicate_zero, retF, retXF, RL.add_ll, RL.add_t, RL.sl_tup, RL.sl_lst, RL.sl_scr, RL.mul_t, RL.str_int, List.zip_nil_left, List.zip_cons_cons]
    rw [seti_ref pg0]
    refine ⟨b, ixN_nat (by rw [List.length_map, tab_len]; exact hab.2), ?_⟩
    rw [ps0, set_int, tab_set hab.2]
    refine hN _ _ ⟨_, _, _, rfl, ?_⟩
    rw [take_succ' hr', ← bhd_step]
  · rintro env ph' ⟨a, b, c, rfl, rfl⟩
    refine ⟨rfl, ?_⟩
    simp only [bindT, bindTs, wpB, wpS, wpE, wpEs, wpO, wpC, wpIs, wpMs, ex_some, ex_some1, ex_bl, ex_int, ex_tup, List.getElem?_cons_zero, List.getElem?_cons_succ, List.set_cons_zero, List.set_cons_succ, List.length_cons, List.length_nil, Atom.pv, add_i, sub_i, mul_i, mod_i, fdiv_i, pow_i, lt_i, le_i, gt_i, ge_i, eq_, ne_, in_e, nin_e, is_n, isnot_n, idx_tup, idx_lst, eqP_int, eqP_str, atI_0, atI_1, atI_2, ixN_0, ixN_1, ixN_2, decide_eq_true_eq, Bool.not_true, Bool.not_false, if_true, Bool.false_eq_true, if_false, setSl, len_lst, len_tup, int_i, int_bl, abs_i, min_i, max_i, tup_t, tup_l, newL_F, newL_T, List.map_cons, List.map_nil, List.append_nil, List.nil_append, List.cons_append, Nat.reduceAdd, Nat.reduceSub, List.replicate_succ, List.replicate_zero, retF, retXF, RL.add_ll, RL.add_t, RL.sl_tup, RL.sl_lst, RL.sl_scr, RL.mul_t, RL.str_int, List.zip_nil_left, List.zip_cons_cons]
    rw [List.length_map, List.take_length, tup_r pg0]
    exact ret_newO (old_purse _) q
theorem rdPV_eq {a b : Nat} : PV.tup [.int (min (a : Int) b), .int (max (a : Int) b)] = roadPV (ordR (a, b)) := by
  unfold roadPV ordR
  simp only
  rw [show min (a : Int) b = ((min a b : Nat) : Int) by omega, show max (a : Int) b = ((max a b : Nat) : Int) by omega]
theorem perm_range {n : Nat} {ns : List Nat} (h : ns.Perm (List.range n)) : ns.length = n ∧ ns.Nodup ∧ (∀ x, x ∈ ns ↔ x < n) := ⟨by rw [h.length_eq, List.length_range], h.nodup_iff.mpr List.nodup_range, fun x => by rw [h.mem_iff, List.mem_range]⟩
theorem atI_nats {ns : List Nat} {a : Nat} (h : a < ns.length) : atI (natsPV ns) (a : Int) = some (.int (ns[a] : Nat)) := atI_nat (by simp [natsPV, h])
end
end RL

/-! RLShow: texts of values that stand alone. -/
namespace RL
open PySem L2
/-- a value without numbers of the heap, its text not too long -/
def Tx (w dp : Nat) (v : PV) : Prop := ∃ d, (∀ ph, Dat ph v d) ∧ Sm 50 w dp d
def TxA (w dp : Nat) (xs : List PV) : Prop := ∀ x ∈ xs, Tx w dp x
open Classical in
noncomputable def txt (v : PV) : Str := if h : ∃ d, ∀ ph, Dat ph v d then (choose h).shown else ""
theorem txt_of {v : PV} {d : PyData} (h : ∀ ph, Dat ph v d) : txt v = d.shown := by
  have e : ∃ d, ∀ ph, Dat ph v d := ⟨d, h⟩
  unfold txt
  rw [dif_pos e, dat_one (Classical.choose_spec e []) (h [])]
theorem Tx.mono {w w' dp dp' : Nat} {v : PV} (h : Tx w dp v) (hw : w ≤ w') (hd : dp ≤ dp') : Tx w' dp' v := by
  obtain ⟨d, h1, h2⟩ := h
  exact ⟨d, h1, h2.mono hw hd⟩
theorem repr_tx {w dp : Nat} {v : PV} {ph : PHp} {own : Bool} {Q : QV} (h : Tx w dp v) (hw : w ≤ 300000 := by decide) (hd : dp ≤ 60 := by decide) (q : Q (.str (txt v)) ph) : biS .repr own [v] ph Q := by
  obtain ⟨d, h1, h2⟩ := h
  rw [txt_of h1] at q
  exact repr_of (h1 ph) (h2.reprS (by decide) (by omega) hd) q
theorem tx_non {w dp : Nat} : Tx w dp .non := ⟨_, fun _ => .non, sm_non⟩
theorem tx_bl {w dp : Nat} {b : Bool} : Tx w dp (.bl b) := ⟨_, fun _ => .bl _, sm_bl _⟩
theorem tx_int {w dp : Nat} {i : Int} (h : -1000000 < i ∧ i < 1000000) (hw : 24 ≤ w := by decide) : Tx w dp (.int i) := ⟨_, fun _ => .int _, sm_int 6 (by omega) (by decide) (by decide) (by omega) (by decide)⟩
theorem tx_int40 {w dp : Nat} {i : Int} (h : -10000000000000000000000000000000000000000 < i ∧ i < 10000000000000000000000000000000000000000) (hw : 160 ≤ w := by decide) : Tx w dp (.int i) := ⟨_, fun _ => .int _, sm_int 40 (by omega) (by decide) (by decide) (by omega) (by decide)⟩
theorem tx_big {w dp : Nat} {i : Int} (h : i.natAbs < 10 ^ 45) (hw : 180 ≤ w := by decide) : Tx w dp (.int i) := ⟨_, fun _ => .int _, sm_int 45 h (by decide) (by decide) (by omega) (by decide)⟩
theorem tx_strint {w dp : Nat} {i : Int} (h : i.natAbs < 10 ^ 45) (hw : 46 ≤ w := by decide) : Tx w dp (.str (toString i)) := by
  refine ⟨_, fun _ => .str _, sm_str (x := Str.ofString (toString i)) ?_ ?_⟩
  · rw [Str.ofString_eq_toList]
    simp only [List.all_eq_true, List.mem_map, decide_eq_true_eq]
    rintro c ⟨x, _, rfl⟩
    have := x.val.toNat_lt
    exact this
  · show (Str.ofString (toString i)).length ≤ w
    rw [ofString_length]
    exact Nat.le_trans (int_text_length_le10 (by decide) h) hw
theorem tx_nat {w dp : Nat} {i : Nat} (h : i < 1000000) (hw : 24 ≤ w := by decide) : Tx w dp (.int (i : Int)) := tx_int (by omega) hw
theorem tx_str {w dp : Nat} {x : Str} (h : (x.cps.toList.all fun c => decide (c < 16 ^ 8)) = true := by decide +kernel) (hw : x.cps.size ≤ w := by decide +kernel) : Tx w dp (.str x) := ⟨_, fun _ => .str _, sm_str h hw⟩
theorem txA_nil {w dp : Nat} : TxA w dp [] := fun _ h => by cases h
theorem txA_cons {w dp : Nat} {x : PV} {xs : List PV} (h : Tx w dp x) (t : TxA w dp xs) : TxA w dp (x :: xs) := fun y hy => by
  rcases List.mem_cons.mp hy with rfl | hy
  · exact h
  · exact t y hy
theorem txA_app {w dp : Nat} {xs ys : List PV} (h : TxA w dp xs) (t : TxA w dp ys) : TxA w dp (xs ++ ys) := fun y hy => by
  rcases List.mem_append.mp hy with hy | hy
  · exact h y hy
  · exact t y hy
theorem txA_all {w dp : Nat} : ∀ {xs : List PV}, TxA w dp xs → ∃ ds, (∀ ph, DatAll ph xs ds) ∧ SmA 50 ((w + 1) * xs.length) dp ds
  | [], _ => ⟨[], fun _ => .nil, sma_nil⟩
  | x :: xs, h => by
    obtain ⟨d, h1, h2⟩ := h x (List.mem_cons_self ..)
    obtain ⟨ds, h3, h4⟩ := txA_all (xs := xs) fun y hy => h y (List.mem_cons_of_mem _ hy)
    refine ⟨d :: ds, fun ph => .cons (h1 ph) (h3 ph), (sma_cons h2 h4).mono ?_ (Nat.le_refl _)⟩
    rw [List.length_cons, Nat.mul_succ]; omega
theorem tx_tup {w w' dp dp' : Nat} {xs : List PV} (h : TxA w dp xs) (hw : (w + 1) * xs.length ≤ w' := by first | decide | (simp; done) | (simp; omega)) (hd : dp + 1 ≤ dp' := by decide) : Tx w' dp' (.tup xs) := by
  obtain ⟨ds, h1, h2⟩ := txA_all h
  exact ⟨_, fun ph => .tup (h1 ph), (sm_tup h2).mono hw hd⟩
theorem tx_lst {w w' dp dp' : Nat} {xs : List PV} (h : TxA w dp xs) (hw : (w + 1) * xs.length ≤ w' := by first | decide | (simp; done) | (simp; omega)) (hd : dp + 1 ≤ dp' := by decide) : Tx w' dp' (.lst xs) := by
  obtain ⟨ds, h1, h2⟩ := txA_all h
  exact ⟨_, fun ph => .lst (h1 ph), (sm_lst h2).mono hw hd⟩
theorem txA_ints {w dp : Nat} {p : List Int} (h : ∀ x ∈ p, -1000000 < x ∧ x < 1000000) (hw : 24 ≤ w := by decide) : TxA w dp (p.map .int) := fun v hv => by
  obtain ⟨x, hx, rfl⟩ := List.mem_map.mp hv
  exact tx_int (h x hx) hw
theorem tx_road {r : Rd2} {w dp : Nat} (h : r.1 < 1000000 ∧ r.2 < 1000000) (hw : 50 ≤ w := by decide) (hd : 1 ≤ dp := by decide) : Tx w dp (roadPV r) :=
  (tx_tup (w := 24) (dp := 0) (txA_cons (tx_nat h.1) (txA_cons (tx_nat h.2) txA_nil)) (w' := 50) (dp' := 1)).mono hw hd
theorem txA_roads {n : Nat} {rs : List Rd2} (h : In2 n rs) (hn : n ≤ 1000000) : TxA 50 1 (rs.map roadPV) := fun v hv => by
  obtain ⟨r, hr, rfl⟩ := List.mem_map.mp hv
  have := h r hr
  exact tx_road ⟨by omega, by omega⟩
theorem tx_town {n : Nat} {rs : List Rd2} (h : In2 n rs) (hn : n < 1000) (hl : rs.length ≤ 100) : Tx 12000 3 (townPV n rs) :=
  tx_tup (w := 5100) (dp := 2) (txA_cons (tx_nat (by omega)) (txA_cons ((tx_tup (txA_roads h (by omega)) (w' := 5100) (dp' := 2) (by rw [List.length_map]; omega))) txA_nil))
theorem tx_purse {p : List Int} (h : ∀ x ∈ p, -1000000 < x ∧ x < 1000000) (hl : p.length ≤ 100) : Tx 2500 1 (pursePV p) :=
  tx_tup (txA_ints (w := 24) (dp := 0) h) (by rw [List.length_map]; omega)
theorem tx_intsL {p : List Int} (h : ∀ x ∈ p, -1000000 < x ∧ x < 1000000) (hl : p.length ≤ 100) : Tx 2500 1 (.lst (p.map .int)) :=
  tx_lst (txA_ints (w := 24) (dp := 0) h) (by rw [List.length_map]; omega)
theorem eq_txt {a b : PV} {ph : PHp} {k : Bool → Prop} (e : a = b) (q : k true) : eqP (.str (txt a)) (.str (txt b)) ph k := by
  subst e
  rw [eqP_str, decide_eq_true rfl]; exact q
/-- a list of two -/
theorem tx_two {w dp : Nat} {x y : PV} (h1 : Tx w dp x) (h2 : Tx w dp y) : Tx (2 * w + 2) (dp + 1) (.lst [x, y]) :=
  tx_lst (txA_cons h1 (txA_cons h2 txA_nil)) (by simp; omega) (Nat.le_refl _)
theorem tab_mem {n : Nat} {f : Nat → Int} {x : Int} (h : x ∈ tab n f) : ∃ v, v < n ∧ x = f v := by
  obtain ⟨v, hv, rfl⟩ := List.mem_map.mp h
  exact ⟨v, List.mem_range.mp hv, rfl⟩
theorem tx_degs {n : Nat} {rs : List Rd2} (hn : n ≤ 100) (hl : rs.length ≤ 1000) : Tx 2500 1 (pursePV (degs n rs)) := tx_purse (fun x hx => by
  obtain ⟨v, _, rfl⟩ := tab_mem hx
  have := deg_le (rs := rs) (v := v)
  omega) (by rw [degs, tab_len]; exact hn)
end RL

/-! RLPiles: piles. -/
namespace RL
open PySem L2
/-- pile_error(town, root, value); slots 0:town 1:root 2:value 3:house 4:coins -/
def b_pile_error (f_is_within g_MAX_COINS : Nat) : List S := [.ife (.orE (.notE (.isin (.var 2) .tuple)) (.op2 .ne false (.bi .len false [.var 2]) (.idx (.var 0) (.con (.int 0))))) [.ret (.con (.str "form"))] [], .for_ (.tup [(.name 3), (.name 4)]) .enum [.var 2] [.ife (.notE (.call f_is_within [.var 4, .con (.int 0), .glob g_MAX_COINS])) [.ret (.tup [.con (.str "coins"), .var 3])] []], .ret (.ife (.op2 .eq false (.idx (.var 2) (.var 1)) (.con (.int 0))) (.con .non) (.con (.str "root")))]
def is_pile_error (pg : Pg) (f : Nat) (f_is_within g_MAX_COINS : Nat) : Prop := Is pg f 3 5 false (b_pile_error f_is_within g_MAX_COINS)
/-- fullest(town, root); slots 0:town 1:root 2:house 3:many -/
def b_fullest (f_roads_of : Nat) : List S := [.ret (.bi .tuple false [.comp false (.ife (.op2 .eq false (.var 2) (.var 1)) (.con (.int 0)) (.op2 .sub false (.var 3) (.con (.int 1)))) (.tup [(.name 2), (.name 3)]) .enum [.call f_roads_of [.var 0]] none [2, 3]])]
def is_fullest (pg : Pg) (f : Nat) (f_roads_of : Nat) : Prop := Is pg f 2 4 false (b_fullest f_roads_of)
/-- moved(town, root, pile, house, number); slots 0:town 1:root 2:pile 3:house 4:number 5:other 6:found 7:ends -/
def b_moved (f_neighbours : Nat) : List S := [.par [6, 7] [.bi .list true [.var 2], .call f_neighbours [.var 0, .var 3]], .seti (.var 6) (.var 3) (.op2 .sub true (.idx (.var 6) (.var 3)) (.op2 .mul false (.var 4) (.bi .len false [.var 7]))), .for_ (.name 5) .seq [.var 7] [.seti (.var 6) (.var 5) (.op2 .add true (.idx (.var 6) (.var 5)) (.var 4))], .seti (.var 6) (.var 1) (.con (.int 0)), .ret (.bi .tuple false [.var 6])]
def is_moved (pg : Pg) (f : Nat) (f_neighbours : Nat) : Prop := Is pg f 5 8 true (b_moved f_neighbours)
/-- can_topple(town, root, pile, house, number); slots 0:town 1:root 2:pile 3:house 4:number -/
def b_can_topple (f_is_within f_roads_of : Nat) : List S := [.ife (.orE (.notE (.call f_is_within [.var 3, .con (.int 0), .op2 .sub false (.idx (.var 0) (.con (.int 0))) (.con (.int 1))])) (.orE (.op2 .eq false (.var 3) (.var 1)) (.notE (.call f_is_within [.var 4, .con (.int 1), .var 4])))) [.ret (.con (.bl false))] [], .ret (.op2 .ge false (.idx (.var 2) (.var 3)) (.op2 .mul false (.var 4) (.idx (.call f_roads_of [.var 0]) (.var 3))))]
def is_can_topple (pg : Pg) (f : Nat) (f_is_within f_roads_of : Nat) : Prop := Is pg f 5 5 false (b_can_topple f_is_within f_roads_of)
/-- toppled(town, root, pile, house, number); slots 0:town 1:root 2:pile 3:house 4:number -/
def b_toppled (f_can_topple f_moved c_Unfit : Nat) : List S := [.ife (.notE (.call f_can_topple [.var 0, .var 1, .var 2, .var 3, .var 4])) [.raise_ c_Unfit []] [], .ret (.call f_moved [.var 0, .var 1, .var 2, .var 3, .var 4])]
def is_toppled (pg : Pg) (f : Nat) (f_can_topple f_moved c_Unfit : Nat) : Prop := Is pg f 5 5 false (b_toppled f_can_topple f_moved c_Unfit)

/-! ### what is due -/
def at_ (xs : List PV) (i : Nat) : PV := xs.getD i .non
def pileErr (n root : Nat) : PV → PV
  | .tup xs => if xs.length = n then (match fb (fun _ => okI 0 1000) 0 xs with
    | some i => .tup [.str "coins", .int (i : Int)]
    | none => if toI (at_ xs root) = 0 then .non else .str "root") else .str "form"
  | _ => .str "form"
theorem pileErr_t {n root : Nat} {xs : List PV} : pileErr n root (.tup xs) = if xs.length = n then (match fb (fun _ => okI 0 1000) 0 xs with
    | some i => .tup [.str "coins", .int (i : Int)]
    | none => if toI (at_ xs root) = 0 then .non else .str "root") else .str "form" := rfl
theorem pileErr_no {n root : Nat} {v : PV} (h : ∀ xs, v ≠ .tup xs) : pileErr n root v = .str "form" := by
  cases v with
  | tup xs => exact absurd rfl (h xs)
  | _ => rfl
theorem pileErr_tx {n root : Nat} {v : PV} (hn : n ≤ 1000) : Tx 200 2 (pileErr n root v) := by
  have form : Tx 200 2 (.str "form") := tx_str
  cases v with
  | tup xs =>
    rw [pileErr_t]
    by_cases hl : xs.length = n
    · rw [if_pos hl]
      cases hf : fb (fun _ => okI 0 1000) 0 xs with
      | some i =>
        obtain ⟨k, x, h1, h2, _⟩ := fb_some hf
        have := (List.getElem?_eq_some_iff.mp h2).1
        exact tx_tup (w := 24) (dp := 0) (xs := [.str "coins", .int (i : Int)]) (txA_cons tx_str (txA_cons (tx_nat (by omega)) txA_nil))
      | none =>
        simp only
        split
        · exact tx_non
        · exact tx_str
    · rw [if_neg hl]; exact form
  | _ => exact form
section
variable {pg : Pg} {f k : Nat} {ph : PHp} {Q : QV} {X : QX}
theorem at_int {xs : List PV} {root : Nat} (hr : root < xs.length) (h : fb (fun _ => okI 0 1000) 0 xs = none) : ∃ z, at_ xs root = .int z ∧ atI xs (root : Int) = some (.int z) := by
  have h1 := fb_none h root xs[root] (List.getElem?_eq_getElem hr)
  cases e : xs[root] with
  | int z => exact ⟨z, by simp [at_, hr, e], atI_nat (by rw [List.getElem?_eq_getElem hr, e])⟩
  | _ => rw [e] at h1; cases h1
theorem pile_error_ok {fw fn g : Nat} (i : is_pile_error pg f fw g) (j : is_is_within pg fw fn) (l : is_is_number pg fn) (hg : pg.gt.gl[g]? = some (.int 1000)) {n root : Nat} {rs : List Rd2} {v : PV} (hr : root < n) (q : Q (pileErr n root v) ph) : callK pg (k + 3) f [townPV n rs, .int root, v] ph Q X := by
  refine i.call rfl ?_
  have hsz := sz
  have two : 2 ≤ sizeLine := by omega
  simp only [b_pile_error, townPV, bindT, bindTs, wpB, wpS, wpE, wpEs, wpO, wpC, wpIs, wpMs, ex_some, ex_some1, ex_bl, ex_int, ex_tup, List.getElem?_cons_zero, List.getElem?_cons_succ, List.set_cons_zero, List.set_cons_succ, List.length_cons, List.length_nil, Atom.pv, add_i, sub_i, mul_i, mod_i, fdiv_i, pow_i, lt_i, le_i, gt_i, ge_i, eq_, ne_, in_e, nin_e, is_n, isnot_n, idx_tup, idx_lst, eqP_int, eqP_str, atI_0, atI_1, atI_2, ixN_0, ixN_1, ixN_2, decide_eq_true_eq, Bool.not_true, Bool.not_false, if_true, Bool.false_eq_true, if_false, setSl, len_lst, len_tup, int_i, int_bl, abs_i, min_i, max_i, tup_t, tup_l, newL_F, newL_T, List.map_cons, List.map_nil, List.append_nil, List.nil_append, List.cons_append, Nat.reduceAdd, Nat.reduceSub, List.replicate_succ, List.replicate_zero, retF, retXF, RL.add_ll, RL.add_t, RL.sl_tup, RL.sl_lst, RL.sl_scr, RL.mul_t, RL.str_int, List.zip_nil_left, List.zip_cons_cons]
  by_cases hv : ∃ xs, v = .tup xs
  · obtain ⟨xs, rfl⟩ := hv
    simp only [is_tup, bindT, bindTs, wpB, wpS, wpE, wpEs, wpO, wpC, wpIs, wpMs, ex_some, ex_some1, ex_bl, ex_int, ex_tup, List.getElem?_cons_zero, List.getElem?_cons_succ, List.set_cons_zero, List.set_cons_succ, List.length_cons, List.length_nil, Atom.pv, add_i, sub_i, mul_i, mod_i, fdiv_i, pow_i, lt_i, le_i, gt_i, ge_i, eq_, ne_, in_e, nin_e, is_n, isnot_n, idx_tup, idx_lst, eqP_int, eqP_str, atI_0, atI_1, atI_2, ixN_0, ixN_1, ixN_2, decide_eq_true_eq, Bool.not_true, Bool.not_false, if_true, Bool.false_eq_true, if_false, setSl, len_lst, len_tup, int_i, int_bl, abs_i, min_i, max_i, tup_t, tup_l, newL_F, newL_T, List.map_cons, List.map_nil, List.append_nil, List.nil_append, List.cons_append, Nat.reduceAdd, Nat.reduceSub, List.replicate_succ, List.replicate_zero, retF, retXF, RL.add_ll, RL.add_t, RL.sl_tup, RL.sl_lst, RL.sl_scr, RL.mul_t, RL.str_int, List.zip_nil_left, List.zip_cons_cons]
    by_cases hl : xs.length = n
    · rw [if_neg (by simp [hl])]
      refine ⟨_, rfl, ?_⟩
      have qe : pileErr n root (.tup xs) = (match fb (fun _ => okI 0 1000) 0 xs with
          | some i => .tup [.str "coins", .int (i : Int)]
          | none => if toI (at_ xs root) = 0 then .non else .str "root") := by rw [pileErr_t, if_pos hl]
      rw [qe] at q
      refine enum_find (okI 0 1000) (fun env => ∃ a b, env = [some (.tup [.int n, .tup (rs.map roadPV)]), some (.int root), some (.tup xs), a, b]) (fun i => Q (.tup [.str "coins", .int (i : Int)]) ph) (by rfl) ⟨none, none, rfl⟩ ?_ (fun i hi => by rw [hi] at q; exact q) (fun hn env he => ?_)
      · rintro i x env hx ⟨a, b, rfl⟩ N h1 h2
        refine ⟨_, rfl, rfl, by simp, by simp, ?_⟩
        (try simp only [bindT, bindTs, wpB, wpS, wpE, wpEs, wpO, wpC, wpIs, wpMs, ex_some, ex_some1, ex_bl, ex_int, ex_tup, List.getElem?_cons_zero, List.getElem?_cons_succ, List.set_cons_zero, List.set_cons_succ, List.length_cons, List.length_nil, Atom.pv, add_i, sub_i, mul_i, mod_i, fdiv_i, pow_i, lt_i, le_i, gt_i, ge_i, eq_, ne_, in_e, nin_e, is_n, isnot_n, idx_tup, idx_lst, eqP_int, eqP_str, atI_0, atI_1, atI_2, ixN_0, ixN_1, ixN_2, decide_eq_true_eq, Bool.not_true, Bool.not_false, if_true, Bool.false_eq_true, if_false, setSl, len_lst, len_tup, int_i, int_bl, abs_i, min_i, max_i, tup_t, tup_l, newL_F, newL_T, List.map_cons, List.map_nil, List.append_nil, List.nil_append, List.cons_append, Nat.reduceAdd, Nat.reduceSub, List.replicate_succ, List.replicate_zero, retF, retXF, RL.add_ll, RL.add_t, RL.sl_tup, RL.sl_lst, RL.sl_scr, RL.mul_t, RL.str_int, List.zip_nil_left, List.zip_cons_cons])
        refine ⟨_, hg, is_within_ok j l ?_⟩
        (try simp only [bindT, bindTs, wpB, wpS, wpE, wpEs, wpO, wpC, wpIs, wpMs, ex_some, ex_some1, ex_bl, ex_int, ex_tup, List.getElem?_cons_zero, List.getElem?_cons_succ, List.set_cons_zero, List.set_cons_succ, List.length_cons, List.length_nil, Atom.pv, add_i, sub_i, mul_i, mod_i, fdiv_i, pow_i, lt_i, le_i, gt_i, ge_i, eq_, ne_, in_e, nin_e, is_n, isnot_n, idx_tup, idx_lst, eqP_int, eqP_str, atI_0, atI_1, atI_2, ixN_0, ixN_1, ixN_2, decide_eq_true_eq, Bool.not_true, Bool.not_false, if_true, Bool.false_eq_true, if_false, setSl, len_lst, len_tup, int_i, int_bl, abs_i, min_i, max_i, tup_t, tup_l, newL_F, newL_T, List.map_cons, List.map_nil, List.append_nil, List.nil_append, List.cons_append, Nat.reduceAdd, Nat.reduceSub, List.replicate_succ, List.replicate_zero, retF, retXF, RL.add_ll, RL.add_t, RL.sl_tup, RL.sl_lst, RL.sl_scr, RL.mul_t, RL.str_int, List.zip_nil_left, List.zip_cons_cons])
        cases hx : okI 0 1000 x with
        | true => exact h1 hx _ ⟨_, _, rfl⟩
        | false => exact ⟨two, h2 hx⟩
      · obtain ⟨a, b, rfl⟩ := he
        rw [hn] at q
        (try simp only [bindT, bindTs, wpB, wpS, wpE, wpEs, wpO, wpC, wpIs, wpMs, ex_some, ex_some1, ex_bl, ex_int, ex_tup, List.getElem?_cons_zero, List.getElem?_cons_succ, List.set_cons_zero, List.set_cons_succ, List.length_cons, List.length_nil, Atom.pv, add_i, sub_i, mul_i, mod_i, fdiv_i, pow_i, lt_i, le_i, gt_i, ge_i, eq_, ne_, in_e, nin_e, is_n, isnot_n, idx_tup, idx_lst, eqP_int, eqP_str, atI_0, atI_1, atI_2, ixN_0, ixN_1, ixN_2, decide_eq_true_eq, Bool.not_true, Bool.not_false, if_true, Bool.false_eq_true, if_false, setSl, len_lst, len_tup, int_i, int_bl, abs_i, min_i, max_i, tup_t, tup_l, newL_F, newL_T, List.map_cons, List.map_nil, List.append_nil, List.nil_append, List.cons_append, Nat.reduceAdd, Nat.reduceSub, List.replicate_succ, List.replicate_zero, retF, retXF, RL.add_ll, RL.add_t, RL.sl_tup, RL.sl_lst, RL.sl_scr, RL.mul_t, RL.str_int, List.zip_nil_left, List.zip_cons_cons])
        obtain ⟨z, e1, e2⟩ := at_int (root := root) (by omega) hn
        refine ⟨_, e2, ?_⟩
        rw [e1] at q
        (try simp only [bindT, bindTs, wpB, wpS, wpE, wpEs, wpO, wpC, wpIs, wpMs, ex_some, ex_some1, ex_bl, ex_int, ex_tup, List.getElem?_cons_zero, List.getElem?_cons_succ, List.set_cons_zero, List.set_cons_succ, List.length_cons, List.length_nil, Atom.pv, add_i, sub_i, mul_i, mod_i, fdiv_i, pow_i, lt_i, le_i, gt_i, ge_i, eq_, ne_, in_e, nin_e, is_n, isnot_n, idx_tup, idx_lst, eqP_int, eqP_str, atI_0, atI_1, atI_2, ixN_0, ixN_1, ixN_2, decide_eq_true_eq, Bool.not_true, Bool.not_false, if_true, Bool.false_eq_true, if_false, setSl, len_lst, len_tup, int_i, int_bl, abs_i, min_i, max_i, tup_t, tup_l, newL_F, newL_T, List.map_cons, List.map_nil, List.append_nil, List.nil_append, List.cons_append, Nat.reduceAdd, Nat.reduceSub, List.replicate_succ, List.replicate_zero, retF, retXF, RL.add_ll, RL.add_t, RL.sl_tup, RL.sl_lst, RL.sl_scr, RL.mul_t, RL.str_int, List.zip_nil_left, List.zip_cons_cons])
        by_cases hz : z = 0
        · subst hz; rw [if_pos rfl]; exact q
        · rw [if_neg hz]; simpa [toI, hz] using q
    · have qe : pileErr n root (.tup xs) = .str "form" := by rw [pileErr_t, if_neg hl]
      rw [qe] at q
      rw [if_pos (by simp; omega)]
      exact q
  · have hv' : ∀ xs, v ≠ .tup xs := fun xs e => hv ⟨xs, e⟩
    rw [not_tup hv']
    (try simp only [bindT, bindTs, wpB, wpS, wpE, wpEs, wpO, wpC, wpIs, wpMs, ex_some, ex_some1, ex_bl, ex_int, ex_tup, List.getElem?_cons_zero, List.getElem?_cons_succ, List.set_cons_zero, List.set_cons_succ, List.length_cons, List.length_nil, Atom.pv, add_i, sub_i, mul_i, mod_i, fdiv_i, pow_i, lt_i, le_i, gt_i, ge_i, eq_, ne_, in_e, nin_e, is_n, isnot_n, idx_tup, idx_lst, eqP_int, eqP_str, atI_0, atI_1, atI_2, ixN_0, ixN_1, ixN_2, decide_eq_true_eq, Bool.not_true, Bool.not_false, if_true, Bool.false_eq_true, if_false, setSl, len_lst, len_tup, int_i, int_bl, abs_i, min_i, max_i, tup_t, tup_l, newL_F, newL_T, List.map_cons, List.map_nil, List.append_nil, List.nil_append, List.cons_append, Nat.reduceAdd, Nat.reduceSub, List.replicate_succ, List.replicate_zero, retF, retXF, RL.add_ll, RL.add_t, RL.sl_tup, RL.sl_lst, RL.sl_scr, RL.mul_t, RL.str_int, List.zip_nil_left, List.zip_cons_cons])
    rw [pileErr_no hv'] at q
    exact q
theorem fullest_ok {fr : Nat} (i : is_fullest pg f fr) (j : is_roads_of pg fr) {n root : Nat} {rs : List Rd2} (hn : n ≤ 1000) (hr : In2 n rs) (q : Q (pursePV (tab n fun v => if v = root then 0 else (deg rs v : Int) - 1)) ph) : callK pg (k + 2) f [townPV n rs, .int root] ph Q X := by
  refine i.call rfl ?_
  have hsz := sz
  simp only [b_fullest, bindT, bindTs, wpB, wpS, wpE, wpEs, wpO, wpC, wpIs, wpMs, ex_some, ex_some1, ex_bl, ex_int, ex_tup, List.getElem?_cons_zero, List.getElem?_cons_succ, List.set_cons_zero, List.set_cons_succ, List.length_cons, List.length_nil, Atom.pv, add_i, sub_i, mul_i, mod_i, fdiv_i, pow_i, lt_i, le_i, gt_i, ge_i, eq_, ne_, in_e, nin_e, is_n, isnot_n, idx_tup, idx_lst, eqP_int, eqP_str, atI_0, atI_1, atI_2, ixN_0, ixN_1, ixN_2, decide_eq_true_eq, Bool.not_true, Bool.not_false, if_true, Bool.false_eq_true, if_false, setSl, len_lst, len_tup, int_i, int_bl, abs_i, min_i, max_i, tup_t, tup_l, newL_F, newL_T, List.map_cons, List.map_nil, List.append_nil, List.nil_append, List.cons_append, Nat.reduceAdd, Nat.reduceSub, List.replicate_succ, List.replicate_zero, retF, retXF, RL.add_ll, RL.add_t, RL.sl_tup, RL.sl_lst, RL.sl_scr, RL.mul_t, RL.str_int, List.zip_nil_left, List.zip_cons_cons]
  refine roads_of_ok j hn hr ⟨_, rfl, ?_⟩
  have hl : (enumL 0 ((degs n rs).map PV.int)).length = n := by rw [enumL_len, List.length_map, degs, tab_len]
  refine compL_rule (fun i acc ph' => ph' = ph ∧ acc = ((tab n fun v => if v = root then 0 else (deg rs v : Int) - 1).take i).map .int) ?_ ?_ ⟨rfl, by simp⟩
  · rintro i v acc ph' hv ⟨rfl, rfl⟩
    obtain ⟨x, hx, rfl⟩ := enumL_at hv
    have hi : i < n := by have := (List.getElem?_eq_some_iff.mp hv).1; omega
    rw [List.getElem?_map, degs, get_nth (by rw [tab_len]; exact hi), nth_tab hi] at hx
    cases hx
    refine ⟨rfl, fun N hN => ⟨_, rfl, rfl, by simp [wipeE], by simp [wipeE], ?_⟩⟩
    simp only [wipeE, bindT, bindTs, wpB, wpS, wpE, wpEs, wpO, wpC, wpIs, wpMs, ex_some, ex_some1, ex_bl, ex_int, ex_tup, List.getElem?_cons_zero, List.getElem?_cons_succ, List.set_cons_zero, List.set_cons_succ, List.length_cons, List.length_nil, Atom.pv, add_i, sub_i, mul_i, mod_i, fdiv_i, pow_i, lt_i, le_i, gt_i, ge_i, eq_, ne_, in_e, nin_e, is_n, isnot_n, idx_tup, idx_lst, eqP_int, eqP_str, atI_0, atI_1, atI_2, ixN_0, ixN_1, ixN_2, decide_eq_true_eq, Bool.not_true, Bool.not_false, if_true, Bool.false_eq_true, if_false, setSl, len_lst, len_tup, int_i, int_bl, abs_i, min_i, max_i, tup_t, tup_l, newL_F, newL_T, List.map_cons, List.map_nil, List.append_nil, List.nil_append, List.cons_append, Nat.reduceAdd, Nat.reduceSub, List.replicate_succ, List.replicate_zero, retF, retXF, RL.add_ll, RL.add_t, RL.sl_tup, RL.sl_lst, RL.sl_scr, RL.mul_t, RL.str_int, List.zip_nil_left, List.zip_cons_cons]
    have e : ∀ z : Int, (if i = root then 0 else (deg rs i : Int) - 1) = z → ((tab n fun v => if v = root then 0 else (deg rs v : Int) - 1).take i).map PV.int ++ [.int z] = ((tab n fun v => if v = root then 0 else (deg rs v : Int) - 1).take (i + 1)).map .int := fun z hz => by
      rw [take_succ' (get_nth (by rw [tab_len]; exact hi)), nth_tab hi, hz, List.map_append]; rfl
    have hacc : (((tab n fun v => if v = root then 0 else (deg rs v : Int) - 1).take i).map PV.int).length < sizeLine := by rw [List.length_map, List.length_take, tab_len]; omega
    by_cases hz : i = root
    · rw [if_pos (by omega)]
      exact ⟨hacc, hN _ _ ⟨rfl, e 0 (by rw [if_pos hz])⟩⟩
    · rw [if_neg (by omega)]
      exact ⟨hacc, hN _ _ ⟨rfl, e _ (by rw [if_neg hz])⟩⟩
  · rintro acc ph' ⟨rfl, rfl⟩
    refine ⟨rfl, ?_⟩
    (try simp only [bindT, bindTs, wpB, wpS, wpE, wpEs, wpO, wpC, wpIs, wpMs, ex_some, ex_some1, ex_bl, ex_int, ex_tup, List.getElem?_cons_zero, List.getElem?_cons_succ, List.set_cons_zero, List.set_cons_succ, List.length_cons, List.length_nil, Atom.pv, add_i, sub_i, mul_i, mod_i, fdiv_i, pow_i, lt_i, le_i, gt_i, ge_i, eq_, ne_, in_e, nin_e, is_n, isnot_n, idx_tup, idx_lst, eqP_int, eqP_str, atI_0, atI_1, atI_2, ixN_0, ixN_1, ixN_2, decide_eq_true_eq, Bool.not_true, Bool.not_false, if_true, Bool.false_eq_true, if_false, setSl, len_lst, len_tup, int_i, int_bl, abs_i, min_i, max_i, tup_t, tup_l, newL_F, newL_T, List.map_cons, List.map_nil, List.append_nil, List.nil_append, List.cons_append, Nat.reduceAdd, Nat.reduceSub, List.replicate_succ, List.replicate_zero, retF, retXF, RL.add_ll, RL.add_t, RL.sl_tup, RL.sl_lst, RL.sl_scr, RL.mul_t, RL.str_int, List.zip_nil_left, List.zip_cons_cons])
    have e : ((tab n fun v => if v = root then 0 else (deg rs v : Int) - 1).take (enumL 0 ((degs n rs).map PV.int)).length) = tab n fun v => if v = root then 0 else (deg rs v : Int) - 1 := by rw [hl, List.take_of_length_le (by rw [tab_len]; omega)]
    rw [e]
    exact ⟨by rw [List.length_map, tab_len]; omega, q⟩
/-! ### toppling -/
def canT (n : Nat) (rs : List Rd2) (root : Nat) (p : List Int) : PV → PV → Bool
  | .int h, .int m => decide (0 ≤ h ∧ h < n ∧ h ≠ root ∧ 1 ≤ m ∧ m * deg rs h.toNat ≤ nth p h.toNat)
  | _, _ => false
def cntN (xs : List Nat) (v : Nat) : Nat := xs.countP (· == v)
def movd (n : Nat) (rs : List Rd2) (root : Nat) (p : List Int) (h : Nat) (m : Int) : List Int :=
  tab n fun v => if v = root then 0 else nth p v - (if v = h then m * (nbrs rs h).length else 0) + m * cntN (nbrs rs h) v
def geOne : PV → Bool
  | .int m => decide (1 ≤ m)
  | _ => false
theorem within_self {fw fn : Nat} (j : is_is_within pg fw fn) (l : is_is_number pg fn) {v : PV} (q : Q (.bl (geOne v)) ph) : callK pg (k + 2) fw [v, .int 1, v] ph Q X := by
  refine j.call rfl ?_
  simp only [b_is_within, bindT, bindTs, wpB, wpS, wpE, wpEs, wpO, wpC, wpIs, wpMs, ex_some, ex_some1, ex_bl, ex_int, ex_tup, List.getElem?_cons_zero, List.getElem?_cons_succ, List.set_cons_zero, List.set_cons_succ, List.length_cons, List.length_nil, Atom.pv, add_i, sub_i, mul_i, mod_i, fdiv_i, pow_i, lt_i, le_i, gt_i, ge_i, eq_, ne_, in_e, nin_e, is_n, isnot_n, idx_tup, idx_lst, eqP_int, eqP_str, atI_0, atI_1, atI_2, ixN_0, ixN_1, ixN_2, decide_eq_true_eq, Bool.not_true, Bool.not_false, if_true, Bool.false_eq_true, if_false, setSl, len_lst, len_tup, int_i, int_bl, abs_i, min_i, max_i, tup_t, tup_l, newL_F, newL_T, List.map_cons, List.map_nil, List.append_nil, List.nil_append, List.cons_append, Nat.reduceAdd, Nat.reduceSub, List.replicate_succ, List.replicate_zero, retF, retXF, RL.add_ll, RL.add_t, RL.sl_tup, RL.sl_lst, RL.sl_scr, RL.mul_t, RL.str_int, List.zip_nil_left, List.zip_cons_cons]
  refine is_number_ok l fun b hb => ⟨b, rfl, ?_⟩
  cases b with
  | false =>
    have e : geOne v = false := by
      cases v with
      | int i => exact absurd (hb.mpr ⟨i, rfl⟩) (by simp)
      | _ => rfl
    rw [e] at q
    exact (show Q (.bl false) ph from q)
  | true =>
    obtain ⟨i, rfl⟩ := hb.mp rfl
    simp only [bindT, bindTs, wpB, wpS, wpE, wpEs, wpO, wpC, wpIs, wpMs, ex_some, ex_some1, ex_bl, ex_int, ex_tup, List.getElem?_cons_zero, List.getElem?_cons_succ, List.set_cons_zero, List.set_cons_succ, List.length_cons, List.length_nil, Atom.pv, add_i, sub_i, mul_i, mod_i, fdiv_i, pow_i, lt_i, le_i, gt_i, ge_i, eq_, ne_, in_e, nin_e, is_n, isnot_n, idx_tup, idx_lst, eqP_int, eqP_str, atI_0, atI_1, atI_2, ixN_0, ixN_1, ixN_2, decide_eq_true_eq, Bool.not_true, Bool.not_false, if_true, Bool.false_eq_true, if_false, setSl, len_lst, len_tup, int_i, int_bl, abs_i, min_i, max_i, tup_t, tup_l, newL_F, newL_T, List.map_cons, List.map_nil, List.append_nil, List.nil_append, List.cons_append, Nat.reduceAdd, Nat.reduceSub, List.replicate_succ, List.replicate_zero, retF, retXF, RL.add_ll, RL.add_t, RL.sl_tup, RL.sl_lst, RL.sl_scr, RL.mul_t, RL.str_int, List.zip_nil_left, List.zip_cons_cons]
    have q' : Q (.bl (decide (1 ≤ i))) ph := q
    by_cases h1 : 1 ≤ i
    · rw [if_pos h1]
      rw [decide_eq_true h1] at q'
      have e : decide (i ≤ i) = true := by simp
      rw [e]; exact q'
    · rw [if_neg h1]
      rw [decide_eq_false h1] at q'; exact q'
theorem can_topple_ok {fw fn fr : Nat} (i : is_can_topple pg f fw fr) (j : is_is_within pg fw fn) (l : is_is_number pg fn) (o : is_roads_of pg fr) {n root : Nat} {rs : List Rd2} {p : List Int} {hv mv : PV} (hn : n ≤ 1000) (hl : rs.length ≤ 1000) (hr : In2 n rs) (pl : p.length = n)
    (hb : ∀ m, mv = .int m → -10000000000000000000000000000000000000000 ≤ m ∧ m ≤ 10000000000000000000000000000000000000000) (q : Q (.bl (canT n rs root p hv mv)) ph) : callK pg (k + 3) f [townPV n rs, .int root, pursePV p, hv, mv] ph Q X := by
  refine i.call rfl ?_
  simp only [b_can_topple, townPV, pursePV, bindT, bindTs, wpB, wpS, wpE, wpEs, wpO, wpC, wpIs, wpMs, ex_some, ex_some1, ex_bl, ex_int, ex_tup, List.getElem?_cons_zero, List.getElem?_cons_succ, List.set_cons_zero, List.set_cons_succ, List.length_cons, List.length_nil, Atom.pv, add_i, sub_i, mul_i, mod_i, fdiv_i, pow_i, lt_i, le_i, gt_i, ge_i, eq_, ne_, in_e, nin_e, is_n, isnot_n, idx_tup, idx_lst, eqP_int, eqP_str, atI_0, atI_1, atI_2, ixN_0, ixN_1, ixN_2, decide_eq_true_eq, Bool.not_true, Bool.not_false, if_true, Bool.false_eq_true, if_false, setSl, len_lst, len_tup, int_i, int_bl, abs_i, min_i, max_i, tup_t, tup_l, newL_F, newL_T, List.map_cons, List.map_nil, List.append_nil, List.nil_append, List.cons_append, Nat.reduceAdd, Nat.reduceSub, List.replicate_succ, List.replicate_zero, retF, retXF, RL.add_ll, RL.add_t, RL.sl_tup, RL.sl_lst, RL.sl_scr, RL.mul_t, RL.str_int, List.zip_nil_left, List.zip_cons_cons]
  refine is_within_ok j l ⟨_, rfl, ?_⟩
  cases hw : okI 0 ((n : Int) - 1) hv with
  | false =>
    have e : canT n rs root p hv mv = false := by
      cases hv with
      | int h =>
        cases mv with
        | int m =>
          have hw' : decide (0 ≤ h ∧ h ≤ (n : Int) - 1) = false := hw
          have hw2 := of_decide_eq_false hw'
          exact decide_eq_false (by omega)
        | _ => rfl
      | _ => rfl
    rw [e] at q
    exact q
  | true =>
    obtain ⟨h, rfl⟩ : ∃ h, hv = .int h := by
      cases hv with
      | int h => exact ⟨h, rfl⟩
      | _ => cases hw
    have hw' : decide (0 ≤ h ∧ h ≤ (n : Int) - 1) = true := hw
    have hb2 := of_decide_eq_true hw'
    obtain ⟨h, rfl⟩ : ∃ h' : Nat, (h' : Int) = h := ⟨h.toNat, by omega⟩
    simp only [bindT, bindTs, wpB, wpS, wpE, wpEs, wpO, wpC, wpIs, wpMs, ex_some, ex_some1, ex_bl, ex_int, ex_tup, List.getElem?_cons_zero, List.getElem?_cons_succ, List.set_cons_zero, List.set_cons_succ, List.length_cons, List.length_nil, Atom.pv, add_i, sub_i, mul_i, mod_i, fdiv_i, pow_i, lt_i, le_i, gt_i, ge_i, eq_, ne_, in_e, nin_e, is_n, isnot_n, idx_tup, idx_lst, eqP_int, eqP_str, atI_0, atI_1, atI_2, ixN_0, ixN_1, ixN_2, decide_eq_true_eq, Bool.not_true, Bool.not_false, if_true, Bool.false_eq_true, if_false, setSl, len_lst, len_tup, int_i, int_bl, abs_i, min_i, max_i, tup_t, tup_l, newL_F, newL_T, List.map_cons, List.map_nil, List.append_nil, List.nil_append, List.cons_append, Nat.reduceAdd, Nat.reduceSub, List.replicate_succ, List.replicate_zero, retF, retXF, RL.add_ll, RL.add_t, RL.sl_tup, RL.sl_lst, RL.sl_scr, RL.mul_t, RL.str_int, List.zip_nil_left, List.zip_cons_cons]
    by_cases hroot : (h : Int) = root
    · have e : canT n rs root p (.int h) mv = false := by
        cases mv with
        | int m => exact decide_eq_false (by omega)
        | _ => rfl
      rw [e] at q
      rw [if_pos hroot]; exact q
    · rw [if_neg hroot]
      refine within_self j l ⟨_, rfl, ?_⟩
      cases mv with
      | int m =>
        by_cases hm : 1 ≤ m
        · have e1 : geOne (.int m) = true := decide_eq_true hm
          simp only [e1, bindT, bindTs, wpB, wpS, wpE, wpEs, wpO, wpC, wpIs, wpMs, ex_some, ex_some1, ex_bl, ex_int, ex_tup, List.getElem?_cons_zero, List.getElem?_cons_succ, List.set_cons_zero, List.set_cons_succ, List.length_cons, List.length_nil, Atom.pv, add_i, sub_i, mul_i, mod_i, fdiv_i, pow_i, lt_i, le_i, gt_i, ge_i, eq_, ne_, in_e, nin_e, is_n, isnot_n, idx_tup, idx_lst, eqP_int, eqP_str, atI_0, atI_1, atI_2, ixN_0, ixN_1, ixN_2, decide_eq_true_eq, Bool.not_true, Bool.not_false, if_true, Bool.false_eq_true, if_false, setSl, len_lst, len_tup, int_i, int_bl, abs_i, min_i, max_i, tup_t, tup_l, newL_F, newL_T, List.map_cons, List.map_nil, List.append_nil, List.nil_append, List.cons_append, Nat.reduceAdd, Nat.reduceSub, List.replicate_succ, List.replicate_zero, retF, retXF, RL.add_ll, RL.add_t, RL.sl_tup, RL.sl_lst, RL.sl_scr, RL.mul_t, RL.str_int, List.zip_nil_left, List.zip_cons_cons]
          refine ⟨_, atI_nth (by omega), ?_⟩
          refine roads_of_ok o hn hr ?_
          simp only [pursePV, bindT, bindTs, wpB, wpS, wpE, wpEs, wpO, wpC, wpIs, wpMs, ex_some, ex_some1, ex_bl, ex_int, ex_tup, List.getElem?_cons_zero, List.getElem?_cons_succ, List.set_cons_zero, List.set_cons_succ, List.length_cons, List.length_nil, Atom.pv, add_i, sub_i, mul_i, mod_i, fdiv_i, pow_i, lt_i, le_i, gt_i, ge_i, eq_, ne_, in_e, nin_e, is_n, isnot_n, idx_tup, idx_lst, eqP_int, eqP_str, atI_0, atI_1, atI_2, ixN_0, ixN_1, ixN_2, decide_eq_true_eq, Bool.not_true, Bool.not_false, if_true, Bool.false_eq_true, if_false, setSl, len_lst, len_tup, int_i, int_bl, abs_i, min_i, max_i, tup_t, tup_l, newL_F, newL_T, List.map_cons, List.map_nil, List.append_nil, List.nil_append, List.cons_append, Nat.reduceAdd, Nat.reduceSub, List.replicate_succ, List.replicate_zero, retF, retXF, RL.add_ll, RL.add_t, RL.sl_tup, RL.sl_lst, RL.sl_scr, RL.mul_t, RL.str_int, List.zip_nil_left, List.zip_cons_cons]
          have := hb m rfl
          have hd := deg_le (rs := rs) (v := h)
          refine ⟨_, atI_tab (by omega), mulOk_small (by omega) (by omega) (by omega) (by omega), ?_⟩
          have e : canT n rs root p (.int h) (.int m) = decide (m * (deg rs h : Int) ≤ nth p h) := by
            unfold canT
            rw [decide_eq_decide, Int.toNat_natCast]
            exact ⟨fun z => z.2.2.2.2, fun z => ⟨by omega, by omega, by omega, hm, z⟩⟩
          rw [e] at q; exact q
        · have e : canT n rs root p (.int h) (.int m) = false := decide_eq_false (by omega)
          rw [e] at q
          have e1 : geOne (.int m) = false := decide_eq_false hm
          simp only [e1, bindT, bindTs, wpB, wpS, wpE, wpEs, wpO, wpC, wpIs, wpMs, ex_some, ex_some1, ex_bl, ex_int, ex_tup, List.getElem?_cons_zero, List.getElem?_cons_succ, List.set_cons_zero, List.set_cons_succ, List.length_cons, List.length_nil, Atom.pv, add_i, sub_i, mul_i, mod_i, fdiv_i, pow_i, lt_i, le_i, gt_i, ge_i, eq_, ne_, in_e, nin_e, is_n, isnot_n, idx_tup, idx_lst, eqP_int, eqP_str, atI_0, atI_1, atI_2, ixN_0, ixN_1, ixN_2, decide_eq_true_eq, Bool.not_true, Bool.not_false, if_true, Bool.false_eq_true, if_false, setSl, len_lst, len_tup, int_i, int_bl, abs_i, min_i, max_i, tup_t, tup_l, newL_F, newL_T, List.map_cons, List.map_nil, List.append_nil, List.nil_append, List.cons_append, Nat.reduceAdd, Nat.reduceSub, List.replicate_succ, List.replicate_zero, retF, retXF, RL.add_ll, RL.add_t, RL.sl_tup, RL.sl_lst, RL.sl_scr, RL.mul_t, RL.str_int, List.zip_nil_left, List.zip_cons_cons]; exact q
      | _ => exact q
theorem moved_ok {fb fo : Nat} (i : is_moved pg f fb) (j : is_neighbours pg fb fo) (l : is_other_end pg fo) {n root h : Nat} {rs : List Rd2} {p : List Int} {m : Int} (hn : n ≤ 1000) (hl : rs.length ≤ 1000) (hr : In2 n rs) (pl : p.length = n) (hh : h < n) (ho : root < n)
    (hb : -10000000000000000000000000000000000000000 ≤ m ∧ m ≤ 10000000000000000000000000000000000000000) (q : Q (pursePV (movd n rs root p h m)) ph) : callK pg (k + 3) f [townPV n rs, .int root, pursePV p, .int h, .int m] ph Q X := by
  refine i.call rfl ?_
  have hsz := sz
  have hnl : (nbrs rs h).length ≤ rs.length := by
    unfold nbrs; rw [List.length_map]; exact List.length_filter_le _ _
  simp only [b_moved, bindT, bindTs, wpB, wpS, wpE, wpEs, wpO, wpC, wpIs, wpMs, ex_some, ex_some1, ex_bl, ex_int, ex_tup, List.getElem?_cons_zero, List.getElem?_cons_succ, List.set_cons_zero, List.set_cons_succ, List.length_cons, List.length_nil, Atom.pv, add_i, sub_i, mul_i, mod_i, fdiv_i, pow_i, lt_i, le_i, gt_i, ge_i, eq_, ne_, in_e, nin_e, is_n, isnot_n, idx_tup, idx_lst, eqP_int, eqP_str, atI_0, atI_1, atI_2, ixN_0, ixN_1, ixN_2, decide_eq_true_eq, Bool.not_true, Bool.not_false, if_true, Bool.false_eq_true, if_false, setSl, len_lst, len_tup, int_i, int_bl, abs_i, min_i, max_i, tup_t, tup_l, newL_F, newL_T, List.map_cons, List.map_nil, List.append_nil, List.nil_append, List.cons_append, Nat.reduceAdd, Nat.reduceSub, List.replicate_succ, List.replicate_zero, retF, retXF, RL.add_ll, RL.add_t, RL.sl_tup, RL.sl_lst, RL.sl_scr, RL.mul_t, RL.str_int, List.zip_nil_left, List.zip_cons_cons]
  refine list_of (xs := p.map .int) rfl (newL_t (by rw [List.length_map]; omega) ?_)
  refine neighbours_ok j l (by omega) ?_
  simp only [bindT, bindTs, wpB, wpS, wpE, wpEs, wpO, wpC, wpIs, wpMs, ex_some, ex_some1, ex_bl, ex_int, ex_tup, List.getElem?_cons_zero, List.getElem?_cons_succ, List.set_cons_zero, List.set_cons_succ, List.length_cons, List.length_nil, Atom.pv, add_i, sub_i, mul_i, mod_i, fdiv_i, pow_i, lt_i, le_i, gt_i, ge_i, eq_, ne_, in_e, nin_e, is_n, isnot_n, idx_tup, idx_lst, eqP_int, eqP_str, atI_0, atI_1, atI_2, ixN_0, ixN_1, ixN_2, decide_eq_true_eq, Bool.not_true, Bool.not_false, if_true, Bool.false_eq_true, if_false, setSl, len_lst, len_tup, int_i, int_bl, abs_i, min_i, max_i, tup_t, tup_l, newL_F, newL_T, List.map_cons, List.map_nil, List.append_nil, List.nil_append, List.cons_append, Nat.reduceAdd, Nat.reduceSub, List.replicate_succ, List.replicate_zero, retF, retXF, RL.add_ll, RL.add_t, RL.sl_tup, RL.sl_lst, RL.sl_scr, RL.mul_t, RL.str_int, List.zip_nil_left, List.zip_cons_cons]
  rw [idx_ref pg0]
  refine ⟨_, atI_nth (by omega), ?_⟩
  simp only [bindT, bindTs, wpB, wpS, wpE, wpEs, wpO, wpC, wpIs, wpMs, ex_some, ex_some1, ex_bl, ex_int, ex_tup, List.getElem?_cons_zero, List.getElem?_cons_succ, List.set_cons_zero, List.set_cons_succ, List.length_cons, List.length_nil, Atom.pv, add_i, sub_i, mul_i, mod_i, fdiv_i, pow_i, lt_i, le_i, gt_i, ge_i, eq_, ne_, in_e, nin_e, is_n, isnot_n, idx_tup, idx_lst, eqP_int, eqP_str, atI_0, atI_1, atI_2, ixN_0, ixN_1, ixN_2, decide_eq_true_eq, Bool.not_true, Bool.not_false, if_true, Bool.false_eq_true, if_false, setSl, len_lst, len_tup, int_i, int_bl, abs_i, min_i, max_i, tup_t, tup_l, newL_F, newL_T, List.map_cons, List.map_nil, List.append_nil, List.nil_append, List.cons_append, Nat.reduceAdd, Nat.reduceSub, List.replicate_succ, List.replicate_zero, retF, retXF, RL.add_ll, RL.add_t, RL.sl_tup, RL.sl_lst, RL.sl_scr, RL.mul_t, RL.str_int, List.zip_nil_left, List.zip_cons_cons]
  rw [nats_len]
  refine ⟨mulOk_small (by omega) (by omega) (by omega) (by omega), ?_⟩
  rw [seti_ref pg0]
  refine ⟨h, ixN_nat (by rw [List.length_map]; omega), ?_⟩
  rw [ps0, set_int]
  refine ⟨_, rfl, ?_⟩
  have e0 : p.set h (nth p h - m * (nbrs rs h).length) = tab n fun v => nth p v - (if v = h then m * (nbrs rs h).length else 0) + m * cntN ((nbrs rs h).take 0) v := by
    refine (tab_of (by rw [List.length_set]; exact pl)).trans (tab_congr fun v hv => ?_)
    rw [nth_set (by omega)]
    by_cases e : v = h
    · subst e; simp [cntN]
    · simp [cntN, e]
  rw [e0]
  refine forL_rule (fun i env ph' => ∃ a, env = [some (townPV n rs), some (.int root), some (pursePV p), some (.int h), some (.int m), a, some (.ref ph.length), some (.lst (natsPV (nbrs rs h)))] ∧ ph' = ph ++ [.lst ((tab n fun v => nth p v - (if v = h then m * (nbrs rs h).length else 0) + m * cntN ((nbrs rs h).take i) v).map .int)]) ?_ ?_ ⟨none, rfl, rfl⟩
  · rintro i v env ph' hv ⟨a, rfl, rfl⟩
    rw [natsPV, List.getElem?_map, Option.map_eq_some_iff] at hv
    obtain ⟨w, hw, rfl⟩ := hv
    have hwn := nbrs_in hr (h := h) w (List.mem_of_getElem? hw)
    refine ⟨rfl, fun N hN => ⟨by simp, ?_⟩⟩
    (try simp only [bindT, bindTs, wpB, wpS, wpE, wpEs, wpO, wpC, wpIs, wpMs, ex_some, ex_some1, ex_bl, ex_int, ex_tup, List.getElem?_cons_zero, List.getElem?_cons_succ, List.set_cons_zero, List.set_cons_succ, List.length_cons, List.length_nil, Atom.pv, add_i, sub_i, mul_i, mod_i, fdiv_i, pow_i, lt_i, le_i, gt_i, ge_i, eq_, ne_, in_e, nin_e, is_n, isnot_n, idx_tup, idx_lst, eqP_int, eqP_str, atI_0, atI_1, atI_2, ixN_0, ixN_1, ixN_2, decide_eq_true_eq, Bool.not_true, Bool.not_false, if_true, Bool.false_eq_true, if_false, setSl, len_lst, len_tup, int_i, int_bl, abs_i, min_i, max_i, tup_t, tup_l, newL_F, newL_T, List.map_cons, List.map_nil, List.append_nil, List.nil_append, List.cons_append, Nat.reduceAdd, Nat.reduceSub, List.replicate_succ, List.replicate_zero, retF, retXF, RL.add_ll, RL.add_t, RL.sl_tup, RL.sl_lst, RL.sl_scr, RL.mul_t, RL.str_int, List.zip_nil_left, List.zip_cons_cons])
    rw [idx_ref pg0]
    refine ⟨_, atI_tab hwn, ?_⟩
    (try simp only [bindT, bindTs, wpB, wpS, wpE, wpEs, wpO, wpC, wpIs, wpMs, ex_some, ex_some1, ex_bl, ex_int, ex_tup, List.getElem?_cons_zero, List.getElem?_cons_succ, List.set_cons_zero, List.set_cons_succ, List.length_cons, List.length_nil, Atom.pv, add_i, sub_i, mul_i, mod_i, fdiv_i, pow_i, lt_i, le_i, gt_i, ge_i, eq_, ne_, in_e, nin_e, is_n, isnot_n, idx_tup, idx_lst, eqP_int, eqP_str, atI_0, atI_1, atI_2, ixN_0, ixN_1, ixN_2, decide_eq_true_eq, Bool.not_true, Bool.not_false, if_true, Bool.false_eq_true, if_false, setSl, len_lst, len_tup, int_i, int_bl, abs_i, min_i, max_i, tup_t, tup_l, newL_F, newL_T, List.map_cons, List.map_nil, List.append_nil, List.nil_append, List.cons_append, Nat.reduceAdd, Nat.reduceSub, List.replicate_succ, List.replicate_zero, retF, retXF, RL.add_ll, RL.add_t, RL.sl_tup, RL.sl_lst, RL.sl_scr, RL.mul_t, RL.str_int, List.zip_nil_left, List.zip_cons_cons])
    rw [seti_ref pg0]
    refine ⟨w, ixN_nat (by rw [List.length_map, tab_len]; exact hwn), ?_⟩
    rw [ps0, set_int, tab_set hwn]
    refine hN _ _ ⟨_, rfl, ?_⟩
    congr 3
    refine congrArg (List.map PV.int) (tab_congr fun v hv => ?_)
    rw [take_succ' hw]
    unfold cntN
    rw [List.countP_append, List.countP_cons, List.countP_nil]
    by_cases e : v = w
    · subst e; simp [Int.mul_add]; omega
    · have e2 : (w == v) = false := by simpa using Ne.symm e
      simp [e, e2]
  · rintro env ph' ⟨a, rfl, rfl⟩
    refine ⟨rfl, ?_⟩
    (try simp only [bindT, bindTs, wpB, wpS, wpE, wpEs, wpO, wpC, wpIs, wpMs, ex_some, ex_some1, ex_bl, ex_int, ex_tup, List.getElem?_cons_zero, List.getElem?_cons_succ, List.set_cons_zero, List.set_cons_succ, List.length_cons, List.length_nil, Atom.pv, add_i, sub_i, mul_i, mod_i, fdiv_i, pow_i, lt_i, le_i, gt_i, ge_i, eq_, ne_, in_e, nin_e, is_n, isnot_n, idx_tup, idx_lst, eqP_int, eqP_str, atI_0, atI_1, atI_2, ixN_0, ixN_1, ixN_2, decide_eq_true_eq, Bool.not_true, Bool.not_false, if_true, Bool.false_eq_true, if_false, setSl, len_lst, len_tup, int_i, int_bl, abs_i, min_i, max_i, tup_t, tup_l, newL_F, newL_T, List.map_cons, List.map_nil, List.append_nil, List.nil_append, List.cons_append, Nat.reduceAdd, Nat.reduceSub, List.replicate_succ, List.replicate_zero, retF, retXF, RL.add_ll, RL.add_t, RL.sl_tup, RL.sl_lst, RL.sl_scr, RL.mul_t, RL.str_int, List.zip_nil_left, List.zip_cons_cons])
    rw [nats_len, List.take_length, seti_ref pg0]
    refine ⟨root, ixN_nat (by rw [List.length_map, tab_len]; exact ho), ?_⟩
    rw [ps0, set_int, tab_set ho, tup_r pg0]
    refine ret_newO (oldL_ints _ |> Old.tup) ?_
    have e : (tab n fun v => if v = root then 0 else nth p v - (if v = h then m * (nbrs rs h).length else 0) + m * cntN (nbrs rs h) v) = movd n rs root p h m := rfl
    rw [e]; exact q
theorem toppled_ok {ct fm fb fo fw fn fr c : Nat} (i : is_toppled pg f ct fm c) (i2 : is_can_topple pg ct fw fr) (j : is_is_within pg fw fn) (l : is_is_number pg fn) (o : is_roads_of pg fr) (i3 : is_moved pg fm fb) (j3 : is_neighbours pg fb fo) (l3 : is_other_end pg fo) {n root : Nat} {rs : List Rd2} {p : List Int} {hv mv : PV} (hn : n ≤ 1000) (hl : rs.length ≤ 1000) (hr : In2 n rs) (pl : p.length = n) (ho : root < n)
    (hb : ∀ m, mv = .int m → -10000000000000000000000000000000000000000 ≤ m ∧ m ≤ 10000000000000000000000000000000000000000)
    (q : ∀ h m, hv = .int (h : Nat) → mv = .int m → h < n → canT n rs root p hv mv = true → Q (pursePV (movd n rs root p h m)) ph) (qx : canT n rs root p hv mv = false → X ⟨c, none⟩ ph) : callK pg (k + 4) f [townPV n rs, .int root, pursePV p, hv, mv] ph Q X := by
  refine i.call rfl ?_
  simp only [b_toppled, bindT, bindTs, wpB, wpS, wpE, wpEs, wpO, wpC, wpIs, wpMs, ex_some, ex_some1, ex_bl, ex_int, ex_tup, List.getElem?_cons_zero, List.getElem?_cons_succ, List.set_cons_zero, List.set_cons_succ, List.length_cons, List.length_nil, Atom.pv, add_i, sub_i, mul_i, mod_i, fdiv_i, pow_i, lt_i, le_i, gt_i, ge_i, eq_, ne_, in_e, nin_e, is_n, isnot_n, idx_tup, idx_lst, eqP_int, eqP_str, atI_0, atI_1, atI_2, ixN_0, ixN_1, ixN_2, decide_eq_true_eq, Bool.not_true, Bool.not_false, if_true, Bool.false_eq_true, if_false, setSl, len_lst, len_tup, int_i, int_bl, abs_i, min_i, max_i, tup_t, tup_l, newL_F, newL_T, List.map_cons, List.map_nil, List.append_nil, List.nil_append, List.cons_append, Nat.reduceAdd, Nat.reduceSub, List.replicate_succ, List.replicate_zero, retF, retXF, RL.add_ll, RL.add_t, RL.sl_tup, RL.sl_lst, RL.sl_scr, RL.mul_t, RL.str_int, List.zip_nil_left, List.zip_cons_cons]
  refine can_topple_ok i2 j l o hn hl hr pl hb ⟨_, rfl, ?_⟩
  cases hc : canT n rs root p hv mv with
  | false =>
    simp only [bindT, bindTs, wpB, wpS, wpE, wpEs, wpO, wpC, wpIs, wpMs, ex_some, ex_some1, ex_bl, ex_int, ex_tup, List.getElem?_cons_zero, List.getElem?_cons_succ, List.set_cons_zero, List.set_cons_succ, List.length_cons, List.length_nil, Atom.pv, add_i, sub_i, mul_i, mod_i, fdiv_i, pow_i, lt_i, le_i, gt_i, ge_i, eq_, ne_, in_e, nin_e, is_n, isnot_n, idx_tup, idx_lst, eqP_int, eqP_str, atI_0, atI_1, atI_2, ixN_0, ixN_1, ixN_2, decide_eq_true_eq, Bool.not_true, Bool.not_false, if_true, Bool.false_eq_true, if_false, setSl, len_lst, len_tup, int_i, int_bl, abs_i, min_i, max_i, tup_t, tup_l, newL_F, newL_T, List.map_cons, List.map_nil, List.append_nil, List.nil_append, List.cons_append, Nat.reduceAdd, Nat.reduceSub, List.replicate_succ, List.replicate_zero, retF, retXF, RL.add_ll, RL.add_t, RL.sl_tup, RL.sl_lst, RL.sl_scr, RL.mul_t, RL.str_int, List.zip_nil_left, List.zip_cons_cons]
    exact qx hc
  | true =>
    simp only [bindT, bindTs, wpB, wpS, wpE, wpEs, wpO, wpC, wpIs, wpMs, ex_some, ex_some1, ex_bl, ex_int, ex_tup, List.getElem?_cons_zero, List.getElem?_cons_succ, List.set_cons_zero, List.set_cons_succ, List.length_cons, List.length_nil, Atom.pv, add_i, sub_i, mul_i, mod_i, fdiv_i, pow_i, lt_i, le_i, gt_i, ge_i, eq_, ne_, in_e, nin_e, is_n, isnot_n, idx_tup, idx_lst, eqP_int, eqP_str, atI_0, atI_1, atI_2, ixN_0, ixN_1, ixN_2, decide_eq_true_eq, Bool.not_true, Bool.not_false, if_true, Bool.false_eq_true, if_false, setSl, len_lst, len_tup, int_i, int_bl, abs_i, min_i, max_i, tup_t, tup_l, newL_F, newL_T, List.map_cons, List.map_nil, List.append_nil, List.nil_append, List.cons_append, Nat.reduceAdd, Nat.reduceSub, List.replicate_succ, List.replicate_zero, retF, retXF, RL.add_ll, RL.add_t, RL.sl_tup, RL.sl_lst, RL.sl_scr, RL.mul_t, RL.str_int, List.zip_nil_left, List.zip_cons_cons]
    cases hv with
    | int h =>
      cases mv with
      | int m =>
        have := of_decide_eq_true (show decide (0 ≤ h ∧ h < n ∧ h ≠ root ∧ 1 ≤ m ∧ m * deg rs h.toNat ≤ nth p h.toNat) = true from hc)
        obtain ⟨h, rfl⟩ : ∃ h' : Nat, (h' : Int) = h := ⟨h.toNat, by omega⟩
        exact moved_ok i3 j3 l3 hn hl hr pl (by omega) ho (hb m rfl) (q h m rfl rfl (by omega) hc)
      | _ => cases hc
    | _ => cases hc
end
/-- what is lent along roads -/
theorem flow_one {rs : List Rd2} (hne : ∀ r ∈ rs, r.1 ≠ r.2) {h v : Nat} {m : Int} : flow rs (fun u => if u = h then m else 0) v = (if v = h then m * (nbrs rs h).length else 0) - m * cntN (nbrs rs h) v := by
  induction rs with
  | nil => simp [flow, nbrs, cntN]
  | cons r rs ih =>
    have ih := ih fun x hx => hne x (List.mem_cons_of_mem _ hx)
    have hr := hne r (List.mem_cons_self ..)
    rw [flow_cons, ih]
    unfold nbrs cntN step1 other
    dsimp only
    rw [List.filter_cons]
    by_cases h1 : r.1 = h
    · have h2 : ¬ r.2 = h := by omega
      have h3 : decide (h = r.1 ∨ h = r.2) = true := decide_eq_true (.inl h1.symm)
      rw [h3, if_pos rfl, List.map_cons, List.length_cons, List.countP_cons, if_pos h1, if_pos h1, if_neg h2]
      by_cases h4 : v = h
      · have h5 : ¬ v = r.2 := by omega
        have h6 : (r.2 == v) = false := by simpa using Ne.symm h5
        rw [if_pos h4, if_pos h4, if_pos (by omega), if_neg h5, h6]
        simp [Int.mul_add]; omega
      · rw [if_neg h4, if_neg h4, if_neg (by omega)]
        by_cases h5 : v = r.2
        · have h6 : (r.2 == v) = true := by simpa using h5.symm
          rw [if_pos h5, h6]; simp [Int.mul_add]; omega
        · have h6 : (r.2 == v) = false := by simpa using Ne.symm h5
          rw [if_neg h5, h6]; simp
    · by_cases h2 : r.2 = h
      · have h3 : decide (h = r.1 ∨ h = r.2) = true := decide_eq_true (.inr h2.symm)
        rw [h3, if_pos rfl, List.map_cons, List.length_cons, List.countP_cons, if_neg h1, if_pos h2, if_neg h1]
        by_cases h4 : v = h
        · have h5 : ¬ v = r.1 := by omega
          have h6 : (r.1 == v) = false := by simpa using Ne.symm h5
          rw [if_pos h4, if_pos h4, if_neg h5, if_pos (by omega), h6]
          simp [Int.mul_add]; omega
        · rw [if_neg h4, if_neg h4, if_neg (show ¬ v = r.2 by omega)]
          by_cases h5 : v = r.1
          · have h6 : (r.1 == v) = true := by simpa using h5.symm
            rw [if_pos h5, h6]; simp [Int.mul_add]; omega
          · have h6 : (r.1 == v) = false := by simpa using Ne.symm h5
            rw [if_neg h5, h6]; simp
      · have h3 : decide (h = r.1 ∨ h = r.2) = false := decide_eq_false (by omega)
        rw [h3, if_neg (show ¬ (false = true) by decide), if_neg h1, if_neg h2]
        simp
end RL

/-! RLFire: the fire through a town. -/
namespace RL
open PySem L2
/-! ### plain -/
def heat (rs : List Rd2) (B : Nat → Bool) (v : Nat) : Nat := rs.countP (fun r => r.1 == v && B r.2) + rs.countP (fun r => r.2 == v && B r.1)
theorem heat_nil {B : Nat → Bool} {v : Nat} : heat [] B v = 0 := rfl
theorem heat_snoc {rs : List Rd2} {a b v : Nat} {B : Nat → Bool} : heat (rs ++ [(a, b)]) B v = heat rs B v + ((if v = a ∧ B b = true then 1 else 0) + (if v = b ∧ B a = true then 1 else 0)) := by
  have e1 : (a == v) = decide (v = a) := by rw [Bool.eq_iff_iff, beq_iff_eq, decide_eq_true_iff]; exact eq_comm
  have e2 : (b == v) = decide (v = b) := by rw [Bool.eq_iff_iff, beq_iff_eq, decide_eq_true_iff]; exact eq_comm
  simp only [heat, List.countP_append, List.countP_cons, List.countP_nil, e1, e2, Bool.and_eq_true, decide_eq_true_iff]
  omega
theorem heat_le {rs : List Rd2} {B : Nat → Bool} {v : Nat} : heat rs B v ≤ 2 * rs.length := by
  have h1 := List.countP_le_length (p := fun r : Rd2 => r.1 == v && B r.2) (l := rs)
  have h2 := List.countP_le_length (p := fun r : Rd2 => r.2 == v && B r.1) (l := rs)
  unfold heat; omega
def addB (B : Nat → Bool) (F : List Nat) : Nat → Bool := fun v => B v || decide (v ∈ F)
theorem addB_nil {B : Nat → Bool} : addB B [] = B := by funext v; simp [addB]
theorem countP_or {α : Type} {p q r : α → Bool} {xs : List α} (h : ∀ x ∈ xs, p x = (q x || r x)) (hd : ∀ x ∈ xs, q x = true → r x = false) : xs.countP p = xs.countP q + xs.countP r := by
  induction xs with
  | nil => rfl
  | cons x xs ih =>
    have ih := ih (fun y hy => h y (List.mem_cons_of_mem _ hy)) fun y hy => hd y (List.mem_cons_of_mem _ hy)
    have h1 := h x (List.mem_cons_self ..)
    have h2 := hd x (List.mem_cons_self ..)
    rw [List.countP_cons, List.countP_cons, List.countP_cons, ih, h1]
    cases hq : q x with
    | true => rw [h2 hq]; simp; omega
    | false => cases r x <;> simp <;> omega
theorem heat_add {rs : List Rd2} {B : Nat → Bool} {F : List Nat} {v : Nat} (h : ∀ x ∈ F, B x = false) : heat rs (addB B F) v = heat rs B v + heat rs (fun x => decide (x ∈ F)) v := by
  have d : ∀ x, B x = true → decide (x ∈ F) = false := fun x hx => decide_eq_false fun hm => by rw [h x hm] at hx; cases hx
  have e1 := countP_or (xs := rs) (p := fun r : Rd2 => r.1 == v && addB B F r.2) (q := fun r => r.1 == v && B r.2) (r := fun r => r.1 == v && decide (r.2 ∈ F)) (fun x _ => by simp only [addB]; rw [Bool.and_or_distrib_left]) fun x _ hx => by
    rw [Bool.and_eq_true] at hx
    rw [d _ hx.2, Bool.and_false]
  have e2 := countP_or (xs := rs) (p := fun r : Rd2 => r.2 == v && addB B F r.1) (q := fun r => r.2 == v && B r.1) (r := fun r => r.2 == v && decide (r.1 ∈ F)) (fun x _ => by simp only [addB]; rw [Bool.and_or_distrib_left]) fun x _ hx => by
    rw [Bool.and_eq_true] at hx
    rw [d _ hx.2, Bool.and_false]
  unfold heat
  rw [e1, e2]
  dsimp only
  omega
def newF (n : Nat) (rs : List Rd2) (p : Nat → Int) (B : Nat → Bool) : List Nat := (List.range n).filter fun v => !B v && decide (p v < heat rs B v)
def coldL (n : Nat) (B : Nat → Bool) : List Nat := (List.range n).filter fun v => !B v
theorem mem_cold {n v : Nat} {B : Nat → Bool} : v ∈ coldL n B ↔ v < n ∧ B v = false := by simp [coldL]
theorem mem_new {n v : Nat} {rs : List Rd2} {p : Nat → Int} {B : Nat → Bool} : v ∈ newF n rs p B ↔ v < n ∧ B v = false ∧ p v < heat rs B v := by simp [newF]
theorem cold_le {n : Nat} {B : Nat → Bool} : (coldL n B).length ≤ n := by
  have := List.length_filter_le (fun v => !B v) (List.range n)
  rwa [List.length_range] at this
theorem cold_add {n : Nat} {B : Nat → Bool} {F : List Nat} : coldL n (addB B F) = (coldL n B).filter fun v => !decide (v ∈ F) := by
  unfold coldL
  rw [List.filter_filter]
  refine List.filter_congr fun v _ => ?_
  simp only [addB, Bool.not_or]
  rw [Bool.and_comm]
theorem new_cold {n : Nat} {rs : List Rd2} {p : Nat → Int} {B : Nat → Bool} : newF n rs p B = (coldL n B).filter fun v => decide (p v < heat rs B v) := by
  unfold coldL newF
  rw [List.filter_filter]
  refine List.filter_congr fun v _ => ?_
  rw [Bool.and_comm]
theorem cold_lt {n : Nat} {B : Nat → Bool} {F : List Nat} (hf : F ≠ []) (h : ∀ x ∈ F, x ∈ coldL n B) : (coldL n (addB B F)).length < (coldL n B).length := by
  rw [cold_add, List.length_filter_lt_length_iff_exists]
  obtain ⟨x, hx⟩ := List.exists_mem_of_ne_nil F hf
  exact ⟨x, h x hx, by simp [hx]⟩
theorem new_in {n : Nat} {rs : List Rd2} {p : Nat → Int} {B : Nat → Bool} : ∀ x ∈ newF n rs p B, x ∈ coldL n B := fun x hx => by
  have := mem_new.mp hx
  exact mem_cold.mpr ⟨this.1, this.2.1⟩
def fireR (n : Nat) (rs : List Rd2) (p : Nat → Int) : Nat → (Nat → Bool) → List (List Nat) × (Nat → Bool)
  | 0, B => ([], B)
  | k + 1, B => if newF n rs p B = [] then ([], B) else (newF n rs p B :: (fireR n rs p k (addB B (newF n rs p B))).1, (fireR n rs p k (addB B (newF n rs p B))).2)
theorem fireR_nil {n k : Nat} {rs : List Rd2} {p : Nat → Int} {B : Nat → Bool} (h : newF n rs p B = []) : fireR n rs p k B = ([], B) := by
  cases k with
  | zero => rfl
  | succ k => rw [fireR, if_pos h]
theorem fireR_new {n k : Nat} {rs : List Rd2} {p : Nat → Int} {B : Nat → Bool} (h : newF n rs p B ≠ []) : fireR n rs p (k + 1) B = (newF n rs p B :: (fireR n rs p k (addB B (newF n rs p B))).1, (fireR n rs p k (addB B (newF n rs p B))).2) := by rw [fireR, if_neg h]
theorem fire_stable {n : Nat} {rs : List Rd2} {p : Nat → Int} : ∀ (k : Nat) (B : Nat → Bool), (coldL n B).length ≤ k → newF n rs p (fireR n rs p k B).2 = []
  | 0, B, h => by
    show newF n rs p B = []
    rw [new_cold, List.length_eq_zero_iff.mp (Nat.le_zero.mp h)]; rfl
  | k + 1, B, h => by
    by_cases hn : newF n rs p B = []
    · rw [fireR_nil hn]; exact hn
    · rw [fireR_new hn]
      exact fire_stable k _ (by have := cold_lt hn new_in; omega)
theorem fire_mono {n : Nat} {rs : List Rd2} {p : Nat → Int} : ∀ (k : Nat) (B : Nat → Bool) (v : Nat), B v = true → (fireR n rs p k B).2 v = true
  | 0, B, v, h => h
  | k + 1, B, v, h => by
    by_cases hn : newF n rs p B = []
    · rw [fireR_nil hn]; exact h
    · rw [fireR_new hn]
      exact fire_mono k _ v (by simp [addB, h])
/-- what holds along the fire -/
theorem fire_inv {n : Nat} {rs : List Rd2} {p : Nat → Int} (I : (Nat → Bool) → Prop) (hs : ∀ B, I B → I (addB B (newF n rs p B))) : ∀ (k : Nat) (B : Nat → Bool), I B → I (fireR n rs p k B).2
  | 0, B, h => h
  | k + 1, B, h => by
    by_cases hn : newF n rs p B = []
    · rw [fireR_nil hn]; exact h
    · rw [fireR_new hn]
      exact fire_inv I hs k _ (hs B h)
theorem fire_len {n : Nat} {rs : List Rd2} {p : Nat → Int} : ∀ (k : Nat) (B : Nat → Bool), (fireR n rs p k B).1.length ≤ k
  | 0, B => Nat.le_refl _
  | k + 1, B => by
    by_cases hn : newF n rs p B = []
    · rw [fireR_nil hn]; simp
    · rw [fireR_new hn]
      have := fire_len (n := n) (rs := rs) (p := p) k (addB B (newF n rs p B))
      simp; omega
def at1 (root : Nat) : Nat → Bool := fun v => decide (v = root)
def fireW (n : Nat) (rs : List Rd2) (p : Nat → Int) (root : Nat) : List (List Nat) := [root] :: (fireR n rs p n (at1 root)).1
def fireE (n : Nat) (rs : List Rd2) (p : Nat → Int) (root : Nat) : Nat → Bool := (fireR n rs p n (at1 root)).2
def restL (n : Nat) (rs : List Rd2) (p : Nat → Int) (root : Nat) : List Nat := coldL n (fireE n rs p root)
def lotsPV (ls : List (List Nat)) : List PV := ls.map fun l => .tup (natsPV l)
def firePV (n : Nat) (rs : List Rd2) (p : Nat → Int) (root : Nat) : PV := .tup [.tup (lotsPV (fireW n rs p root)), .tup (natsPV (restL n rs p root))]
theorem old_lots {n : Nat} (ls : List (List Nat)) : OldL n (lotsPV ls) := oldL_all fun x hx => by
  obtain ⟨l, _, rfl⟩ := List.mem_map.mp hx
  exact .tup (old_nats l)
theorem addB_at {root : Nat} : addB (fun _ => false) [root] = at1 root := by funext v; simp [addB, at1]
/-! ### comprehensions over numbers -/
section
variable {still : PHp → Prop} {bind : PV → (Env → Prop) → Prop} {cnd : Env → PHp → (Bool → PHp → Prop) → Prop} {el : Env → PHp → QV → Prop} {Q : List PV → PHp → Prop} {ph : PHp}
theorem comp_natF {xs : List Nat} (p : Nat → Bool) (f : Nat → PV) (hst : still ph) (hl : xs.length ≤ sizeLine)
    (hs : ∀ x ∈ xs, ∀ (K : QV) (R : PHp → Prop), (p x = true → K (f x) ph) → (p x = false → R ph) → bind (.int (x : Int)) fun env' => cnd env' ph fun b ph1 => if b = true then el env' ph1 K else R ph1)
    (hq : Q ((xs.filter p).map f) ph) : compL still bind cnd el (natsPV xs) [] ph Q := comp_enc (fun x : Nat => PV.int (x : Int)) p f hst hl hs hq
theorem comp_rngF {n : Nat} (p : Nat → Bool) (f : Nat → PV) (hst : still ph) (hl : n ≤ 1000000)
    (hs : ∀ x, x < n → ∀ (K : QV) (R : PHp → Prop), (p x = true → K (f x) ph) → (p x = false → R ph) → bind (.int (x : Int)) fun env' => cnd env' ph fun b ph1 => if b = true then el env' ph1 K else R ph1)
    (hq : Q (((List.range n).filter p).map f) ph) : compL still bind cnd el (rngL 0 (n : Int) 1) [] ph Q := by
  have := sz
  rw [rng0_nats]
  exact comp_natF p f hst (by rw [List.length_range]; omega) (fun x hx => hs x (List.mem_range.mp hx)) hq
theorem comp_rngM {n : Nat} (f : Nat → PV) (hst : still ph) (hl : n ≤ 1000000)
    (hs : ∀ x, x < n → ∀ (K : QV) (R : PHp → Prop), K (f x) ph → bind (.int (x : Int)) fun env' => cnd env' ph fun b ph1 => if b = true then el env' ph1 K else R ph1)
    (hq : Q ((List.range n).map f) ph) : compL still bind cnd el (rngL 0 (n : Int) 1) [] ph Q :=
  comp_rngF (fun _ => true) f hst hl (fun x hx K R h _ => hs x hx K R (h rfl)) (by rw [List.filter_eq_self.mpr (by simp)]; exact hq)
end
theorem comp_natM {still : PHp → Prop} {bind : PV → (Env → Prop) → Prop} {cnd : Env → PHp → (Bool → PHp → Prop) → Prop} {el : Env → PHp → QV → Prop} {Q : List PV → PHp → Prop} {ph : PHp} {xs : List Nat} (f : Nat → PV) (hst : still ph) (hl : xs.length ≤ sizeLine)
    (hs : ∀ x ∈ xs, ∀ (K : QV) (R : PHp → Prop), K (f x) ph → bind (.int (x : Int)) fun env' => cnd env' ph fun b ph1 => if b = true then el env' ph1 K else R ph1)
    (hq : Q (xs.map f) ph) : compL still bind cnd el (natsPV xs) [] ph Q := comp_natF (fun _ => true) f hst hl (fun x hx K R h _ => hs x hx K R (h rfl)) (by rw [List.filter_eq_self.mpr (by simp)]; exact hq)
theorem enum_nats (xs : List Nat) : enumL 0 (natsPV xs) = (List.range xs.length).map fun v : Nat => PV.tup [.int (v : Int), .int ((xs.getD v 0 : Nat) : Int)] := by
  rw [nats_ints, enum_ints, List.length_map]
  refine List.map_congr_left fun v hv => ?_
  have : v < xs.length := List.mem_range.mp hv
  simp [nth, this]
theorem rngn_nats {m n : Nat} : rngL (m : Int) (n : Int) 1 = natsPV ((List.range (n - m)).map (m + ·)) := by
  apply List.ext_getElem?
  intro i
  by_cases h : i < n - m
  · have h1 : i < (rngL (m : Int) (n : Int) 1).length := by rw [rngn_len]; exact h
    obtain ⟨e, _⟩ := rngn_get (List.getElem?_eq_getElem h1)
    rw [List.getElem?_eq_getElem h1, e]
    simp [natsPV, h]
  · rw [List.getElem?_eq_none (by rw [rngn_len]; omega), List.getElem?_eq_none (by simp [natsPV]; omega)]
/-- roads that meet -/
theorem join1 {α : Type} {G : α → Prop} {R : Prop} (C : α → Prop) (h2 : (∀ a, C a → G a) → R) (h1 : ∀ a, C a → G a) : R := h2 h1
theorem join2 {α β : Type} {G : α → β → Prop} {R : Prop} (C : α → β → Prop) (h2 : (∀ a b, C a b → G a b) → R) (h1 : ∀ a b, C a b → G a b) : R := h2 h1
theorem atI_map {n a : Nat} {f : Nat → PV} (h : a < n) : atI ((List.range n).map f) (a : Int) = some (f a) := atI_nat (by simp [h])
theorem in2 {ph : PHp} {x y : Nat} {xs ys : List Nat} {A B : Prop} (h : if x ∈ xs ∧ y ∈ ys then A else B) : isIn (.int (x : Int)) (.lst (natsPV xs)) ph fun k => if k = true then isIn (.int (y : Int)) (.lst (natsPV ys)) ph fun k => if k = true then A else B else B := by
  refine in_lnats ?_
  by_cases h1 : x ∈ xs
  · rw [decide_eq_true h1, if_pos rfl]
    refine in_lnats ?_
    by_cases h2 : y ∈ ys
    · rw [decide_eq_true h2, if_pos rfl]
      rwa [if_pos ⟨h1, h2⟩] at h
    · rw [decide_eq_false h2, if_neg (by decide)]
      rwa [if_neg (fun z => h2 z.2)] at h
  · rw [decide_eq_false h1, if_neg (by decide)]
    rwa [if_neg (fun z => h1 z.1)] at h
/-- burnt(town, purse, root); slots 0:town 1:purse 2:root 3:cold 4:heat 5:lots 6:fresh 7:house 8:a 9:b -/
def b_burnt : List S := [.setT (.tup [(.name 4), (.name 5), (.name 6)]) (.tup [.op2 .mul true (.lst false [.con (.int 0)]) (.idx (.var 0) (.con (.int 0))), .lst true [], .lst false [.var 2]]), .set 3 (.comp false (.var 7) (.name 7) .range [.idx (.var 0) (.con (.int 0))] (some (.op2 .ne false (.var 7) (.var 2))) [7]), .while_ (.op2 .ne false (.var 6) (.lst false [])) [.expr (.mt .append (.var 5) [.bi .tuple false [.var 6]]), .for_ (.tup [(.name 8), (.name 9)]) .seq [.idx (.var 0) (.con (.int 1))] [.ife (.andE (.op2 .in_ false (.var 8) (.var 6)) (.op2 .in_ false (.var 9) (.var 3))) [.seti (.var 4) (.var 9) (.op2 .add true (.idx (.var 4) (.var 9)) (.con (.int 1)))] [.ife (.andE (.op2 .in_ false (.var 9) (.var 6)) (.op2 .in_ false (.var 8) (.var 3))) [.seti (.var 4) (.var 8) (.op2 .add true (.idx (.var 4) (.var 8)) (.con (.int 1)))] []]], .set 6 (.comp false (.var 7) (.name 7) .seq [.var 3] (some (.op2 .lt false (.idx (.var 1) (.var 7)) (.idx (.var 4) (.var 7)))) [7]), .set 3 (.comp false (.var 7) (.name 7) .seq [.var 3] (some (.op2 .notin false (.var 7) (.var 6))) [7])], .ret (.tup [.bi .tuple false [.var 5], .bi .tuple false [.var 3]])]
def is_burnt (pg : Pg) (f : Nat) : Prop := Is pg f 3 10 true (b_burnt)
/-- is_reduced(town, purse, root); slots 0:town 1:purse 2:root 3:house 4:item -/
def b_is_reduced (f_burnt : Nat) : List S := [.ife (.bi .any false [.comp false (.op2 .lt false (.var 4) (.con (.int 0))) (.tup [(.name 3), (.name 4)]) .enum [.var 1] (some (.op2 .ne false (.var 3) (.var 2))) [3, 4]]) [.ret (.con (.bl false))] [], .ret (.op2 .eq false (.idx (.call f_burnt [.var 0, .var 1, .var 2]) (.con (.int 1))) (.tup []))]
def is_is_reduced (pg : Pg) (f : Nat) (f_burnt : Nat) : Prop := Is pg f 3 5 false (b_is_reduced f_burnt)

section
variable {pg : Pg} {f k : Nat} {ph : PHp} {Q : QV} {X : QX}
theorem burnt_ok (i : is_burnt pg f) {n root : Nat} {rs : List Rd2} {p : List Int} (hn : n ≤ 1000) (hr : In2 n rs) (hl : rs.length ≤ 1000) (pl : p.length = n) (ho : root < n) (q : Q (firePV n rs (nth p) root) ph) : callK pg (k + 1) f [townPV n rs, pursePV p, .int root] ph Q X := by
  refine i.call rfl ?_
  have hsz := sz
  have one : 1 ≤ sizeLine := by omega
  simp only [b_burnt, townPV, pursePV, bindT, bindTs, wpB, wpS, wpE, wpEs, wpO, wpC, wpIs, wpMs, ex_some, ex_some1, ex_bl, ex_int, ex_tup, List.getElem?_cons_zero, List.getElem?_cons_succ, List.set_cons_zero, List.set_cons_succ, List.length_cons, List.length_nil, Atom.pv, add_i, sub_i, mul_i, mod_i, fdiv_i, pow_i, lt_i, le_i, gt_i, ge_i, eq_, ne_, in_e, nin_e, is_n, isnot_n, idx_tup, idx_lst, eqP_int, eqP_str, atI_0, atI_1, atI_2, ixN_0, ixN_1, ixN_2, decide_eq_true_eq, Bool.not_true, Bool.not_false, if_true, Bool.false_eq_true, if_false, setSl, len_lst, len_tup, int_i, int_bl, abs_i, min_i, max_i, tup_t, tup_l, newL_F, newL_T, List.map_cons, List.map_nil, List.append_nil, List.nil_append, List.cons_append, Nat.reduceAdd, Nat.reduceSub, List.replicate_succ, List.replicate_zero, retF, retXF, RL.add_ll, RL.add_t, RL.sl_tup, RL.sl_lst, RL.sl_scr, RL.mul_t, RL.str_int, List.zip_nil_left, List.zip_cons_cons]
  refine ⟨one, ?_⟩
  (repeat (refine And.intro (by first | assumption | omega | (decide; done) | (exact mulOk_small (by omega) (by omega) (by omega) (by omega)) | (exact fdivOk (by omega) (by omega)) | (simp; done) | (simp; omega)) ?_))
  refine mul_l rfl (by omega) (by decide) (newL_t (by simp; omega) ?_)
  rw [show ((n : Int)).toNat = n from Int.toNat_natCast n, tab_rep]
  (repeat (refine And.intro (by first | assumption | omega | (decide; done) | (exact mulOk_small (by omega) (by omega) (by omega) (by omega)) | (exact fdivOk (by omega) (by omega)) | (simp; done) | (simp; omega)) ?_))
  refine ⟨_, it_n (by omega), ?_⟩
  refine comp_rngF (fun v => !at1 root v) (fun v => .int (v : Int)) (it_n (by omega)) (by omega) (fun v hv K R h1 h2 => ?_) ?_
  · refine ⟨by simp [wipeE], ?_⟩
    simp only [wipeE, bindT, bindTs, wpB, wpS, wpE, wpEs, wpO, wpC, wpIs, wpMs, ex_some, ex_some1, ex_bl, ex_int, ex_tup, List.getElem?_cons_zero, List.getElem?_cons_succ, List.set_cons_zero, List.set_cons_succ, List.length_cons, List.length_nil, Atom.pv, add_i, sub_i, mul_i, mod_i, fdiv_i, pow_i, lt_i, le_i, gt_i, ge_i, eq_, ne_, in_e, nin_e, is_n, isnot_n, idx_tup, idx_lst, eqP_int, eqP_str, atI_0, atI_1, atI_2, ixN_0, ixN_1, ixN_2, decide_eq_true_eq, Bool.not_true, Bool.not_false, if_true, Bool.false_eq_true, if_false, setSl, len_lst, len_tup, int_i, int_bl, abs_i, min_i, max_i, tup_t, tup_l, newL_F, newL_T, List.map_cons, List.map_nil, List.append_nil, List.nil_append, List.cons_append, Nat.reduceAdd, Nat.reduceSub, List.replicate_succ, List.replicate_zero, retF, retXF, RL.add_ll, RL.add_t, RL.sl_tup, RL.sl_lst, RL.sl_scr, RL.mul_t, RL.str_int, List.zip_nil_left, List.zip_cons_cons]
    by_cases e : (v : Int) = root
    · rw [decide_eq_true e]
      exact h2 (by simp [at1]; omega)
    · rw [decide_eq_false e]
      exact h1 (by simp [at1]; omega)
  · have ec : ((List.range n).filter fun v => !at1 root v).map (fun v : Nat => PV.int (v : Int)) = natsPV (coldL n (addB (fun _ => false) [root])) := by rw [addB_at]; rfl
    rw [ec]
    have cl : ∀ B, (natsPV (coldL n B)).length ≤ sizeLine := fun B => by rw [nats_len]; have := cold_le (n := n) (B := B); omega
    (try simp only [bindT, bindTs, wpB, wpS, wpE, wpEs, wpO, wpC, wpIs, wpMs, ex_some, ex_some1, ex_bl, ex_int, ex_tup, List.getElem?_cons_zero, List.getElem?_cons_succ, List.set_cons_zero, List.set_cons_succ, List.length_cons, List.length_nil, Atom.pv, add_i, sub_i, mul_i, mod_i, fdiv_i, pow_i, lt_i, le_i, gt_i, ge_i, eq_, ne_, in_e, nin_e, is_n, isnot_n, idx_tup, idx_lst, eqP_int, eqP_str, atI_0, atI_1, atI_2, ixN_0, ixN_1, ixN_2, decide_eq_true_eq, Bool.not_true, Bool.not_false, if_true, Bool.false_eq_true, if_false, setSl, len_lst, len_tup, int_i, int_bl, abs_i, min_i, max_i, tup_t, tup_l, newL_F, newL_T, List.map_cons, List.map_nil, List.append_nil, List.nil_append, List.cons_append, Nat.reduceAdd, Nat.reduceSub, List.replicate_succ, List.replicate_zero, retF, retXF, RL.add_ll, RL.add_t, RL.sl_tup, RL.sl_lst, RL.sl_scr, RL.mul_t, RL.str_int, List.zip_nil_left, List.zip_cons_cons])
    refine ⟨cl _, by simp, ?_⟩
    refine whl_rule (fun env ph' => ∃ (a b c : Option PV) (B : Nat → Bool) (fresh : List Nat) (k : Nat) (acc : List (List Nat)) (g : Nat → Int),
        env = [some (townPV n rs), some (pursePV p), some (.int root), some (.lst (natsPV (coldL n (addB B fresh)))), some (.ref ph.length), some (.ref (ph.length + 1)), some (.lst (natsPV fresh)), a, b, c] ∧ ph' = ph ++ [.lst ((tab n g).map .int), .lst (lotsPV acc)] ∧
        (∀ v, v < n → addB B fresh v = false → g v = heat rs B v) ∧ (∀ x ∈ fresh, B x = false ∧ x < n) ∧ fresh.length ≤ n ∧ (fresh ≠ [] → (coldL n (addB B fresh)).length ≤ k) ∧ acc.length + (coldL n (addB B fresh)).length + (if fresh = [] then 0 else 1) ≤ n + 1 ∧
        (fresh ≠ [] → acc ++ fresh :: (fireR n rs (nth p) k (addB B fresh)).1 = fireW n rs (nth p) root ∧ (fireR n rs (nth p) k (addB B fresh)).2 = fireE n rs (nth p) root) ∧ (fresh = [] → acc = fireW n rs (nth p) root ∧ B = fireE n rs (nth p) root))
      (fun env _ => match env with
        | [_, _, _, some (.lst c), _, _, some (.lst f), _, _, _] => 2 * c.length + min 1 f.length
        | _ => 0) ?_ ⟨none, none, none, fun _ => false, [root], n, [], fun _ => 0, by rw [pl1]; rfl, by simp [lotsPV], fun v _ _ => by simp [heat], by simp [ho], by simp; omega, fun _ => cold_le, ?_, fun _ => ?_, fun h => (by cases h)⟩
    · rintro env ph' ⟨a, b, c, B, fresh, k, acc, g, rfl, rfl, hg, hf, fl, hk, ha, h1, h2⟩ N hN
      (try simp only [bindT, bindTs, wpB, wpS, wpE, wpEs, wpO, wpC, wpIs, wpMs, ex_some, ex_some1, ex_bl, ex_int, ex_tup, List.getElem?_cons_zero, List.getElem?_cons_succ, List.set_cons_zero, List.set_cons_succ, List.length_cons, List.length_nil, Atom.pv, add_i, sub_i, mul_i, mod_i, fdiv_i, pow_i, lt_i, le_i, gt_i, ge_i, eq_, ne_, in_e, nin_e, is_n, isnot_n, idx_tup, idx_lst, eqP_int, eqP_str, atI_0, atI_1, atI_2, ixN_0, ixN_1, ixN_2, decide_eq_true_eq, Bool.not_true, Bool.not_false, if_true, Bool.false_eq_true, if_false, setSl, len_lst, len_tup, int_i, int_bl, abs_i, min_i, max_i, tup_t, tup_l, newL_F, newL_T, List.map_cons, List.map_nil, List.append_nil, List.nil_append, List.cons_append, Nat.reduceAdd, Nat.reduceSub, List.replicate_succ, List.replicate_zero, retF, retXF, RL.add_ll, RL.add_t, RL.sl_tup, RL.sl_lst, RL.sl_scr, RL.mul_t, RL.str_int, List.zip_nil_left, List.zip_cons_cons])
      refine ⟨by omega, eq_lnats (ys := []) ?_⟩
      by_cases hx : fresh = []
      · subst hx
        rw [decide_eq_true rfl]
        (try simp only [bindT, bindTs, wpB, wpS, wpE, wpEs, wpO, wpC, wpIs, wpMs, ex_some, ex_some1, ex_bl, ex_int, ex_tup, List.getElem?_cons_zero, List.getElem?_cons_succ, List.set_cons_zero, List.set_cons_succ, List.length_cons, List.length_nil, Atom.pv, add_i, sub_i, mul_i, mod_i, fdiv_i, pow_i, lt_i, le_i, gt_i, ge_i, eq_, ne_, in_e, nin_e, is_n, isnot_n, idx_tup, idx_lst, eqP_int, eqP_str, atI_0, atI_1, atI_2, ixN_0, ixN_1, ixN_2, decide_eq_true_eq, Bool.not_true, Bool.not_false, if_true, Bool.false_eq_true, if_false, setSl, len_lst, len_tup, int_i, int_bl, abs_i, min_i, max_i, tup_t, tup_l, newL_F, newL_T, List.map_cons, List.map_nil, List.append_nil, List.nil_append, List.cons_append, Nat.reduceAdd, Nat.reduceSub, List.replicate_succ, List.replicate_zero, retF, retXF, RL.add_ll, RL.add_t, RL.sl_tup, RL.sl_lst, RL.sl_scr, RL.mul_t, RL.str_int, List.zip_nil_left, List.zip_cons_cons])
        obtain ⟨rfl, rfl⟩ := h2 rfl
        rw [tup_r pg1, addB_nil]
        exact ⟨by omega, ret_newO (.tup (.cons (.tup (old_lots _)) (.cons (.tup (old_nats _)) .nil))) q⟩
      · rw [decide_eq_false hx]
        rw [if_neg hx] at ha
        replace hk := hk hx
        obtain ⟨e1, e2⟩ := h1 hx
        (try simp only [bindT, bindTs, wpB, wpS, wpE, wpEs, wpO, wpC, wpIs, wpMs, ex_some, ex_some1, ex_bl, ex_int, ex_tup, List.getElem?_cons_zero, List.getElem?_cons_succ, List.set_cons_zero, List.set_cons_succ, List.length_cons, List.length_nil, Atom.pv, add_i, sub_i, mul_i, mod_i, fdiv_i, pow_i, lt_i, le_i, gt_i, ge_i, eq_, ne_, in_e, nin_e, is_n, isnot_n, idx_tup, idx_lst, eqP_int, eqP_str, atI_0, atI_1, atI_2, ixN_0, ixN_1, ixN_2, decide_eq_true_eq, Bool.not_true, Bool.not_false, if_true, Bool.false_eq_true, if_false, setSl, len_lst, len_tup, int_i, int_bl, abs_i, min_i, max_i, tup_t, tup_l, newL_F, newL_T, List.map_cons, List.map_nil, List.append_nil, List.nil_append, List.cons_append, Nat.reduceAdd, Nat.reduceSub, List.replicate_succ, List.replicate_zero, retF, retXF, RL.add_ll, RL.add_t, RL.sl_tup, RL.sl_lst, RL.sl_scr, RL.mul_t, RL.str_int, List.zip_nil_left, List.zip_cons_cons])
        refine ⟨by simp only [lstOf, pg1]; rfl, lotsPV acc, pg1, by simp only [lotsPV, List.length_map]; omega, ?_⟩
        rw [ps1, show lotsPV acc ++ [.tup (natsPV fresh)] = lotsPV (acc ++ [fresh]) by simp [lotsPV]]
        (try simp only [RL.idx_town0, RL.idx_town1, bindT, bindTs, wpB, wpS, wpE, wpEs, wpO, wpC, wpIs, wpMs, ex_some, ex_some1, ex_bl, ex_int, ex_tup, List.getElem?_cons_zero, List.getElem?_cons_succ, List.set_cons_zero, List.set_cons_succ, List.length_cons, List.length_nil, Atom.pv, add_i, sub_i, mul_i, mod_i, fdiv_i, pow_i, lt_i, le_i, gt_i, ge_i, eq_, ne_, in_e, nin_e, is_n, isnot_n, idx_tup, idx_lst, eqP_int, eqP_str, atI_0, atI_1, atI_2, ixN_0, ixN_1, ixN_2, decide_eq_true_eq, Bool.not_true, Bool.not_false, if_true, Bool.false_eq_true, if_false, setSl, len_lst, len_tup, int_i, int_bl, abs_i, min_i, max_i, tup_t, tup_l, newL_F, newL_T, List.map_cons, List.map_nil, List.append_nil, List.nil_append, List.cons_append, Nat.reduceAdd, Nat.reduceSub, List.replicate_succ, List.replicate_zero, retF, retXF, RL.add_ll, RL.add_t, RL.sl_tup, RL.sl_lst, RL.sl_scr, RL.mul_t, RL.str_int, List.zip_nil_left, List.zip_cons_cons])
        refine ⟨_, rfl, ?_⟩
        refine forL_rule (fun i env ph' => ∃ (a b c : Option PV) (g' : Nat → Int), env = [some (townPV n rs), some (pursePV p), some (.int root), some (.lst (natsPV (coldL n (addB B fresh)))), some (.ref ph.length), some (.ref (ph.length + 1)), some (.lst (natsPV fresh)), a, b, c] ∧ ph' = ph ++ [.lst ((tab n g').map .int), .lst (lotsPV (acc ++ [fresh]))] ∧
          (∀ v, v < n → addB B fresh v = false → g' v = heat rs B v + heat (rs.take i) (fun x => decide (x ∈ fresh)) v)) ?_ ?_ ⟨a, b, c, g, rfl, rfl, fun v hv hb => by rw [hg v hv hb]; simp [heat]⟩
        · rintro i v env ph' hv ⟨x7, _, _, g', rfl, rfl, hg'⟩
          obtain ⟨a, b, hr', rfl⟩ := road_at hv
          have hab := hr _ (List.mem_of_getElem? hr')
          simp only at hab
          refine ⟨rfl, fun M hM => ⟨_, rfl, rfl, by simp, by simp, ?_⟩⟩
          (try simp only [bindT, bindTs, wpB, wpS, wpE, wpEs, wpO, wpC, wpIs, wpMs, ex_some, ex_some1, ex_bl, ex_int, ex_tup, List.getElem?_cons_zero, List.getElem?_cons_succ, List.set_cons_zero, List.set_cons_succ, List.length_cons, List.length_nil, Atom.pv, add_i, sub_i, mul_i, mod_i, fdiv_i, pow_i, lt_i, le_i, gt_i, ge_i, eq_, ne_, in_e, nin_e, is_n, isnot_n, idx_tup, idx_lst, eqP_int, eqP_str, atI_0, atI_1, atI_2, ixN_0, ixN_1, ixN_2, decide_eq_true_eq, Bool.not_true, Bool.not_false, if_true, Bool.false_eq_true, if_false, setSl, len_lst, len_tup, int_i, int_bl, abs_i, min_i, max_i, tup_t, tup_l, newL_F, newL_T, List.map_cons, List.map_nil, List.append_nil, List.nil_append, List.cons_append, Nat.reduceAdd, Nat.reduceSub, List.replicate_succ, List.replicate_zero, retF, retXF, RL.add_ll, RL.add_t, RL.sl_tup, RL.sl_lst, RL.sl_scr, RL.mul_t, RL.str_int, List.zip_nil_left, List.zip_cons_cons])
          have up : ∀ (g2 : Nat → Int), (∀ v, v < n → addB B fresh v = false → g2 v = g' v + (((if v = a ∧ b ∈ fresh then 1 else 0) + (if v = b ∧ a ∈ fresh then 1 else 0) : Nat) : Int)) → M [some (townPV n rs), some (pursePV p), some (.int root), some (.lst (natsPV (coldL n (addB B fresh)))), some (.ref ph.length), some (.ref (ph.length + 1)), some (.lst (natsPV fresh)), x7, some (.int a), some (.int b)] (ph ++ [.lst ((tab n g2).map .int), .lst (lotsPV (acc ++ [fresh]))]) := fun g2 h => hM _ _ ⟨_, _, _, g2, rfl, rfl, fun v hv hb => by
            rw [h v hv hb, hg' v hv hb, take_succ' hr', heat_snoc]
            simp only [decide_eq_true_eq]
            omega⟩
          have hcold : ∀ v, v < n → addB B fresh v = false → v ∈ coldL n (addB B fresh) := fun v hv h => mem_cold.mpr ⟨hv, h⟩
          have hfc : ∀ v, v ∈ fresh → addB B fresh v = true := fun v hv => by simp [addB, hv]
          refine in2 ?_
          split
          · rename_i hA
            rw [idx_ref pg0]
            refine ⟨_, atI_tab hab.2, ?_⟩
            (try simp only [bindT, bindTs, wpB, wpS, wpE, wpEs, wpO, wpC, wpIs, wpMs, ex_some, ex_some1, ex_bl, ex_int, ex_tup, List.getElem?_cons_zero, List.getElem?_cons_succ, List.set_cons_zero, List.set_cons_succ, List.length_cons, List.length_nil, Atom.pv, add_i, sub_i, mul_i, mod_i, fdiv_i, pow_i, lt_i, le_i, gt_i, ge_i, eq_, ne_, in_e, nin_e, is_n, isnot_n, idx_tup, idx_lst, eqP_int, eqP_str, atI_0, atI_1, atI_2, ixN_0, ixN_1, ixN_2, decide_eq_true_eq, Bool.not_true, Bool.not_false, if_true, Bool.false_eq_true, if_false, setSl, len_lst, len_tup, int_i, int_bl, abs_i, min_i, max_i, tup_t, tup_l, newL_F, newL_T, List.map_cons, List.map_nil, List.append_nil, List.nil_append, List.cons_append, Nat.reduceAdd, Nat.reduceSub, List.replicate_succ, List.replicate_zero, retF, retXF, RL.add_ll, RL.add_t, RL.sl_tup, RL.sl_lst, RL.sl_scr, RL.mul_t, RL.str_int, List.zip_nil_left, List.zip_cons_cons])
            rw [seti_ref pg0]
            refine ⟨b, ixN_nat (by rw [List.length_map, tab_len]; exact hab.2), ?_⟩
            rw [ps0, set_int, tab_set hab.2]
            refine up _ fun v hv hb => ?_
            have hva : v ≠ a := fun e => by rw [e, hfc a hA.1] at hb; cases hb
            by_cases e : v = b
            · subst e; simp [hva, hA.1]
            · simp [hva, e]
          · rename_i hA
            refine in2 ?_
            split
            · rename_i hB
              rw [idx_ref pg0]
              refine ⟨_, atI_tab hab.1, ?_⟩
              (try simp only [bindT, bindTs, wpB, wpS, wpE, wpEs, wpO, wpC, wpIs, wpMs, ex_some, ex_some1, ex_bl, ex_int, ex_tup, List.getElem?_cons_zero, List.getElem?_cons_succ, List.set_cons_zero, List.set_cons_succ, List.length_cons, List.length_nil, Atom.pv, add_i, sub_i, mul_i, mod_i, fdiv_i, pow_i, lt_i, le_i, gt_i, ge_i, eq_, ne_, in_e, nin_e, is_n, isnot_n, idx_tup, idx_lst, eqP_int, eqP_str, atI_0, atI_1, atI_2, ixN_0, ixN_1, ixN_2, decide_eq_true_eq, Bool.not_true, Bool.not_false, if_true, Bool.false_eq_true, if_false, setSl, len_lst, len_tup, int_i, int_bl, abs_i, min_i, max_i, tup_t, tup_l, newL_F, newL_T, List.map_cons, List.map_nil, List.append_nil, List.nil_append, List.cons_append, Nat.reduceAdd, Nat.reduceSub, List.replicate_succ, List.replicate_zero, retF, retXF, RL.add_ll, RL.add_t, RL.sl_tup, RL.sl_lst, RL.sl_scr, RL.mul_t, RL.str_int, List.zip_nil_left, List.zip_cons_cons])
              rw [seti_ref pg0]
              refine ⟨a, ixN_nat (by rw [List.length_map, tab_len]; exact hab.1), ?_⟩
              rw [ps0, set_int, tab_set hab.1]
              refine up _ fun v hv hb => ?_
              have hvb : v ≠ b := fun e => by rw [e, hfc b hB.1] at hb; cases hb
              by_cases e : v = a
              · subst e; simp [hvb, hB.1]
              · simp [hvb, e]
            · rename_i hB
              refine up _ fun v hv hb => ?_
              have n1 : ¬ (v = a ∧ b ∈ fresh) := fun z => hB ⟨z.2, hcold a hab.1 (z.1 ▸ hb)⟩
              have n2 : ¬ (v = b ∧ a ∈ fresh) := fun z => hA ⟨z.2, hcold b hab.2 (z.1 ▸ hb)⟩
              rw [if_neg n1, if_neg n2]; simp
        · rintro env ph' ⟨a, b, c, g', rfl, rfl, hg'⟩
          refine ⟨rfl, ?_⟩
          rw [List.length_map, List.take_length] at hg'
          have hfd : ∀ x ∈ fresh, B x = false := fun x hx => (hf x hx).1
          have hg2 : ∀ v, v < n → addB B fresh v = false → g' v = heat rs (addB B fresh) v := fun v hv hb => by rw [hg' v hv hb, heat_add hfd]; omega
          obtain ⟨B1, hB1⟩ : ∃ B1, B1 = addB B fresh := ⟨_, rfl⟩
          rw [← hB1] at hg2 e1 e2 hk ha ⊢
          (try simp only [bindT, bindTs, wpB, wpS, wpE, wpEs, wpO, wpC, wpIs, wpMs, ex_some, ex_some1, ex_bl, ex_int, ex_tup, List.getElem?_cons_zero, List.getElem?_cons_succ, List.set_cons_zero, List.set_cons_succ, List.length_cons, List.length_nil, Atom.pv, add_i, sub_i, mul_i, mod_i, fdiv_i, pow_i, lt_i, le_i, gt_i, ge_i, eq_, ne_, in_e, nin_e, is_n, isnot_n, idx_tup, idx_lst, eqP_int, eqP_str, atI_0, atI_1, atI_2, ixN_0, ixN_1, ixN_2, decide_eq_true_eq, Bool.not_true, Bool.not_false, if_true, Bool.false_eq_true, if_false, setSl, len_lst, len_tup, int_i, int_bl, abs_i, min_i, max_i, tup_t, tup_l, newL_F, newL_T, List.map_cons, List.map_nil, List.append_nil, List.nil_append, List.cons_append, Nat.reduceAdd, Nat.reduceSub, List.replicate_succ, List.replicate_zero, retF, retXF, RL.add_ll, RL.add_t, RL.sl_tup, RL.sl_lst, RL.sl_scr, RL.mul_t, RL.str_int, List.zip_nil_left, List.zip_cons_cons])
          refine ⟨_, rfl, ?_⟩
          refine comp_natF (fun v => decide (nth p v < g' v)) (fun v => .int (v : Int)) rfl (by have := cold_le (n := n) (B := B1); omega) (fun v hv K R h1 h2 => ?_) ?_
          · have hv := mem_cold.mp hv
            refine ⟨by simp [wipeE], ?_⟩
            simp only [wipeE, bindT, bindTs, wpB, wpS, wpE, wpEs, wpO, wpC, wpIs, wpMs, ex_some, ex_some1, ex_bl, ex_int, ex_tup, List.getElem?_cons_zero, List.getElem?_cons_succ, List.set_cons_zero, List.set_cons_succ, List.length_cons, List.length_nil, Atom.pv, add_i, sub_i, mul_i, mod_i, fdiv_i, pow_i, lt_i, le_i, gt_i, ge_i, eq_, ne_, in_e, nin_e, is_n, isnot_n, idx_tup, idx_lst, eqP_int, eqP_str, atI_0, atI_1, atI_2, ixN_0, ixN_1, ixN_2, decide_eq_true_eq, Bool.not_true, Bool.not_false, if_true, Bool.false_eq_true, if_false, setSl, len_lst, len_tup, int_i, int_bl, abs_i, min_i, max_i, tup_t, tup_l, newL_F, newL_T, List.map_cons, List.map_nil, List.append_nil, List.nil_append, List.cons_append, Nat.reduceAdd, Nat.reduceSub, List.replicate_succ, List.replicate_zero, retF, retXF, RL.add_ll, RL.add_t, RL.sl_tup, RL.sl_lst, RL.sl_scr, RL.mul_t, RL.str_int, List.zip_nil_left, List.zip_cons_cons]
            refine ⟨_, atI_nth (by omega), ?_⟩
            (try simp only [bindT, bindTs, wpB, wpS, wpE, wpEs, wpO, wpC, wpIs, wpMs, ex_some, ex_some1, ex_bl, ex_int, ex_tup, List.getElem?_cons_zero, List.getElem?_cons_succ, List.set_cons_zero, List.set_cons_succ, List.length_cons, List.length_nil, Atom.pv, add_i, sub_i, mul_i, mod_i, fdiv_i, pow_i, lt_i, le_i, gt_i, ge_i, eq_, ne_, in_e, nin_e, is_n, isnot_n, idx_tup, idx_lst, eqP_int, eqP_str, atI_0, atI_1, atI_2, ixN_0, ixN_1, ixN_2, decide_eq_true_eq, Bool.not_true, Bool.not_false, if_true, Bool.false_eq_true, if_false, setSl, len_lst, len_tup, int_i, int_bl, abs_i, min_i, max_i, tup_t, tup_l, newL_F, newL_T, List.map_cons, List.map_nil, List.append_nil, List.nil_append, List.cons_append, Nat.reduceAdd, Nat.reduceSub, List.replicate_succ, List.replicate_zero, retF, retXF, RL.add_ll, RL.add_t, RL.sl_tup, RL.sl_lst, RL.sl_scr, RL.mul_t, RL.str_int, List.zip_nil_left, List.zip_cons_cons])
            rw [idx_ref pg0]
            refine ⟨_, atI_tab hv.1, ?_⟩
            (try simp only [bindT, bindTs, wpB, wpS, wpE, wpEs, wpO, wpC, wpIs, wpMs, ex_some, ex_some1, ex_bl, ex_int, ex_tup, List.getElem?_cons_zero, List.getElem?_cons_succ, List.set_cons_zero, List.set_cons_succ, List.length_cons, List.length_nil, Atom.pv, add_i, sub_i, mul_i, mod_i, fdiv_i, pow_i, lt_i, le_i, gt_i, ge_i, eq_, ne_, in_e, nin_e, is_n, isnot_n, idx_tup, idx_lst, eqP_int, eqP_str, atI_0, atI_1, atI_2, ixN_0, ixN_1, ixN_2, decide_eq_true_eq, Bool.not_true, Bool.not_false, if_true, Bool.false_eq_true, if_false, setSl, len_lst, len_tup, int_i, int_bl, abs_i, min_i, max_i, tup_t, tup_l, newL_F, newL_T, List.map_cons, List.map_nil, List.append_nil, List.nil_append, List.cons_append, Nat.reduceAdd, Nat.reduceSub, List.replicate_succ, List.replicate_zero, retF, retXF, RL.add_ll, RL.add_t, RL.sl_tup, RL.sl_lst, RL.sl_scr, RL.mul_t, RL.str_int, List.zip_nil_left, List.zip_cons_cons])
            by_cases e : nth p v < g' v
            · rw [if_pos e]; exact h1 (decide_eq_true e)
            · rw [if_neg e]; exact h2 (decide_eq_false e)
          · have en : ((coldL n B1).filter fun v => decide (nth p v < g' v)) = newF n rs (nth p) B1 := by
              rw [new_cold]
              refine List.filter_congr fun v hv => ?_
              have hv := mem_cold.mp hv
              rw [hg2 v hv.1 hv.2]
            rw [en]
            have enP : ∀ l : List Nat, l.map (fun v : Nat => PV.int (v : Int)) = natsPV l := fun _ => rfl
            rw [enP]
            obtain ⟨F, hF⟩ : ∃ F, F = newF n rs (nth p) B1 := ⟨_, rfl⟩
            have Fin : ∀ x ∈ F, x ∈ coldL n B1 := by rw [hF]; exact new_in
            have Fl : F.length ≤ (coldL n B1).length := by rw [hF, new_cold]; exact List.length_filter_le _ _
            have cB := cold_le (n := n) (B := B1)
            rw [← hF]
            (try simp only [bindT, bindTs, wpB, wpS, wpE, wpEs, wpO, wpC, wpIs, wpMs, ex_some, ex_some1, ex_bl, ex_int, ex_tup, List.getElem?_cons_zero, List.getElem?_cons_succ, List.set_cons_zero, List.set_cons_succ, List.length_cons, List.length_nil, Atom.pv, add_i, sub_i, mul_i, mod_i, fdiv_i, pow_i, lt_i, le_i, gt_i, ge_i, eq_, ne_, in_e, nin_e, is_n, isnot_n, idx_tup, idx_lst, eqP_int, eqP_str, atI_0, atI_1, atI_2, ixN_0, ixN_1, ixN_2, decide_eq_true_eq, Bool.not_true, Bool.not_false, if_true, Bool.false_eq_true, if_false, setSl, len_lst, len_tup, int_i, int_bl, abs_i, min_i, max_i, tup_t, tup_l, newL_F, newL_T, List.map_cons, List.map_nil, List.append_nil, List.nil_append, List.cons_append, Nat.reduceAdd, Nat.reduceSub, List.replicate_succ, List.replicate_zero, retF, retXF, RL.add_ll, RL.add_t, RL.sl_tup, RL.sl_lst, RL.sl_scr, RL.mul_t, RL.str_int, List.zip_nil_left, List.zip_cons_cons])
            refine ⟨by rw [nats_len]; omega, by simp, _, rfl, ?_⟩
            refine comp_natF (fun v => !decide (v ∈ F)) (fun v => .int (v : Int)) rfl (by omega) (fun v hv K R h1 h2 => ?_) ?_
            · refine ⟨by simp [wipeE], ?_⟩
              simp only [wipeE, bindT, bindTs, wpB, wpS, wpE, wpEs, wpO, wpC, wpIs, wpMs, ex_some, ex_some1, ex_bl, ex_int, ex_tup, List.getElem?_cons_zero, List.getElem?_cons_succ, List.set_cons_zero, List.set_cons_succ, List.length_cons, List.length_nil, Atom.pv, add_i, sub_i, mul_i, mod_i, fdiv_i, pow_i, lt_i, le_i, gt_i, ge_i, eq_, ne_, in_e, nin_e, is_n, isnot_n, idx_tup, idx_lst, eqP_int, eqP_str, atI_0, atI_1, atI_2, ixN_0, ixN_1, ixN_2, decide_eq_true_eq, Bool.not_true, Bool.not_false, if_true, Bool.false_eq_true, if_false, setSl, len_lst, len_tup, int_i, int_bl, abs_i, min_i, max_i, tup_t, tup_l, newL_F, newL_T, List.map_cons, List.map_nil, List.append_nil, List.nil_append, List.cons_append, Nat.reduceAdd, Nat.reduceSub, List.replicate_succ, List.replicate_zero, retF, retXF, RL.add_ll, RL.add_t, RL.sl_tup, RL.sl_lst, RL.sl_scr, RL.mul_t, RL.str_int, List.zip_nil_left, List.zip_cons_cons]
              refine in_lnats ?_
              by_cases e : v ∈ F
              · rw [decide_eq_true e]; exact h2 (by simp [e])
              · rw [decide_eq_false e]; exact h1 (by simp [e])
            · rw [← cold_add, enP]
              (try simp only [bindT, bindTs, wpB, wpS, wpE, wpEs, wpO, wpC, wpIs, wpMs, ex_some, ex_some1, ex_bl, ex_int, ex_tup, List.getElem?_cons_zero, List.getElem?_cons_succ, List.set_cons_zero, List.set_cons_succ, List.length_cons, List.length_nil, Atom.pv, add_i, sub_i, mul_i, mod_i, fdiv_i, pow_i, lt_i, le_i, gt_i, ge_i, eq_, ne_, in_e, nin_e, is_n, isnot_n, idx_tup, idx_lst, eqP_int, eqP_str, atI_0, atI_1, atI_2, ixN_0, ixN_1, ixN_2, decide_eq_true_eq, Bool.not_true, Bool.not_false, if_true, Bool.false_eq_true, if_false, setSl, len_lst, len_tup, int_i, int_bl, abs_i, min_i, max_i, tup_t, tup_l, newL_F, newL_T, List.map_cons, List.map_nil, List.append_nil, List.nil_append, List.cons_append, Nat.reduceAdd, Nat.reduceSub, List.replicate_succ, List.replicate_zero, retF, retXF, RL.add_ll, RL.add_t, RL.sl_tup, RL.sl_lst, RL.sl_scr, RL.mul_t, RL.str_int, List.zip_nil_left, List.zip_cons_cons])
              refine ⟨cl _, by simp, ?_⟩
              have hcl : F ≠ [] → (coldL n (addB B1 F)).length < (coldL n B1).length := fun h => cold_lt h Fin
              have hcl0 : F = [] → (coldL n (addB B1 F)).length = (coldL n B1).length := fun h => by rw [h, addB_nil]
              have fpos : 0 < fresh.length := List.length_pos_iff.mpr hx
              refine hN _ _ ⟨_, _, _, B1, F, k - 1, acc ++ [fresh], g', rfl, rfl, fun v hv hb => hg2 v hv ?_, fun x hx => ?_, by omega, fun h => ?_, ?_, fun hne => ?_, fun he => ?_⟩ ?_
              · cases hb1 : B1 v with
                | false => rfl
                | true => simp [addB, hb1] at hb
              · have := mem_cold.mp (Fin x hx)
                exact ⟨this.2, this.1⟩
              · have := hcl h; omega
              · rw [List.length_append, List.length_singleton]
                by_cases h : F = []
                · rw [if_pos h, hcl0 h]; omega
                · rw [if_neg h]; have := hcl h; omega
              · obtain ⟨k, rfl⟩ : ∃ k', k = k' + 1 := ⟨k - 1, by have := hcl hne; omega⟩
                rw [Nat.add_sub_cancel]
                have hne' : newF n rs (nth p) B1 ≠ [] := by rw [← hF]; exact hne
                rw [fireR_new hne', ← hF] at e1 e2
                rw [List.append_assoc]
                exact ⟨e1, e2⟩
              · have he' : newF n rs (nth p) B1 = [] := by rw [← hF]; exact he
                rw [fireR_nil he'] at e1 e2
                exact ⟨e1, e2⟩
              · show 2 * (natsPV (coldL n (addB B1 F))).length + min 1 (natsPV F).length < 2 * (natsPV (coldL n (addB B fresh))).length + min 1 (natsPV fresh).length
                rw [← hB1, nats_len, nats_len, nats_len, nats_len]
                by_cases h : F = []
                · rw [hcl0 h, h]; simp; omega
                · have := hcl h; omega
    · simp; have := cold_le (n := n) (B := addB (fun _ => false) [root]); omega
    · rw [addB_at]; exact ⟨rfl, rfl⟩
/-- what is asked of a purse before a fire -/
def richB (n root : Nat) (p : List Int) : Bool := ((List.range n).filter fun v => !decide (v = root)).all fun v => decide (0 ≤ nth p v)
def redB (n : Nat) (rs : List Rd2) (p : List Int) (root : Nat) : Bool := richB n root p && decide (restL n rs (nth p) root = [])
theorem comp_purse {still : PHp → Prop} {bind : PV → (Env → Prop) → Prop} {cnd : Env → PHp → (Bool → PHp → Prop) → Prop} {el : Env → PHp → QV → Prop} {Q : List PV → PHp → Prop} {p : List Int} {n : Nat} (c : Nat → Bool) (f : Nat → PV) (hst : still ph) (pl : p.length = n) (hl : n ≤ 1000000)
    (hs : ∀ x, x < n → ∀ (K : QV) (R : PHp → Prop), (c x = true → K (f x) ph) → (c x = false → R ph) → bind (.tup [.int (x : Int), .int (nth p x)]) fun env' => cnd env' ph fun b ph1 => if b = true then el env' ph1 K else R ph1)
    (hq : Q (((List.range n).filter c).map f) ph) : compL still bind cnd el (enumL 0 (p.map PV.int)) [] ph Q := by
  have := sz
  rw [enum_ints, pl]
  exact comp_enc (fun v : Nat => PV.tup [.int (v : Int), .int (nth p v)]) c f hst (by rw [List.length_range]; omega) (fun x hx => hs x (List.mem_range.mp hx)) hq
theorem is_reduced_ok {fb : Nat} (i : is_is_reduced pg f fb) (j : is_burnt pg fb) {n root : Nat} {rs : List Rd2} {p : List Int} (hn : n ≤ 1000) (hr : In2 n rs) (hl : rs.length ≤ 1000) (pl : p.length = n) (ho : root < n) (q : Q (.bl (redB n rs p root)) ph) : callK pg (k + 2) f [townPV n rs, pursePV p, .int root] ph Q X := by
  refine i.call rfl ?_
  have hsz := sz
  simp only [b_is_reduced, townPV, pursePV, bindT, bindTs, wpB, wpS, wpE, wpEs, wpO, wpC, wpIs, wpMs, ex_some, ex_some1, ex_bl, ex_int, ex_tup, List.getElem?_cons_zero, List.getElem?_cons_succ, List.set_cons_zero, List.set_cons_succ, List.length_cons, List.length_nil, Atom.pv, add_i, sub_i, mul_i, mod_i, fdiv_i, pow_i, lt_i, le_i, gt_i, ge_i, eq_, ne_, in_e, nin_e, is_n, isnot_n, idx_tup, idx_lst, eqP_int, eqP_str, atI_0, atI_1, atI_2, ixN_0, ixN_1, ixN_2, decide_eq_true_eq, Bool.not_true, Bool.not_false, if_true, Bool.false_eq_true, if_false, setSl, len_lst, len_tup, int_i, int_bl, abs_i, min_i, max_i, tup_t, tup_l, newL_F, newL_T, List.map_cons, List.map_nil, List.append_nil, List.nil_append, List.cons_append, Nat.reduceAdd, Nat.reduceSub, List.replicate_succ, List.replicate_zero, retF, retXF, RL.add_ll, RL.add_t, RL.sl_tup, RL.sl_lst, RL.sl_scr, RL.mul_t, RL.str_int, List.zip_nil_left, List.zip_cons_cons]
  refine ⟨_, rfl, ?_⟩
  refine comp_purse (fun v => !decide (v = root)) (fun v => .bl (decide (nth p v < 0))) rfl pl (by omega) (fun v hv K R h1 h2 => ?_) ?_
  · refine ⟨_, rfl, rfl, by simp [wipeE], by simp [wipeE], ?_⟩
    simp only [wipeE, bindT, bindTs, wpB, wpS, wpE, wpEs, wpO, wpC, wpIs, wpMs, ex_some, ex_some1, ex_bl, ex_int, ex_tup, List.getElem?_cons_zero, List.getElem?_cons_succ, List.set_cons_zero, List.set_cons_succ, List.length_cons, List.length_nil, Atom.pv, add_i, sub_i, mul_i, mod_i, fdiv_i, pow_i, lt_i, le_i, gt_i, ge_i, eq_, ne_, in_e, nin_e, is_n, isnot_n, idx_tup, idx_lst, eqP_int, eqP_str, atI_0, atI_1, atI_2, ixN_0, ixN_1, ixN_2, decide_eq_true_eq, Bool.not_true, Bool.not_false, if_true, Bool.false_eq_true, if_false, setSl, len_lst, len_tup, int_i, int_bl, abs_i, min_i, max_i, tup_t, tup_l, newL_F, newL_T, List.map_cons, List.map_nil, List.append_nil, List.nil_append, List.cons_append, Nat.reduceAdd, Nat.reduceSub, List.replicate_succ, List.replicate_zero, retF, retXF, RL.add_ll, RL.add_t, RL.sl_tup, RL.sl_lst, RL.sl_scr, RL.mul_t, RL.str_int, List.zip_nil_left, List.zip_cons_cons]
    by_cases e : (v : Int) = root
    · rw [decide_eq_true e]; exact h2 (by simp; omega)
    · rw [decide_eq_false e]; exact h1 (by simp; omega)
  · (try simp only [bindT, bindTs, wpB, wpS, wpE, wpEs, wpO, wpC, wpIs, wpMs, ex_some, ex_some1, ex_bl, ex_int, ex_tup, List.getElem?_cons_zero, List.getElem?_cons_succ, List.set_cons_zero, List.set_cons_succ, List.length_cons, List.length_nil, Atom.pv, add_i, sub_i, mul_i, mod_i, fdiv_i, pow_i, lt_i, le_i, gt_i, ge_i, eq_, ne_, in_e, nin_e, is_n, isnot_n, idx_tup, idx_lst, eqP_int, eqP_str, atI_0, atI_1, atI_2, ixN_0, ixN_1, ixN_2, decide_eq_true_eq, Bool.not_true, Bool.not_false, if_true, Bool.false_eq_true, if_false, setSl, len_lst, len_tup, int_i, int_bl, abs_i, min_i, max_i, tup_t, tup_l, newL_F, newL_T, List.map_cons, List.map_nil, List.append_nil, List.nil_append, List.cons_append, Nat.reduceAdd, Nat.reduceSub, List.replicate_succ, List.replicate_zero, retF, retXF, RL.add_ll, RL.add_t, RL.sl_tup, RL.sl_lst, RL.sl_scr, RL.mul_t, RL.str_int, List.zip_nil_left, List.zip_cons_cons])
    refine ⟨by rw [List.length_map]; have := List.length_filter_le (fun v => !decide (v = root)) (List.range n); rw [List.length_range] at this; omega, ?_⟩
    rw [any_lst]
    have e : (((List.range n).filter fun v => !decide (v = root)).any fun v => decide (nth p v < 0)) = !richB n root p := by
      unfold richB
      rw [List.not_all_eq_any_not]
      congr 1
      funext v
      rw [Bool.eq_iff_iff]; simp
    rw [e]
    unfold redB at q
    refine ⟨_, rfl, ?_⟩
    cases hb : richB n root p with
    | false =>
      rw [hb] at q
      (try simp only [bindT, bindTs, wpB, wpS, wpE, wpEs, wpO, wpC, wpIs, wpMs, ex_some, ex_some1, ex_bl, ex_int, ex_tup, List.getElem?_cons_zero, List.getElem?_cons_succ, List.set_cons_zero, List.set_cons_succ, List.length_cons, List.length_nil, Atom.pv, add_i, sub_i, mul_i, mod_i, fdiv_i, pow_i, lt_i, le_i, gt_i, ge_i, eq_, ne_, in_e, nin_e, is_n, isnot_n, idx_tup, idx_lst, eqP_int, eqP_str, atI_0, atI_1, atI_2, ixN_0, ixN_1, ixN_2, decide_eq_true_eq, Bool.not_true, Bool.not_false, if_true, Bool.false_eq_true, if_false, setSl, len_lst, len_tup, int_i, int_bl, abs_i, min_i, max_i, tup_t, tup_l, newL_F, newL_T, List.map_cons, List.map_nil, List.append_nil, List.nil_append, List.cons_append, Nat.reduceAdd, Nat.reduceSub, List.replicate_succ, List.replicate_zero, retF, retXF, RL.add_ll, RL.add_t, RL.sl_tup, RL.sl_lst, RL.sl_scr, RL.mul_t, RL.str_int, List.zip_nil_left, List.zip_cons_cons])
      exact q
    | true =>
      rw [hb] at q
      (try simp only [bindT, bindTs, wpB, wpS, wpE, wpEs, wpO, wpC, wpIs, wpMs, ex_some, ex_some1, ex_bl, ex_int, ex_tup, List.getElem?_cons_zero, List.getElem?_cons_succ, List.set_cons_zero, List.set_cons_succ, List.length_cons, List.length_nil, Atom.pv, add_i, sub_i, mul_i, mod_i, fdiv_i, pow_i, lt_i, le_i, gt_i, ge_i, eq_, ne_, in_e, nin_e, is_n, isnot_n, idx_tup, idx_lst, eqP_int, eqP_str, atI_0, atI_1, atI_2, ixN_0, ixN_1, ixN_2, decide_eq_true_eq, Bool.not_true, Bool.not_false, if_true, Bool.false_eq_true, if_false, setSl, len_lst, len_tup, int_i, int_bl, abs_i, min_i, max_i, tup_t, tup_l, newL_F, newL_T, List.map_cons, List.map_nil, List.append_nil, List.nil_append, List.cons_append, Nat.reduceAdd, Nat.reduceSub, List.replicate_succ, List.replicate_zero, retF, retXF, RL.add_ll, RL.add_t, RL.sl_tup, RL.sl_lst, RL.sl_scr, RL.mul_t, RL.str_int, List.zip_nil_left, List.zip_cons_cons])
      refine burnt_ok j hn hr hl pl ho ?_
      simp only [firePV, bindT, bindTs, wpB, wpS, wpE, wpEs, wpO, wpC, wpIs, wpMs, ex_some, ex_some1, ex_bl, ex_int, ex_tup, List.getElem?_cons_zero, List.getElem?_cons_succ, List.set_cons_zero, List.set_cons_succ, List.length_cons, List.length_nil, Atom.pv, add_i, sub_i, mul_i, mod_i, fdiv_i, pow_i, lt_i, le_i, gt_i, ge_i, eq_, ne_, in_e, nin_e, is_n, isnot_n, idx_tup, idx_lst, eqP_int, eqP_str, atI_0, atI_1, atI_2, ixN_0, ixN_1, ixN_2, decide_eq_true_eq, Bool.not_true, Bool.not_false, if_true, Bool.false_eq_true, if_false, setSl, len_lst, len_tup, int_i, int_bl, abs_i, min_i, max_i, tup_t, tup_l, newL_F, newL_T, List.map_cons, List.map_nil, List.append_nil, List.nil_append, List.cons_append, Nat.reduceAdd, Nat.reduceSub, List.replicate_succ, List.replicate_zero, retF, retXF, RL.add_ll, RL.add_t, RL.sl_tup, RL.sl_lst, RL.sl_scr, RL.mul_t, RL.str_int, List.zip_nil_left, List.zip_cons_cons]
      rw [Bool.true_and] at q
      refine ⟨by omega, eq_tnats (xs := restL n rs (nth p) root) (ys := []) ?_⟩
      exact q
end
/-! ### lots -/
def indL (L : Nat → Bool) : Nat → Int := fun v => if L v = true then 1 else 0
theorem flow_lot {rs : List Rd2} {L B : Nat → Bool} {v : Nat} (hv : L v = true) (hd : ∀ x, B x = true → L x = false) : (heat rs B v : Int) ≤ flow rs (indL L) v := by
  induction rs with
  | nil => simp [heat, flow]
  | cons r rs ih =>
    rw [flow_cons]
    have e : heat (r :: rs) B v = ((if r.1 = v ∧ B r.2 = true then 1 else 0) + (if r.2 = v ∧ B r.1 = true then 1 else 0)) + heat rs B v := by
      simp only [heat, List.countP_cons, Bool.and_eq_true, beq_iff_eq]; omega
    rw [e]
    have key : (((if r.1 = v ∧ B r.2 = true then 1 else 0) + (if r.2 = v ∧ B r.1 = true then 1 else 0) : Nat) : Int) ≤ step1 (indL L) r v := by
      unfold step1 indL
      have h1 := hd r.1
      have h2 := hd r.2
      by_cases e1 : r.1 = v <;> by_cases e2 : r.2 = v
      · have hb : B v = false := by
          cases h : B v with
          | false => rfl
          | true => rw [hd v h] at hv; cases hv
        rw [e1, e2]; simp [hb]
      · have e2' : ¬ v = r.2 := fun z => e2 z.symm
        subst e1
        simp [e2, e2', hv]
        cases hB : B r.2 with
        | true => rw [h2 hB]; simp
        | false => simp; split <;> omega
      · have e1' : ¬ v = r.1 := fun z => e1 z.symm
        subst e2
        simp [e1, e1', hv]
        cases hB : B r.1 with
        | true => rw [h1 hB]; simp
        | false => simp; split <;> omega
      · have e1' : ¬ v = r.1 := fun z => e1 z.symm
        have e2' : ¬ v = r.2 := fun z => e2 z.symm
        simp [e1, e2, e1', e2']
    push_cast at key ih ⊢
    omega
theorem flow_rest {rs : List Rd2} {B : Nat → Bool} {v : Nat} (hv : B v = false) : (heat rs B v : Int) = flow rs (indL fun x => !B x) v := by
  induction rs with
  | nil => simp [heat, flow]
  | cons r rs ih =>
    rw [flow_cons]
    have e : heat (r :: rs) B v = ((if r.1 = v ∧ B r.2 = true then 1 else 0) + (if r.2 = v ∧ B r.1 = true then 1 else 0)) + heat rs B v := by
      simp only [heat, List.countP_cons, Bool.and_eq_true, beq_iff_eq]; omega
    rw [e]
    have key : (((if r.1 = v ∧ B r.2 = true then 1 else 0) + (if r.2 = v ∧ B r.1 = true then 1 else 0) : Nat) : Int) = step1 (indL fun x => !B x) r v := by
      unfold step1 indL
      by_cases e1 : r.1 = v <;> by_cases e2 : r.2 = v
      · rw [e1, e2]; simp [hv]
      · have e2' : ¬ v = r.2 := fun z => e2 z.symm
        subst e1
        simp [e2, e2', hv]
        cases hB : B r.2 <;> simp
      · have e1' : ¬ v = r.1 := fun z => e1 z.symm
        subst e2
        simp [e1, e1', hv]
        cases hB : B r.1 <;> simp
      · have e1' : ¬ v = r.1 := fun z => e1 z.symm
        have e2' : ¬ v = r.2 := fun z => e2 z.symm
        simp [e1, e2, e1', e2']
    push_cast at key ih ⊢
    omega
theorem fireE_root {n : Nat} {rs : List Rd2} {p : Nat → Int} {root : Nat} : fireE n rs p root root = true := fire_mono n _ root (by simp [at1])
/-- who can keep among themselves is never burnt -/
theorem lot_kept {n root : Nat} {rs : List Rd2} {p : Nat → Int} {L : Nat → Bool} (hroot : L root = false) (hcan : ∀ v, v < n → L v = true → 0 ≤ p v - flow rs (indL L) v) : ∀ v, v < n → L v = true → v ∈ restL n rs p root := fun v hv hL => by
  have key : ∀ x, fireE n rs p root x = true → L x = false := by
    refine fire_inv (fun B => ∀ x, B x = true → L x = false) (fun B hB x hx => ?_) n (at1 root) fun x hx => ?_
    · rw [addB, Bool.or_eq_true] at hx
      rcases hx with hx | hx
      · exact hB x hx
      · have hm := mem_new.mp (of_decide_eq_true hx)
        cases hLx : L x with
        | false => rfl
        | true =>
          have h1 := flow_lot (rs := rs) hLx hB
          have h2 := hcan x hm.1 hLx
          omega
    · have : x = root := of_decide_eq_true hx
      rw [this]; exact hroot
  refine mem_cold.mpr ⟨hv, ?_⟩
  cases h : fireE n rs p root v with
  | false => rfl
  | true => rw [key v h] at hL; cases hL
theorem rest_can {n root : Nat} {rs : List Rd2} {p : Nat → Int} {v : Nat} (hv : v ∈ restL n rs p root) : 0 ≤ p v - flow rs (indL fun x => !fireE n rs p root x) v := by
  have h := mem_cold.mp hv
  rw [← flow_rest h.2]
  have hs := fire_stable (n := n) (rs := rs) (p := p) n (at1 root) cold_le
  have hn : v ∉ newF n rs p (fireE n rs p root) := by
    show v ∉ newF n rs p (fireR n rs p n (at1 root)).2
    rw [hs]; simp
  rw [mem_new] at hn
  have : ¬ p v < heat rs (fireE n rs p root) v := fun z => hn ⟨h.1, h.2, z⟩
  omega
end RL

/-! RLFamD: the jar. -/
namespace RL
open PySem L2
namespace FD
/-- _law_jar(script); slots 0:script 1:stirred 2:cell 3:great -/
def b_law_jar : List S := [.set 1 (.op2 .add false (.con (.int 16245)) (.op2 .mul false (.con (.int 53)) (.bi .len false [.sl false (.var 0) none (some (.con (.int 63)))]))), .for_ (.name 2) .seq [.sl false (.var 0) none (some (.con (.int 63)))] [.set 1 (.op2 .mod false (.bi .int false [.op2 .add false (.op2 .add false (.op2 .add false (.op2 .mul false (.var 1) (.con (.int 69621))) (.op2 .mul false (.con (.int 2)) (.bi .abs false [.var 2]))) (.bi .int false [.op2 .lt false (.var 2) (.con (.int 0))])) (.con (.int 5))]) (.con (.int 2147483587)))], .set 3 (.comp false (.bi .abs false [.var 2]) (.name 2) .seq [.sl false (.var 0) none (some (.con (.int 63)))] (some (.op2 .ge false (.bi .abs false [.var 2]) (.op2 .pow false (.con (.int 10)) (.con (.int 14))))) [2]), .ret (.dict [(.str "digits"), (.str "stirred"), (.str "turn")] [.rev true (.var 3), .var 1, .con (.int 0)])]
def is_law_jar (pg : Pg) (f : Nat) : Prop := Is pg f 1 4 false (b_law_jar)
/-- _law_draw(jar, many); slots 0:jar 1:many 2:one 3:whole -/
def b_law_draw : List S := [.ife (.op2 .lt false (.var 1) (.con (.int 2))) [.ret (.con (.int 0))] [], .ife (.op2 .ne false (.idx (.var 0) (.con (.str "digits"))) (.lst false [])) [.set 3 (.mt .pop (.idx (.var 0) (.con (.str "digits"))) []), .ife (.op2 .ge false (.var 3) (.var 1)) [.expr (.mt .append (.idx (.var 0) (.con (.str "digits"))) [.op2 .fdiv false (.var 3) (.var 1)])] [], .ret (.op2 .mod false (.bi .int false [.var 3]) (.var 1))] [], .seti (.var 0) (.con (.str "turn")) (.op2 .add true (.idx (.var 0) (.con (.str "turn"))) (.con (.int 1))), .set 2 (.op2 .mod false (.bi .int false [.op2 .add false (.idx (.var 0) (.con (.str "stirred"))) (.op2 .mul false (.con (.int 48271)) (.idx (.var 0) (.con (.str "turn"))))]) (.con (.int 2147483563))), .set 2 (.op2 .mod false (.bi .int false [.op2 .add false (.op2 .add false (.op2 .mul false (.var 2) (.var 2)) (.op2 .mul false (.con (.int 39373)) (.idx (.var 0) (.con (.str "turn"))))) (.con (.int 13))]) (.con (.int 2147483549))), .ret (.op2 .mod false (.bi .int false [.op2 .fdiv false (.op2 .mod false (.bi .int false [.op2 .add false (.op2 .mul false (.var 2) (.con (.int 16807))) (.idx (.var 0) (.con (.str "stirred")))]) (.con (.int 2147483543))) (.con (.int 128))]) (.var 1))]
def is_law_draw (pg : Pg) (f : Nat) : Prop := Is pg f 2 4 false (b_law_draw)
/-- _law_town(jar, most, many); slots 0:jar 1:most 2:many 3:houses 4:k 5:turn 6:found 7:names 8:a 9:b -/
def b_law_town (f_law_draw f_law_mixed f_law_pick : Nat) : List S := [.set 3 (.op2 .add false (.con (.int 1)) (.call f_law_draw [.var 0, .var 1])), .par [6, 7] [.lst true [], .call f_law_mixed [.var 0, .rng false false [.var 3]]], .for_ (.name 4) .range [.con (.int 1), .var 3] [.expr (.mt .append (.var 6) [.tup [.idx (.var 7) (.var 4), .idx (.var 7) (.call f_law_draw [.var 0, .var 4])]])], .for_ (.name 5) .range [.ife (.op2 .gt false (.var 3) (.con (.int 1))) (.call f_law_draw [.var 0, .bi .max false [.con (.int 1), .op2 .add false (.op2 .sub false (.var 2) (.var 3)) (.con (.int 2))]]) (.con (.int 0))] [.par [8, 9] [.call f_law_draw [.var 0, .var 3], .call f_law_draw [.var 0, .var 3]], .ife (.andE (.op2 .ne false (.var 6) (.lst false [])) (.op2 .eq false (.var 8) (.var 9))) [.expr (.mt .append (.var 6) [.call f_law_pick [.var 0, .var 6]])] [.ife (.op2 .ne false (.var 8) (.var 9)) [.expr (.mt .append (.var 6) [.tup [.var 8, .var 9]])] []]], .ret (.tup [.var 3, .bi .tuple false [.bi .sorted false [.comp false (.tup [.bi .min false [.var 8, .var 9], .bi .max false [.var 8, .var 9]]) (.tup [(.name 8), (.name 9)]) .seq [.var 6] none [8, 9]]]])]
def is_law_town (pg : Pg) (f : Nat) (f_law_draw f_law_mixed f_law_pick : Nat) : Prop := Is pg f 3 10 true (b_law_town f_law_draw f_law_mixed f_law_pick)
/-- _law_some_town(jar); slots 0:jar 1:way -/
def b_law_some_town (f_law_draw f_law_town f_law_pick : Nat) : List S := [.set 1 (.call f_law_draw [.var 0, .con (.int 12)]), .ife (.op2 .eq false (.var 1) (.con (.int 0))) [.ret (.call f_law_town [.var 0, .con (.int 8), .con (.int 14)])] [], .ret (.call f_law_town [.var 0, .call f_law_pick [.var 0, .lst false [.con (.int 2), .con (.int 3), .con (.int 4), .con (.int 5)]], .call f_law_pick [.var 0, .lst false [.con (.int 4), .con (.int 6), .con (.int 8)]]])]
def is_law_some_town (pg : Pg) (f : Nat) (f_law_draw f_law_town f_law_pick : Nat) : Prop := Is pg f 1 2 false (b_law_some_town f_law_draw f_law_town f_law_pick)
/-- _law_degrees(town); slots 0:town 1:found 2:a 3:b -/
def b_law_degrees : List S := [.set 1 (.op2 .mul true (.lst false [.con (.int 0)]) (.idx (.var 0) (.con (.int 0)))), .for_ (.tup [(.name 2), (.name 3)]) .seq [.idx (.var 0) (.con (.int 1))] [.setis [(.var 1, .var 2), (.var 1, .var 3)] [.op2 .add false (.idx (.var 1) (.var 2)) (.con (.int 1)), .op2 .add false (.idx (.var 1) (.var 3)) (.con (.int 1))]], .ret (.var 1)]
def is_law_degrees (pg : Pg) (f : Nat) : Prop := Is pg f 1 4 true (b_law_degrees)
/-- _law_behind(town, purse, script); slots 0:town 1:purse 2:script 3:found 4:a 5:b 6:by -/
def b_law_behind : List S := [.set 3 (.bi .list true [.var 1]), .for_ (.tup [(.name 4), (.name 5)]) .seq [.idx (.var 0) (.con (.int 1))] [.set 6 (.op2 .sub false (.idx (.var 2) (.var 4)) (.idx (.var 2) (.var 5))), .setis [(.var 3, .var 4), (.var 3, .var 5)] [.op2 .sub false (.idx (.var 3) (.var 4)) (.var 6), .op2 .add false (.idx (.var 3) (.var 5)) (.var 6)]], .ret (.bi .tuple false [.var 3])]
def is_law_behind (pg : Pg) (f : Nat) : Prop := Is pg f 3 7 true (b_law_behind)

def jarP (ds : List Int) (s t : Int) : PHp := [.lst (ds.map .int), .dK [(.inr "digits", .ref 0), (.inr "stirred", .int s), (.inr "turn", .int t)]]
def jarD : Deck where
  N := 2
  Gd T h := ∃ ds s t, h = jarP ds s t ∧ ds.length ≤ 63 ∧ 0 ≤ s ∧ s < 2147483587 ∧ 0 ≤ t ∧ t ≤ T
  len := by rintro T h ⟨ds, s, t, rfl, _⟩; rfl
  old := by
    rintro T h ⟨ds, s, t, rfl, _⟩ i o e
    match i, e with
    | 0, e => cases e; exact oldL_ints _
    | 1, e => cases e; exact .cons (.ref (by decide)) (.cons (.int _) (.cons (.int _) .nil))
  mono := by rintro T T' h hT ⟨ds, s, t, h1, h2, h3, h4, h5, h6⟩; exact ⟨ds, s, t, h1, h2, h3, h4, h5, Int.le_trans h6 hT⟩
section
variable {pg : Pg} {f : Nat}
theorem draw_ok (i : is_law_draw pg f) : Draws jarD pg f := by
  rintro k T many h ex Q X ⟨ds, s, t, rfl, hl, s0, s1, t0, t1⟩ hT m1 m2 q
  refine i.call rfl ?_
  have hsz := sz
  have q1 : ∀ r ds' t', ds'.length ≤ 63 → 0 ≤ t' → t' ≤ T + 1 → 0 ≤ r → r < many → Q (.int r) (jarP ds' s t' ++ ex) := fun r ds' t' h1 h2 h3 h4 h5 => q r _ ⟨ds', s, t', rfl, h1, s0, s1, h2, h3⟩ h4 h5
  have g0 : ∀ ds t, (jarP ds s t ++ ex)[0]? = some (.lst (ds.map .int)) := fun _ _ => rfl
  have g1 : ∀ ds t, (jarP ds s t ++ ex)[1]? = some (.dK [(.inr "digits", .ref 0), (.inr "stirred", .int s), (.inr "turn", .int t)]) := fun _ _ => rfl
  have kd : ∀ t, pkLook [((.inr "digits" : Key), PV.ref 0), (.inr "stirred", .int s), (.inr "turn", .int t)] (.inr "digits") = some (.ref 0) := fun _ => rfl
  have ks : ∀ t, pkLook [((.inr "digits" : Key), PV.ref 0), (.inr "stirred", .int s), (.inr "turn", .int t)] (.inr "stirred") = some (.int s) := fun _ => rfl
  have kt : ∀ t, pkLook [((.inr "digits" : Key), PV.ref 0), (.inr "stirred", .int s), (.inr "turn", .int t)] (.inr "turn") = some (.int t) := fun _ => rfl
  have kd_ : keyOf (.str "digits") = some (.inr "digits") := rfl
  have ks_ : keyOf (.str "stirred") = some (.inr "stirred") := rfl
  have kt_ : keyOf (.str "turn") = some (.inr "turn") := rfl
  simp only [b_law_draw, bindT, bindTs, wpB, wpS, wpE, wpEs, wpO, wpC, wpIs, wpMs, ex_some, ex_some1, ex_bl, ex_int, ex_tup, List.getElem?_cons_zero, List.getElem?_cons_succ, List.set_cons_zero, List.set_cons_succ, List.length_cons, List.length_nil, Atom.pv, add_i, sub_i, mul_i, mod_i, fdiv_i, pow_i, lt_i, le_i, gt_i, ge_i, eq_, ne_, in_e, nin_e, is_n, isnot_n, idx_tup, idx_lst, eqP_int, eqP_str, atI_0, atI_1, atI_2, ixN_0, ixN_1, ixN_2, decide_eq_true_eq, Bool.not_true, Bool.not_false, if_true, Bool.false_eq_true, if_false, setSl, len_lst, len_tup, int_i, int_bl, abs_i, min_i, max_i, tup_t, tup_l, newL_F, newL_T, List.map_cons, List.map_nil, List.append_nil, List.nil_append, List.cons_append, Nat.reduceAdd, Nat.reduceSub, List.replicate_succ, List.replicate_zero, retF, retXF, RL.add_ll, RL.add_t, RL.sl_tup, RL.sl_lst, RL.sl_scr, RL.mul_t, RL.str_int, List.zip_nil_left, List.zip_cons_cons, idx_dK (g1 _ _) kd_, kd]
  split
  · exact (q1 0 ds t hl t0 (by omega) (by omega) (by omega))
  · (refine And.intro (by first | assumption | omega | (decide; done) | (exact mulOk_small (by omega) (by omega) (by omega) (by omega)) | (exact fdivOk (by omega) (by omega)) | (simp; done) | (simp; omega)) ?_)
    refine eqP_of (.ref (g0 ds t) (dat_ints _ ds)) (.lst .nil) (shaped_ints ds) rfl ?_
    rw [eqv_nil]
    by_cases hx : ds = []
    · subst hx
      rw [decide_eq_true rfl]
      simp only [bindT, bindTs, wpB, wpS, wpE, wpEs, wpO, wpC, wpIs, wpMs, ex_some, ex_some1, ex_bl, ex_int, ex_tup, List.getElem?_cons_zero, List.getElem?_cons_succ, List.set_cons_zero, List.set_cons_succ, List.length_cons, List.length_nil, Atom.pv, add_i, sub_i, mul_i, mod_i, fdiv_i, pow_i, lt_i, le_i, gt_i, ge_i, eq_, ne_, in_e, nin_e, is_n, isnot_n, idx_tup, idx_lst, eqP_int, eqP_str, atI_0, atI_1, atI_2, ixN_0, ixN_1, ixN_2, decide_eq_true_eq, Bool.not_true, Bool.not_false, if_true, Bool.false_eq_true, if_false, setSl, len_lst, len_tup, int_i, int_bl, abs_i, min_i, max_i, tup_t, tup_l, newL_F, newL_T, List.map_cons, List.map_nil, List.append_nil, List.nil_append, List.cons_append, Nat.reduceAdd, Nat.reduceSub, List.replicate_succ, List.replicate_zero, retF, retXF, RL.add_ll, RL.add_t, RL.sl_tup, RL.sl_lst, RL.sl_scr, RL.mul_t, RL.str_int, List.zip_nil_left, List.zip_cons_cons, idx_dK (g1 _ _) kt_, kt]
      rw [seti_dK (g1 _ _) kt_]
      refine And.intro (by show 3 < _; omega) ?_
      have e : setO (jarP [] s t ++ ex) 1 (.dK (pkPut [((.inr "digits" : Key), PV.ref 0), (.inr "stirred", .int s), (.inr "turn", .int t)] (.inr "turn") (.int (t + 1)))) = jarP [] s (t + 1) ++ ex := rfl
      rw [e]
      simp only [idx_dK (g1 _ _) kt_, idx_dK (g1 _ _) ks_, ks, kt, bindT, bindTs, wpB, wpS, wpE, wpEs, wpO, wpC, wpIs, wpMs, ex_some, ex_some1, ex_bl, ex_int, ex_tup, List.getElem?_cons_zero, List.getElem?_cons_succ, List.set_cons_zero, List.set_cons_succ, List.length_cons, List.length_nil, Atom.pv, add_i, sub_i, mul_i, mod_i, fdiv_i, pow_i, lt_i, le_i, gt_i, ge_i, eq_, ne_, in_e, nin_e, is_n, isnot_n, idx_tup, idx_lst, eqP_int, eqP_str, atI_0, atI_1, atI_2, ixN_0, ixN_1, ixN_2, decide_eq_true_eq, Bool.not_true, Bool.not_false, if_true, Bool.false_eq_true, if_false, setSl, len_lst, len_tup, int_i, int_bl, abs_i, min_i, max_i, tup_t, tup_l, newL_F, newL_T, List.map_cons, List.map_nil, List.append_nil, List.nil_append, List.cons_append, Nat.reduceAdd, Nat.reduceSub, List.replicate_succ, List.replicate_zero, retF, retXF, RL.add_ll, RL.add_t, RL.sl_tup, RL.sl_lst, RL.sl_scr, RL.mul_t, RL.str_int, List.zip_nil_left, List.zip_cons_cons]
      have b1 := fmod_pos (i := s + 48271 * (t + 1)) (j := 2147483563) (by omega)
      generalize (s + 48271 * (t + 1)).fmod 2147483563 = o1 at b1 ⊢
      have b4 : 0 ≤ o1 * o1 ∧ o1 * o1 ≤ 2147483563 * 2147483563 := ⟨Int.mul_nonneg (by omega) (by omega), Int.mul_le_mul (by omega) (by omega) (by omega) (by omega)⟩
      have b2 := fmod_pos (i := o1 * o1 + 39373 * (t + 1) + 13) (j := 2147483549) (by omega)
      generalize (o1 * o1 + 39373 * (t + 1) + 13).fmod 2147483549 = o2 at b2 ⊢
      have b3 := fmod_pos (i := ((o2 * 16807 + s).fmod 2147483543).fdiv 128) (j := many) (by omega)
      (repeat (refine And.intro (by first | assumption | omega | (decide; done) | (exact mulOk_small (by omega) (by omega) (by omega) (by omega)) | (exact fdivOk (by omega) (by omega)) | (simp; done) | (simp; omega)) ?_))
      exact (q1 _ [] _ (by decide) (by omega) (by omega) b3.1 b3.2)
    · rw [decide_eq_false hx]
      obtain ⟨ys, y, rfl⟩ : ∃ ys y, ds = ys ++ [y] := ⟨ds.dropLast, ds.getLast hx, (List.dropLast_concat_getLast hx).symm⟩
      simp only [bindT, bindTs, wpB, wpS, wpE, wpEs, wpO, wpC, wpIs, wpMs, ex_some, ex_some1, ex_bl, ex_int, ex_tup, List.getElem?_cons_zero, List.getElem?_cons_succ, List.set_cons_zero, List.set_cons_succ, List.length_cons, List.length_nil, Atom.pv, add_i, sub_i, mul_i, mod_i, fdiv_i, pow_i, lt_i, le_i, gt_i, ge_i, eq_, ne_, in_e, nin_e, is_n, isnot_n, idx_tup, idx_lst, eqP_int, eqP_str, atI_0, atI_1, atI_2, ixN_0, ixN_1, ixN_2, decide_eq_true_eq, Bool.not_true, Bool.not_false, if_true, Bool.false_eq_true, if_false, setSl, len_lst, len_tup, int_i, int_bl, abs_i, min_i, max_i, tup_t, tup_l, newL_F, newL_T, List.map_cons, List.map_nil, List.append_nil, List.nil_append, List.cons_append, Nat.reduceAdd, Nat.reduceSub, List.replicate_succ, List.replicate_zero, retF, retXF, RL.add_ll, RL.add_t, RL.sl_tup, RL.sl_lst, RL.sl_scr, RL.mul_t, RL.str_int, List.zip_nil_left, List.zip_cons_cons, idx_dK (g1 _ _) kd_, kd]
      refine ⟨by simp only [lstOf, g0]; rfl, (ys ++ [y]).map .int, .int y, g0 _ _, by simp, by decide, ?_⟩
      have e : setO (jarP (ys ++ [y]) s t ++ ex) 0 (.lst (((ys ++ [y]).map PV.int).dropLast)) = jarP ys s t ++ ex := by simp [setO, jarP]
      rw [e]
      have b3 := fmod_pos (i := y) (j := many) (by omega)
      have hyl : ys.length ≤ 62 := by simp at hl; omega
      simp only [bindT, bindTs, wpB, wpS, wpE, wpEs, wpO, wpC, wpIs, wpMs, ex_some, ex_some1, ex_bl, ex_int, ex_tup, List.getElem?_cons_zero, List.getElem?_cons_succ, List.set_cons_zero, List.set_cons_succ, List.length_cons, List.length_nil, Atom.pv, add_i, sub_i, mul_i, mod_i, fdiv_i, pow_i, lt_i, le_i, gt_i, ge_i, eq_, ne_, in_e, nin_e, is_n, isnot_n, idx_tup, idx_lst, eqP_int, eqP_str, atI_0, atI_1, atI_2, ixN_0, ixN_1, ixN_2, decide_eq_true_eq, Bool.not_true, Bool.not_false, if_true, Bool.false_eq_true, if_false, setSl, len_lst, len_tup, int_i, int_bl, abs_i, min_i, max_i, tup_t, tup_l, newL_F, newL_T, List.map_cons, List.map_nil, List.append_nil, List.nil_append, List.cons_append, Nat.reduceAdd, Nat.reduceSub, List.replicate_succ, List.replicate_zero, retF, retXF, RL.add_ll, RL.add_t, RL.sl_tup, RL.sl_lst, RL.sl_scr, RL.mul_t, RL.str_int, List.zip_nil_left, List.zip_cons_cons, idx_dK (g1 _ _) kd_, kd]
      split
      · refine ⟨by simp only [lstOf, g0]; rfl, by first | assumption | omega | (decide; done) | (exact mulOk_small (by omega) (by omega) (by omega) (by omega)) | (exact fdivOk (by omega) (by omega)) | (simp; done) | (simp; omega), ys.map .int, g0 _ _, by simp; omega, ?_⟩
        have e2 : setO (jarP ys s t ++ ex) 0 (.lst (ys.map PV.int ++ [.int (y.fdiv many)])) = jarP (ys ++ [y.fdiv many]) s t ++ ex := by simp [setO, jarP]
        rw [e2]
        exact ⟨by omega, (q1 _ _ _ (by simp; omega) t0 (by omega) b3.1 b3.2)⟩
      · exact ⟨by omega, (q1 _ _ _ (by omega) t0 (by omega) b3.1 b3.2)⟩
theorem jar_ok (i : is_law_jar pg f) {k : Nat} {ns : List Int} {Q : QV} {X : QX} (q : ∀ h, jarD.Gd 0 h → Q (.ref 1) h) : callK pg (k + 1) f [.scr ns] [] Q X := by
  refine i.call rfl ?_
  have hsz := sz
  have hc := cut_len ns
  obtain ⟨cs, e63⟩ : ∃ cs, cs = cut ns none (some 63) := ⟨_, rfl⟩
  rw [← e63] at hc
  replace e63 : cut (ns.map PV.int) none (some 63) = cs.map .int := by rw [cut_map, e63]
  have hcl : (cs.map PV.int).length ≤ sizeLine := by rw [List.length_map]; omega
  simp only [b_law_jar, bindT, bindTs, wpB, wpS, wpE, wpEs, wpO, wpC, wpIs, wpMs, ex_some, ex_some1, ex_bl, ex_int, ex_tup, List.getElem?_cons_zero, List.getElem?_cons_succ, List.set_cons_zero, List.set_cons_succ, List.length_cons, List.length_nil, Atom.pv, add_i, sub_i, mul_i, mod_i, fdiv_i, pow_i, lt_i, le_i, gt_i, ge_i, eq_, ne_, in_e, nin_e, is_n, isnot_n, idx_tup, idx_lst, eqP_int, eqP_str, atI_0, atI_1, atI_2, ixN_0, ixN_1, ixN_2, decide_eq_true_eq, Bool.not_true, Bool.not_false, if_true, Bool.false_eq_true, if_false, setSl, len_lst, len_tup, int_i, int_bl, abs_i, min_i, max_i, tup_t, tup_l, newL_F, newL_T, List.map_cons, List.map_nil, List.append_nil, List.nil_append, List.cons_append, Nat.reduceAdd, Nat.reduceSub, List.replicate_succ, List.replicate_zero, retF, retXF, RL.add_ll, RL.add_t, RL.sl_tup, RL.sl_lst, RL.sl_scr, RL.mul_t, RL.str_int, List.zip_nil_left, List.zip_cons_cons, sl_scr, e63]
  rw [List.length_map] at hcl ⊢
  refine ⟨hcl, ?_⟩
  refine ⟨mulOk_small (by omega) (by omega) (by omega) (by omega), by omega, hcl, _, rfl, ?_⟩
  refine forL_rule (fun _ env ph => ∃ a m, (0 ≤ m ∧ m < 2147483587) ∧ env = [some (.scr ns), some (.int m), a, none] ∧ ph = []) ?_ ?_ ⟨none, _, ⟨by omega, by omega⟩, rfl, rfl⟩
  · rintro i v env ph hv ⟨a, m, hm, rfl, rfl⟩
    rw [List.getElem?_map, Option.map_eq_some_iff] at hv
    obtain ⟨z, _, rfl⟩ := hv
    refine ⟨rfl, fun N hN => ⟨by simp, ?_⟩⟩
    simp only [bindT, bindTs, wpB, wpS, wpE, wpEs, wpO, wpC, wpIs, wpMs, ex_some, ex_some1, ex_bl, ex_int, ex_tup, List.getElem?_cons_zero, List.getElem?_cons_succ, List.set_cons_zero, List.set_cons_succ, List.length_cons, List.length_nil, Atom.pv, add_i, sub_i, mul_i, mod_i, fdiv_i, pow_i, lt_i, le_i, gt_i, ge_i, eq_, ne_, in_e, nin_e, is_n, isnot_n, idx_tup, idx_lst, eqP_int, eqP_str, atI_0, atI_1, atI_2, ixN_0, ixN_1, ixN_2, decide_eq_true_eq, Bool.not_true, Bool.not_false, if_true, Bool.false_eq_true, if_false, setSl, len_lst, len_tup, int_i, int_bl, abs_i, min_i, max_i, tup_t, tup_l, newL_F, newL_T, List.map_cons, List.map_nil, List.append_nil, List.nil_append, List.cons_append, Nat.reduceAdd, Nat.reduceSub, List.replicate_succ, List.replicate_zero, retF, retXF, RL.add_ll, RL.add_t, RL.sl_tup, RL.sl_lst, RL.sl_scr, RL.mul_t, RL.str_int, List.zip_nil_left, List.zip_cons_cons]
    refine ⟨mulOk_small (by omega) (by omega) (by omega) (by omega), mulOk_2, by omega, by omega, hN _ _ ⟨_, _, fmod_pos (by omega), rfl, rfl⟩⟩
  · rintro env ph ⟨a, m, hm, rfl, rfl⟩
    refine ⟨rfl, ?_⟩
    simp only [bindT, bindTs, wpB, wpS, wpE, wpEs, wpO, wpC, wpIs, wpMs, ex_some, ex_some1, ex_bl, ex_int, ex_tup, List.getElem?_cons_zero, List.getElem?_cons_succ, List.set_cons_zero, List.set_cons_succ, List.length_cons, List.length_nil, Atom.pv, add_i, sub_i, mul_i, mod_i, fdiv_i, pow_i, lt_i, le_i, gt_i, ge_i, eq_, ne_, in_e, nin_e, is_n, isnot_n, idx_tup, idx_lst, eqP_int, eqP_str, atI_0, atI_1, atI_2, ixN_0, ixN_1, ixN_2, decide_eq_true_eq, Bool.not_true, Bool.not_false, if_true, Bool.false_eq_true, if_false, setSl, len_lst, len_tup, int_i, int_bl, abs_i, min_i, max_i, tup_t, tup_l, newL_F, newL_T, List.map_cons, List.map_nil, List.append_nil, List.nil_append, List.cons_append, Nat.reduceAdd, Nat.reduceSub, List.replicate_succ, List.replicate_zero, retF, retXF, RL.add_ll, RL.add_t, RL.sl_tup, RL.sl_lst, RL.sl_scr, RL.mul_t, RL.str_int, List.zip_nil_left, List.zip_cons_cons, sl_scr, e63]
    refine ⟨by rw [List.length_map]; exact hcl, _, rfl, ?_⟩
    refine comp_filter (fun v => decide ((10 : Int) ^ (14 : Int).toNat ≤ (if toI v < 0 then -toI v else toI v))) (fun v => .int (if toI v < 0 then -toI v else toI v)) rfl (by rw [List.length_map]; exact hcl) (fun v hv K R h1 h2 => ?_) ?_
    · obtain ⟨i, _, rfl⟩ := List.mem_map.mp hv
      refine ⟨by simp [wipeE], ?_⟩
      simp only [wipeE, bindT, bindTs, wpB, wpS, wpE, wpEs, wpO, wpC, wpIs, wpMs, ex_some, ex_some1, ex_bl, ex_int, ex_tup, List.getElem?_cons_zero, List.getElem?_cons_succ, List.set_cons_zero, List.set_cons_succ, List.length_cons, List.length_nil, Atom.pv, add_i, sub_i, mul_i, mod_i, fdiv_i, pow_i, lt_i, le_i, gt_i, ge_i, eq_, ne_, in_e, nin_e, is_n, isnot_n, idx_tup, idx_lst, eqP_int, eqP_str, atI_0, atI_1, atI_2, ixN_0, ixN_1, ixN_2, decide_eq_true_eq, Bool.not_true, Bool.not_false, if_true, Bool.false_eq_true, if_false, setSl, len_lst, len_tup, int_i, int_bl, abs_i, min_i, max_i, tup_t, tup_l, newL_F, newL_T, List.map_cons, List.map_nil, List.append_nil, List.nil_append, List.cons_append, Nat.reduceAdd, Nat.reduceSub, List.replicate_succ, List.replicate_zero, retF, retXF, RL.add_ll, RL.add_t, RL.sl_tup, RL.sl_lst, RL.sl_scr, RL.mul_t, RL.str_int, List.zip_nil_left, List.zip_cons_cons]
      refine ⟨by decide, ?_⟩
      by_cases hb : (10 : Int) ^ (14 : Int).toNat ≤ (if i < 0 then -i else i)
      · rw [if_pos hb]; exact h1 (decide_eq_true hb)
      · rw [if_neg hb]; exact h2 (decide_eq_false hb)
    · have e : ∃ es : List Int, es.length ≤ 63 ∧ ((cs.map PV.int).filter fun v => decide ((10 : Int) ^ (14 : Int).toNat ≤ (if toI v < 0 then -toI v else toI v))).map (fun v => PV.int (if toI v < 0 then -toI v else toI v)) = es.map .int := by
        refine ⟨(cs.filter fun i => decide ((10 : Int) ^ (14 : Int).toNat ≤ (if i < 0 then -i else i))).map fun i => if i < 0 then -i else i, ?_, ?_⟩
        · rw [List.length_map]; exact Nat.le_trans (List.length_filter_le _ _) hc
        · rw [List.filter_map, List.map_map, List.map_map]; rfl
      obtain ⟨es, h1, e⟩ := e
      rw [e]
      refine ⟨by rw [List.length_map]; omega, by omega, es.map .int, rfl, newL_t (by rw [List.length_reverse, List.length_map]; omega) ⟨_, rfl, by decide, by decide, ?_⟩⟩
      refine (q _ ⟨es.reverse, m, 0, ?_, by rw [List.length_reverse]; exact h1, hm.1, hm.2, by omega, by omega⟩)
      simp only [jarP, List.map_reverse]
      rfl
theorem town_ok {dr mi pk : Nat} (i : is_law_town pg f dr mi pk) (j1 : is_law_mixed pg mi dr) (j2 : is_law_pick pg pk dr) (dw : Draws jarD pg dr) {k : Nat} {T : Int} {most many : Int} {h ex : PHp} {Q : QV} {X : QX} (g : jarD.Gd T h) (hT : T ≤ 100000000) (h1 : 1 ≤ most) (h2 : most ≤ 100) (h3 : 0 ≤ many) (h4 : many ≤ 100)
    (q : ∀ (n : Nat) (rs : List Rd2) h', jarD.Gd (T + 1000) h' → Tw n rs → (n : Int) ≤ most → ((rs.length : Int) ≤ many ∨ rs.length + 1 ≤ n) → Q (townPV n rs) (h' ++ ex)) : callK pg (k + 3) f [.ref 1, .int most, .int many] (h ++ ex) Q X := by
  refine i.call rfl ?_
  have hsz := sz
  simp only [b_law_town, bindT, bindTs, wpB, wpS, wpE, wpEs, wpO, wpC, wpIs, wpMs, ex_some, ex_some1, ex_bl, ex_int, ex_tup, List.getElem?_cons_zero, List.getElem?_cons_succ, List.set_cons_zero, List.set_cons_succ, List.length_cons, List.length_nil, Atom.pv, add_i, sub_i, mul_i, mod_i, fdiv_i, pow_i, lt_i, le_i, gt_i, ge_i, eq_, ne_, in_e, nin_e, is_n, isnot_n, idx_tup, idx_lst, eqP_int, eqP_str, atI_0, atI_1, atI_2, ixN_0, ixN_1, ixN_2, decide_eq_true_eq, Bool.not_true, Bool.not_false, if_true, Bool.false_eq_true, if_false, setSl, len_lst, len_tup, int_i, int_bl, abs_i, min_i, max_i, tup_t, tup_l, newL_F, newL_T, List.map_cons, List.map_nil, List.append_nil, List.nil_append, List.cons_append, Nat.reduceAdd, Nat.reduceSub, List.replicate_succ, List.replicate_zero, retF, retXF, RL.add_ll, RL.add_t, RL.sl_tup, RL.sl_lst, RL.sl_scr, RL.mul_t, RL.str_int, List.zip_nil_left, List.zip_cons_cons]
  refine dw g (by omega) h1 (by omega) fun r hp1 g1 r0 r1 => ?_
  (try simp only [bindT, bindTs, wpB, wpS, wpE, wpEs, wpO, wpC, wpIs, wpMs, ex_some, ex_some1, ex_bl, ex_int, ex_tup, List.getElem?_cons_zero, List.getElem?_cons_succ, List.set_cons_zero, List.set_cons_succ, List.length_cons, List.length_nil, Atom.pv, add_i, sub_i, mul_i, mod_i, fdiv_i, pow_i, lt_i, le_i, gt_i, ge_i, eq_, ne_, in_e, nin_e, is_n, isnot_n, idx_tup, idx_lst, eqP_int, eqP_str, atI_0, atI_1, atI_2, ixN_0, ixN_1, ixN_2, decide_eq_true_eq, Bool.not_true, Bool.not_false, if_true, Bool.false_eq_true, if_false, setSl, len_lst, len_tup, int_i, int_bl, abs_i, min_i, max_i, tup_t, tup_l, newL_F, newL_T, List.map_cons, List.map_nil, List.append_nil, List.nil_append, List.cons_append, Nat.reduceAdd, Nat.reduceSub, List.replicate_succ, List.replicate_zero, retF, retXF, RL.add_ll, RL.add_t, RL.sl_tup, RL.sl_lst, RL.sl_scr, RL.mul_t, RL.str_int, List.zip_nil_left, List.zip_cons_cons])
  refine ⟨by decide, by omega, ?_⟩
  obtain ⟨n, hn⟩ : ∃ n : Nat, (n : Int) = 1 + r := ⟨(1 + r).toNat, by omega⟩
  rw [← hn]
  refine ⟨_, rng12_1 (rOk_small (by omega) (by omega) (by omega) (by omega)), ?_⟩
  rw [rng0_nat]
  refine ⟨by simp; omega, by simp; omega, ?_⟩
  rw [List.append_assoc, dl0 g1]
  refine mix_ok j1 dw RwN (vs := List.range n) (v := .lst ((List.range n).map fun i : Nat => PV.int (i : Int))) (ex := ex ++ [.lst []]) g1 (by rw [List.length_range]; omega) rfl (by rw [List.length_range]; omega) fun ns hp2 g2 hperm => ?_
  obtain ⟨nl, nd, nm⟩ := perm_range hperm
  rw [List.length_range] at g2
  have eN : List.map RwN.f ns = natsPV ns := rfl
  simp only [eN]
  refine ⟨_, it_r2 (rOk_small (by omega) (by omega) (by omega) (by omega)), ?_⟩
  -- the tree
  refine forL_rule (fun i env ph => ∃ (a : Option PV) (hp : PHp) (fs : List Rd2), jarD.Gd (T + 1 + n + i) hp ∧ env = [some (.ref 1), some (.int most), some (.int many), some (.int (n : Int)), a, none, some (.ref (jarD.N + ex.length)), some (.lst (natsPV ns)), none, none] ∧ ph = hp ++ (ex ++ [.lst (fs.map roadPV)]) ∧
    fs.length = i ∧ In2 n fs ∧ (∀ r ∈ fs, r.1 ≠ r.2) ∧ ∀ S : Nat → Prop, S (ns.getD 0 0) → (∀ r ∈ fs, (S r.1 ↔ S r.2)) → ∀ j, j ≤ i → j < n → S (ns.getD j 0)) ?_ ?_ ⟨none, hp2, [], by simpa using g2, rfl, rfl, rfl, fun r hr => (by cases hr), fun r hr => (by cases hr), fun S h0 _ j hj _ => (Nat.le_zero.mp hj) ▸ h0⟩
  · rintro i v env ph hv ⟨a, hp, fs, g3, rfl, rfl, hl, hin, hne, hj⟩
    obtain ⟨rfl, hlt⟩ := rng1n_get hv
    have hi : 1 + i < ns.length := by omega
    refine ⟨it_r2 (rOk_small (by omega) (by omega) (by omega) (by omega)), fun N hN => ⟨by simp, ?_⟩⟩
    (try simp only [bindT, bindTs, wpB, wpS, wpE, wpEs, wpO, wpC, wpIs, wpMs, ex_some, ex_some1, ex_bl, ex_int, ex_tup, List.getElem?_cons_zero, List.getElem?_cons_succ, List.set_cons_zero, List.set_cons_succ, List.length_cons, List.length_nil, Atom.pv, add_i, sub_i, mul_i, mod_i, fdiv_i, pow_i, lt_i, le_i, gt_i, ge_i, eq_, ne_, in_e, nin_e, is_n, isnot_n, idx_tup, idx_lst, eqP_int, eqP_str, atI_0, atI_1, atI_2, ixN_0, ixN_1, ixN_2, decide_eq_true_eq, Bool.not_true, Bool.not_false, if_true, Bool.false_eq_true, if_false, setSl, len_lst, len_tup, int_i, int_bl, abs_i, min_i, max_i, tup_t, tup_l, newL_F, newL_T, List.map_cons, List.map_nil, List.append_nil, List.nil_append, List.cons_append, Nat.reduceAdd, Nat.reduceSub, List.replicate_succ, List.replicate_zero, retF, retXF, RL.add_ll, RL.add_t, RL.sl_tup, RL.sl_lst, RL.sl_scr, RL.mul_t, RL.str_int, List.zip_nil_left, List.zip_cons_cons])
    refine ⟨by simp only [lstOf, dg0 g3]; rfl, _, atI_nats hi, ?_⟩
    refine dw g3 (by omega) (by omega) (by omega) fun s hp4 g4 s0 s1 => ?_
    obtain ⟨s, rfl⟩ : ∃ s' : Nat, (s' : Int) = s := ⟨s.toNat, by omega⟩
    have hs : s < ns.length := by omega
    (try simp only [bindT, bindTs, wpB, wpS, wpE, wpEs, wpO, wpC, wpIs, wpMs, ex_some, ex_some1, ex_bl, ex_int, ex_tup, List.getElem?_cons_zero, List.getElem?_cons_succ, List.set_cons_zero, List.set_cons_succ, List.length_cons, List.length_nil, Atom.pv, add_i, sub_i, mul_i, mod_i, fdiv_i, pow_i, lt_i, le_i, gt_i, ge_i, eq_, ne_, in_e, nin_e, is_n, isnot_n, idx_tup, idx_lst, eqP_int, eqP_str, atI_0, atI_1, atI_2, ixN_0, ixN_1, ixN_2, decide_eq_true_eq, Bool.not_true, Bool.not_false, if_true, Bool.false_eq_true, if_false, setSl, len_lst, len_tup, int_i, int_bl, abs_i, min_i, max_i, tup_t, tup_l, newL_F, newL_T, List.map_cons, List.map_nil, List.append_nil, List.nil_append, List.cons_append, Nat.reduceAdd, Nat.reduceSub, List.replicate_succ, List.replicate_zero, retF, retXF, RL.add_ll, RL.add_t, RL.sl_tup, RL.sl_lst, RL.sl_scr, RL.mul_t, RL.str_int, List.zip_nil_left, List.zip_cons_cons])
    refine ⟨_, atI_nats hs, by omega, _, dg0 g4, by rw [List.length_map]; omega, ?_⟩
    rw [ds0 g4]
    have hd : ns[1 + i] ≠ ns[s] := fun e => by
      have := (List.getElem_inj nd).mp e
      omega
    refine hN _ _ ⟨_, hp4, fs ++ [(ns[1 + i], ns[s])], ?_, rfl, by rw [List.map_append]; rfl, by simp [hl], fun r hr => ?_, fun r hr => ?_, fun S h0 hc j hj1 hj2 => ?_⟩
    · rw [show T + 1 + n + ((i + 1 : Nat) : Int) = T + 1 + n + i + 1 by omega]; exact g4
    · rcases List.mem_append.mp hr with hr | hr
      · exact hin r hr
      · rw [List.mem_singleton.mp hr]; exact ⟨(nm _).mp (List.getElem_mem _), (nm _).mp (List.getElem_mem _)⟩
    · rcases List.mem_append.mp hr with hr | hr
      · exact hne r hr
      · rw [List.mem_singleton.mp hr]; exact hd
    · have hj' := hj S h0 fun r hr => hc r (List.mem_append_left _ hr)
      by_cases hji : j ≤ i
      · exact hj' j hji hj2
      · have e : j = 1 + i := by omega
        subst e
        have hS := hj' s (by omega) (by omega)
        have := hc (ns[1 + i], ns[s]) (by simp)
        simp only [List.getD_eq_getElem?_getD, List.getElem?_eq_getElem hi, List.getElem?_eq_getElem hs, Option.getD_some] at hS ⊢
        exact this.mpr hS
  · rintro env ph ⟨a, hp, fs, g3, rfl, rfl, hl, hin, hne, hj⟩
    rw [rng1n_len] at hl g3 hj
    refine ⟨it_r2 (rOk_small (by omega) (by omega) (by omega) (by omega)), ?_⟩
    have hjoin : ∀ fs' : List Rd2, (∀ r ∈ fs, r ∈ fs') → ∀ S : Nat → Prop, S (ns.getD 0 0) → (∀ r ∈ fs', (S r.1 ↔ S r.2)) → ∀ v, v < n → S v := fun fs' hsub S h0 hc v hv => by
      obtain ⟨j, hj1, hj2⟩ := List.getElem_of_mem ((nm v).mpr hv)
      have := hj S h0 (fun r hr => hc r (hsub r hr)) j (by omega) (by omega)
      simp only [List.getD_eq_getElem?_getD, List.getElem?_eq_getElem hj1, Option.getD_some, hj2] at this
      exact this
    have tail : ∀ (fs' : List Rd2) (hp' : PHp) (a b c d : Option PV), jarD.Gd (T + 1000) hp' → In2 n fs' → (∀ r ∈ fs', r.1 ≠ r.2) → (∀ r ∈ fs, r ∈ fs') → n ≤ fs'.length + 1 → ((fs'.length : Int) ≤ many ∨ fs'.length + 1 ≤ n) → fs'.length ≤ 1000 →
        wpB (callK pg (k + 2)) pg.gt [.ret (.tup [.var 3, .bi .tuple false [.bi .sorted false [.comp false (.tup [.bi .min false [.var 8, .var 9], .bi .max false [.var 8, .var 9]]) (.tup [(.name 8), (.name 9)]) .seq [.var 6] none [8, 9]]]])] { nx := fun _ h_1 => retS true (h ++ ex) Q .non h_1, rt := retS true (h ++ ex) Q, xc := retX true (h ++ ex) X }
          [some (.ref 1), some (.int most), some (.int many), some (.int (n : Int)), a, b, some (.ref (jarD.N + ex.length)), some (.lst (natsPV ns)), c, d] (hp' ++ (ex ++ [.lst (fs'.map roadPV)])) := fun fs' hp' a b c d g5 hin' hne' hsub hlen1 hlen hl1 => by
      (try simp only [bindT, bindTs, wpB, wpS, wpE, wpEs, wpO, wpC, wpIs, wpMs, ex_some, ex_some1, ex_bl, ex_int, ex_tup, List.getElem?_cons_zero, List.getElem?_cons_succ, List.set_cons_zero, List.set_cons_succ, List.length_cons, List.length_nil, Atom.pv, add_i, sub_i, mul_i, mod_i, fdiv_i, pow_i, lt_i, le_i, gt_i, ge_i, eq_, ne_, in_e, nin_e, is_n, isnot_n, idx_tup, idx_lst, eqP_int, eqP_str, atI_0, atI_1, atI_2, ixN_0, ixN_1, ixN_2, decide_eq_true_eq, Bool.not_true, Bool.not_false, if_true, Bool.false_eq_true, if_false, setSl, len_lst, len_tup, int_i, int_bl, abs_i, min_i, max_i, tup_t, tup_l, newL_F, newL_T, List.map_cons, List.map_nil, List.append_nil, List.nil_append, List.cons_append, Nat.reduceAdd, Nat.reduceSub, List.replicate_succ, List.replicate_zero, retF, retXF, RL.add_ll, RL.add_t, RL.sl_tup, RL.sl_lst, RL.sl_scr, RL.mul_t, RL.str_int, List.zip_nil_left, List.zip_cons_cons])
      refine ⟨fs'.map roadPV, by simp only [itItems, seqIt, seqOf, lstOf, dg0 g5], ?_⟩
      refine comp_map (fun v => roadPV (ordR (toRd v))) (by simp only [itItems, seqIt, seqOf, lstOf, dg0 g5]) (by rw [List.length_map]; omega) (fun v hv K R hK => ?_) ?_
      · obtain ⟨⟨a, b⟩, _, rfl⟩ := List.mem_map.mp hv
        rw [toRd_road] at hK
        refine ⟨_, rfl, rfl, by simp [wipeE], by simp [wipeE], ?_⟩
        simp only [wipeE, bindT, bindTs, wpB, wpS, wpE, wpEs, wpO, wpC, wpIs, wpMs, ex_some, ex_some1, ex_bl, ex_int, ex_tup, List.getElem?_cons_zero, List.getElem?_cons_succ, List.set_cons_zero, List.set_cons_succ, List.length_cons, List.length_nil, Atom.pv, add_i, sub_i, mul_i, mod_i, fdiv_i, pow_i, lt_i, le_i, gt_i, ge_i, eq_, ne_, in_e, nin_e, is_n, isnot_n, idx_tup, idx_lst, eqP_int, eqP_str, atI_0, atI_1, atI_2, ixN_0, ixN_1, ixN_2, decide_eq_true_eq, Bool.not_true, Bool.not_false, if_true, Bool.false_eq_true, if_false, setSl, len_lst, len_tup, int_i, int_bl, abs_i, min_i, max_i, tup_t, tup_l, newL_F, newL_T, List.map_cons, List.map_nil, List.append_nil, List.nil_append, List.cons_append, Nat.reduceAdd, Nat.reduceSub, List.replicate_succ, List.replicate_zero, retF, retXF, RL.add_ll, RL.add_t, RL.sl_tup, RL.sl_lst, RL.sl_scr, RL.mul_t, RL.str_int, List.zip_nil_left, List.zip_cons_cons]
        refine ⟨by omega, ?_⟩
        rw [rdPV_eq]
        exact hK
      · have e : (fs'.map roadPV).map (fun v => roadPV (ordR (toRd v))) = (fs'.map ordR).map roadPV := by
          rw [List.map_map, List.map_map]
          exact List.map_congr_left fun r _ => by simp [toRd_road]
        rw [e]
        refine ⟨by rw [List.length_map, List.length_map]; omega, sorted_roads rfl ?_⟩
        (try simp only [bindT, bindTs, wpB, wpS, wpE, wpEs, wpO, wpC, wpIs, wpMs, ex_some, ex_some1, ex_bl, ex_int, ex_tup, List.getElem?_cons_zero, List.getElem?_cons_succ, List.set_cons_zero, List.set_cons_succ, List.length_cons, List.length_nil, Atom.pv, add_i, sub_i, mul_i, mod_i, fdiv_i, pow_i, lt_i, le_i, gt_i, ge_i, eq_, ne_, in_e, nin_e, is_n, isnot_n, idx_tup, idx_lst, eqP_int, eqP_str, atI_0, atI_1, atI_2, ixN_0, ixN_1, ixN_2, decide_eq_true_eq, Bool.not_true, Bool.not_false, if_true, Bool.false_eq_true, if_false, setSl, len_lst, len_tup, int_i, int_bl, abs_i, min_i, max_i, tup_t, tup_l, newL_F, newL_T, List.map_cons, List.map_nil, List.append_nil, List.nil_append, List.cons_append, Nat.reduceAdd, Nat.reduceSub, List.replicate_succ, List.replicate_zero, retF, retXF, RL.add_ll, RL.add_t, RL.sl_tup, RL.sl_lst, RL.sl_scr, RL.mul_t, RL.str_int, List.zip_nil_left, List.zip_cons_cons])
        refine ⟨by rw [List.length_map, len_sortR, List.length_map]; omega, by omega, ?_⟩
        refine ret_deckO g g5 (old_town _) (q n _ hp' g5 (Tw.of (by omega) hlen1 hne' hin' (hjoin fs' hsub)) (by omega) ?_)
        rw [len_sortR, List.length_map]
        exact hlen
    have hfl : fs.length + 1 = n := by omega
    (try simp only [bindT, bindTs, wpB, wpS, wpE, wpEs, wpO, wpC, wpIs, wpMs, ex_some, ex_some1, ex_bl, ex_int, ex_tup, List.getElem?_cons_zero, List.getElem?_cons_succ, List.set_cons_zero, List.set_cons_succ, List.length_cons, List.length_nil, Atom.pv, add_i, sub_i, mul_i, mod_i, fdiv_i, pow_i, lt_i, le_i, gt_i, ge_i, eq_, ne_, in_e, nin_e, is_n, isnot_n, idx_tup, idx_lst, eqP_int, eqP_str, atI_0, atI_1, atI_2, ixN_0, ixN_1, ixN_2, decide_eq_true_eq, Bool.not_true, Bool.not_false, if_true, Bool.false_eq_true, if_false, setSl, len_lst, len_tup, int_i, int_bl, abs_i, min_i, max_i, tup_t, tup_l, newL_F, newL_T, List.map_cons, List.map_nil, List.append_nil, List.nil_append, List.cons_append, Nat.reduceAdd, Nat.reduceSub, List.replicate_succ, List.replicate_zero, retF, retXF, RL.add_ll, RL.add_t, RL.sl_tup, RL.sl_lst, RL.sl_scr, RL.mul_t, RL.str_int, List.zip_nil_left, List.zip_cons_cons])
    split
    · rename_i hn1
      (try simp only [bindT, bindTs, wpB, wpS, wpE, wpEs, wpO, wpC, wpIs, wpMs, ex_some, ex_some1, ex_bl, ex_int, ex_tup, List.getElem?_cons_zero, List.getElem?_cons_succ, List.set_cons_zero, List.set_cons_succ, List.length_cons, List.length_nil, Atom.pv, add_i, sub_i, mul_i, mod_i, fdiv_i, pow_i, lt_i, le_i, gt_i, ge_i, eq_, ne_, in_e, nin_e, is_n, isnot_n, idx_tup, idx_lst, eqP_int, eqP_str, atI_0, atI_1, atI_2, ixN_0, ixN_1, ixN_2, decide_eq_true_eq, Bool.not_true, Bool.not_false, if_true, Bool.false_eq_true, if_false, setSl, len_lst, len_tup, int_i, int_bl, abs_i, min_i, max_i, tup_t, tup_l, newL_F, newL_T, List.map_cons, List.map_nil, List.append_nil, List.nil_append, List.cons_append, Nat.reduceAdd, Nat.reduceSub, List.replicate_succ, List.replicate_zero, retF, retXF, RL.add_ll, RL.add_t, RL.sl_tup, RL.sl_lst, RL.sl_scr, RL.mul_t, RL.str_int, List.zip_nil_left, List.zip_cons_cons])
      refine dw g3 (by omega) (by omega) (by omega) fun t hp4 g4 t0 t1 => ?_
      obtain ⟨t, rfl⟩ : ∃ t' : Nat, (t' : Int) = t := ⟨t.toNat, by omega⟩
      refine ⟨_, it_r1 (rOk_small (by omega) (by omega) (by omega) (by omega)), ?_⟩
      refine forL_rule (fun i env ph => ∃ (b c d : Option PV) (hp : PHp) (fs' : List Rd2), jarD.Gd (T + 203 + 3 * i) hp ∧ env = [some (.ref 1), some (.int most), some (.int many), some (.int (n : Int)), a, b, some (.ref (jarD.N + ex.length)), some (.lst (natsPV ns)), c, d] ∧ ph = hp ++ (ex ++ [.lst (fs'.map roadPV)]) ∧
        In2 n fs' ∧ (∀ r ∈ fs', r.1 ≠ r.2) ∧ (∀ r ∈ fs, r ∈ fs') ∧ fs'.length ≤ fs.length + i ∧ fs.length ≤ fs'.length ∧ fs' ≠ []) ?_ ?_ ⟨none, none, none, hp4, fs, jarD.mono (by omega) g4, rfl, rfl, hin, hne, fun _ h => h, by omega, by omega, fun e => by rw [e] at hfl; simp at hfl; omega⟩
      · rintro i v env ph hv ⟨b, c, d, hp, fs', g5, rfl, rfl, hin', hne', hsub, hlen, hlen2, hnz⟩
        obtain ⟨rfl, hlt⟩ := rng0_get hv
        refine ⟨it_r1 (rOk_small (by omega) (by omega) (by omega) (by omega)), fun N hN => ⟨by simp, ?_⟩⟩
        (try simp only [bindT, bindTs, wpB, wpS, wpE, wpEs, wpO, wpC, wpIs, wpMs, ex_some, ex_some1, ex_bl, ex_int, ex_tup, List.getElem?_cons_zero, List.getElem?_cons_succ, List.set_cons_zero, List.set_cons_succ, List.length_cons, List.length_nil, Atom.pv, add_i, sub_i, mul_i, mod_i, fdiv_i, pow_i, lt_i, le_i, gt_i, ge_i, eq_, ne_, in_e, nin_e, is_n, isnot_n, idx_tup, idx_lst, eqP_int, eqP_str, atI_0, atI_1, atI_2, ixN_0, ixN_1, ixN_2, decide_eq_true_eq, Bool.not_true, Bool.not_false, if_true, Bool.false_eq_true, if_false, setSl, len_lst, len_tup, int_i, int_bl, abs_i, min_i, max_i, tup_t, tup_l, newL_F, newL_T, List.map_cons, List.map_nil, List.append_nil, List.nil_append, List.cons_append, Nat.reduceAdd, Nat.reduceSub, List.replicate_succ, List.replicate_zero, retF, retXF, RL.add_ll, RL.add_t, RL.sl_tup, RL.sl_lst, RL.sl_scr, RL.mul_t, RL.str_int, List.zip_nil_left, List.zip_cons_cons])
        refine dw g5 (by omega) (by omega) (by omega) fun p hp6 g6 p0 p1 => ?_
        refine dw g6 (by omega) (by omega) (by omega) fun s hp7 g7 s0 s1 => ?_
        obtain ⟨p, rfl⟩ : ∃ t' : Nat, (t' : Int) = p := ⟨p.toNat, by omega⟩
        obtain ⟨s, rfl⟩ : ∃ t' : Nat, (t' : Int) = s := ⟨s.toNat, by omega⟩
        (try simp only [bindT, bindTs, wpB, wpS, wpE, wpEs, wpO, wpC, wpIs, wpMs, ex_some, ex_some1, ex_bl, ex_int, ex_tup, List.getElem?_cons_zero, List.getElem?_cons_succ, List.set_cons_zero, List.set_cons_succ, List.length_cons, List.length_nil, Atom.pv, add_i, sub_i, mul_i, mod_i, fdiv_i, pow_i, lt_i, le_i, gt_i, ge_i, eq_, ne_, in_e, nin_e, is_n, isnot_n, idx_tup, idx_lst, eqP_int, eqP_str, atI_0, atI_1, atI_2, ixN_0, ixN_1, ixN_2, decide_eq_true_eq, Bool.not_true, Bool.not_false, if_true, Bool.false_eq_true, if_false, setSl, len_lst, len_tup, int_i, int_bl, abs_i, min_i, max_i, tup_t, tup_l, newL_F, newL_T, List.map_cons, List.map_nil, List.append_nil, List.nil_append, List.cons_append, Nat.reduceAdd, Nat.reduceSub, List.replicate_succ, List.replicate_zero, retF, retXF, RL.add_ll, RL.add_t, RL.sl_tup, RL.sl_lst, RL.sl_scr, RL.mul_t, RL.str_int, List.zip_nil_left, List.zip_cons_cons])
        refine ⟨by omega, eqP_of (.ref (dg0 g7) (RwR.all _ fs')) (.lst .nil) (RwR.sh fs') rfl ?_⟩
        rw [eqvL_nil, decide_eq_false hnz]
        (try simp only [bindT, bindTs, wpB, wpS, wpE, wpEs, wpO, wpC, wpIs, wpMs, ex_some, ex_some1, ex_bl, ex_int, ex_tup, List.getElem?_cons_zero, List.getElem?_cons_succ, List.set_cons_zero, List.set_cons_succ, List.length_cons, List.length_nil, Atom.pv, add_i, sub_i, mul_i, mod_i, fdiv_i, pow_i, lt_i, le_i, gt_i, ge_i, eq_, ne_, in_e, nin_e, is_n, isnot_n, idx_tup, idx_lst, eqP_int, eqP_str, atI_0, atI_1, atI_2, ixN_0, ixN_1, ixN_2, decide_eq_true_eq, Bool.not_true, Bool.not_false, if_true, Bool.false_eq_true, if_false, setSl, len_lst, len_tup, int_i, int_bl, abs_i, min_i, max_i, tup_t, tup_l, newL_F, newL_T, List.map_cons, List.map_nil, List.append_nil, List.nil_append, List.cons_append, Nat.reduceAdd, Nat.reduceSub, List.replicate_succ, List.replicate_zero, retF, retXF, RL.add_ll, RL.add_t, RL.sl_tup, RL.sl_lst, RL.sl_scr, RL.mul_t, RL.str_int, List.zip_nil_left, List.zip_cons_cons])
        have hadd : ∀ (r : Rd2) hp8, jarD.Gd (T + 203 + 3 * i + 3) hp8 → r.1 ≠ r.2 → r.1 < n → r.2 < n → mtS .append (.ref (jarD.N + ex.length)) [roadPV r] (hp8 ++ (ex ++ [.lst (fs'.map roadPV)])) fun x ph1 => N [some (.ref 1), some (.int most), some (.int many), some (.int (n : Int)), a, some (.int (i : Int)), some (.ref (jarD.N + ex.length)), some (.lst (natsPV ns)), some (.int (p : Int)), some (.int (s : Int))] ph1 := fun r hp8 g8 hr1 hr2 hr3 => by
          refine ⟨_, dg0 g8, by rw [List.length_map]; omega, ?_⟩
          rw [ds0 g8]
          refine hN _ _ ⟨_, _, _, hp8, fs' ++ [r], by rw [show T + 203 + 3 * ((i + 1 : Nat) : Int) = T + 203 + 3 * i + 3 by omega]; exact g8, rfl, by rw [List.map_append]; rfl, fun x hx => ?_, fun x hx => ?_, fun x hx => List.mem_append_left _ (hsub x hx), by simp; omega, by simp; omega, by simp⟩
          · rcases List.mem_append.mp hx with h | h
            · exact hin' x h
            · rw [List.mem_singleton.mp h]; exact ⟨hr2, hr3⟩
          · rcases List.mem_append.mp hx with h | h
            · exact hne' x h
            · rw [List.mem_singleton.mp h]; exact hr1
        by_cases hps : (p : Int) = s
        · rw [if_pos hps]
          refine ⟨by simp only [lstOf, dg0 g7]; rfl, ?_⟩
          refine pickR_ok j2 dw (n := ex.length) (ex := ex ++ [.lst (fs'.map roadPV)]) (vs := fs'.map roadPV) g7 (by omega) (by simp) (by rw [List.length_map]; exact List.length_pos_iff.mpr hnz) (by rw [List.length_map]; omega) fun v hp8 g8 hv => ?_
          obtain ⟨r, hr, rfl⟩ := List.mem_map.mp hv
          exact hadd r hp8 (jarD.mono (by omega) g8) (hne' r hr) (hin' r hr).1 (hin' r hr).2
        · rw [if_neg hps, if_pos (by simpa using hps)]
          refine ⟨by simp only [lstOf, dg0 g7]; rfl, by omega, ?_⟩
          exact hadd (p, s) hp7 (jarD.mono (by omega) g7) (by simp; omega) (by simp; omega) (by simp; omega)
      · rintro env ph ⟨b, c, d, hp, fs', g5, rfl, rfl, hin', hne', hsub, hlen, hlen2, hnz⟩
        rw [rng0_len] at hlen g5
        exact ⟨it_r1 (rOk_small (by omega) (by omega) (by omega) (by omega)), tail fs' hp _ _ _ _ (jarD.mono (by omega) g5) hin' hne' hsub (by omega) (by omega) (by omega)⟩
    · rename_i hn1
      refine ⟨_, it_r1 (by decide), ⟨it_r1 (by decide), tail fs hp _ _ _ _ (jarD.mono (by omega) g3) hin hne (fun _ h => h) (by omega) (by omega) (by omega)⟩⟩
theorem some_town_ok {dr to mi pk : Nat} (i : is_law_some_town pg f dr to pk) (i2 : is_law_town pg to dr mi pk) (j1 : is_law_mixed pg mi dr) (j2 : is_law_pick pg pk dr) (dw : Draws jarD pg dr) {k : Nat} {T : Int} {h ex : PHp} {Q : QV} {X : QX} (g : jarD.Gd T h) (hT : T ≤ 100000000 - 10)
    (q : ∀ (n : Nat) (rs : List Rd2) h', jarD.Gd (T + 1010) h' → Tw n rs → n ≤ 8 → rs.length ≤ 14 → Q (townPV n rs) (h' ++ ex)) : callK pg (k + 4) f [.ref 1] (h ++ ex) Q X := by
  refine i.call rfl ?_
  have hsz := sz
  simp only [b_law_some_town, bindT, bindTs, wpB, wpS, wpE, wpEs, wpO, wpC, wpIs, wpMs, ex_some, ex_some1, ex_bl, ex_int, ex_tup, List.getElem?_cons_zero, List.getElem?_cons_succ, List.set_cons_zero, List.set_cons_succ, List.length_cons, List.length_nil, Atom.pv, add_i, sub_i, mul_i, mod_i, fdiv_i, pow_i, lt_i, le_i, gt_i, ge_i, eq_, ne_, in_e, nin_e, is_n, isnot_n, idx_tup, idx_lst, eqP_int, eqP_str, atI_0, atI_1, atI_2, ixN_0, ixN_1, ixN_2, decide_eq_true_eq, Bool.not_true, Bool.not_false, if_true, Bool.false_eq_true, if_false, setSl, len_lst, len_tup, int_i, int_bl, abs_i, min_i, max_i, tup_t, tup_l, newL_F, newL_T, List.map_cons, List.map_nil, List.append_nil, List.nil_append, List.cons_append, Nat.reduceAdd, Nat.reduceSub, List.replicate_succ, List.replicate_zero, retF, retXF, RL.add_ll, RL.add_t, RL.sl_tup, RL.sl_lst, RL.sl_scr, RL.mul_t, RL.str_int, List.zip_nil_left, List.zip_cons_cons]
  refine dw g (by omega) (by omega) (by omega) fun r hp1 g1 r0 r1 => ?_
  simp only [bindT, bindTs, wpB, wpS, wpE, wpEs, wpO, wpC, wpIs, wpMs, ex_some, ex_some1, ex_bl, ex_int, ex_tup, List.getElem?_cons_zero, List.getElem?_cons_succ, List.set_cons_zero, List.set_cons_succ, List.length_cons, List.length_nil, Atom.pv, add_i, sub_i, mul_i, mod_i, fdiv_i, pow_i, lt_i, le_i, gt_i, ge_i, eq_, ne_, in_e, nin_e, is_n, isnot_n, idx_tup, idx_lst, eqP_int, eqP_str, atI_0, atI_1, atI_2, ixN_0, ixN_1, ixN_2, decide_eq_true_eq, Bool.not_true, Bool.not_false, if_true, Bool.false_eq_true, if_false, setSl, len_lst, len_tup, int_i, int_bl, abs_i, min_i, max_i, tup_t, tup_l, newL_F, newL_T, List.map_cons, List.map_nil, List.append_nil, List.nil_append, List.cons_append, Nat.reduceAdd, Nat.reduceSub, List.replicate_succ, List.replicate_zero, retF, retXF, RL.add_ll, RL.add_t, RL.sl_tup, RL.sl_lst, RL.sl_scr, RL.mul_t, RL.str_int, List.zip_nil_left, List.zip_cons_cons]
  refine ⟨by decide, ?_⟩
  split
  · refine town_ok i2 j1 j2 dw g1 (by omega) (by omega) (by omega) (by omega) (by omega) fun n rs h2 g2 t hn hl => ?_
    exact q n rs h2 (jarD.mono (by omega) g2) t (by omega) (by omega)
  · refine ⟨by omega, pickL_ok j2 dw g1 (by omega) (by decide) (by decide) fun v h2 g2 hv => ⟨by omega, pickL_ok j2 dw g2 (by omega) (by decide) (by decide) fun w h3 g3 hw => ?_⟩⟩
    have e1 : ∃ a : Int, v = .int a ∧ 2 ≤ a ∧ a ≤ 5 := by
      simp at hv
      rcases hv with rfl | rfl | rfl | rfl <;> exact ⟨_, rfl, by omega, by omega⟩
    have e2 : ∃ a : Int, w = .int a ∧ 4 ≤ a ∧ a ≤ 8 := by
      simp at hw
      rcases hw with rfl | rfl | rfl <;> exact ⟨_, rfl, by omega, by omega⟩
    obtain ⟨a, rfl, a1, a2⟩ := e1
    obtain ⟨b, rfl, b1, b2⟩ := e2
    refine town_ok i2 j1 j2 dw g3 (by omega) (by omega) (by omega) (by omega) (by omega) fun n rs h2 g2 t hn hl => ?_
    exact q n rs h2 (jarD.mono (by omega) g2) t (by omega) (by omega)
theorem degrees_ok (i : is_law_degrees pg f) {k : Nat} {ph : PHp} {Q : QV} {X : QX} {n : Nat} {rs : List Rd2} (hn : n ≤ 1000) (hr : In2 n rs) (hne : ∀ r ∈ rs, r.1 ≠ r.2) (q : Q (.lst ((degs n rs).map .int)) ph) : callK pg (k + 1) f [townPV n rs] ph Q X := by
  refine i.call rfl ?_
  have hsz := sz
  simp only [b_law_degrees, townPV, bindT, bindTs, wpB, wpS, wpE, wpEs, wpO, wpC, wpIs, wpMs, ex_some, ex_some1, ex_bl, ex_int, ex_tup, List.getElem?_cons_zero, List.getElem?_cons_succ, List.set_cons_zero, List.set_cons_succ, List.length_cons, List.length_nil, Atom.pv, add_i, sub_i, mul_i, mod_i, fdiv_i, pow_i, lt_i, le_i, gt_i, ge_i, eq_, ne_, in_e, nin_e, is_n, isnot_n, idx_tup, idx_lst, eqP_int, eqP_str, atI_0, atI_1, atI_2, ixN_0, ixN_1, ixN_2, decide_eq_true_eq, Bool.not_true, Bool.not_false, if_true, Bool.false_eq_true, if_false, setSl, len_lst, len_tup, int_i, int_bl, abs_i, min_i, max_i, tup_t, tup_l, newL_F, newL_T, List.map_cons, List.map_nil, List.append_nil, List.nil_append, List.cons_append, Nat.reduceAdd, Nat.reduceSub, List.replicate_succ, List.replicate_zero, retF, retXF, RL.add_ll, RL.add_t, RL.sl_tup, RL.sl_lst, RL.sl_scr, RL.mul_t, RL.str_int, List.zip_nil_left, List.zip_cons_cons]
  (repeat (refine And.intro (by first | assumption | omega | (decide; done) | (exact mulOk_small (by omega) (by omega) (by omega) (by omega)) | (exact fdivOk (by omega) (by omega)) | (simp; done) | (simp; omega)) ?_))
  refine mul_l rfl (by omega) (by decide) (newL_t (by simp; omega) ⟨by first | assumption | omega | (decide; done) | (exact mulOk_small (by omega) (by omega) (by omega) (by omega)) | (exact fdivOk (by omega) (by omega)) | (simp; done) | (simp; omega), _, rfl, ?_⟩)
  rw [show ((n : Int)).toNat = n from Int.toNat_natCast n, tab_rep]
  refine forL_rule (fun i env ph' => ∃ a b, env = [some (.tup [.int n, .tup (rs.map roadPV)]), some (.ref ph.length), a, b] ∧ ph' = ph ++ [.lst ((degs n (rs.take i)).map .int)]) ?_ ?_ ⟨none, none, rfl, rfl⟩
  · rintro i v env ph' hv ⟨a, b, rfl, rfl⟩
    obtain ⟨a, b, hr', rfl⟩ := road_at hv
    have hm := List.mem_of_getElem? hr'
    have hab := hr _ hm
    have hne' := hne _ hm
    refine ⟨rfl, fun N hN => ⟨_, rfl, rfl, by simp, by simp, ?_⟩⟩
    simp only [bindT, bindTs, wpB, wpS, wpE, wpEs, wpO, wpC, wpIs, wpMs, ex_some, ex_some1, ex_bl, ex_int, ex_tup, List.getElem?_cons_zero, List.getElem?_cons_succ, List.set_cons_zero, List.set_cons_succ, List.length_cons, List.length_nil, Atom.pv, add_i, sub_i, mul_i, mod_i, fdiv_i, pow_i, lt_i, le_i, gt_i, ge_i, eq_, ne_, in_e, nin_e, is_n, isnot_n, idx_tup, idx_lst, eqP_int, eqP_str, atI_0, atI_1, atI_2, ixN_0, ixN_1, ixN_2, decide_eq_true_eq, Bool.not_true, Bool.not_false, if_true, Bool.false_eq_true, if_false, setSl, len_lst, len_tup, int_i, int_bl, abs_i, min_i, max_i, tup_t, tup_l, newL_F, newL_T, List.map_cons, List.map_nil, List.append_nil, List.nil_append, List.cons_append, Nat.reduceAdd, Nat.reduceSub, List.replicate_succ, List.replicate_zero, retF, retXF, RL.add_ll, RL.add_t, RL.sl_tup, RL.sl_lst, RL.sl_scr, RL.mul_t, RL.str_int, List.zip_nil_left, List.zip_cons_cons]
    rw [idx_ref pg0]
    refine ⟨_, atI_tab hab.1, ?_⟩
    simp only [bindT, bindTs, wpB, wpS, wpE, wpEs, wpO, wpC, wpIs, wpMs, ex_some, ex_some1, ex_bl, ex_int, ex_tup, List.getElem?_cons_zero, List.getElem?_cons_succ, List.set_cons_zero, List.set_cons_succ, List.length_cons, List.length_nil, Atom.pv, add_i, sub_i, mul_i, mod_i, fdiv_i, pow_i, lt_i, le_i, gt_i, ge_i, eq_, ne_, in_e, nin_e, is_n, isnot_n, idx_tup, idx_lst, eqP_int, eqP_str, atI_0, atI_1, atI_2, ixN_0, ixN_1, ixN_2, decide_eq_true_eq, Bool.not_true, Bool.not_false, if_true, Bool.false_eq_true, if_false, setSl, len_lst, len_tup, int_i, int_bl, abs_i, min_i, max_i, tup_t, tup_l, newL_F, newL_T, List.map_cons, List.map_nil, List.append_nil, List.nil_append, List.cons_append, Nat.reduceAdd, Nat.reduceSub, List.replicate_succ, List.replicate_zero, retF, retXF, RL.add_ll, RL.add_t, RL.sl_tup, RL.sl_lst, RL.sl_scr, RL.mul_t, RL.str_int, List.zip_nil_left, List.zip_cons_cons]
    rw [idx_ref pg0]
    refine ⟨_, atI_tab hab.2, ?_⟩
    simp only [bindT, bindTs, wpB, wpS, wpE, wpEs, wpO, wpC, wpIs, wpMs, ex_some, ex_some1, ex_bl, ex_int, ex_tup, List.getElem?_cons_zero, List.getElem?_cons_succ, List.set_cons_zero, List.set_cons_succ, List.length_cons, List.length_nil, Atom.pv, add_i, sub_i, mul_i, mod_i, fdiv_i, pow_i, lt_i, le_i, gt_i, ge_i, eq_, ne_, in_e, nin_e, is_n, isnot_n, idx_tup, idx_lst, eqP_int, eqP_str, atI_0, atI_1, atI_2, ixN_0, ixN_1, ixN_2, decide_eq_true_eq, Bool.not_true, Bool.not_false, if_true, Bool.false_eq_true, if_false, setSl, len_lst, len_tup, int_i, int_bl, abs_i, min_i, max_i, tup_t, tup_l, newL_F, newL_T, List.map_cons, List.map_nil, List.append_nil, List.nil_append, List.cons_append, Nat.reduceAdd, Nat.reduceSub, List.replicate_succ, List.replicate_zero, retF, retXF, RL.add_ll, RL.add_t, RL.sl_tup, RL.sl_lst, RL.sl_scr, RL.mul_t, RL.str_int, List.zip_nil_left, List.zip_cons_cons]
    rw [seti_ref pg0]
    refine ⟨a, ixN_nat (by rw [List.length_map, degs, tab_len]; exact hab.1), ?_⟩
    rw [ps0, set_int, degs, tab_set hab.1, seti_ref pg0]
    refine ⟨b, ixN_nat (by rw [List.length_map, tab_len]; exact hab.2), ?_⟩
    rw [ps0, set_int, tab_set hab.2]
    refine hN _ _ ⟨_, _, rfl, ?_⟩
    rw [take_succ' hr', ← degs_step hab.1 hab.2]
    congr 3
    refine congrArg (List.map PV.int) (tab_congr fun v _ => ?_)
    rw [if_neg (show ¬ b = a from fun e => hne' e.symm)]
  · rintro env ph' ⟨a, b, rfl, rfl⟩
    refine ⟨rfl, ?_⟩
    simp only [bindT, bindTs, wpB, wpS, wpE, wpEs, wpO, wpC, wpIs, wpMs, ex_some, ex_some1, ex_bl, ex_int, ex_tup, List.getElem?_cons_zero, List.getElem?_cons_succ, List.set_cons_zero, List.set_cons_succ, List.length_cons, List.length_nil, Atom.pv, add_i, sub_i, mul_i, mod_i, fdiv_i, pow_i, lt_i, le_i, gt_i, ge_i, eq_, ne_, in_e, nin_e, is_n, isnot_n, idx_tup, idx_lst, eqP_int, eqP_str, atI_0, atI_1, atI_2, ixN_0, ixN_1, ixN_2, decide_eq_true_eq, Bool.not_true, Bool.not_false, if_true, Bool.false_eq_true, if_false, setSl, len_lst, len_tup, int_i, int_bl, abs_i, min_i, max_i, tup_t, tup_l, newL_F, newL_T, List.map_cons, List.map_nil, List.append_nil, List.nil_append, List.cons_append, Nat.reduceAdd, Nat.reduceSub, List.replicate_succ, List.replicate_zero, retF, retXF, RL.add_ll, RL.add_t, RL.sl_tup, RL.sl_lst, RL.sl_scr, RL.mul_t, RL.str_int, List.zip_nil_left, List.zip_cons_cons]
    rw [List.length_map, List.take_length]
    exact ret_new (.ref (Nat.le_refl _) pg0 (frzs_old (oldL_ints _))) q
theorem behind_ok (i : is_law_behind pg f) {k : Nat} {ph : PHp} {Q : QV} {X : QX} {n : Nat} {rs : List Rd2} {pv sv : PV} {p s : List Int} (hp : rowP pv p) (hs : rowP sv s) (pl : p.length = n) (sl : s.length = n) (hn : n ≤ 1000) (hr : In2 n rs) (hne : ∀ r ∈ rs, r.1 ≠ r.2) (q : Q (pursePV (bhd n rs (nth p) (nth s))) ph) : callK pg (k + 1) f [townPV n rs, pv, sv] ph Q X := by
  refine i.call rfl ?_
  have hsz := sz
  simp only [b_law_behind, townPV, bindT, bindTs, wpB, wpS, wpE, wpEs, wpO, wpC, wpIs, wpMs, ex_some, ex_some1, ex_bl, ex_int, ex_tup, List.getElem?_cons_zero, List.getElem?_cons_succ, List.set_cons_zero, List.set_cons_succ, List.length_cons, List.length_nil, Atom.pv, add_i, sub_i, mul_i, mod_i, fdiv_i, pow_i, lt_i, le_i, gt_i, ge_i, eq_, ne_, in_e, nin_e, is_n, isnot_n, idx_tup, idx_lst, eqP_int, eqP_str, atI_0, atI_1, atI_2, ixN_0, ixN_1, ixN_2, decide_eq_true_eq, Bool.not_true, Bool.not_false, if_true, Bool.false_eq_true, if_false, setSl, len_lst, len_tup, int_i, int_bl, abs_i, min_i, max_i, tup_t, tup_l, newL_F, newL_T, List.map_cons, List.map_nil, List.append_nil, List.nil_append, List.cons_append, Nat.reduceAdd, Nat.reduceSub, List.replicate_succ, List.replicate_zero, retF, retXF, RL.add_ll, RL.add_t, RL.sl_tup, RL.sl_lst, RL.sl_scr, RL.mul_t, RL.str_int, List.zip_nil_left, List.zip_cons_cons]
  refine list_of hp.seq (newL_t (by rw [List.length_map]; omega) ⟨by first | assumption | omega | (decide; done) | (exact mulOk_small (by omega) (by omega) (by omega) (by omega)) | (exact fdivOk (by omega) (by omega)) | (simp; done) | (simp; omega), _, rfl, ?_⟩)
  have e0 : p = bhd n (rs.take 0) (nth p) (nth s) := by
    refine (tab_of pl).trans (tab_congr fun v hv => ?_)
    simp [flow]
  refine forL_rule (fun i env ph' => ∃ a b c, env = [some (.tup [.int n, .tup (rs.map roadPV)]), some pv, some sv, some (.ref ph.length), a, b, c] ∧ ph' = ph ++ [.lst ((bhd n (rs.take i) (nth p) (nth s)).map .int)]) ?_ ?_ ⟨none, none, none, rfl, by rw [← e0]⟩
  · rintro i v env ph' hv ⟨a, b, c, rfl, rfl⟩
    obtain ⟨a, b, hr', rfl⟩ := road_at hv
    have hm := List.mem_of_getElem? hr'
    have hab := hr _ hm
    have hne' := hne _ hm
    simp only at hab
    refine ⟨rfl, fun N hN => ⟨_, rfl, rfl, by simp, by simp, ?_⟩⟩
    simp only [bindT, bindTs, wpB, wpS, wpE, wpEs, wpO, wpC, wpIs, wpMs, ex_some, ex_some1, ex_bl, ex_int, ex_tup, List.getElem?_cons_zero, List.getElem?_cons_succ, List.set_cons_zero, List.set_cons_succ, List.length_cons, List.length_nil, Atom.pv, add_i, sub_i, mul_i, mod_i, fdiv_i, pow_i, lt_i, le_i, gt_i, ge_i, eq_, ne_, in_e, nin_e, is_n, isnot_n, idx_tup, idx_lst, eqP_int, eqP_str, atI_0, atI_1, atI_2, ixN_0, ixN_1, ixN_2, decide_eq_true_eq, Bool.not_true, Bool.not_false, if_true, Bool.false_eq_true, if_false, setSl, len_lst, len_tup, int_i, int_bl, abs_i, min_i, max_i, tup_t, tup_l, newL_F, newL_T, List.map_cons, List.map_nil, List.append_nil, List.nil_append, List.cons_append, Nat.reduceAdd, Nat.reduceSub, List.replicate_succ, List.replicate_zero, retF, retXF, RL.add_ll, RL.add_t, RL.sl_tup, RL.sl_lst, RL.sl_scr, RL.mul_t, RL.str_int, List.zip_nil_left, List.zip_cons_cons]
    refine hs.idx (by omega) (hs.idx (by omega) ⟨by simp, ?_⟩)
    rw [idx_ref pg0]
    refine ⟨_, atI_tab hab.1, ?_⟩
    simp only [bindT, bindTs, wpB, wpS, wpE, wpEs, wpO, wpC, wpIs, wpMs, ex_some, ex_some1, ex_bl, ex_int, ex_tup, List.getElem?_cons_zero, List.getElem?_cons_succ, List.set_cons_zero, List.set_cons_succ, List.length_cons, List.length_nil, Atom.pv, add_i, sub_i, mul_i, mod_i, fdiv_i, pow_i, lt_i, le_i, gt_i, ge_i, eq_, ne_, in_e, nin_e, is_n, isnot_n, idx_tup, idx_lst, eqP_int, eqP_str, atI_0, atI_1, atI_2, ixN_0, ixN_1, ixN_2, decide_eq_true_eq, Bool.not_true, Bool.not_false, if_true, Bool.false_eq_true, if_false, setSl, len_lst, len_tup, int_i, int_bl, abs_i, min_i, max_i, tup_t, tup_l, newL_F, newL_T, List.map_cons, List.map_nil, List.append_nil, List.nil_append, List.cons_append, Nat.reduceAdd, Nat.reduceSub, List.replicate_succ, List.replicate_zero, retF, retXF, RL.add_ll, RL.add_t, RL.sl_tup, RL.sl_lst, RL.sl_scr, RL.mul_t, RL.str_int, List.zip_nil_left, List.zip_cons_cons]
    rw [idx_ref pg0]
    refine ⟨_, atI_tab hab.2, ?_⟩
    simp only [bindT, bindTs, wpB, wpS, wpE, wpEs, wpO, wpC, wpIs, wpMs, ex_some, ex_some1, ex_bl, ex_int, ex_tup, List.getElem?_cons_zero, List.getElem?_cons_succ, List.set_cons_zero, List.set_cons_succ, List.length_cons, List.length_nil, Atom.pv, add_i, sub_i, mul_i, mod_i, fdiv_i, pow_i, lt_i, le_i, gt_i, ge_i, eq_, ne_, in_e, nin_e, is_n, isnot_n, idx_tup, idx_lst, eqP_int, eqP_str, atI_0, atI_1, atI_2, ixN_0, ixN_1, ixN_2, decide_eq_true_eq, Bool.not_true, Bool.not_false, if_true, Bool.false_eq_true, if_false, setSl, len_lst, len_tup, int_i, int_bl, abs_i, min_i, max_i, tup_t, tup_l, newL_F, newL_T, List.map_cons, List.map_nil, List.append_nil, List.nil_append, List.cons_append, Nat.reduceAdd, Nat.reduceSub, List.replicate_succ, List.replicate_zero, retF, retXF, RL.add_ll, RL.add_t, RL.sl_tup, RL.sl_lst, RL.sl_scr, RL.mul_t, RL.str_int, List.zip_nil_left, List.zip_cons_cons]
    rw [seti_ref pg0]
    refine ⟨a, ixN_nat (by rw [List.length_map, bhd_len]; exact hab.1), ?_⟩
    rw [ps0, set_int, bhd, tab_set hab.1, seti_ref pg0]
    refine ⟨b, ixN_nat (by rw [List.length_map, tab_len]; exact hab.2), ?_⟩
    rw [ps0, set_int, tab_set hab.2]
    refine hN _ _ ⟨_, _, _, rfl, ?_⟩
    rw [take_succ' hr', ← bhd_step]
    congr 3
    refine congrArg (List.map PV.int) (tab_congr fun v _ => ?_)
    rw [if_neg (show ¬ b = a from fun e => hne' e.symm)]
  · rintro env ph' ⟨a, b, c, rfl, rfl⟩
    refine ⟨rfl, ?_⟩
    simp only [bindT, bindTs, wpB, wpS, wpE, wpEs, wpO, wpC, wpIs, wpMs, ex_some, ex_some1, ex_bl, ex_int, ex_tup, List.getElem?_cons_zero, List.getElem?_cons_succ, List.set_cons_zero, List.set_cons_succ, List.length_cons, List.length_nil, Atom.pv, add_i, sub_i, mul_i, mod_i, fdiv_i, pow_i, lt_i, le_i, gt_i, ge_i, eq_, ne_, in_e, nin_e, is_n, isnot_n, idx_tup, idx_lst, eqP_int, eqP_str, atI_0, atI_1, atI_2, ixN_0, ixN_1, ixN_2, decide_eq_true_eq, Bool.not_true, Bool.not_false, if_true, Bool.false_eq_true, if_false, setSl, len_lst, len_tup, int_i, int_bl, abs_i, min_i, max_i, tup_t, tup_l, newL_F, newL_T, List.map_cons, List.map_nil, List.append_nil, List.nil_append, List.cons_append, Nat.reduceAdd, Nat.reduceSub, List.replicate_succ, List.replicate_zero, retF, retXF, RL.add_ll, RL.add_t, RL.sl_tup, RL.sl_lst, RL.sl_scr, RL.mul_t, RL.str_int, List.zip_nil_left, List.zip_cons_cons]
    rw [List.length_map, List.take_length, tup_r pg0]
    exact ret_newO (old_purse _) q
end
end FD
end RL

/-! RLOwn: purses near winning, the law's own loans (the jar's family). -/
namespace RL
open PySem L2
theorem Tw.deg_pos {n : Nat} {rs : List Rd2} (t : Tw n rs) (hn : 2 ≤ n) {h : Nat} (hh : h < n) : 1 ≤ deg rs h := by
  refine Nat.one_le_iff_ne_zero.mpr fun z => ?_
  have hno : ∀ r ∈ rs, r.1 ≠ h ∧ r.2 ≠ h := fun r hr => by
    unfold deg at z
    have z1 : rs.countP (fun r => r.1 == h) = 0 := by omega
    have z2 : rs.countP (fun r => r.2 == h) = 0 := by omega
    rw [List.countP_eq_zero] at z1 z2
    exact ⟨by simpa using z1 r hr, by simpa using z2 r hr⟩
  by_cases h0 : h = 0
  · have := t.joined (fun v => v = 0) rfl (fun r hr => by have := hno r hr; rw [h0] at this; simp [this.1, this.2]) 1 (by omega)
    omega
  · have := t.joined (fun v => v ≠ h) (by omega) (fun r hr => by have := hno r hr; simp [this.1, this.2]) h hh
    exact this rfl
theorem flow_tab {n : Nat} {rs : List Rd2} {s : Nat → Int} {v : Nat} (hr : In2 n rs) : flow rs (nth (tab n s)) v = flow rs s v := by
  unfold flow
  congr 1
  refine List.map_congr_left fun r hr' => ?_
  have := hr r hr'
  unfold step1
  rw [nth_tab this.1, nth_tab this.2]
/-! ### sums -/
theorem tab_succ {n : Nat} {f : Nat → Int} : tab (n + 1) f = tab n f ++ [f n] := by simp [tab, List.range_succ]
theorem sum_tab_add {n : Nat} {f g : Nat → Int} : (tab n fun v => f v + g v).sum = (tab n f).sum + (tab n g).sum := by
  induction n with
  | zero => rfl
  | succ n ih => rw [tab_succ, tab_succ, tab_succ, List.sum_append, List.sum_append, List.sum_append, ih]; simp; omega
theorem sum_tab_neg {n : Nat} {f : Nat → Int} : (tab n fun v => - f v).sum = - (tab n f).sum := by
  induction n with
  | zero => rfl
  | succ n ih => rw [tab_succ, tab_succ, List.sum_append, List.sum_append, ih]; simp; omega
theorem sum_tab_one {n a : Nat} {c : Int} (h : a < n) : (tab n fun v => if v = a then c else 0).sum = c := by
  induction n with
  | zero => omega
  | succ n ih =>
    rw [tab_succ, List.sum_append]
    by_cases e : a = n
    · subst e
      have z : ∀ m, m ≤ a → (tab m fun v => if v = a then c else 0).sum = 0 := by
        intro m
        induction m with
        | zero => intro _; rfl
        | succ m ihm => intro hm; rw [tab_succ, List.sum_append, ihm (by omega)]; simp; omega
      rw [z a (Nat.le_refl _)]; simp
    · rw [ih (by omega)]
      have : ¬ n = a := fun z => e z.symm
      simp [this]
theorem sum_flow {n : Nat} {rs : List Rd2} {s : Nat → Int} (hr : In2 n rs) : (tab n fun v => flow rs s v).sum = 0 := by
  induction rs with
  | nil =>
    have : ∀ n, (tab n fun v => flow [] s v).sum = 0 := fun n => by
      induction n with
      | zero => rfl
      | succ n ih => rw [tab_succ, List.sum_append, ih]; simp [flow]
    exact this n
  | cons r rs ih =>
    have h := hr r (List.mem_cons_self ..)
    have e : (tab n fun v => flow (r :: rs) s v) = tab n fun v => step1 s r v + flow rs s v := tab_congr fun v _ => flow_cons
    rw [e, sum_tab_add, ih fun x hx => hr x (List.mem_cons_of_mem _ hx)]
    have e2 : (tab n fun v => step1 s r v) = tab n fun v => (if v = r.1 then s r.1 - s r.2 else 0) + - (if v = r.2 then s r.1 - s r.2 else 0) := tab_congr fun v _ => by unfold step1; omega
    rw [e2, sum_tab_add, sum_tab_neg, sum_tab_one h.1, sum_tab_one h.2]; omega
theorem sum_bhd {n : Nat} {rs : List Rd2} {p s : Nat → Int} (hr : In2 n rs) : (bhd n rs p s).sum = (tab n p).sum := by
  have e : bhd n rs p s = tab n fun v => p v + - flow rs s v := tab_congr fun v _ => by omega
  rw [e, sum_tab_add, sum_tab_neg, sum_flow hr]; omega
theorem sum_le {M : Int} : ∀ {p : List Int}, (∀ x ∈ p, x ≤ M) → p.sum ≤ M * p.length
  | [], _ => by simp
  | x :: p, h => by
    have h1 := h x (List.mem_cons_self ..)
    have h2 := sum_le (p := p) fun y hy => h y (List.mem_cons_of_mem _ hy)
    rw [List.sum_cons, List.length_cons]
    push_cast
    rw [Int.mul_add]; omega
theorem sum_ge {M : Int} : ∀ {p : List Int}, (∀ x ∈ p, M ≤ x) → M * p.length ≤ p.sum
  | [], _ => by simp
  | x :: p, h => by
    have h1 := h x (List.mem_cons_self ..)
    have h2 := sum_ge (p := p) fun y hy => h y (List.mem_cons_of_mem _ hy)
    rw [List.sum_cons, List.length_cons]
    push_cast
    rw [Int.mul_add]; omega
/-- the least item, from the sum -/
theorem sum_mem {M : Int} (hM : 0 ≤ M) : ∀ {p : List Int} {x : Int}, (∀ y ∈ p, y ≤ M) → x ∈ p → p.sum ≤ x + M * p.length
  | y :: p, x, h, hx => by
    have h1 := h y (List.mem_cons_self ..)
    have hp : ∀ z ∈ p, z ≤ M := fun z hz => h z (List.mem_cons_of_mem _ hz)
    rw [List.sum_cons, List.length_cons]
    push_cast
    rw [Int.mul_add]
    rcases List.mem_cons.mp hx with rfl | hx
    · have := sum_le hp; omega
    · have := sum_mem hM hp hx; omega
namespace FD
/-- _law_rings(town); slots 0:town -/
def b_law_rings : List S := [.ret (.op2 .add false (.op2 .sub false (.bi .len false [.idx (.var 0) (.con (.int 1))]) (.idx (.var 0) (.con (.int 0)))) (.con (.int 1)))]
def is_law_rings (pg : Pg) (f : Nat) : Prop := Is pg f 1 1 false (b_law_rings)
/-- _law_own_loans(town, purse, order); slots 0:town 1:purse 2:order 3:turn 4:degrees 5:loans 6:here 7:poor 8:house 9:times 10:script 11:own -/
def b_law_own_loans (f_law_degrees f_law_behind : Nat) : List S := [.setT (.tup [(.name 4), (.name 5), (.name 6)]) (.tup [.call f_law_degrees [.var 0], .op2 .mul true (.lst false [.con (.int 0)]) (.idx (.var 0) (.con (.int 0))), .bi .tuple false [.var 1]]), .ife (.op2 .eq false (.idx (.var 0) (.con (.int 0))) (.con (.int 1))) [.ret (.ife (.op2 .ge false (.idx (.var 1) (.con (.int 0))) (.con (.int 0))) (.tup [.con (.int 0)]) (.con .non))] [], .for_ (.name 3) .range [.con (.int 10000)] [.set 7 (.comp false (.var 11) (.name 11) .seq [.var 2] (some (.op2 .lt false (.idx (.var 6) (.var 11)) (.con (.int 0)))) [11]), .ife (.op2 .eq false (.var 7) (.lst false [])) [.ret (.bi .tuple false [.var 5])] [], .set 8 (.idx (.var 7) (.con (.int 0))), .set 9 (.neg (.op2 .fdiv false (.idx (.var 6) (.var 8)) (.idx (.var 4) (.var 8)))), .set 10 (.comp false (.ife (.op2 .eq false (.var 11) (.var 8)) (.neg (.var 9)) (.con (.int 0))) (.name 11) .range [.idx (.var 0) (.con (.int 0))] none [11]), .setm [.s (.var 5) (.var 8), .n 6] [.op2 .add true (.idx (.var 5) (.var 8)) (.var 9), .call f_law_behind [.var 0, .var 6, .var 10]], .ife (.op2 .gt false (.bi .min false [.var 5]) (.con (.int 0))) [.ret (.con .non)] []], .ret (.con .non)]
def is_law_own_loans (pg : Pg) (f : Nat) (f_law_degrees f_law_behind : Nat) : Prop := Is pg f 3 12 true (b_law_own_loans f_law_degrees f_law_behind)
/-- _law_near_purse(jar, town); slots 0:jar 1:town 2:found 3:at -/
def b_law_near_purse (f_law_purse f_law_pick f_law_draw f_law_rings : Nat) : List S := [.set 2 (.bi .list true [.call f_law_purse [.var 0, .var 1, .call f_law_pick [.var 0, .lst false [.con (.int 1), .con (.int 2), .con (.int 4)]]]]), .set 3 (.call f_law_draw [.var 0, .idx (.var 1) (.con (.int 0))]), .seti (.var 2) (.var 3) (.op2 .sub true (.op2 .sub false (.op2 .add false (.idx (.var 2) (.var 3)) (.call f_law_draw [.var 0, .op2 .add false (.call f_law_rings [.var 1]) (.con (.int 3))])) (.con (.int 1))) (.bi .sum false [.var 2])), .ret (.bi .tuple false [.var 2])]
def is_law_near_purse (pg : Pg) (f : Nat) (f_law_purse f_law_pick f_law_draw f_law_rings : Nat) : Prop := Is pg f 2 4 true (b_law_near_purse f_law_purse f_law_pick f_law_draw f_law_rings)
/-- _law_purse(jar, town, far); slots 0:jar 1:town 2:far 3:house -/
def b_law_purse (f_law_draw : Nat) : List S := [.ret (.bi .tuple false [.comp false (.op2 .sub false (.call f_law_draw [.var 0, .op2 .add false (.op2 .mul false (.con (.int 2)) (.var 2)) (.con (.int 1))]) (.var 2)) (.name 3) .range [.idx (.var 1) (.con (.int 0))] none [3]])]
def is_law_purse (pg : Pg) (f : Nat) (f_law_draw : Nat) : Prop := Is pg f 3 4 false (b_law_purse f_law_draw)

section
variable {pg : Pg} {f k : Nat} {ph : PHp} {Q : QV} {X : QX}
theorem purse_ok {dr : Nat} {T : Int} {h ex : PHp} (i : is_law_purse pg f dr) (dw : Draws FD.jarD pg dr) {n : Nat} {rs : List Rd2} {far : Int} (g : FD.jarD.Gd T h) (hT : T ≤ 1000000000) (hn : n ≤ 100) (h1 : 1 ≤ far) (h2 : far ≤ 100)
    (q : ∀ p h', FD.jarD.Gd (T + n) h' → p.length = n → (∀ x ∈ p, -far ≤ x ∧ x ≤ far) → Q (pursePV p) (h' ++ ex)) : callK pg (k + 2) f [.ref 1, townPV n rs, .int far] (h ++ ex) Q X := by
  refine i.call rfl ?_
  have hsz := sz
  simp only [b_law_purse, townPV, bindT, bindTs, wpB, wpS, wpE, wpEs, wpO, wpC, wpIs, wpMs, ex_some, ex_some1, ex_bl, ex_int, ex_tup, List.getElem?_cons_zero, List.getElem?_cons_succ, List.set_cons_zero, List.set_cons_succ, List.length_cons, List.length_nil, Atom.pv, add_i, sub_i, mul_i, mod_i, fdiv_i, pow_i, lt_i, le_i, gt_i, ge_i, eq_, ne_, in_e, nin_e, is_n, isnot_n, idx_tup, idx_lst, eqP_int, eqP_str, atI_0, atI_1, atI_2, ixN_0, ixN_1, ixN_2, decide_eq_true_eq, Bool.not_true, Bool.not_false, if_true, Bool.false_eq_true, if_false, setSl, len_lst, len_tup, int_i, int_bl, abs_i, min_i, max_i, tup_t, tup_l, newL_F, newL_T, List.map_cons, List.map_nil, List.append_nil, List.nil_append, List.cons_append, Nat.reduceAdd, Nat.reduceSub, List.replicate_succ, List.replicate_zero, retF, retXF, RL.add_ll, RL.add_t, RL.sl_tup, RL.sl_lst, RL.sl_scr, RL.mul_t, RL.str_int, List.zip_nil_left, List.zip_cons_cons]
  refine ⟨_, it_n (by omega), ?_⟩
  refine compL_rule (fun i acc ph' => ∃ (h2 : PHp) (p : List Int), FD.jarD.Gd (T + i) h2 ∧ ph' = h2 ++ ex ∧ acc = p.map .int ∧ p.length = i ∧ ∀ x ∈ p, -far ≤ x ∧ x ≤ far) ?_ ?_ ⟨h, [], by simpa using g, rfl, rfl, rfl, by simp⟩
  · rintro i v acc ph' hv ⟨h2, p, g2, rfl, rfl, pl, hp⟩
    obtain ⟨rfl, hi⟩ := rng0_get hv
    refine ⟨it_n (by omega), fun N hN => ⟨by simp [wipeE], ?_⟩⟩
    simp only [wipeE, bindT, bindTs, wpB, wpS, wpE, wpEs, wpO, wpC, wpIs, wpMs, ex_some, ex_some1, ex_bl, ex_int, ex_tup, List.getElem?_cons_zero, List.getElem?_cons_succ, List.set_cons_zero, List.set_cons_succ, List.length_cons, List.length_nil, Atom.pv, add_i, sub_i, mul_i, mod_i, fdiv_i, pow_i, lt_i, le_i, gt_i, ge_i, eq_, ne_, in_e, nin_e, is_n, isnot_n, idx_tup, idx_lst, eqP_int, eqP_str, atI_0, atI_1, atI_2, ixN_0, ixN_1, ixN_2, decide_eq_true_eq, Bool.not_true, Bool.not_false, if_true, Bool.false_eq_true, if_false, setSl, len_lst, len_tup, int_i, int_bl, abs_i, min_i, max_i, tup_t, tup_l, newL_F, newL_T, List.map_cons, List.map_nil, List.append_nil, List.nil_append, List.cons_append, Nat.reduceAdd, Nat.reduceSub, List.replicate_succ, List.replicate_zero, retF, retXF, RL.add_ll, RL.add_t, RL.sl_tup, RL.sl_lst, RL.sl_scr, RL.mul_t, RL.str_int, List.zip_nil_left, List.zip_cons_cons]
    refine ⟨mulOk_small (by omega) (by omega) (by omega) (by omega), ?_⟩
    refine dw g2 (by omega) (by omega) (by omega) fun r h3 g3 r0 r1 => ?_
    (try simp only [bindT, bindTs, wpB, wpS, wpE, wpEs, wpO, wpC, wpIs, wpMs, ex_some, ex_some1, ex_bl, ex_int, ex_tup, List.getElem?_cons_zero, List.getElem?_cons_succ, List.set_cons_zero, List.set_cons_succ, List.length_cons, List.length_nil, Atom.pv, add_i, sub_i, mul_i, mod_i, fdiv_i, pow_i, lt_i, le_i, gt_i, ge_i, eq_, ne_, in_e, nin_e, is_n, isnot_n, idx_tup, idx_lst, eqP_int, eqP_str, atI_0, atI_1, atI_2, ixN_0, ixN_1, ixN_2, decide_eq_true_eq, Bool.not_true, Bool.not_false, if_true, Bool.false_eq_true, if_false, setSl, len_lst, len_tup, int_i, int_bl, abs_i, min_i, max_i, tup_t, tup_l, newL_F, newL_T, List.map_cons, List.map_nil, List.append_nil, List.nil_append, List.cons_append, Nat.reduceAdd, Nat.reduceSub, List.replicate_succ, List.replicate_zero, retF, retXF, RL.add_ll, RL.add_t, RL.sl_tup, RL.sl_lst, RL.sl_scr, RL.mul_t, RL.str_int, List.zip_nil_left, List.zip_cons_cons])
    refine ⟨by rw [List.length_map]; omega, hN _ _ ⟨h3, p ++ [r - far], ?_, rfl, ints_acc _ _, by simp [pl], fun x hx => ?_⟩⟩
    · rw [show T + ((i + 1 : Nat) : Int) = T + i + 1 by omega]; exact g3
    · rcases List.mem_append.mp hx with hx | hx
      · exact hp x hx
      · rw [List.mem_singleton.mp hx]; omega
  · rintro acc ph' ⟨h2, p, g2, rfl, rfl, pl, hp⟩
    rw [rng0_len] at g2 pl
    refine ⟨it_n (by omega), by rw [List.length_map]; omega, ?_⟩
    (try simp only [bindT, bindTs, wpB, wpS, wpE, wpEs, wpO, wpC, wpIs, wpMs, ex_some, ex_some1, ex_bl, ex_int, ex_tup, List.getElem?_cons_zero, List.getElem?_cons_succ, List.set_cons_zero, List.set_cons_succ, List.length_cons, List.length_nil, Atom.pv, add_i, sub_i, mul_i, mod_i, fdiv_i, pow_i, lt_i, le_i, gt_i, ge_i, eq_, ne_, in_e, nin_e, is_n, isnot_n, idx_tup, idx_lst, eqP_int, eqP_str, atI_0, atI_1, atI_2, ixN_0, ixN_1, ixN_2, decide_eq_true_eq, Bool.not_true, Bool.not_false, if_true, Bool.false_eq_true, if_false, setSl, len_lst, len_tup, int_i, int_bl, abs_i, min_i, max_i, tup_t, tup_l, newL_F, newL_T, List.map_cons, List.map_nil, List.append_nil, List.nil_append, List.cons_append, Nat.reduceAdd, Nat.reduceSub, List.replicate_succ, List.replicate_zero, retF, retXF, RL.add_ll, RL.add_t, RL.sl_tup, RL.sl_lst, RL.sl_scr, RL.mul_t, RL.str_int, List.zip_nil_left, List.zip_cons_cons])
    exact q p h2 g2 pl hp
theorem rings_ok (i : is_law_rings pg f) {n : Nat} {rs : List Rd2} (q : Q (.int ((rs.length : Int) - n + 1)) ph) : callK pg (k + 1) f [townPV n rs] ph Q X := by
  refine i.call rfl ?_
  simp only [b_law_rings, townPV, bindT, bindTs, wpB, wpS, wpE, wpEs, wpO, wpC, wpIs, wpMs, ex_some, ex_some1, ex_bl, ex_int, ex_tup, List.getElem?_cons_zero, List.getElem?_cons_succ, List.set_cons_zero, List.set_cons_succ, List.length_cons, List.length_nil, Atom.pv, add_i, sub_i, mul_i, mod_i, fdiv_i, pow_i, lt_i, le_i, gt_i, ge_i, eq_, ne_, in_e, nin_e, is_n, isnot_n, idx_tup, idx_lst, eqP_int, eqP_str, atI_0, atI_1, atI_2, ixN_0, ixN_1, ixN_2, decide_eq_true_eq, Bool.not_true, Bool.not_false, if_true, Bool.false_eq_true, if_false, setSl, len_lst, len_tup, int_i, int_bl, abs_i, min_i, max_i, tup_t, tup_l, newL_F, newL_T, List.map_cons, List.map_nil, List.append_nil, List.nil_append, List.cons_append, Nat.reduceAdd, Nat.reduceSub, List.replicate_succ, List.replicate_zero, retF, retXF, RL.add_ll, RL.add_t, RL.sl_tup, RL.sl_lst, RL.sl_scr, RL.mul_t, RL.str_int, List.zip_nil_left, List.zip_cons_cons]
  rw [List.length_map]
  exact q
theorem near_ok {pu pk dr ri : Nat} {T : Int} {h ex : PHp} (i : is_law_near_purse pg f pu pk dr ri) (i1 : is_law_purse pg pu dr) (i2 : is_law_pick pg pk dr) (i3 : is_law_rings pg ri) (dw : Draws FD.jarD pg dr) {n : Nat} {rs : List Rd2} (g : FD.jarD.Gd T h) (hT : T ≤ 100000000) (hn : n ≤ 8) (hn1 : 1 ≤ n) (hl : rs.length ≤ 14) (hl2 : n ≤ rs.length + 1)
    (q : ∀ p h', FD.jarD.Gd (T + 20) h' → p.length = n → (∀ x ∈ p, -100 ≤ x ∧ x ≤ 100) → Q (pursePV p) (h' ++ ex)) : callK pg (k + 3) f [.ref 1, townPV n rs] (h ++ ex) Q X := by
  refine i.call rfl ?_
  have hsz := sz
  simp only [b_law_near_purse, bindT, bindTs, wpB, wpS, wpE, wpEs, wpO, wpC, wpIs, wpMs, ex_some, ex_some1, ex_bl, ex_int, ex_tup, List.getElem?_cons_zero, List.getElem?_cons_succ, List.set_cons_zero, List.set_cons_succ, List.length_cons, List.length_nil, Atom.pv, add_i, sub_i, mul_i, mod_i, fdiv_i, pow_i, lt_i, le_i, gt_i, ge_i, eq_, ne_, in_e, nin_e, is_n, isnot_n, idx_tup, idx_lst, eqP_int, eqP_str, atI_0, atI_1, atI_2, ixN_0, ixN_1, ixN_2, decide_eq_true_eq, Bool.not_true, Bool.not_false, if_true, Bool.false_eq_true, if_false, setSl, len_lst, len_tup, int_i, int_bl, abs_i, min_i, max_i, tup_t, tup_l, newL_F, newL_T, List.map_cons, List.map_nil, List.append_nil, List.nil_append, List.cons_append, Nat.reduceAdd, Nat.reduceSub, List.replicate_succ, List.replicate_zero, retF, retXF, RL.add_ll, RL.add_t, RL.sl_tup, RL.sl_lst, RL.sl_scr, RL.mul_t, RL.str_int, List.zip_nil_left, List.zip_cons_cons]
  (repeat (refine And.intro (by first | assumption | omega | (decide; done) | (exact mulOk_small (by omega) (by omega) (by omega) (by omega)) | (exact fdivOk (by omega) (by omega)) | (simp; done) | (simp; omega)) ?_))
  refine pickL_ok i2 dw g (by omega) (by decide) (by decide) fun far h1 g1 hfar => ?_
  have hfar' : ∃ z : Int, far = .int z ∧ 1 ≤ z ∧ z ≤ 4 := by
    simp at hfar
    rcases hfar with rfl | rfl | rfl <;> exact ⟨_, rfl, by omega, by omega⟩
  obtain ⟨far, rfl, f1, f2⟩ := hfar'
  refine purse_ok i1 dw g1 (by omega) (by omega) f1 (by omega) fun p h2 g2 pl hp => ?_
  have hp4 : ∀ x ∈ p, -4 ≤ x ∧ x ≤ 4 := fun x hx => by have := hp x hx; omega
  refine list_of (xs := p.map .int) rfl (newL_t (by rw [List.length_map]; omega) ?_)
  (try simp only [RL.idx_town0, RL.idx_town1, bindT, bindTs, wpB, wpS, wpE, wpEs, wpO, wpC, wpIs, wpMs, ex_some, ex_some1, ex_bl, ex_int, ex_tup, List.getElem?_cons_zero, List.getElem?_cons_succ, List.set_cons_zero, List.set_cons_succ, List.length_cons, List.length_nil, Atom.pv, add_i, sub_i, mul_i, mod_i, fdiv_i, pow_i, lt_i, le_i, gt_i, ge_i, eq_, ne_, in_e, nin_e, is_n, isnot_n, idx_tup, idx_lst, eqP_int, eqP_str, atI_0, atI_1, atI_2, ixN_0, ixN_1, ixN_2, decide_eq_true_eq, Bool.not_true, Bool.not_false, if_true, Bool.false_eq_true, if_false, setSl, len_lst, len_tup, int_i, int_bl, abs_i, min_i, max_i, tup_t, tup_l, newL_F, newL_T, List.map_cons, List.map_nil, List.append_nil, List.nil_append, List.cons_append, Nat.reduceAdd, Nat.reduceSub, List.replicate_succ, List.replicate_zero, retF, retXF, RL.add_ll, RL.add_t, RL.sl_tup, RL.sl_lst, RL.sl_scr, RL.mul_t, RL.str_int, List.zip_nil_left, List.zip_cons_cons])
  (repeat (refine And.intro (by first | assumption | omega | (decide; done) | (exact mulOk_small (by omega) (by omega) (by omega) (by omega)) | (exact fdivOk (by omega) (by omega)) | (simp; done) | (simp; omega)) ?_))
  rw [List.append_assoc, dl0 g2]
  refine dw g2 (by omega) (by omega) (by omega) fun a h3 g3 a0 a1 => ?_
  obtain ⟨a, rfl⟩ : ∃ a' : Nat, (a' : Int) = a := ⟨a.toNat, by omega⟩
  (try simp only [RL.idx_town0, RL.idx_town1, bindT, bindTs, wpB, wpS, wpE, wpEs, wpO, wpC, wpIs, wpMs, ex_some, ex_some1, ex_bl, ex_int, ex_tup, List.getElem?_cons_zero, List.getElem?_cons_succ, List.set_cons_zero, List.set_cons_succ, List.length_cons, List.length_nil, Atom.pv, add_i, sub_i, mul_i, mod_i, fdiv_i, pow_i, lt_i, le_i, gt_i, ge_i, eq_, ne_, in_e, nin_e, is_n, isnot_n, idx_tup, idx_lst, eqP_int, eqP_str, atI_0, atI_1, atI_2, ixN_0, ixN_1, ixN_2, decide_eq_true_eq, Bool.not_true, Bool.not_false, if_true, Bool.false_eq_true, if_false, setSl, len_lst, len_tup, int_i, int_bl, abs_i, min_i, max_i, tup_t, tup_l, newL_F, newL_T, List.map_cons, List.map_nil, List.append_nil, List.nil_append, List.cons_append, Nat.reduceAdd, Nat.reduceSub, List.replicate_succ, List.replicate_zero, retF, retXF, RL.add_ll, RL.add_t, RL.sl_tup, RL.sl_lst, RL.sl_scr, RL.mul_t, RL.str_int, List.zip_nil_left, List.zip_cons_cons])
  (repeat (refine And.intro (by first | assumption | omega | (decide; done) | (exact mulOk_small (by omega) (by omega) (by omega) (by omega)) | (exact fdivOk (by omega) (by omega)) | (simp; done) | (simp; omega)) ?_))
  rw [idx_ref (dg0 g3)]
  refine ⟨_, atI_nth (by omega), ?_⟩
  refine rings_ok i3 ?_
  (try simp only [RL.idx_town0, RL.idx_town1, bindT, bindTs, wpB, wpS, wpE, wpEs, wpO, wpC, wpIs, wpMs, ex_some, ex_some1, ex_bl, ex_int, ex_tup, List.getElem?_cons_zero, List.getElem?_cons_succ, List.set_cons_zero, List.set_cons_succ, List.length_cons, List.length_nil, Atom.pv, add_i, sub_i, mul_i, mod_i, fdiv_i, pow_i, lt_i, le_i, gt_i, ge_i, eq_, ne_, in_e, nin_e, is_n, isnot_n, idx_tup, idx_lst, eqP_int, eqP_str, atI_0, atI_1, atI_2, ixN_0, ixN_1, ixN_2, decide_eq_true_eq, Bool.not_true, Bool.not_false, if_true, Bool.false_eq_true, if_false, setSl, len_lst, len_tup, int_i, int_bl, abs_i, min_i, max_i, tup_t, tup_l, newL_F, newL_T, List.map_cons, List.map_nil, List.append_nil, List.nil_append, List.cons_append, Nat.reduceAdd, Nat.reduceSub, List.replicate_succ, List.replicate_zero, retF, retXF, RL.add_ll, RL.add_t, RL.sl_tup, RL.sl_lst, RL.sl_scr, RL.mul_t, RL.str_int, List.zip_nil_left, List.zip_cons_cons])
  refine dw g3 (by omega) (by omega) (by omega) fun y h4 g4 y0 y1 => ?_
  (try simp only [RL.idx_town0, RL.idx_town1, bindT, bindTs, wpB, wpS, wpE, wpEs, wpO, wpC, wpIs, wpMs, ex_some, ex_some1, ex_bl, ex_int, ex_tup, List.getElem?_cons_zero, List.getElem?_cons_succ, List.set_cons_zero, List.set_cons_succ, List.length_cons, List.length_nil, Atom.pv, add_i, sub_i, mul_i, mod_i, fdiv_i, pow_i, lt_i, le_i, gt_i, ge_i, eq_, ne_, in_e, nin_e, is_n, isnot_n, idx_tup, idx_lst, eqP_int, eqP_str, atI_0, atI_1, atI_2, ixN_0, ixN_1, ixN_2, decide_eq_true_eq, Bool.not_true, Bool.not_false, if_true, Bool.false_eq_true, if_false, setSl, len_lst, len_tup, int_i, int_bl, abs_i, min_i, max_i, tup_t, tup_l, newL_F, newL_T, List.map_cons, List.map_nil, List.append_nil, List.nil_append, List.cons_append, Nat.reduceAdd, Nat.reduceSub, List.replicate_succ, List.replicate_zero, retF, retXF, RL.add_ll, RL.add_t, RL.sl_tup, RL.sl_lst, RL.sl_scr, RL.mul_t, RL.str_int, List.zip_nil_left, List.zip_cons_cons])
  have s1 := sum_le (p := p) (M := 4) fun x hx => (hp4 x hx).2
  have s2 := sum_ge (p := p) (M := -4) fun x hx => (hp4 x hx).1
  have b0 := hp4 _ (nth_mem (p := p) (a := a) (by omega))
  refine ⟨p.map .int, p, by simp only [seqOf, lstOf, dg0 g4], intsOf_map p, ?_⟩
  (try simp only [RL.idx_town0, RL.idx_town1, bindT, bindTs, wpB, wpS, wpE, wpEs, wpO, wpC, wpIs, wpMs, ex_some, ex_some1, ex_bl, ex_int, ex_tup, List.getElem?_cons_zero, List.getElem?_cons_succ, List.set_cons_zero, List.set_cons_succ, List.length_cons, List.length_nil, Atom.pv, add_i, sub_i, mul_i, mod_i, fdiv_i, pow_i, lt_i, le_i, gt_i, ge_i, eq_, ne_, in_e, nin_e, is_n, isnot_n, idx_tup, idx_lst, eqP_int, eqP_str, atI_0, atI_1, atI_2, ixN_0, ixN_1, ixN_2, decide_eq_true_eq, Bool.not_true, Bool.not_false, if_true, Bool.false_eq_true, if_false, setSl, len_lst, len_tup, int_i, int_bl, abs_i, min_i, max_i, tup_t, tup_l, newL_F, newL_T, List.map_cons, List.map_nil, List.append_nil, List.nil_append, List.cons_append, Nat.reduceAdd, Nat.reduceSub, List.replicate_succ, List.replicate_zero, retF, retXF, RL.add_ll, RL.add_t, RL.sl_tup, RL.sl_lst, RL.sl_scr, RL.mul_t, RL.str_int, List.zip_nil_left, List.zip_cons_cons])
  rw [seti_ref (dg0 g4)]
  refine ⟨a, ixN_nat (by rw [List.length_map]; omega), ?_⟩
  rw [ds0 g4, set_int, tup_r (dg0 g4)]
  refine ret_deckO g g4 (.tup (oldL_ints _)) (q _ h4 (FD.jarD.mono (by omega) g4) (by rw [List.length_set]; exact pl) fun x hx => ?_)
  rcases List.mem_or_eq_of_mem_set hx with hx | hx
  · have := hp4 x hx; omega
  · rw [hx]; omega
theorem own_loans_ok {dg bh : Nat} (i : is_law_own_loans pg f dg bh) (j : is_law_degrees pg dg) (l : is_law_behind pg bh) {n : Nat} {rs : List Rd2} {p : List Int} {order : List Nat} (t : Tw n rs) (hn : n ≤ 8) (hl : rs.length ≤ 14) (pl : p.length = n) (hp : ∀ x ∈ p, -100 ≤ x ∧ x ≤ 100) (ho : ∀ x ∈ order, x < n) (hol : order.length ≤ 1000)
    (q1 : Q .non ph) (q2 : ∀ L : List Int, L.length = n → (∀ x ∈ L, 0 ≤ x ∧ x ≤ 100000000) → Q (pursePV L) ph) : callK pg (k + 2) f [townPV n rs, pursePV p, .lst (natsPV order)] ph Q X := by
  refine i.call rfl ?_
  have hsz := sz
  have hr := t.in2
  have hne := t.ne
  have npos := t.pos
  simp only [b_law_own_loans, bindT, bindTs, wpB, wpS, wpE, wpEs, wpO, wpC, wpIs, wpMs, ex_some, ex_some1, ex_bl, ex_int, ex_tup, List.getElem?_cons_zero, List.getElem?_cons_succ, List.set_cons_zero, List.set_cons_succ, List.length_cons, List.length_nil, Atom.pv, add_i, sub_i, mul_i, mod_i, fdiv_i, pow_i, lt_i, le_i, gt_i, ge_i, eq_, ne_, in_e, nin_e, is_n, isnot_n, idx_tup, idx_lst, eqP_int, eqP_str, atI_0, atI_1, atI_2, ixN_0, ixN_1, ixN_2, decide_eq_true_eq, Bool.not_true, Bool.not_false, if_true, Bool.false_eq_true, if_false, setSl, len_lst, len_tup, int_i, int_bl, abs_i, min_i, max_i, tup_t, tup_l, newL_F, newL_T, List.map_cons, List.map_nil, List.append_nil, List.nil_append, List.cons_append, Nat.reduceAdd, Nat.reduceSub, List.replicate_succ, List.replicate_zero, retF, retXF, RL.add_ll, RL.add_t, RL.sl_tup, RL.sl_lst, RL.sl_scr, RL.mul_t, RL.str_int, List.zip_nil_left, List.zip_cons_cons]
  refine degrees_ok j (by omega) hr hne ?_
  (try simp only [RL.idx_town0, RL.idx_town1, bindT, bindTs, wpB, wpS, wpE, wpEs, wpO, wpC, wpIs, wpMs, ex_some, ex_some1, ex_bl, ex_int, ex_tup, List.getElem?_cons_zero, List.getElem?_cons_succ, List.set_cons_zero, List.set_cons_succ, List.length_cons, List.length_nil, Atom.pv, add_i, sub_i, mul_i, mod_i, fdiv_i, pow_i, lt_i, le_i, gt_i, ge_i, eq_, ne_, in_e, nin_e, is_n, isnot_n, idx_tup, idx_lst, eqP_int, eqP_str, atI_0, atI_1, atI_2, ixN_0, ixN_1, ixN_2, decide_eq_true_eq, Bool.not_true, Bool.not_false, if_true, Bool.false_eq_true, if_false, setSl, len_lst, len_tup, int_i, int_bl, abs_i, min_i, max_i, tup_t, tup_l, newL_F, newL_T, List.map_cons, List.map_nil, List.append_nil, List.nil_append, List.cons_append, Nat.reduceAdd, Nat.reduceSub, List.replicate_succ, List.replicate_zero, retF, retXF, RL.add_ll, RL.add_t, RL.sl_tup, RL.sl_lst, RL.sl_scr, RL.mul_t, RL.str_int, List.zip_nil_left, List.zip_cons_cons])
  (repeat (refine And.intro (by first | assumption | omega | (decide; done) | (exact mulOk_small (by omega) (by omega) (by omega) (by omega)) | (exact fdivOk (by omega) (by omega)) | (simp; done) | (simp; omega)) ?_))
  refine mul_l rfl (by omega) (by decide) (newL_t (by simp; omega) ?_)
  rw [show ((n : Int)).toNat = n from Int.toNat_natCast n, tab_rep]
  simp only [pursePV, RL.idx_town0, RL.idx_town1, bindT, bindTs, wpB, wpS, wpE, wpEs, wpO, wpC, wpIs, wpMs, ex_some, ex_some1, ex_bl, ex_int, ex_tup, List.getElem?_cons_zero, List.getElem?_cons_succ, List.set_cons_zero, List.set_cons_succ, List.length_cons, List.length_nil, Atom.pv, add_i, sub_i, mul_i, mod_i, fdiv_i, pow_i, lt_i, le_i, gt_i, ge_i, eq_, ne_, in_e, nin_e, is_n, isnot_n, idx_tup, idx_lst, eqP_int, eqP_str, atI_0, atI_1, atI_2, ixN_0, ixN_1, ixN_2, decide_eq_true_eq, Bool.not_true, Bool.not_false, if_true, Bool.false_eq_true, if_false, setSl, len_lst, len_tup, int_i, int_bl, abs_i, min_i, max_i, tup_t, tup_l, newL_F, newL_T, List.map_cons, List.map_nil, List.append_nil, List.nil_append, List.cons_append, Nat.reduceAdd, Nat.reduceSub, List.replicate_succ, List.replicate_zero, retF, retXF, RL.add_ll, RL.add_t, RL.sl_tup, RL.sl_lst, RL.sl_scr, RL.mul_t, RL.str_int, List.zip_nil_left, List.zip_cons_cons]
  refine ⟨by omega, trivial, by simp, by simp, by simp, ?_⟩
  by_cases h1 : (n : Int) = 1
  · rw [if_pos h1]
    refine ⟨_, atI_nth (a := 0) (by omega), ?_⟩
    (try simp only [bindT, bindTs, wpB, wpS, wpE, wpEs, wpO, wpC, wpIs, wpMs, ex_some, ex_some1, ex_bl, ex_int, ex_tup, List.getElem?_cons_zero, List.getElem?_cons_succ, List.set_cons_zero, List.set_cons_succ, List.length_cons, List.length_nil, Atom.pv, add_i, sub_i, mul_i, mod_i, fdiv_i, pow_i, lt_i, le_i, gt_i, ge_i, eq_, ne_, in_e, nin_e, is_n, isnot_n, idx_tup, idx_lst, eqP_int, eqP_str, atI_0, atI_1, atI_2, ixN_0, ixN_1, ixN_2, decide_eq_true_eq, Bool.not_true, Bool.not_false, if_true, Bool.false_eq_true, if_false, setSl, len_lst, len_tup, int_i, int_bl, abs_i, min_i, max_i, tup_t, tup_l, newL_F, newL_T, List.map_cons, List.map_nil, List.append_nil, List.nil_append, List.cons_append, Nat.reduceAdd, Nat.reduceSub, List.replicate_succ, List.replicate_zero, retF, retXF, RL.add_ll, RL.add_t, RL.sl_tup, RL.sl_lst, RL.sl_scr, RL.mul_t, RL.str_int, List.zip_nil_left, List.zip_cons_cons])
    by_cases h2 : 0 ≤ nth p 0
    · rw [if_pos h2]
      refine ⟨by omega, ret_newO (old_purse [0]) (q2 [0] (by simp; omega) (by simp))⟩
    · rw [if_neg h2]
      exact ret_newO .non q1
  · rw [if_neg h1]
    have n2 : 2 ≤ n := by omega
    refine ⟨_, it_r1 (by decide), ?_⟩
    have S1 := sum_le (p := p) (M := 100) fun x hx => (hp x hx).2
    have S2 := sum_ge (p := p) (M := -100) fun x hx => (hp x hx).1
    have e4 : (rngL 0 10000 1).length = 10000 := by
      have := rng1_len (a := 0) (b := 10000) (by omega); omega
    refine forL_rule (fun i env ph' => ∃ (a1 a2 a3 a4 a5 a6 : Option PV) (L hv : List Int), env = [some (townPV n rs), some (.tup (p.map .int)), some (.lst (natsPV order)), a1, some (.lst ((degs n rs).map .int)), some (.ref ph.length), some (.tup (hv.map .int)), a2, a3, a4, a5, a6] ∧ ph' = ph ++ [.lst (L.map .int)] ∧
      L.length = n ∧ hv.length = n ∧ hv.sum = p.sum ∧ (∀ x ∈ hv, x ≤ 100) ∧ ∀ x ∈ L, 0 ≤ x ∧ x ≤ 2000 * (i : Int)) ?_ ?_ ⟨none, none, none, none, none, none, _, p, rfl, rfl, tab_len, pl, rfl, fun x hx => (hp x hx).2, fun x hx => by
        obtain ⟨v, _, rfl⟩ := List.mem_map.mp hx
        omega⟩
    · rintro i v env ph' hv' ⟨a1, a2, a3, a4, a5, a6, L, hv, rfl, rfl, Ll, hl', hs, hm, hL⟩
      have hi : i < 10000 := by have := (List.getElem?_eq_some_iff.mp hv').1; omega
      refine ⟨it_r1 (by decide), fun N hN => ⟨by simp, ?_⟩⟩
      (try simp only [bindT, bindTs, wpB, wpS, wpE, wpEs, wpO, wpC, wpIs, wpMs, ex_some, ex_some1, ex_bl, ex_int, ex_tup, List.getElem?_cons_zero, List.getElem?_cons_succ, List.set_cons_zero, List.set_cons_succ, List.length_cons, List.length_nil, Atom.pv, add_i, sub_i, mul_i, mod_i, fdiv_i, pow_i, lt_i, le_i, gt_i, ge_i, eq_, ne_, in_e, nin_e, is_n, isnot_n, idx_tup, idx_lst, eqP_int, eqP_str, atI_0, atI_1, atI_2, ixN_0, ixN_1, ixN_2, decide_eq_true_eq, Bool.not_true, Bool.not_false, if_true, Bool.false_eq_true, if_false, setSl, len_lst, len_tup, int_i, int_bl, abs_i, min_i, max_i, tup_t, tup_l, newL_F, newL_T, List.map_cons, List.map_nil, List.append_nil, List.nil_append, List.cons_append, Nat.reduceAdd, Nat.reduceSub, List.replicate_succ, List.replicate_zero, retF, retXF, RL.add_ll, RL.add_t, RL.sl_tup, RL.sl_lst, RL.sl_scr, RL.mul_t, RL.str_int, List.zip_nil_left, List.zip_cons_cons])
      refine ⟨_, rfl, ?_⟩
      refine comp_natF (fun v => decide (nth hv v < 0)) (fun v => .int (v : Int)) rfl (by omega) (fun v hv' K R h1 h2 => ?_) ?_
      · refine ⟨by simp [wipeE], ?_⟩
        simp only [wipeE, bindT, bindTs, wpB, wpS, wpE, wpEs, wpO, wpC, wpIs, wpMs, ex_some, ex_some1, ex_bl, ex_int, ex_tup, List.getElem?_cons_zero, List.getElem?_cons_succ, List.set_cons_zero, List.set_cons_succ, List.length_cons, List.length_nil, Atom.pv, add_i, sub_i, mul_i, mod_i, fdiv_i, pow_i, lt_i, le_i, gt_i, ge_i, eq_, ne_, in_e, nin_e, is_n, isnot_n, idx_tup, idx_lst, eqP_int, eqP_str, atI_0, atI_1, atI_2, ixN_0, ixN_1, ixN_2, decide_eq_true_eq, Bool.not_true, Bool.not_false, if_true, Bool.false_eq_true, if_false, setSl, len_lst, len_tup, int_i, int_bl, abs_i, min_i, max_i, tup_t, tup_l, newL_F, newL_T, List.map_cons, List.map_nil, List.append_nil, List.nil_append, List.cons_append, Nat.reduceAdd, Nat.reduceSub, List.replicate_succ, List.replicate_zero, retF, retXF, RL.add_ll, RL.add_t, RL.sl_tup, RL.sl_lst, RL.sl_scr, RL.mul_t, RL.str_int, List.zip_nil_left, List.zip_cons_cons]
        have := ho v hv'
        refine ⟨_, atI_nth (by omega), ?_⟩
        (try simp only [bindT, bindTs, wpB, wpS, wpE, wpEs, wpO, wpC, wpIs, wpMs, ex_some, ex_some1, ex_bl, ex_int, ex_tup, List.getElem?_cons_zero, List.getElem?_cons_succ, List.set_cons_zero, List.set_cons_succ, List.length_cons, List.length_nil, Atom.pv, add_i, sub_i, mul_i, mod_i, fdiv_i, pow_i, lt_i, le_i, gt_i, ge_i, eq_, ne_, in_e, nin_e, is_n, isnot_n, idx_tup, idx_lst, eqP_int, eqP_str, atI_0, atI_1, atI_2, ixN_0, ixN_1, ixN_2, decide_eq_true_eq, Bool.not_true, Bool.not_false, if_true, Bool.false_eq_true, if_false, setSl, len_lst, len_tup, int_i, int_bl, abs_i, min_i, max_i, tup_t, tup_l, newL_F, newL_T, List.map_cons, List.map_nil, List.append_nil, List.nil_append, List.cons_append, Nat.reduceAdd, Nat.reduceSub, List.replicate_succ, List.replicate_zero, retF, retXF, RL.add_ll, RL.add_t, RL.sl_tup, RL.sl_lst, RL.sl_scr, RL.mul_t, RL.str_int, List.zip_nil_left, List.zip_cons_cons])
        by_cases e : nth hv v < 0
        · rw [if_pos e]; exact h1 (decide_eq_true e)
        · rw [if_neg e]; exact h2 (decide_eq_false e)
      · have enP : ∀ l : List Nat, l.map (fun v : Nat => PV.int (v : Int)) = natsPV l := fun _ => rfl
        rw [enP]
        have fl := List.length_filter_le (fun v => decide (nth hv v < 0)) order
        (try simp only [bindT, bindTs, wpB, wpS, wpE, wpEs, wpO, wpC, wpIs, wpMs, ex_some, ex_some1, ex_bl, ex_int, ex_tup, List.getElem?_cons_zero, List.getElem?_cons_succ, List.set_cons_zero, List.set_cons_succ, List.length_cons, List.length_nil, Atom.pv, add_i, sub_i, mul_i, mod_i, fdiv_i, pow_i, lt_i, le_i, gt_i, ge_i, eq_, ne_, in_e, nin_e, is_n, isnot_n, idx_tup, idx_lst, eqP_int, eqP_str, atI_0, atI_1, atI_2, ixN_0, ixN_1, ixN_2, decide_eq_true_eq, Bool.not_true, Bool.not_false, if_true, Bool.false_eq_true, if_false, setSl, len_lst, len_tup, int_i, int_bl, abs_i, min_i, max_i, tup_t, tup_l, newL_F, newL_T, List.map_cons, List.map_nil, List.append_nil, List.nil_append, List.cons_append, Nat.reduceAdd, Nat.reduceSub, List.replicate_succ, List.replicate_zero, retF, retXF, RL.add_ll, RL.add_t, RL.sl_tup, RL.sl_lst, RL.sl_scr, RL.mul_t, RL.str_int, List.zip_nil_left, List.zip_cons_cons])
        refine ⟨by rw [nats_len]; omega, by simp, by omega, eq_lnats (ys := []) ?_⟩
        cases hF : order.filter (fun v => decide (nth hv v < 0)) with
        | nil =>
          rw [decide_eq_true rfl]
          (try simp only [bindT, bindTs, wpB, wpS, wpE, wpEs, wpO, wpC, wpIs, wpMs, ex_some, ex_some1, ex_bl, ex_int, ex_tup, List.getElem?_cons_zero, List.getElem?_cons_succ, List.set_cons_zero, List.set_cons_succ, List.length_cons, List.length_nil, Atom.pv, add_i, sub_i, mul_i, mod_i, fdiv_i, pow_i, lt_i, le_i, gt_i, ge_i, eq_, ne_, in_e, nin_e, is_n, isnot_n, idx_tup, idx_lst, eqP_int, eqP_str, atI_0, atI_1, atI_2, ixN_0, ixN_1, ixN_2, decide_eq_true_eq, Bool.not_true, Bool.not_false, if_true, Bool.false_eq_true, if_false, setSl, len_lst, len_tup, int_i, int_bl, abs_i, min_i, max_i, tup_t, tup_l, newL_F, newL_T, List.map_cons, List.map_nil, List.append_nil, List.nil_append, List.cons_append, Nat.reduceAdd, Nat.reduceSub, List.replicate_succ, List.replicate_zero, retF, retXF, RL.add_ll, RL.add_t, RL.sl_tup, RL.sl_lst, RL.sl_scr, RL.mul_t, RL.str_int, List.zip_nil_left, List.zip_cons_cons])
          rw [tup_r pg0]
          exact ret_newO (.tup (oldL_ints _)) (q2 L Ll fun x hx => by have := hL x hx; omega)
        | cons h hs' =>
          have hmem : h ∈ order.filter (fun v => decide (nth hv v < 0)) := by rw [hF]; exact List.mem_cons_self ..
          have hh := List.mem_filter.mp hmem
          have hhn := ho h hh.1
          have hneg := of_decide_eq_true hh.2
          rw [decide_eq_false (by simp)]
          (try simp only [bindT, bindTs, wpB, wpS, wpE, wpEs, wpO, wpC, wpIs, wpMs, ex_some, ex_some1, ex_bl, ex_int, ex_tup, List.getElem?_cons_zero, List.getElem?_cons_succ, List.set_cons_zero, List.set_cons_succ, List.length_cons, List.length_nil, Atom.pv, add_i, sub_i, mul_i, mod_i, fdiv_i, pow_i, lt_i, le_i, gt_i, ge_i, eq_, ne_, in_e, nin_e, is_n, isnot_n, idx_tup, idx_lst, eqP_int, eqP_str, atI_0, atI_1, atI_2, ixN_0, ixN_1, ixN_2, decide_eq_true_eq, Bool.not_true, Bool.not_false, if_true, Bool.false_eq_true, if_false, setSl, len_lst, len_tup, int_i, int_bl, abs_i, min_i, max_i, tup_t, tup_l, newL_F, newL_T, List.map_cons, List.map_nil, List.append_nil, List.nil_append, List.cons_append, Nat.reduceAdd, Nat.reduceSub, List.replicate_succ, List.replicate_zero, retF, retXF, RL.add_ll, RL.add_t, RL.sl_tup, RL.sl_lst, RL.sl_scr, RL.mul_t, RL.str_int, List.zip_nil_left, List.zip_cons_cons])
          refine ⟨_, atI_0, ?_⟩
          have dp := t.deg_pos n2 hhn
          have dl := deg_le (rs := rs) (v := h)
          (try simp only [bindT, bindTs, wpB, wpS, wpE, wpEs, wpO, wpC, wpIs, wpMs, ex_some, ex_some1, ex_bl, ex_int, ex_tup, List.getElem?_cons_zero, List.getElem?_cons_succ, List.set_cons_zero, List.set_cons_succ, List.length_cons, List.length_nil, Atom.pv, add_i, sub_i, mul_i, mod_i, fdiv_i, pow_i, lt_i, le_i, gt_i, ge_i, eq_, ne_, in_e, nin_e, is_n, isnot_n, idx_tup, idx_lst, eqP_int, eqP_str, atI_0, atI_1, atI_2, ixN_0, ixN_1, ixN_2, decide_eq_true_eq, Bool.not_true, Bool.not_false, if_true, Bool.false_eq_true, if_false, setSl, len_lst, len_tup, int_i, int_bl, abs_i, min_i, max_i, tup_t, tup_l, newL_F, newL_T, List.map_cons, List.map_nil, List.append_nil, List.nil_append, List.cons_append, Nat.reduceAdd, Nat.reduceSub, List.replicate_succ, List.replicate_zero, retF, retXF, RL.add_ll, RL.add_t, RL.sl_tup, RL.sl_lst, RL.sl_scr, RL.mul_t, RL.str_int, List.zip_nil_left, List.zip_cons_cons])
          refine ⟨by simp, _, atI_nth (by omega), ?_⟩
          (try simp only [bindT, bindTs, wpB, wpS, wpE, wpEs, wpO, wpC, wpIs, wpMs, ex_some, ex_some1, ex_bl, ex_int, ex_tup, List.getElem?_cons_zero, List.getElem?_cons_succ, List.set_cons_zero, List.set_cons_succ, List.length_cons, List.length_nil, Atom.pv, add_i, sub_i, mul_i, mod_i, fdiv_i, pow_i, lt_i, le_i, gt_i, ge_i, eq_, ne_, in_e, nin_e, is_n, isnot_n, idx_tup, idx_lst, eqP_int, eqP_str, atI_0, atI_1, atI_2, ixN_0, ixN_1, ixN_2, decide_eq_true_eq, Bool.not_true, Bool.not_false, if_true, Bool.false_eq_true, if_false, setSl, len_lst, len_tup, int_i, int_bl, abs_i, min_i, max_i, tup_t, tup_l, newL_F, newL_T, List.map_cons, List.map_nil, List.append_nil, List.nil_append, List.cons_append, Nat.reduceAdd, Nat.reduceSub, List.replicate_succ, List.replicate_zero, retF, retXF, RL.add_ll, RL.add_t, RL.sl_tup, RL.sl_lst, RL.sl_scr, RL.mul_t, RL.str_int, List.zip_nil_left, List.zip_cons_cons])
          refine ⟨_, atI_tab hhn, ?_⟩
          have low := sum_mem (M := 100) (by omega) hm (nth_mem (p := hv) (a := h) (by omega))
          obtain ⟨m, hmm⟩ : ∃ m, m = (nth hv h).fdiv (deg rs h : Int) := ⟨_, rfl⟩
          have m1 : m < 0 := by
            rw [hmm, Int.fdiv_eq_ediv_of_nonneg _ (by omega)]
            exact Int.ediv_neg_of_neg_of_pos hneg (by omega)
          have m2 : nth hv h ≤ m := by
            have : nth hv h / (deg rs h : Int) ≥ nth hv h := by
              refine (Int.le_ediv_iff_mul_le (by omega)).mpr ?_
              have := Int.mul_le_mul_of_nonpos_left (a := nth hv h) (b := (deg rs h : Int)) (c := 1) (by omega) (by omega)
              omega
            rw [hmm, Int.fdiv_eq_ediv_of_nonneg _ (by omega)]
            exact this
          have m3 : nth hv h - m * (deg rs h : Int) < deg rs h := by
            have e := Int.emod_lt_of_pos (nth hv h) (show (0 : Int) < deg rs h by omega)
            have e2 := Int.emod_def (nth hv h) (deg rs h : Int)
            rw [hmm, Int.fdiv_eq_ediv_of_nonneg _ (by omega), Int.mul_comm]
            omega
          (try simp only [RL.idx_town0, RL.idx_town1, bindT, bindTs, wpB, wpS, wpE, wpEs, wpO, wpC, wpIs, wpMs, ex_some, ex_some1, ex_bl, ex_int, ex_tup, List.getElem?_cons_zero, List.getElem?_cons_succ, List.set_cons_zero, List.set_cons_succ, List.length_cons, List.length_nil, Atom.pv, add_i, sub_i, mul_i, mod_i, fdiv_i, pow_i, lt_i, le_i, gt_i, ge_i, eq_, ne_, in_e, nin_e, is_n, isnot_n, idx_tup, idx_lst, eqP_int, eqP_str, atI_0, atI_1, atI_2, ixN_0, ixN_1, ixN_2, decide_eq_true_eq, Bool.not_true, Bool.not_false, if_true, Bool.false_eq_true, if_false, setSl, len_lst, len_tup, int_i, int_bl, abs_i, min_i, max_i, tup_t, tup_l, newL_F, newL_T, List.map_cons, List.map_nil, List.append_nil, List.nil_append, List.cons_append, Nat.reduceAdd, Nat.reduceSub, List.replicate_succ, List.replicate_zero, retF, retXF, RL.add_ll, RL.add_t, RL.sl_tup, RL.sl_lst, RL.sl_scr, RL.mul_t, RL.str_int, List.zip_nil_left, List.zip_cons_cons])
          rw [← hmm]
          refine ⟨fdivOk (by omega) (by omega), by simp, _, it_n (by omega), ?_⟩
          refine comp_rngM (fun v => .int (if v = h then m else 0)) (it_n (by omega)) (by omega) (fun v hv' K R hK => ?_) ?_
          · refine ⟨by simp [wipeE], ?_⟩
            simp only [wipeE, bindT, bindTs, wpB, wpS, wpE, wpEs, wpO, wpC, wpIs, wpMs, ex_some, ex_some1, ex_bl, ex_int, ex_tup, List.getElem?_cons_zero, List.getElem?_cons_succ, List.set_cons_zero, List.set_cons_succ, List.length_cons, List.length_nil, Atom.pv, add_i, sub_i, mul_i, mod_i, fdiv_i, pow_i, lt_i, le_i, gt_i, ge_i, eq_, ne_, in_e, nin_e, is_n, isnot_n, idx_tup, idx_lst, eqP_int, eqP_str, atI_0, atI_1, atI_2, ixN_0, ixN_1, ixN_2, decide_eq_true_eq, Bool.not_true, Bool.not_false, if_true, Bool.false_eq_true, if_false, setSl, len_lst, len_tup, int_i, int_bl, abs_i, min_i, max_i, tup_t, tup_l, newL_F, newL_T, List.map_cons, List.map_nil, List.append_nil, List.nil_append, List.cons_append, Nat.reduceAdd, Nat.reduceSub, List.replicate_succ, List.replicate_zero, retF, retXF, RL.add_ll, RL.add_t, RL.sl_tup, RL.sl_lst, RL.sl_scr, RL.mul_t, RL.str_int, List.zip_nil_left, List.zip_cons_cons]
            by_cases e : (v : Int) = h
            · rw [if_pos (show v = h by omega)] at hK
              rw [if_pos e]; simpa using hK
            · rw [if_neg (show ¬ v = h by omega)] at hK
              rw [if_neg e]; exact hK
          · have et : (List.range n).map (fun v => PV.int (if v = h then m else 0)) = (tab n fun v => if v = h then m else 0).map .int := by rw [tab, List.map_map]; rfl
            rw [et]
            (try simp only [bindT, bindTs, wpB, wpS, wpE, wpEs, wpO, wpC, wpIs, wpMs, ex_some, ex_some1, ex_bl, ex_int, ex_tup, List.getElem?_cons_zero, List.getElem?_cons_succ, List.set_cons_zero, List.set_cons_succ, List.length_cons, List.length_nil, Atom.pv, add_i, sub_i, mul_i, mod_i, fdiv_i, pow_i, lt_i, le_i, gt_i, ge_i, eq_, ne_, in_e, nin_e, is_n, isnot_n, idx_tup, idx_lst, eqP_int, eqP_str, atI_0, atI_1, atI_2, ixN_0, ixN_1, ixN_2, decide_eq_true_eq, Bool.not_true, Bool.not_false, if_true, Bool.false_eq_true, if_false, setSl, len_lst, len_tup, int_i, int_bl, abs_i, min_i, max_i, tup_t, tup_l, newL_F, newL_T, List.map_cons, List.map_nil, List.append_nil, List.nil_append, List.cons_append, Nat.reduceAdd, Nat.reduceSub, List.replicate_succ, List.replicate_zero, retF, retXF, RL.add_ll, RL.add_t, RL.sl_tup, RL.sl_lst, RL.sl_scr, RL.mul_t, RL.str_int, List.zip_nil_left, List.zip_cons_cons])
            refine ⟨by rw [List.length_map, tab_len]; omega, by simp, ?_⟩
            rw [idx_ref pg0]
            refine ⟨_, atI_nth (by omega), ?_⟩
            (try simp only [bindT, bindTs, wpB, wpS, wpE, wpEs, wpO, wpC, wpIs, wpMs, ex_some, ex_some1, ex_bl, ex_int, ex_tup, List.getElem?_cons_zero, List.getElem?_cons_succ, List.set_cons_zero, List.set_cons_succ, List.length_cons, List.length_nil, Atom.pv, add_i, sub_i, mul_i, mod_i, fdiv_i, pow_i, lt_i, le_i, gt_i, ge_i, eq_, ne_, in_e, nin_e, is_n, isnot_n, idx_tup, idx_lst, eqP_int, eqP_str, atI_0, atI_1, atI_2, ixN_0, ixN_1, ixN_2, decide_eq_true_eq, Bool.not_true, Bool.not_false, if_true, Bool.false_eq_true, if_false, setSl, len_lst, len_tup, int_i, int_bl, abs_i, min_i, max_i, tup_t, tup_l, newL_F, newL_T, List.map_cons, List.map_nil, List.append_nil, List.nil_append, List.cons_append, Nat.reduceAdd, Nat.reduceSub, List.replicate_succ, List.replicate_zero, retF, retXF, RL.add_ll, RL.add_t, RL.sl_tup, RL.sl_lst, RL.sl_scr, RL.mul_t, RL.str_int, List.zip_nil_left, List.zip_cons_cons])
            refine behind_ok l (.inl rfl) (.inr rfl) hl' tab_len (by omega) hr hne ?_
            (try simp only [bindT, bindTs, wpB, wpS, wpE, wpEs, wpO, wpC, wpIs, wpMs, ex_some, ex_some1, ex_bl, ex_int, ex_tup, List.getElem?_cons_zero, List.getElem?_cons_succ, List.set_cons_zero, List.set_cons_succ, List.length_cons, List.length_nil, Atom.pv, add_i, sub_i, mul_i, mod_i, fdiv_i, pow_i, lt_i, le_i, gt_i, ge_i, eq_, ne_, in_e, nin_e, is_n, isnot_n, idx_tup, idx_lst, eqP_int, eqP_str, atI_0, atI_1, atI_2, ixN_0, ixN_1, ixN_2, decide_eq_true_eq, Bool.not_true, Bool.not_false, if_true, Bool.false_eq_true, if_false, setSl, len_lst, len_tup, int_i, int_bl, abs_i, min_i, max_i, tup_t, tup_l, newL_F, newL_T, List.map_cons, List.map_nil, List.append_nil, List.nil_append, List.cons_append, Nat.reduceAdd, Nat.reduceSub, List.replicate_succ, List.replicate_zero, retF, retXF, RL.add_ll, RL.add_t, RL.sl_tup, RL.sl_lst, RL.sl_scr, RL.mul_t, RL.str_int, List.zip_nil_left, List.zip_cons_cons])
            rw [seti_ref pg0]
            refine ⟨h, ixN_nat (by rw [List.length_map]; omega), ?_⟩
            rw [ps0, set_int]
            have b0 := hL _ (nth_mem (p := L) (a := h) (by omega))
            have hL2 : ∀ x ∈ L.set h (nth L h + -m), 0 ≤ x ∧ x ≤ 2000 * ((i + 1 : Nat) : Int) := fun x hx => by
              rcases List.mem_or_eq_of_mem_set hx with hx | hx
              · have := hL x hx; omega
              · rw [hx]; omega
            refine ⟨by simp, _, L.set h (nth L h + -m), by simp only [seqOf, lstOf, pg0], intsOf_map _, by rw [List.length_set]; omega, fun mi hmi _ => ?_⟩
            (try simp only [bindT, bindTs, wpB, wpS, wpE, wpEs, wpO, wpC, wpIs, wpMs, ex_some, ex_some1, ex_bl, ex_int, ex_tup, List.getElem?_cons_zero, List.getElem?_cons_succ, List.set_cons_zero, List.set_cons_succ, List.length_cons, List.length_nil, Atom.pv, add_i, sub_i, mul_i, mod_i, fdiv_i, pow_i, lt_i, le_i, gt_i, ge_i, eq_, ne_, in_e, nin_e, is_n, isnot_n, idx_tup, idx_lst, eqP_int, eqP_str, atI_0, atI_1, atI_2, ixN_0, ixN_1, ixN_2, decide_eq_true_eq, Bool.not_true, Bool.not_false, if_true, Bool.false_eq_true, if_false, setSl, len_lst, len_tup, int_i, int_bl, abs_i, min_i, max_i, tup_t, tup_l, newL_F, newL_T, List.map_cons, List.map_nil, List.append_nil, List.nil_append, List.cons_append, Nat.reduceAdd, Nat.reduceSub, List.replicate_succ, List.replicate_zero, retF, retXF, RL.add_ll, RL.add_t, RL.sl_tup, RL.sl_lst, RL.sl_scr, RL.mul_t, RL.str_int, List.zip_nil_left, List.zip_cons_cons])
            have next : N [some (townPV n rs), some (.tup (p.map .int)), some (.lst (natsPV order)), some v, some (.lst ((degs n rs).map .int)), some (.ref ph.length), some (pursePV (bhd n rs (nth hv) (nth (tab n fun v => if v = h then m else 0)))), some (.lst (natsPV (h :: hs'))), some (.int h), some (.int (-m)), some (.lst ((tab n fun v => if v = h then m else 0).map .int)), a6] (ph ++ [.lst ((L.set h (nth L h + -m)).map .int)]) := by
              refine hN _ _ ⟨_, _, _, _, _, _, _, _, rfl, rfl, by rw [List.length_set]; exact Ll, bhd_len, ?_, fun x hx => ?_, hL2⟩
              · rw [sum_bhd hr, ← tab_of hl', hs]
              · obtain ⟨v, hvn, rfl⟩ := tab_mem hx
                rw [flow_tab hr, flow_one hne]
                have hb := hm _ (nth_mem (p := hv) (a := v) (by omega))
                have hc : m * (cntN (nbrs rs h) v : Int) ≤ 0 := Int.mul_nonpos_of_nonpos_of_nonneg (by omega) (by omega)
                by_cases e : v = h
                · subst e
                  rw [if_pos rfl, nbrs_len hne]; omega
                · rw [if_neg e]; omega
            split
            · exact ret_newO .non q1
            · exact next
    · rintro env ph' ⟨a1, a2, a3, a4, a5, a6, L, hv, rfl, rfl, Ll, hl', hs, hm, hL⟩
      refine ⟨it_r1 (by decide), ?_⟩
      (try simp only [bindT, bindTs, wpB, wpS, wpE, wpEs, wpO, wpC, wpIs, wpMs, ex_some, ex_some1, ex_bl, ex_int, ex_tup, List.getElem?_cons_zero, List.getElem?_cons_succ, List.set_cons_zero, List.set_cons_succ, List.length_cons, List.length_nil, Atom.pv, add_i, sub_i, mul_i, mod_i, fdiv_i, pow_i, lt_i, le_i, gt_i, ge_i, eq_, ne_, in_e, nin_e, is_n, isnot_n, idx_tup, idx_lst, eqP_int, eqP_str, atI_0, atI_1, atI_2, ixN_0, ixN_1, ixN_2, decide_eq_true_eq, Bool.not_true, Bool.not_false, if_true, Bool.false_eq_true, if_false, setSl, len_lst, len_tup, int_i, int_bl, abs_i, min_i, max_i, tup_t, tup_l, newL_F, newL_T, List.map_cons, List.map_nil, List.append_nil, List.nil_append, List.cons_append, Nat.reduceAdd, Nat.reduceSub, List.replicate_succ, List.replicate_zero, retF, retXF, RL.add_ll, RL.add_t, RL.sl_tup, RL.sl_lst, RL.sl_scr, RL.mul_t, RL.str_int, List.zip_nil_left, List.zip_cons_cons])
      exact ret_newO .non q1
end
end FD
end RL

/-! RLFamA: the deck with a row of great cells. -/
namespace RL
open PySem L2
namespace FA
/-- _law_deck(script); slots 0:script 1:cell 2:cells 3:mixed -/
def b_law_deck : List S := [.par [2, 3] [.comp false (.bi .abs false [.var 1]) (.name 1) .seq [.sl false (.var 0) none (some (.con (.int 63)))] none [1], .op2 .add false (.con (.int 16245)) (.bi .len false [.sl false (.var 0) none (some (.con (.int 63)))])], .for_ (.name 1) .seq [.var 2] [.set 3 (.op2 .mod false (.op2 .add false (.op2 .add false (.op2 .mul false (.var 3) (.con (.int 48271))) (.op2 .mod false (.var 1) (.con (.int 2147483629)))) (.con (.int 7))) (.con (.int 2147483647)))], .ret (.lst true [.rev true (.comp false (.var 1) (.name 1) .seq [.var 2] (some (.op2 .ge false (.var 1) (.op2 .pow false (.con (.int 10)) (.con (.int 9))))) [1]), .var 3])]
def is_law_deck (pg : Pg) (f : Nat) : Prop := Is pg f 1 4 false (b_law_deck)
/-- _law_next(deck, many); slots 0:deck 1:many 2:rest -/
def b_law_next : List S := [.while_ (.andE (.op2 .gt false (.var 1) (.con (.int 1))) (.op2 .ne false (.idx (.var 0) (.con (.int 0))) (.lst false []))) [.set 2 (.mt .pop (.idx (.var 0) (.con (.int 0))) []), .ife (.op2 .gt false (.var 2) (.con (.int 0))) [.expr (.mt .append (.idx (.var 0) (.con (.int 0))) [.op2 .fdiv false (.var 2) (.var 1)]), .ret (.op2 .mod false (.var 2) (.var 1))] []], .seti (.var 0) (.con (.int 1)) (.op2 .mod true (.op2 .add false (.op2 .mul false (.idx (.var 0) (.con (.int 1))) (.con (.int 48271))) (.con (.int 11))) (.con (.int 2147483647))), .ret (.op2 .mod false (.op2 .fdiv false (.op2 .mod false (.op2 .mul false (.idx (.var 0) (.con (.int 1))) (.idx (.var 0) (.con (.int 1)))) (.con (.int 2147483629))) (.con (.int 7))) (.var 1))]
def is_law_next (pg : Pg) (f : Nat) : Prop := Is pg f 2 3 false (b_law_next)
/-- _law_pair(one, other); slots 0:one 1:other -/
def b_law_pair : List S := [.ret (.ife (.op2 .lt false (.var 0) (.var 1)) (.tup [.var 0, .var 1]) (.tup [.var 1, .var 0]))]
def is_law_pair (pg : Pg) (f : Nat) : Prop := Is pg f 2 2 false (b_law_pair)
/-- _law_town(deck, most, more); slots 0:deck 1:most 2:more 3:houses 4:names 5:pairs 6:step 7:k 8:one 9:other -/
def b_law_town (f_law_next f_law_mixed f_law_pair f_law_pick : Nat) : List S := [.set 3 (.op2 .add false (.con (.int 1)) (.call f_law_next [.var 0, .var 1])), .set 4 (.call f_law_mixed [.var 0, .rng false false [.var 3]]), .set 5 (.comp true (.call f_law_pair [.idx (.var 4) (.var 7), .idx (.var 4) (.call f_law_next [.var 0, .var 7])]) (.name 7) .range [.con (.int 1), .var 3] none [7]), .for_ (.name 6) .range [.call f_law_next [.var 0, .op2 .add false (.var 2) (.con (.int 1))]] [.par [8, 9] [.call f_law_next [.var 0, .var 3], .call f_law_next [.var 0, .var 3]], .ife (.andE (.op2 .ne false (.var 8) (.var 9)) (.op2 .lt false (.bi .len false [.var 5]) (.con (.int 14)))) [.expr (.mt .append (.var 5) [.ife (.op2 .eq false (.call f_law_next [.var 0, .con (.int 4)]) (.con (.int 0))) (.call f_law_pick [.var 0, .var 5]) (.call f_law_pair [.var 8, .var 9])])] []], .ret (.tup [.var 3, .bi .tuple false [.bi .sorted false [.var 5]]])]
def is_law_town (pg : Pg) (f : Nat) (f_law_next f_law_mixed f_law_pair f_law_pick : Nat) : Prop := Is pg f 3 10 true (b_law_town f_law_next f_law_mixed f_law_pair f_law_pick)

def D (xs : List Int) (m : Int) : PHp := [.lst (xs.map .int), .lst [.ref 0, .int m]]
def dlen : PHp → Nat
  | .lst l :: _ => l.length
  | _ => 0
section
variable {xs ys : List Int} {m m' : Int} {ex : PHp}
theorem d0 : (D xs m ++ ex)[0]? = some (.lst (xs.map .int)) := rfl
theorem d1 : (D xs m ++ ex)[1]? = some (.lst [.ref 0, .int m]) := rfl
theorem s0 : setO (D xs m ++ ex) 0 (.lst (ys.map .int)) = D ys m ++ ex := rfl
theorem s1 : setO (D xs m ++ ex) 1 (.lst [.ref 0, .int m']) = D xs m' ++ ex := rfl
end
def Gd (xs : List Int) (m : Int) : Prop := xs.length ≤ 63 ∧ 0 ≤ m ∧ m < 2147483647
def deckA : Deck where
  N := 2
  Gd _ h := ∃ xs m, Gd xs m ∧ h = D xs m
  len := by rintro T h ⟨xs, m, _, rfl⟩; rfl
  old := by
    rintro T h ⟨xs, m, _, rfl⟩ i o ho
    match i, ho with
    | 0, e => cases e; exact oldL_ints xs
    | 1, e => cases e; exact .cons (.ref (by decide)) (.cons (.int _) .nil)
  mono := by rintro T T' h _ g; exact g
section
variable {pg : Pg} {f : Nat}
theorem draw_ok (i : is_law_next pg f) : Draws deckA pg f := by
  rintro k T many h ex Q X ⟨xs, m, hg, rfl⟩ hT h1 h2 hq
  refine i.call rfl ?_
  have hsz := sz
  simp only [b_law_next, bindT, bindTs, wpB, wpS, wpE, wpEs, wpO, wpC, wpIs, wpMs, ex_some, ex_some1, ex_bl, ex_int, ex_tup, List.getElem?_cons_zero, List.getElem?_cons_succ, List.set_cons_zero, List.set_cons_succ, List.length_cons, List.length_nil, Atom.pv, add_i, sub_i, mul_i, mod_i, fdiv_i, pow_i, lt_i, le_i, gt_i, ge_i, eq_, ne_, in_e, nin_e, is_n, isnot_n, idx_tup, idx_lst, eqP_int, eqP_str, atI_0, atI_1, atI_2, ixN_0, ixN_1, ixN_2, decide_eq_true_eq, Bool.not_true, Bool.not_false, if_true, Bool.false_eq_true, if_false, setSl, len_lst, len_tup, int_i, int_bl, abs_i, min_i, max_i, tup_t, tup_l, newL_F, newL_T, List.map_cons, List.map_nil, List.append_nil, List.nil_append, List.cons_append, Nat.reduceAdd, Nat.reduceSub, List.replicate_succ, List.replicate_zero, retF, retXF, RL.add_ll, RL.add_t, RL.sl_tup, RL.sl_lst, RL.sl_scr, RL.mul_t, RL.str_int, List.zip_nil_left, List.zip_cons_cons]
  refine whl_rule (fun env ph => ∃ xs m r, Gd xs m ∧ env = [some (.ref 1), some (.int many), r] ∧ ph = D xs m ++ ex) (fun _ ph => dlen ph) ?_ ⟨xs, m, none, hg, rfl, rfl⟩
  rintro env ph ⟨xs, m, r, ⟨hx63, hm⟩, rfl, rfl⟩ N hN
  (try simp only [bindT, bindTs, wpB, wpS, wpE, wpEs, wpO, wpC, wpIs, wpMs, ex_some, ex_some1, ex_bl, ex_int, ex_tup, List.getElem?_cons_zero, List.getElem?_cons_succ, List.set_cons_zero, List.set_cons_succ, List.length_cons, List.length_nil, Atom.pv, add_i, sub_i, mul_i, mod_i, fdiv_i, pow_i, lt_i, le_i, gt_i, ge_i, eq_, ne_, in_e, nin_e, is_n, isnot_n, idx_tup, idx_lst, eqP_int, eqP_str, atI_0, atI_1, atI_2, ixN_0, ixN_1, ixN_2, decide_eq_true_eq, Bool.not_true, Bool.not_false, if_true, Bool.false_eq_true, if_false, setSl, len_lst, len_tup, int_i, int_bl, abs_i, min_i, max_i, tup_t, tup_l, newL_F, newL_T, List.map_cons, List.map_nil, List.append_nil, List.nil_append, List.cons_append, Nat.reduceAdd, Nat.reduceSub, List.replicate_succ, List.replicate_zero, retF, retXF, RL.add_ll, RL.add_t, RL.sl_tup, RL.sl_lst, RL.sl_scr, RL.mul_t, RL.str_int, List.zip_nil_left, List.zip_cons_cons])
  by_cases hmany : 1 < many
  · rw [if_pos hmany, idx_ref (d1 (xs := xs))]
    (try simp only [bindT, bindTs, wpB, wpS, wpE, wpEs, wpO, wpC, wpIs, wpMs, ex_some, ex_some1, ex_bl, ex_int, ex_tup, List.getElem?_cons_zero, List.getElem?_cons_succ, List.set_cons_zero, List.set_cons_succ, List.length_cons, List.length_nil, Atom.pv, add_i, sub_i, mul_i, mod_i, fdiv_i, pow_i, lt_i, le_i, gt_i, ge_i, eq_, ne_, in_e, nin_e, is_n, isnot_n, idx_tup, idx_lst, eqP_int, eqP_str, atI_0, atI_1, atI_2, ixN_0, ixN_1, ixN_2, decide_eq_true_eq, Bool.not_true, Bool.not_false, if_true, Bool.false_eq_true, if_false, setSl, len_lst, len_tup, int_i, int_bl, abs_i, min_i, max_i, tup_t, tup_l, newL_F, newL_T, List.map_cons, List.map_nil, List.append_nil, List.nil_append, List.cons_append, Nat.reduceAdd, Nat.reduceSub, List.replicate_succ, List.replicate_zero, retF, retXF, RL.add_ll, RL.add_t, RL.sl_tup, RL.sl_lst, RL.sl_scr, RL.mul_t, RL.str_int, List.zip_nil_left, List.zip_cons_cons])
    refine ⟨by decide, ?_⟩
    refine eqP_of (.ref d0 (dat_ints _ xs)) (.lst .nil) (shaped_ints xs) rfl ?_
    rw [eqv_nil]
    by_cases hx : xs = []
    · rw [decide_eq_true hx]
      (try simp only [bindT, bindTs, wpB, wpS, wpE, wpEs, wpO, wpC, wpIs, wpMs, ex_some, ex_some1, ex_bl, ex_int, ex_tup, List.getElem?_cons_zero, List.getElem?_cons_succ, List.set_cons_zero, List.set_cons_succ, List.length_cons, List.length_nil, Atom.pv, add_i, sub_i, mul_i, mod_i, fdiv_i, pow_i, lt_i, le_i, gt_i, ge_i, eq_, ne_, in_e, nin_e, is_n, isnot_n, idx_tup, idx_lst, eqP_int, eqP_str, atI_0, atI_1, atI_2, ixN_0, ixN_1, ixN_2, decide_eq_true_eq, Bool.not_true, Bool.not_false, if_true, Bool.false_eq_true, if_false, setSl, len_lst, len_tup, int_i, int_bl, abs_i, min_i, max_i, tup_t, tup_l, newL_F, newL_T, List.map_cons, List.map_nil, List.append_nil, List.nil_append, List.cons_append, Nat.reduceAdd, Nat.reduceSub, List.replicate_succ, List.replicate_zero, retF, retXF, RL.add_ll, RL.add_t, RL.sl_tup, RL.sl_lst, RL.sl_scr, RL.mul_t, RL.str_int, List.zip_nil_left, List.zip_cons_cons])
      rw [idx_ref (d1 (xs := xs))]
      (try simp only [bindT, bindTs, wpB, wpS, wpE, wpEs, wpO, wpC, wpIs, wpMs, ex_some, ex_some1, ex_bl, ex_int, ex_tup, List.getElem?_cons_zero, List.getElem?_cons_succ, List.set_cons_zero, List.set_cons_succ, List.length_cons, List.length_nil, Atom.pv, add_i, sub_i, mul_i, mod_i, fdiv_i, pow_i, lt_i, le_i, gt_i, ge_i, eq_, ne_, in_e, nin_e, is_n, isnot_n, idx_tup, idx_lst, eqP_int, eqP_str, atI_0, atI_1, atI_2, ixN_0, ixN_1, ixN_2, decide_eq_true_eq, Bool.not_true, Bool.not_false, if_true, Bool.false_eq_true, if_false, setSl, len_lst, len_tup, int_i, int_bl, abs_i, min_i, max_i, tup_t, tup_l, newL_F, newL_T, List.map_cons, List.map_nil, List.append_nil, List.nil_append, List.cons_append, Nat.reduceAdd, Nat.reduceSub, List.replicate_succ, List.replicate_zero, retF, retXF, RL.add_ll, RL.add_t, RL.sl_tup, RL.sl_lst, RL.sl_scr, RL.mul_t, RL.str_int, List.zip_nil_left, List.zip_cons_cons])
      have b := lt31 hm.1 (by omega)
      refine ⟨mulOk_small (by omega) (by omega) (by omega) (by omega), by decide, ?_⟩
      rw [seti_ref (d1 (xs := xs))]
      refine ⟨1, rfl, ?_⟩
      have e : [PV.ref 0, PV.int m].set 1 (.int ((m * 48271 + 11).fmod 2147483647)) = [.ref 0, .int ((m * 48271 + 11).fmod 2147483647)] := rfl
      rw [e, s1]
      have hf := fmod_pos (i := m * 48271 + 11) (j := 2147483647) (by omega)
      generalize (m * 48271 + 11).fmod 2147483647 = m' at hf
      rw [idx_ref d1]
      (try simp only [bindT, bindTs, wpB, wpS, wpE, wpEs, wpO, wpC, wpIs, wpMs, ex_some, ex_some1, ex_bl, ex_int, ex_tup, List.getElem?_cons_zero, List.getElem?_cons_succ, List.set_cons_zero, List.set_cons_succ, List.length_cons, List.length_nil, Atom.pv, add_i, sub_i, mul_i, mod_i, fdiv_i, pow_i, lt_i, le_i, gt_i, ge_i, eq_, ne_, in_e, nin_e, is_n, isnot_n, idx_tup, idx_lst, eqP_int, eqP_str, atI_0, atI_1, atI_2, ixN_0, ixN_1, ixN_2, decide_eq_true_eq, Bool.not_true, Bool.not_false, if_true, Bool.false_eq_true, if_false, setSl, len_lst, len_tup, int_i, int_bl, abs_i, min_i, max_i, tup_t, tup_l, newL_F, newL_T, List.map_cons, List.map_nil, List.append_nil, List.nil_append, List.cons_append, Nat.reduceAdd, Nat.reduceSub, List.replicate_succ, List.replicate_zero, retF, retXF, RL.add_ll, RL.add_t, RL.sl_tup, RL.sl_lst, RL.sl_scr, RL.mul_t, RL.str_int, List.zip_nil_left, List.zip_cons_cons])
      rw [idx_ref d1]
      (try simp only [bindT, bindTs, wpB, wpS, wpE, wpEs, wpO, wpC, wpIs, wpMs, ex_some, ex_some1, ex_bl, ex_int, ex_tup, List.getElem?_cons_zero, List.getElem?_cons_succ, List.set_cons_zero, List.set_cons_succ, List.length_cons, List.length_nil, Atom.pv, add_i, sub_i, mul_i, mod_i, fdiv_i, pow_i, lt_i, le_i, gt_i, ge_i, eq_, ne_, in_e, nin_e, is_n, isnot_n, idx_tup, idx_lst, eqP_int, eqP_str, atI_0, atI_1, atI_2, ixN_0, ixN_1, ixN_2, decide_eq_true_eq, Bool.not_true, Bool.not_false, if_true, Bool.false_eq_true, if_false, setSl, len_lst, len_tup, int_i, int_bl, abs_i, min_i, max_i, tup_t, tup_l, newL_F, newL_T, List.map_cons, List.map_nil, List.append_nil, List.nil_append, List.cons_append, Nat.reduceAdd, Nat.reduceSub, List.replicate_succ, List.replicate_zero, retF, retXF, RL.add_ll, RL.add_t, RL.sl_tup, RL.sl_lst, RL.sl_scr, RL.mul_t, RL.str_int, List.zip_nil_left, List.zip_cons_cons])
      have c := fmod_pos (i := ((m' * m').fmod 2147483629).fdiv 7) (j := many) (by omega)
      exact ⟨mulOk_small (by omega) (by omega) (by omega) (by omega), by decide, by omega, by omega, hq _ _ ⟨xs, m', ⟨hx63, hf⟩, rfl⟩ c.1 c.2⟩
    · rw [decide_eq_false hx]
      obtain ⟨ys, y, rfl⟩ : ∃ ys y, xs = ys ++ [y] := ⟨xs.dropLast, xs.getLast hx, (List.dropLast_concat_getLast hx).symm⟩
      (try simp only [bindT, bindTs, wpB, wpS, wpE, wpEs, wpO, wpC, wpIs, wpMs, ex_some, ex_some1, ex_bl, ex_int, ex_tup, List.getElem?_cons_zero, List.getElem?_cons_succ, List.set_cons_zero, List.set_cons_succ, List.length_cons, List.length_nil, Atom.pv, add_i, sub_i, mul_i, mod_i, fdiv_i, pow_i, lt_i, le_i, gt_i, ge_i, eq_, ne_, in_e, nin_e, is_n, isnot_n, idx_tup, idx_lst, eqP_int, eqP_str, atI_0, atI_1, atI_2, ixN_0, ixN_1, ixN_2, decide_eq_true_eq, Bool.not_true, Bool.not_false, if_true, Bool.false_eq_true, if_false, setSl, len_lst, len_tup, int_i, int_bl, abs_i, min_i, max_i, tup_t, tup_l, newL_F, newL_T, List.map_cons, List.map_nil, List.append_nil, List.nil_append, List.cons_append, Nat.reduceAdd, Nat.reduceSub, List.replicate_succ, List.replicate_zero, retF, retXF, RL.add_ll, RL.add_t, RL.sl_tup, RL.sl_lst, RL.sl_scr, RL.mul_t, RL.str_int, List.zip_nil_left, List.zip_cons_cons])
      rw [idx_ref (d1 (xs := ys ++ [y]))]
      (try simp only [bindT, bindTs, wpB, wpS, wpE, wpEs, wpO, wpC, wpIs, wpMs, ex_some, ex_some1, ex_bl, ex_int, ex_tup, List.getElem?_cons_zero, List.getElem?_cons_succ, List.set_cons_zero, List.set_cons_succ, List.length_cons, List.length_nil, Atom.pv, add_i, sub_i, mul_i, mod_i, fdiv_i, pow_i, lt_i, le_i, gt_i, ge_i, eq_, ne_, in_e, nin_e, is_n, isnot_n, idx_tup, idx_lst, eqP_int, eqP_str, atI_0, atI_1, atI_2, ixN_0, ixN_1, ixN_2, decide_eq_true_eq, Bool.not_true, Bool.not_false, if_true, Bool.false_eq_true, if_false, setSl, len_lst, len_tup, int_i, int_bl, abs_i, min_i, max_i, tup_t, tup_l, newL_F, newL_T, List.map_cons, List.map_nil, List.append_nil, List.nil_append, List.cons_append, Nat.reduceAdd, Nat.reduceSub, List.replicate_succ, List.replicate_zero, retF, retXF, RL.add_ll, RL.add_t, RL.sl_tup, RL.sl_lst, RL.sl_scr, RL.mul_t, RL.str_int, List.zip_nil_left, List.zip_cons_cons])
      refine ⟨rfl, (ys ++ [y]).map .int, .int y, d0, by simp, ?_⟩
      have e : ((ys ++ [y]).map PV.int).dropLast = ys.map .int := by simp
      rw [e, s0]
      have hyl : ys.length ≤ 62 := by simp at hx63; omega
      (try simp only [bindT, bindTs, wpB, wpS, wpE, wpEs, wpO, wpC, wpIs, wpMs, ex_some, ex_some1, ex_bl, ex_int, ex_tup, List.getElem?_cons_zero, List.getElem?_cons_succ, List.set_cons_zero, List.set_cons_succ, List.length_cons, List.length_nil, Atom.pv, add_i, sub_i, mul_i, mod_i, fdiv_i, pow_i, lt_i, le_i, gt_i, ge_i, eq_, ne_, in_e, nin_e, is_n, isnot_n, idx_tup, idx_lst, eqP_int, eqP_str, atI_0, atI_1, atI_2, ixN_0, ixN_1, ixN_2, decide_eq_true_eq, Bool.not_true, Bool.not_false, if_true, Bool.false_eq_true, if_false, setSl, len_lst, len_tup, int_i, int_bl, abs_i, min_i, max_i, tup_t, tup_l, newL_F, newL_T, List.map_cons, List.map_nil, List.append_nil, List.nil_append, List.cons_append, Nat.reduceAdd, Nat.reduceSub, List.replicate_succ, List.replicate_zero, retF, retXF, RL.add_ll, RL.add_t, RL.sl_tup, RL.sl_lst, RL.sl_scr, RL.mul_t, RL.str_int, List.zip_nil_left, List.zip_cons_cons])
      refine ⟨by omega, ?_⟩
      have c := fmod_pos (i := y) (j := many) (by omega)
      split
      · rw [idx_ref (d1 (xs := ys))]
        (try simp only [bindT, bindTs, wpB, wpS, wpE, wpEs, wpO, wpC, wpIs, wpMs, ex_some, ex_some1, ex_bl, ex_int, ex_tup, List.getElem?_cons_zero, List.getElem?_cons_succ, List.set_cons_zero, List.set_cons_succ, List.length_cons, List.length_nil, Atom.pv, add_i, sub_i, mul_i, mod_i, fdiv_i, pow_i, lt_i, le_i, gt_i, ge_i, eq_, ne_, in_e, nin_e, is_n, isnot_n, idx_tup, idx_lst, eqP_int, eqP_str, atI_0, atI_1, atI_2, ixN_0, ixN_1, ixN_2, decide_eq_true_eq, Bool.not_true, Bool.not_false, if_true, Bool.false_eq_true, if_false, setSl, len_lst, len_tup, int_i, int_bl, abs_i, min_i, max_i, tup_t, tup_l, newL_F, newL_T, List.map_cons, List.map_nil, List.append_nil, List.nil_append, List.cons_append, Nat.reduceAdd, Nat.reduceSub, List.replicate_succ, List.replicate_zero, retF, retXF, RL.add_ll, RL.add_t, RL.sl_tup, RL.sl_lst, RL.sl_scr, RL.mul_t, RL.str_int, List.zip_nil_left, List.zip_cons_cons])
        refine ⟨rfl, fdivOk (by omega) (by omega), ys.map .int, d0, by rw [List.length_map]; omega, ?_⟩
        rw [show ys.map PV.int ++ [.int (y.fdiv many)] = (ys ++ [y.fdiv many]).map .int by simp, s0]
        exact ⟨by omega, hq _ _ ⟨_, m, ⟨by simp; omega, hm⟩, rfl⟩ c.1 c.2⟩
      · refine hN _ _ ⟨ys, m, _, ⟨by omega, hm⟩, rfl, rfl⟩ ?_
        simp [dlen, D]
  · rw [if_neg hmany]
    (try simp only [bindT, bindTs, wpB, wpS, wpE, wpEs, wpO, wpC, wpIs, wpMs, ex_some, ex_some1, ex_bl, ex_int, ex_tup, List.getElem?_cons_zero, List.getElem?_cons_succ, List.set_cons_zero, List.set_cons_succ, List.length_cons, List.length_nil, Atom.pv, add_i, sub_i, mul_i, mod_i, fdiv_i, pow_i, lt_i, le_i, gt_i, ge_i, eq_, ne_, in_e, nin_e, is_n, isnot_n, idx_tup, idx_lst, eqP_int, eqP_str, atI_0, atI_1, atI_2, ixN_0, ixN_1, ixN_2, decide_eq_true_eq, Bool.not_true, Bool.not_false, if_true, Bool.false_eq_true, if_false, setSl, len_lst, len_tup, int_i, int_bl, abs_i, min_i, max_i, tup_t, tup_l, newL_F, newL_T, List.map_cons, List.map_nil, List.append_nil, List.nil_append, List.cons_append, Nat.reduceAdd, Nat.reduceSub, List.replicate_succ, List.replicate_zero, retF, retXF, RL.add_ll, RL.add_t, RL.sl_tup, RL.sl_lst, RL.sl_scr, RL.mul_t, RL.str_int, List.zip_nil_left, List.zip_cons_cons])
    rw [idx_ref (d1 (xs := xs))]
    (try simp only [bindT, bindTs, wpB, wpS, wpE, wpEs, wpO, wpC, wpIs, wpMs, ex_some, ex_some1, ex_bl, ex_int, ex_tup, List.getElem?_cons_zero, List.getElem?_cons_succ, List.set_cons_zero, List.set_cons_succ, List.length_cons, List.length_nil, Atom.pv, add_i, sub_i, mul_i, mod_i, fdiv_i, pow_i, lt_i, le_i, gt_i, ge_i, eq_, ne_, in_e, nin_e, is_n, isnot_n, idx_tup, idx_lst, eqP_int, eqP_str, atI_0, atI_1, atI_2, ixN_0, ixN_1, ixN_2, decide_eq_true_eq, Bool.not_true, Bool.not_false, if_true, Bool.false_eq_true, if_false, setSl, len_lst, len_tup, int_i, int_bl, abs_i, min_i, max_i, tup_t, tup_l, newL_F, newL_T, List.map_cons, List.map_nil, List.append_nil, List.nil_append, List.cons_append, Nat.reduceAdd, Nat.reduceSub, List.replicate_succ, List.replicate_zero, retF, retXF, RL.add_ll, RL.add_t, RL.sl_tup, RL.sl_lst, RL.sl_scr, RL.mul_t, RL.str_int, List.zip_nil_left, List.zip_cons_cons])
    have b := lt31 hm.1 (by omega)
    refine ⟨mulOk_small (by omega) (by omega) (by omega) (by omega), by decide, ?_⟩
    rw [seti_ref (d1 (xs := xs))]
    refine ⟨1, rfl, ?_⟩
    have e : [PV.ref 0, PV.int m].set 1 (.int ((m * 48271 + 11).fmod 2147483647)) = [.ref 0, .int ((m * 48271 + 11).fmod 2147483647)] := rfl
    rw [e, s1]
    have hf := fmod_pos (i := m * 48271 + 11) (j := 2147483647) (by omega)
    generalize (m * 48271 + 11).fmod 2147483647 = m' at hf
    rw [idx_ref d1]
    (try simp only [bindT, bindTs, wpB, wpS, wpE, wpEs, wpO, wpC, wpIs, wpMs, ex_some, ex_some1, ex_bl, ex_int, ex_tup, List.getElem?_cons_zero, List.getElem?_cons_succ, List.set_cons_zero, List.set_cons_succ, List.length_cons, List.length_nil, Atom.pv, add_i, sub_i, mul_i, mod_i, fdiv_i, pow_i, lt_i, le_i, gt_i, ge_i, eq_, ne_, in_e, nin_e, is_n, isnot_n, idx_tup, idx_lst, eqP_int, eqP_str, atI_0, atI_1, atI_2, ixN_0, ixN_1, ixN_2, decide_eq_true_eq, Bool.not_true, Bool.not_false, if_true, Bool.false_eq_true, if_false, setSl, len_lst, len_tup, int_i, int_bl, abs_i, min_i, max_i, tup_t, tup_l, newL_F, newL_T, List.map_cons, List.map_nil, List.append_nil, List.nil_append, List.cons_append, Nat.reduceAdd, Nat.reduceSub, List.replicate_succ, List.replicate_zero, retF, retXF, RL.add_ll, RL.add_t, RL.sl_tup, RL.sl_lst, RL.sl_scr, RL.mul_t, RL.str_int, List.zip_nil_left, List.zip_cons_cons])
    rw [idx_ref d1]
    (try simp only [bindT, bindTs, wpB, wpS, wpE, wpEs, wpO, wpC, wpIs, wpMs, ex_some, ex_some1, ex_bl, ex_int, ex_tup, List.getElem?_cons_zero, List.getElem?_cons_succ, List.set_cons_zero, List.set_cons_succ, List.length_cons, List.length_nil, Atom.pv, add_i, sub_i, mul_i, mod_i, fdiv_i, pow_i, lt_i, le_i, gt_i, ge_i, eq_, ne_, in_e, nin_e, is_n, isnot_n, idx_tup, idx_lst, eqP_int, eqP_str, atI_0, atI_1, atI_2, ixN_0, ixN_1, ixN_2, decide_eq_true_eq, Bool.not_true, Bool.not_false, if_true, Bool.false_eq_true, if_false, setSl, len_lst, len_tup, int_i, int_bl, abs_i, min_i, max_i, tup_t, tup_l, newL_F, newL_T, List.map_cons, List.map_nil, List.append_nil, List.nil_append, List.cons_append, Nat.reduceAdd, Nat.reduceSub, List.replicate_succ, List.replicate_zero, retF, retXF, RL.add_ll, RL.add_t, RL.sl_tup, RL.sl_lst, RL.sl_scr, RL.mul_t, RL.str_int, List.zip_nil_left, List.zip_cons_cons])
    have c := fmod_pos (i := ((m' * m').fmod 2147483629).fdiv 7) (j := many) (by omega)
    exact ⟨mulOk_small (by omega) (by omega) (by omega) (by omega), by decide, by omega, by omega, hq _ _ ⟨xs, m', ⟨hx63, hf⟩, rfl⟩ c.1 c.2⟩
theorem deck_ok (i : is_law_deck pg f) {k : Nat} {ns : List Int} {Q : QV} {X : QX} (q : ∀ h, deckA.Gd 0 h → Q (.ref 1) h) : callK pg (k + 1) f [.scr ns] [] Q X := by
  refine i.call rfl ?_
  have hsz := sz
  have hc := cut_len ns
  obtain ⟨cs, e63⟩ : ∃ cs, cs = cut ns none (some 63) := ⟨_, rfl⟩
  rw [← e63] at hc
  replace e63 : cut (ns.map PV.int) none (some 63) = cs.map .int := by rw [cut_map, e63]
  simp only [b_law_deck, bindT, bindTs, wpB, wpS, wpE, wpEs, wpO, wpC, wpIs, wpMs, ex_some, ex_some1, ex_bl, ex_int, ex_tup, List.getElem?_cons_zero, List.getElem?_cons_succ, List.set_cons_zero, List.set_cons_succ, List.length_cons, List.length_nil, Atom.pv, add_i, sub_i, mul_i, mod_i, fdiv_i, pow_i, lt_i, le_i, gt_i, ge_i, eq_, ne_, in_e, nin_e, is_n, isnot_n, idx_tup, idx_lst, eqP_int, eqP_str, atI_0, atI_1, atI_2, ixN_0, ixN_1, ixN_2, decide_eq_true_eq, Bool.not_true, Bool.not_false, if_true, Bool.false_eq_true, if_false, setSl, len_lst, len_tup, int_i, int_bl, abs_i, min_i, max_i, tup_t, tup_l, newL_F, newL_T, List.map_cons, List.map_nil, List.append_nil, List.nil_append, List.cons_append, Nat.reduceAdd, Nat.reduceSub, List.replicate_succ, List.replicate_zero, retF, retXF, RL.add_ll, RL.add_t, RL.sl_tup, RL.sl_lst, RL.sl_scr, RL.mul_t, RL.str_int, List.zip_nil_left, List.zip_cons_cons, sl_scr, e63]
  refine ⟨by rw [List.length_map]; omega, _, rfl, ?_⟩
  refine comp_encM PV.int (fun z => .int (if z < 0 then -z else z)) rfl (by omega) (fun z hz K R hK => ?_) ?_
  · refine ⟨by simp [wipeE], ?_⟩
    simp only [wipeE, bindT, bindTs, wpB, wpS, wpE, wpEs, wpO, wpC, wpIs, wpMs, ex_some, ex_some1, ex_bl, ex_int, ex_tup, List.getElem?_cons_zero, List.getElem?_cons_succ, List.set_cons_zero, List.set_cons_succ, List.length_cons, List.length_nil, Atom.pv, add_i, sub_i, mul_i, mod_i, fdiv_i, pow_i, lt_i, le_i, gt_i, ge_i, eq_, ne_, in_e, nin_e, is_n, isnot_n, idx_tup, idx_lst, eqP_int, eqP_str, atI_0, atI_1, atI_2, ixN_0, ixN_1, ixN_2, decide_eq_true_eq, Bool.not_true, Bool.not_false, if_true, Bool.false_eq_true, if_false, setSl, len_lst, len_tup, int_i, int_bl, abs_i, min_i, max_i, tup_t, tup_l, newL_F, newL_T, List.map_cons, List.map_nil, List.append_nil, List.nil_append, List.cons_append, Nat.reduceAdd, Nat.reduceSub, List.replicate_succ, List.replicate_zero, retF, retXF, RL.add_ll, RL.add_t, RL.sl_tup, RL.sl_lst, RL.sl_scr, RL.mul_t, RL.str_int, List.zip_nil_left, List.zip_cons_cons]
    exact hK
  · have e : cs.map (fun z => PV.int (if z < 0 then -z else z)) = (cs.map fun i => if i < 0 then -i else i).map .int := by rw [List.map_map]; rfl
    rw [e]
    obtain ⟨ds, hds⟩ : ∃ ds, ds = cs.map fun i => if i < 0 then -i else i := ⟨_, rfl⟩
    have hdl : ds.length ≤ 63 := by rw [hds, List.length_map]; exact hc
    rw [← hds]
    (try simp only [bindT, bindTs, wpB, wpS, wpE, wpEs, wpO, wpC, wpIs, wpMs, ex_some, ex_some1, ex_bl, ex_int, ex_tup, List.getElem?_cons_zero, List.getElem?_cons_succ, List.set_cons_zero, List.set_cons_succ, List.length_cons, List.length_nil, Atom.pv, add_i, sub_i, mul_i, mod_i, fdiv_i, pow_i, lt_i, le_i, gt_i, ge_i, eq_, ne_, in_e, nin_e, is_n, isnot_n, idx_tup, idx_lst, eqP_int, eqP_str, atI_0, atI_1, atI_2, ixN_0, ixN_1, ixN_2, decide_eq_true_eq, Bool.not_true, Bool.not_false, if_true, Bool.false_eq_true, if_false, setSl, len_lst, len_tup, int_i, int_bl, abs_i, min_i, max_i, tup_t, tup_l, newL_F, newL_T, List.map_cons, List.map_nil, List.append_nil, List.nil_append, List.cons_append, Nat.reduceAdd, Nat.reduceSub, List.replicate_succ, List.replicate_zero, retF, retXF, RL.add_ll, RL.add_t, RL.sl_tup, RL.sl_lst, RL.sl_scr, RL.mul_t, RL.str_int, List.zip_nil_left, List.zip_cons_cons])
    refine ⟨by rw [List.length_map]; omega, by rw [List.length_map]; omega, _, rfl, ?_⟩
    refine forL_rule (fun i env ph => ∃ (m : Int) (a : Option PV), (0 ≤ m ∧ m < 2147483647) ∧ env = [some (.scr ns), a, some (.lst (ds.map .int)), some (.int m)] ∧ ph = []) ?_ ?_ ⟨_, none, ⟨?_, ?_⟩, rfl, rfl⟩
    · rintro i v env ph hv ⟨m, a, hm, rfl, rfl⟩
      rw [List.getElem?_map, Option.map_eq_some_iff] at hv
      obtain ⟨z, _, rfl⟩ := hv
      refine ⟨rfl, fun N hN => ⟨by simp, ?_⟩⟩
      (try simp only [bindT, bindTs, wpB, wpS, wpE, wpEs, wpO, wpC, wpIs, wpMs, ex_some, ex_some1, ex_bl, ex_int, ex_tup, List.getElem?_cons_zero, List.getElem?_cons_succ, List.set_cons_zero, List.set_cons_succ, List.length_cons, List.length_nil, Atom.pv, add_i, sub_i, mul_i, mod_i, fdiv_i, pow_i, lt_i, le_i, gt_i, ge_i, eq_, ne_, in_e, nin_e, is_n, isnot_n, idx_tup, idx_lst, eqP_int, eqP_str, atI_0, atI_1, atI_2, ixN_0, ixN_1, ixN_2, decide_eq_true_eq, Bool.not_true, Bool.not_false, if_true, Bool.false_eq_true, if_false, setSl, len_lst, len_tup, int_i, int_bl, abs_i, min_i, max_i, tup_t, tup_l, newL_F, newL_T, List.map_cons, List.map_nil, List.append_nil, List.nil_append, List.cons_append, Nat.reduceAdd, Nat.reduceSub, List.replicate_succ, List.replicate_zero, retF, retXF, RL.add_ll, RL.add_t, RL.sl_tup, RL.sl_lst, RL.sl_scr, RL.mul_t, RL.str_int, List.zip_nil_left, List.zip_cons_cons])
      exact ⟨mulOk_small (by omega) (by omega) (by omega) (by omega), by decide, by decide, by decide, hN _ _ ⟨_, _, fmod_pos (by omega), rfl, rfl⟩⟩
    · rintro env ph ⟨m, a, hm, rfl, rfl⟩
      refine ⟨rfl, ?_⟩
      (try simp only [bindT, bindTs, wpB, wpS, wpE, wpEs, wpO, wpC, wpIs, wpMs, ex_some, ex_some1, ex_bl, ex_int, ex_tup, List.getElem?_cons_zero, List.getElem?_cons_succ, List.set_cons_zero, List.set_cons_succ, List.length_cons, List.length_nil, Atom.pv, add_i, sub_i, mul_i, mod_i, fdiv_i, pow_i, lt_i, le_i, gt_i, ge_i, eq_, ne_, in_e, nin_e, is_n, isnot_n, idx_tup, idx_lst, eqP_int, eqP_str, atI_0, atI_1, atI_2, ixN_0, ixN_1, ixN_2, decide_eq_true_eq, Bool.not_true, Bool.not_false, if_true, Bool.false_eq_true, if_false, setSl, len_lst, len_tup, int_i, int_bl, abs_i, min_i, max_i, tup_t, tup_l, newL_F, newL_T, List.map_cons, List.map_nil, List.append_nil, List.nil_append, List.cons_append, Nat.reduceAdd, Nat.reduceSub, List.replicate_succ, List.replicate_zero, retF, retXF, RL.add_ll, RL.add_t, RL.sl_tup, RL.sl_lst, RL.sl_scr, RL.mul_t, RL.str_int, List.zip_nil_left, List.zip_cons_cons])
      refine ⟨_, rfl, ?_⟩
      refine comp_enc PV.int (fun z => decide ((10 : Int) ^ (9 : Int).toNat ≤ z)) PV.int rfl (by omega) (fun z hz K R h1 h2 => ?_) ?_
      · refine ⟨by simp [wipeE], ?_⟩
        simp only [wipeE, bindT, bindTs, wpB, wpS, wpE, wpEs, wpO, wpC, wpIs, wpMs, ex_some, ex_some1, ex_bl, ex_int, ex_tup, List.getElem?_cons_zero, List.getElem?_cons_succ, List.set_cons_zero, List.set_cons_succ, List.length_cons, List.length_nil, Atom.pv, add_i, sub_i, mul_i, mod_i, fdiv_i, pow_i, lt_i, le_i, gt_i, ge_i, eq_, ne_, in_e, nin_e, is_n, isnot_n, idx_tup, idx_lst, eqP_int, eqP_str, atI_0, atI_1, atI_2, ixN_0, ixN_1, ixN_2, decide_eq_true_eq, Bool.not_true, Bool.not_false, if_true, Bool.false_eq_true, if_false, setSl, len_lst, len_tup, int_i, int_bl, abs_i, min_i, max_i, tup_t, tup_l, newL_F, newL_T, List.map_cons, List.map_nil, List.append_nil, List.nil_append, List.cons_append, Nat.reduceAdd, Nat.reduceSub, List.replicate_succ, List.replicate_zero, retF, retXF, RL.add_ll, RL.add_t, RL.sl_tup, RL.sl_lst, RL.sl_scr, RL.mul_t, RL.str_int, List.zip_nil_left, List.zip_cons_cons]
        refine ⟨by decide, ?_⟩
        by_cases c : (10 : Int) ^ (9 : Int).toNat ≤ z
        · rw [if_pos c]; exact h1 (decide_eq_true c)
        · rw [if_neg c]; exact h2 (decide_eq_false c)
      · obtain ⟨es, hes⟩ : ∃ es, es = ds.filter fun z => decide ((10 : Int) ^ (9 : Int).toNat ≤ z) := ⟨_, rfl⟩
        have hel : es.length ≤ 63 := by rw [hes]; exact Nat.le_trans (List.length_filter_le _ _) hdl
        rw [← hes]
        (try simp only [bindT, bindTs, wpB, wpS, wpE, wpEs, wpO, wpC, wpIs, wpMs, ex_some, ex_some1, ex_bl, ex_int, ex_tup, List.getElem?_cons_zero, List.getElem?_cons_succ, List.set_cons_zero, List.set_cons_succ, List.length_cons, List.length_nil, Atom.pv, add_i, sub_i, mul_i, mod_i, fdiv_i, pow_i, lt_i, le_i, gt_i, ge_i, eq_, ne_, in_e, nin_e, is_n, isnot_n, idx_tup, idx_lst, eqP_int, eqP_str, atI_0, atI_1, atI_2, ixN_0, ixN_1, ixN_2, decide_eq_true_eq, Bool.not_true, Bool.not_false, if_true, Bool.false_eq_true, if_false, setSl, len_lst, len_tup, int_i, int_bl, abs_i, min_i, max_i, tup_t, tup_l, newL_F, newL_T, List.map_cons, List.map_nil, List.append_nil, List.nil_append, List.cons_append, Nat.reduceAdd, Nat.reduceSub, List.replicate_succ, List.replicate_zero, retF, retXF, RL.add_ll, RL.add_t, RL.sl_tup, RL.sl_lst, RL.sl_scr, RL.mul_t, RL.str_int, List.zip_nil_left, List.zip_cons_cons])
        refine ⟨by rw [List.length_map]; omega, es.map .int, rfl, newL_t (by rw [List.length_reverse, List.length_map]; omega) ?_⟩
        (try simp only [bindT, bindTs, wpB, wpS, wpE, wpEs, wpO, wpC, wpIs, wpMs, ex_some, ex_some1, ex_bl, ex_int, ex_tup, List.getElem?_cons_zero, List.getElem?_cons_succ, List.set_cons_zero, List.set_cons_succ, List.length_cons, List.length_nil, Atom.pv, add_i, sub_i, mul_i, mod_i, fdiv_i, pow_i, lt_i, le_i, gt_i, ge_i, eq_, ne_, in_e, nin_e, is_n, isnot_n, idx_tup, idx_lst, eqP_int, eqP_str, atI_0, atI_1, atI_2, ixN_0, ixN_1, ixN_2, decide_eq_true_eq, Bool.not_true, Bool.not_false, if_true, Bool.false_eq_true, if_false, setSl, len_lst, len_tup, int_i, int_bl, abs_i, min_i, max_i, tup_t, tup_l, newL_F, newL_T, List.map_cons, List.map_nil, List.append_nil, List.nil_append, List.cons_append, Nat.reduceAdd, Nat.reduceSub, List.replicate_succ, List.replicate_zero, retF, retXF, RL.add_ll, RL.add_t, RL.sl_tup, RL.sl_lst, RL.sl_scr, RL.mul_t, RL.str_int, List.zip_nil_left, List.zip_cons_cons])
        refine ⟨by omega, ?_⟩
        have := q (D es.reverse m) ⟨es.reverse, m, ⟨by rw [List.length_reverse]; exact hel, hm⟩, rfl⟩
        simpa [D] using this
    · omega
    · rw [List.length_map]; omega
theorem pair_ok (i : is_law_pair pg f) {k : Nat} {a b : Nat} {ph : PHp} {Q : QV} {X : QX} (q : Q (roadPV (min a b, max a b)) ph) : callK pg (k + 1) f [.int a, .int b] ph Q X := by
  refine i.call rfl ?_
  have hsz := sz
  simp only [b_law_pair, bindT, bindTs, wpB, wpS, wpE, wpEs, wpO, wpC, wpIs, wpMs, ex_some, ex_some1, ex_bl, ex_int, ex_tup, List.getElem?_cons_zero, List.getElem?_cons_succ, List.set_cons_zero, List.set_cons_succ, List.length_cons, List.length_nil, Atom.pv, add_i, sub_i, mul_i, mod_i, fdiv_i, pow_i, lt_i, le_i, gt_i, ge_i, eq_, ne_, in_e, nin_e, is_n, isnot_n, idx_tup, idx_lst, eqP_int, eqP_str, atI_0, atI_1, atI_2, ixN_0, ixN_1, ixN_2, decide_eq_true_eq, Bool.not_true, Bool.not_false, if_true, Bool.false_eq_true, if_false, setSl, len_lst, len_tup, int_i, int_bl, abs_i, min_i, max_i, tup_t, tup_l, newL_F, newL_T, List.map_cons, List.map_nil, List.append_nil, List.nil_append, List.cons_append, Nat.reduceAdd, Nat.reduceSub, List.replicate_succ, List.replicate_zero, retF, retXF, RL.add_ll, RL.add_t, RL.sl_tup, RL.sl_lst, RL.sl_scr, RL.mul_t, RL.str_int, List.zip_nil_left, List.zip_cons_cons]
  by_cases h : (a : Int) < b
  · rw [if_pos h]
    rw [show min a b = a by omega, show max a b = b by omega] at q
    exact ⟨by omega, q⟩
  · rw [if_neg h]
    rw [show min a b = b by omega, show max a b = a by omega] at q
    exact ⟨by omega, q⟩
theorem town_ok {mi dr pa pk : Nat} (i : is_law_town pg f dr mi pa pk) (i1 : is_law_mixed pg mi dr) (i2 : is_law_pair pg pa) (i3 : is_law_pick pg pk dr) (dw : Draws deckA pg dr) {k : Nat} {most more : Nat} {h ex : PHp} {Q : QV} {X : QX} (g : deckA.Gd 0 h) (h1 : 1 ≤ most) (h2 : most ≤ 14) (h4 : more ≤ 100)
    (q : ∀ (n : Nat) (rs : List Rd2) h', deckA.Gd 0 h' → 1 ≤ n → n ≤ most → rs.length ≤ 14 → In2 n rs → (∀ r ∈ rs, r.1 ≠ r.2) → Q (townPV n rs) (h' ++ ex)) : callK pg (k + 4) f [.ref 1, .int most, .int more] (h ++ ex) Q X := by
  refine i.call rfl ?_
  have hsz := sz
  have two : 2 ≤ sizeLine := by omega
  simp only [b_law_town, bindT, bindTs, wpB, wpS, wpE, wpEs, wpO, wpC, wpIs, wpMs, ex_some, ex_some1, ex_bl, ex_int, ex_tup, List.getElem?_cons_zero, List.getElem?_cons_succ, List.set_cons_zero, List.set_cons_succ, List.length_cons, List.length_nil, Atom.pv, add_i, sub_i, mul_i, mod_i, fdiv_i, pow_i, lt_i, le_i, gt_i, ge_i, eq_, ne_, in_e, nin_e, is_n, isnot_n, idx_tup, idx_lst, eqP_int, eqP_str, atI_0, atI_1, atI_2, ixN_0, ixN_1, ixN_2, decide_eq_true_eq, Bool.not_true, Bool.not_false, if_true, Bool.false_eq_true, if_false, setSl, len_lst, len_tup, int_i, int_bl, abs_i, min_i, max_i, tup_t, tup_l, newL_F, newL_T, List.map_cons, List.map_nil, List.append_nil, List.nil_append, List.cons_append, Nat.reduceAdd, Nat.reduceSub, List.replicate_succ, List.replicate_zero, retF, retXF, RL.add_ll, RL.add_t, RL.sl_tup, RL.sl_lst, RL.sl_scr, RL.mul_t, RL.str_int, List.zip_nil_left, List.zip_cons_cons]
  refine dw g (by omega) (by omega) (by omega) fun r h1' g1 r0 r1 => ?_
  obtain ⟨n, hn⟩ : ∃ n : Nat, (n : Int) = 1 + r := ⟨(1 + r).toNat, by omega⟩
  (try simp only [bindT, bindTs, wpB, wpS, wpE, wpEs, wpO, wpC, wpIs, wpMs, ex_some, ex_some1, ex_bl, ex_int, ex_tup, List.getElem?_cons_zero, List.getElem?_cons_succ, List.set_cons_zero, List.set_cons_succ, List.length_cons, List.length_nil, Atom.pv, add_i, sub_i, mul_i, mod_i, fdiv_i, pow_i, lt_i, le_i, gt_i, ge_i, eq_, ne_, in_e, nin_e, is_n, isnot_n, idx_tup, idx_lst, eqP_int, eqP_str, atI_0, atI_1, atI_2, ixN_0, ixN_1, ixN_2, decide_eq_true_eq, Bool.not_true, Bool.not_false, if_true, Bool.false_eq_true, if_false, setSl, len_lst, len_tup, int_i, int_bl, abs_i, min_i, max_i, tup_t, tup_l, newL_F, newL_T, List.map_cons, List.map_nil, List.append_nil, List.nil_append, List.cons_append, Nat.reduceAdd, Nat.reduceSub, List.replicate_succ, List.replicate_zero, retF, retXF, RL.add_ll, RL.add_t, RL.sl_tup, RL.sl_lst, RL.sl_scr, RL.mul_t, RL.str_int, List.zip_nil_left, List.zip_cons_cons])
  rw [← hn]
  refine ⟨by decide, _, rng12_1 (rOk_small (by omega) (by omega) (by omega) (by omega)), by rw [rng0_len]; omega, by rw [rng0_len]; omega, ?_⟩
  rw [rng0_nats]
  refine mix_ok i1 dw RwN (vs := List.range n) (v := .lst (natsPV (List.range n))) g1 (by rw [List.length_range]; omega) rfl (by rw [List.length_range]; omega) fun ns h2' g2 hperm => ?_
  obtain ⟨nl, nd, nm⟩ := perm_range hperm
  have eN : List.map RwN.f ns = natsPV ns := rfl
  rw [eN]
  have g2' : deckA.Gd 0 h2' := g2
  refine ⟨by simp, _, it_r2 (rOk_nat (m := 1) (by omega) (by omega)), ?_⟩
  refine compL_rule (fun i acc ph => ∃ (hp : PHp) (fs : List Rd2), deckA.Gd 0 hp ∧ ph = hp ++ ex ∧ acc = fs.map roadPV ∧ fs.length = i ∧ ∀ x ∈ fs, (x.1 < n ∧ x.2 < n) ∧ x.1 ≠ x.2) ?_ ?_ ⟨h2', [], g2', rfl, rfl, rfl, fun r hr => by cases hr⟩
  · rintro i v acc ph hv ⟨hp, fs, g3, rfl, rfl, fl, hin⟩
    obtain ⟨rfl, hi⟩ := rng1n_get hv
    refine ⟨it_r2 (rOk_nat (m := 1) (by omega) (by omega)), fun M hM => ⟨by simp [wipeE], ?_⟩⟩
    simp only [wipeE, bindT, bindTs, wpB, wpS, wpE, wpEs, wpO, wpC, wpIs, wpMs, ex_some, ex_some1, ex_bl, ex_int, ex_tup, List.getElem?_cons_zero, List.getElem?_cons_succ, List.set_cons_zero, List.set_cons_succ, List.length_cons, List.length_nil, Atom.pv, add_i, sub_i, mul_i, mod_i, fdiv_i, pow_i, lt_i, le_i, gt_i, ge_i, eq_, ne_, in_e, nin_e, is_n, isnot_n, idx_tup, idx_lst, eqP_int, eqP_str, atI_0, atI_1, atI_2, ixN_0, ixN_1, ixN_2, decide_eq_true_eq, Bool.not_true, Bool.not_false, if_true, Bool.false_eq_true, if_false, setSl, len_lst, len_tup, int_i, int_bl, abs_i, min_i, max_i, tup_t, tup_l, newL_F, newL_T, List.map_cons, List.map_nil, List.append_nil, List.nil_append, List.cons_append, Nat.reduceAdd, Nat.reduceSub, List.replicate_succ, List.replicate_zero, retF, retXF, RL.add_ll, RL.add_t, RL.sl_tup, RL.sl_lst, RL.sl_scr, RL.mul_t, RL.str_int, List.zip_nil_left, List.zip_cons_cons]
    have hb : ∀ j (hj : j < ns.length), ns[j] < n := fun j hj => (nm _).mp (List.getElem_mem hj)
    refine ⟨_, atI_nats (by omega), ?_⟩
    refine dw g3 (by omega) (by omega) (by omega) fun r hp2 g4 r0 r1 => ?_
    obtain ⟨r, rfl⟩ : ∃ a : Nat, (a : Int) = r := ⟨r.toNat, by omega⟩
    (try simp only [bindT, bindTs, wpB, wpS, wpE, wpEs, wpO, wpC, wpIs, wpMs, ex_some, ex_some1, ex_bl, ex_int, ex_tup, List.getElem?_cons_zero, List.getElem?_cons_succ, List.set_cons_zero, List.set_cons_succ, List.length_cons, List.length_nil, Atom.pv, add_i, sub_i, mul_i, mod_i, fdiv_i, pow_i, lt_i, le_i, gt_i, ge_i, eq_, ne_, in_e, nin_e, is_n, isnot_n, idx_tup, idx_lst, eqP_int, eqP_str, atI_0, atI_1, atI_2, ixN_0, ixN_1, ixN_2, decide_eq_true_eq, Bool.not_true, Bool.not_false, if_true, Bool.false_eq_true, if_false, setSl, len_lst, len_tup, int_i, int_bl, abs_i, min_i, max_i, tup_t, tup_l, newL_F, newL_T, List.map_cons, List.map_nil, List.append_nil, List.nil_append, List.cons_append, Nat.reduceAdd, Nat.reduceSub, List.replicate_succ, List.replicate_zero, retF, retXF, RL.add_ll, RL.add_t, RL.sl_tup, RL.sl_lst, RL.sl_scr, RL.mul_t, RL.str_int, List.zip_nil_left, List.zip_cons_cons])
    refine ⟨_, atI_nats (by omega), ?_⟩
    refine pair_ok i2 ?_
    have b1 := hb (1 + i) (by omega)
    have b2 := hb r (by omega)
    refine ⟨by rw [List.length_map]; omega, hM _ _ ⟨hp2, fs ++ [_], g4, rfl, by rw [List.map_append]; rfl, by simp [fl], fun x hx => ?_⟩⟩
    rcases List.mem_append.mp hx with hx | hx
    · exact hin x hx
    · rw [List.mem_singleton.mp hx]
      have bne : ns[1 + i]'(by omega) ≠ ns[r]'(by omega) := fun e => by
        exact List.pairwise_iff_getElem.mp nd r (1 + i) (by omega) (by omega) (by omega) e.symm
      show (min _ _ < n ∧ max _ _ < n) ∧ min _ _ ≠ max _ _
      omega
  · rintro acc ph ⟨hp, fs, g3, rfl, rfl, fl, hin⟩
    rw [rng1n_len] at fl
    refine ⟨it_r2 (rOk_nat (m := 1) (by omega) (by omega)), ?_⟩
    (try simp only [bindT, bindTs, wpB, wpS, wpE, wpEs, wpO, wpC, wpIs, wpMs, ex_some, ex_some1, ex_bl, ex_int, ex_tup, List.getElem?_cons_zero, List.getElem?_cons_succ, List.set_cons_zero, List.set_cons_succ, List.length_cons, List.length_nil, Atom.pv, add_i, sub_i, mul_i, mod_i, fdiv_i, pow_i, lt_i, le_i, gt_i, ge_i, eq_, ne_, in_e, nin_e, is_n, isnot_n, idx_tup, idx_lst, eqP_int, eqP_str, atI_0, atI_1, atI_2, ixN_0, ixN_1, ixN_2, decide_eq_true_eq, Bool.not_true, Bool.not_false, if_true, Bool.false_eq_true, if_false, setSl, len_lst, len_tup, int_i, int_bl, abs_i, min_i, max_i, tup_t, tup_l, newL_F, newL_T, List.map_cons, List.map_nil, List.append_nil, List.nil_append, List.cons_append, Nat.reduceAdd, Nat.reduceSub, List.replicate_succ, List.replicate_zero, retF, retXF, RL.add_ll, RL.add_t, RL.sl_tup, RL.sl_lst, RL.sl_scr, RL.mul_t, RL.str_int, List.zip_nil_left, List.zip_cons_cons])
    refine ⟨by rw [List.length_map]; omega, by simp, ?_⟩
    rw [List.append_assoc, dl0 g3]
    refine dw g3 (by omega) (by omega) (by omega) fun c hp3 g4 c0 c1 => ?_
    obtain ⟨c, rfl⟩ : ∃ a : Nat, (a : Int) = c := ⟨c.toNat, by omega⟩
    refine ⟨_, it_n (by omega), ?_⟩
    refine forL_rule (fun i env ph => ∃ (a1 a2 a3 : Option PV) (hp : PHp) (fs : List Rd2), env = [some (.ref 1), some (.int most), some (.int more), some (.int n), some (.lst (natsPV ns)), some (.ref (deckA.N + ex.length)), a1, none, a2, a3] ∧ deckA.Gd 0 hp ∧ ph = hp ++ (ex ++ [.lst (fs.map roadPV)]) ∧ (fs.length ≤ 14 ∧ n ≤ fs.length + 1) ∧ ∀ x ∈ fs, (x.1 < n ∧ x.2 < n) ∧ x.1 ≠ x.2) ?_ ?_ ⟨none, none, none, hp3, fs, rfl, g4, rfl, by omega, hin⟩
    · rintro i v env ph hv ⟨a1, a2, a3, hp, fs, rfl, g5, rfl, fl, hin⟩
      obtain ⟨rfl, hi⟩ := rng0_get hv
      refine ⟨it_n (by omega), fun M hM => ⟨by simp, ?_⟩⟩
      (try simp only [bindT, bindTs, wpB, wpS, wpE, wpEs, wpO, wpC, wpIs, wpMs, ex_some, ex_some1, ex_bl, ex_int, ex_tup, List.getElem?_cons_zero, List.getElem?_cons_succ, List.set_cons_zero, List.set_cons_succ, List.length_cons, List.length_nil, Atom.pv, add_i, sub_i, mul_i, mod_i, fdiv_i, pow_i, lt_i, le_i, gt_i, ge_i, eq_, ne_, in_e, nin_e, is_n, isnot_n, idx_tup, idx_lst, eqP_int, eqP_str, atI_0, atI_1, atI_2, ixN_0, ixN_1, ixN_2, decide_eq_true_eq, Bool.not_true, Bool.not_false, if_true, Bool.false_eq_true, if_false, setSl, len_lst, len_tup, int_i, int_bl, abs_i, min_i, max_i, tup_t, tup_l, newL_F, newL_T, List.map_cons, List.map_nil, List.append_nil, List.nil_append, List.cons_append, Nat.reduceAdd, Nat.reduceSub, List.replicate_succ, List.replicate_zero, retF, retXF, RL.add_ll, RL.add_t, RL.sl_tup, RL.sl_lst, RL.sl_scr, RL.mul_t, RL.str_int, List.zip_nil_left, List.zip_cons_cons])
      refine dw g5 (by omega) (by omega) (by omega) fun a hp6 g6 a0 a1 => ?_
      obtain ⟨a, rfl⟩ : ∃ a' : Nat, (a' : Int) = a := ⟨a.toNat, by omega⟩
      refine dw g6 (by omega) (by omega) (by omega) fun b hp7 g7 b0 b1 => ?_
      obtain ⟨b, rfl⟩ : ∃ a' : Nat, (a' : Int) = b := ⟨b.toNat, by omega⟩
      have g7' : deckA.Gd 0 hp7 := g7
      (try simp only [bindT, bindTs, wpB, wpS, wpE, wpEs, wpO, wpC, wpIs, wpMs, ex_some, ex_some1, ex_bl, ex_int, ex_tup, List.getElem?_cons_zero, List.getElem?_cons_succ, List.set_cons_zero, List.set_cons_succ, List.length_cons, List.length_nil, Atom.pv, add_i, sub_i, mul_i, mod_i, fdiv_i, pow_i, lt_i, le_i, gt_i, ge_i, eq_, ne_, in_e, nin_e, is_n, isnot_n, idx_tup, idx_lst, eqP_int, eqP_str, atI_0, atI_1, atI_2, ixN_0, ixN_1, ixN_2, decide_eq_true_eq, Bool.not_true, Bool.not_false, if_true, Bool.false_eq_true, if_false, setSl, len_lst, len_tup, int_i, int_bl, abs_i, min_i, max_i, tup_t, tup_l, newL_F, newL_T, List.map_cons, List.map_nil, List.append_nil, List.nil_append, List.cons_append, Nat.reduceAdd, Nat.reduceSub, List.replicate_succ, List.replicate_zero, retF, retXF, RL.add_ll, RL.add_t, RL.sl_tup, RL.sl_lst, RL.sl_scr, RL.mul_t, RL.str_int, List.zip_nil_left, List.zip_cons_cons])
      have fin : ∀ (hp8 : PHp) (r : Rd2), deckA.Gd 0 hp8 → (r.1 < n ∧ r.2 < n) ∧ r.1 ≠ r.2 → fs.length < 14 → ∀ (a1 a2 a3 : Option PV), M [some (.ref 1), some (.int most), some (.int more), some (.int n), some (.lst (natsPV ns)), some (.ref (deckA.N + ex.length)), a1, none, a2, a3] (hp8 ++ (ex ++ [.lst (fs.map roadPV ++ [roadPV r])])) := fun hp8 r g8 hr hl a1 a2 a3 => hM _ _ ⟨a1, a2, a3, hp8, fs ++ [r], rfl, g8, by rw [List.map_append]; rfl, by simp; omega, fun x hx => by
        rcases List.mem_append.mp hx with hx | hx
        · exact hin x hx
        · rw [List.mem_singleton.mp hx]; exact hr⟩
      have skip : ∀ (a1 a2 a3 : Option PV), M [some (.ref 1), some (.int most), some (.int more), some (.int n), some (.lst (natsPV ns)), some (.ref (deckA.N + ex.length)), a1, none, a2, a3] (hp7 ++ (ex ++ [.lst (fs.map roadPV)])) := fun a1 a2 a3 => hM _ _ ⟨a1, a2, a3, hp7, fs, rfl, g7', rfl, fl, hin⟩
      by_cases hab : (a : Int) = b
      · rw [decide_eq_true hab]
        (try simp only [bindT, bindTs, wpB, wpS, wpE, wpEs, wpO, wpC, wpIs, wpMs, ex_some, ex_some1, ex_bl, ex_int, ex_tup, List.getElem?_cons_zero, List.getElem?_cons_succ, List.set_cons_zero, List.set_cons_succ, List.length_cons, List.length_nil, Atom.pv, add_i, sub_i, mul_i, mod_i, fdiv_i, pow_i, lt_i, le_i, gt_i, ge_i, eq_, ne_, in_e, nin_e, is_n, isnot_n, idx_tup, idx_lst, eqP_int, eqP_str, atI_0, atI_1, atI_2, ixN_0, ixN_1, ixN_2, decide_eq_true_eq, Bool.not_true, Bool.not_false, if_true, Bool.false_eq_true, if_false, setSl, len_lst, len_tup, int_i, int_bl, abs_i, min_i, max_i, tup_t, tup_l, newL_F, newL_T, List.map_cons, List.map_nil, List.append_nil, List.nil_append, List.cons_append, Nat.reduceAdd, Nat.reduceSub, List.replicate_succ, List.replicate_zero, retF, retXF, RL.add_ll, RL.add_t, RL.sl_tup, RL.sl_lst, RL.sl_scr, RL.mul_t, RL.str_int, List.zip_nil_left, List.zip_cons_cons])
        exact skip _ _ _
      · rw [decide_eq_false hab]
        (try simp only [bindT, bindTs, wpB, wpS, wpE, wpEs, wpO, wpC, wpIs, wpMs, ex_some, ex_some1, ex_bl, ex_int, ex_tup, List.getElem?_cons_zero, List.getElem?_cons_succ, List.set_cons_zero, List.set_cons_succ, List.length_cons, List.length_nil, Atom.pv, add_i, sub_i, mul_i, mod_i, fdiv_i, pow_i, lt_i, le_i, gt_i, ge_i, eq_, ne_, in_e, nin_e, is_n, isnot_n, idx_tup, idx_lst, eqP_int, eqP_str, atI_0, atI_1, atI_2, ixN_0, ixN_1, ixN_2, decide_eq_true_eq, Bool.not_true, Bool.not_false, if_true, Bool.false_eq_true, if_false, setSl, len_lst, len_tup, int_i, int_bl, abs_i, min_i, max_i, tup_t, tup_l, newL_F, newL_T, List.map_cons, List.map_nil, List.append_nil, List.nil_append, List.cons_append, Nat.reduceAdd, Nat.reduceSub, List.replicate_succ, List.replicate_zero, retF, retXF, RL.add_ll, RL.add_t, RL.sl_tup, RL.sl_lst, RL.sl_scr, RL.mul_t, RL.str_int, List.zip_nil_left, List.zip_cons_cons])
        rw [len_ref (dg0 g7'), List.length_map]
        (try simp only [bindT, bindTs, wpB, wpS, wpE, wpEs, wpO, wpC, wpIs, wpMs, ex_some, ex_some1, ex_bl, ex_int, ex_tup, List.getElem?_cons_zero, List.getElem?_cons_succ, List.set_cons_zero, List.set_cons_succ, List.length_cons, List.length_nil, Atom.pv, add_i, sub_i, mul_i, mod_i, fdiv_i, pow_i, lt_i, le_i, gt_i, ge_i, eq_, ne_, in_e, nin_e, is_n, isnot_n, idx_tup, idx_lst, eqP_int, eqP_str, atI_0, atI_1, atI_2, ixN_0, ixN_1, ixN_2, decide_eq_true_eq, Bool.not_true, Bool.not_false, if_true, Bool.false_eq_true, if_false, setSl, len_lst, len_tup, int_i, int_bl, abs_i, min_i, max_i, tup_t, tup_l, newL_F, newL_T, List.map_cons, List.map_nil, List.append_nil, List.nil_append, List.cons_append, Nat.reduceAdd, Nat.reduceSub, List.replicate_succ, List.replicate_zero, retF, retXF, RL.add_ll, RL.add_t, RL.sl_tup, RL.sl_lst, RL.sl_scr, RL.mul_t, RL.str_int, List.zip_nil_left, List.zip_cons_cons])
        by_cases hfl : (fs.length : Int) < 14
        · rw [if_pos hfl]
          refine ⟨by simp only [lstOf, dg0 g7']; rfl, dw g7' (by omega) (by omega) (by omega) fun c hp8 g8 c0 c1 => ?_⟩
          have g8' : deckA.Gd 0 hp8 := g8
          rw [eqP_int]
          split
          · refine pickR_ok i3 dw (ex := ex ++ [.lst (fs.map roadPV)]) (n := ex.length) (vs := fs.map roadPV) g8' (by omega) (by simp) (by rw [List.length_map]; omega) (by rw [List.length_map]; omega) fun v hp9 g9 hv => ?_
            obtain ⟨x, hx, rfl⟩ := List.mem_map.mp hv
            have g9' : deckA.Gd 0 hp9 := g9
            refine ⟨_, dg0 g9', by rw [List.length_map]; omega, ?_⟩
            rw [ds0 g9']
            exact fin _ x g9' (hin x hx) (by omega) _ _ _
          · refine pair_ok i2 ⟨_, dg0 g8', by rw [List.length_map]; omega, ?_⟩
            rw [ds0 g8']
            refine fin _ (min a b, max a b) g8' ?_ (by omega) _ _ _
            show (min a b < n ∧ max a b < n) ∧ min a b ≠ max a b
            omega
        · rw [if_neg hfl]
          exact skip _ _ _
    · rintro env ph ⟨a1, a2, a3, hp, fs, rfl, g5, rfl, fl, hin⟩
      refine ⟨it_n (by omega), ?_⟩
      (try simp only [bindT, bindTs, wpB, wpS, wpE, wpEs, wpO, wpC, wpIs, wpMs, ex_some, ex_some1, ex_bl, ex_int, ex_tup, List.getElem?_cons_zero, List.getElem?_cons_succ, List.set_cons_zero, List.set_cons_succ, List.length_cons, List.length_nil, Atom.pv, add_i, sub_i, mul_i, mod_i, fdiv_i, pow_i, lt_i, le_i, gt_i, ge_i, eq_, ne_, in_e, nin_e, is_n, isnot_n, idx_tup, idx_lst, eqP_int, eqP_str, atI_0, atI_1, atI_2, ixN_0, ixN_1, ixN_2, decide_eq_true_eq, Bool.not_true, Bool.not_false, if_true, Bool.false_eq_true, if_false, setSl, len_lst, len_tup, int_i, int_bl, abs_i, min_i, max_i, tup_t, tup_l, newL_F, newL_T, List.map_cons, List.map_nil, List.append_nil, List.nil_append, List.cons_append, Nat.reduceAdd, Nat.reduceSub, List.replicate_succ, List.replicate_zero, retF, retXF, RL.add_ll, RL.add_t, RL.sl_tup, RL.sl_lst, RL.sl_scr, RL.mul_t, RL.str_int, List.zip_nil_left, List.zip_cons_cons])
      refine sorted_roads (rs := fs) (by simp only [lstOf, dg0 g5]) ?_
      (try simp only [bindT, bindTs, wpB, wpS, wpE, wpEs, wpO, wpC, wpIs, wpMs, ex_some, ex_some1, ex_bl, ex_int, ex_tup, List.getElem?_cons_zero, List.getElem?_cons_succ, List.set_cons_zero, List.set_cons_succ, List.length_cons, List.length_nil, Atom.pv, add_i, sub_i, mul_i, mod_i, fdiv_i, pow_i, lt_i, le_i, gt_i, ge_i, eq_, ne_, in_e, nin_e, is_n, isnot_n, idx_tup, idx_lst, eqP_int, eqP_str, atI_0, atI_1, atI_2, ixN_0, ixN_1, ixN_2, decide_eq_true_eq, Bool.not_true, Bool.not_false, if_true, Bool.false_eq_true, if_false, setSl, len_lst, len_tup, int_i, int_bl, abs_i, min_i, max_i, tup_t, tup_l, newL_F, newL_T, List.map_cons, List.map_nil, List.append_nil, List.nil_append, List.cons_append, Nat.reduceAdd, Nat.reduceSub, List.replicate_succ, List.replicate_zero, retF, retXF, RL.add_ll, RL.add_t, RL.sl_tup, RL.sl_lst, RL.sl_scr, RL.mul_t, RL.str_int, List.zip_nil_left, List.zip_cons_cons])
      exact ⟨by rw [List.length_map, len_sortR]; omega, two, ret_deckO g g5 (old_town _) (q n (sortR fs) hp g5 (by omega) (by omega) (by rw [len_sortR]; exact fl.1) (fun x hx => (hin x (mem_sortR.mp hx)).1) fun x hx => (hin x (mem_sortR.mp hx)).2)⟩
end
end FA
end RL

namespace RLT
open PySem L2 RL
/-- _law_degrees(town); slots 0:town 1:found 2:one 3:other -/
def b_law_degrees : List S := [.set 1 (.op2 .mul true (.lst false [.con (.int 0)]) (.idx (.var 0) (.con (.int 0)))), .for_ (.tup [(.name 2), (.name 3)]) .seq [.idx (.var 0) (.con (.int 1))] [.seti (.var 1) (.var 2) (.op2 .add true (.idx (.var 1) (.var 2)) (.con (.int 1))), .seti (.var 1) (.var 3) (.op2 .add true (.idx (.var 1) (.var 3)) (.con (.int 1)))], .ret (.var 1)]
def is_law_degrees (pg : Pg) (f : Nat) : Prop := Is pg f 1 4 true (b_law_degrees)
/-- _law_fire(town, root, purse, tree); slots 0:town 1:root 2:purse 3:tree 4:step 5:burning 6:gone 7:taken 8:counts 9:coins 10:open_ones 11:k 12:house 13:one 14:other -/
def b_law_fire : List S := [.setT (.tup [(.name 5), (.name 6), (.name 7), (.name 8), (.name 9)]) (.tup [.lst true [.var 1], .lst true [], .lst true [], .op2 .mul true (.lst false [.con (.int 0)]) (.idx (.var 0) (.con (.int 0))), .op2 .mul true (.lst false [.con (.int 0)]) (.idx (.var 0) (.con (.int 0)))]), .for_ (.name 4) .range [.bi .len false [.idx (.var 0) (.con (.int 1))]] [.set 10 (.lst true []), .for_ (.tup [(.name 11), (.tup [(.name 13), (.name 14)])]) .enum [.idx (.var 0) (.con (.int 1))] [.ife (.andE (.op2 .notin false (.var 11) (.var 6)) (.op2 .ne false (.op2 .in_ false (.var 13) (.var 5)) (.op2 .in_ false (.var 14) (.var 5)))) [.expr (.mt .append (.var 10) [.var 11])] []], .ife (.op2 .eq false (.var 10) (.lst false [])) [.brk] [], .set 11 (.idx (.var 10) (.neg (.con (.int 1)))), .setT (.tup [(.name 13), (.name 14)]) (.idx (.idx (.var 0) (.con (.int 1))) (.var 11)), .set 12 (.ife (.op2 .in_ false (.var 13) (.var 5)) (.var 14) (.var 13)), .expr (.mt .append (.var 6) [.var 11]), .seti (.var 8) (.var 12) (.op2 .add true (.idx (.var 8) (.var 12)) (.con (.int 1))), .ife (.orE (.andE (.op2 .is false (.var 3) (.con .non)) (.op2 .gt false (.idx (.var 8) (.var 12)) (.idx (.var 2) (.var 12)))) (.andE (.op2 .isnot false (.var 3) (.con .non)) (.op2 .in_ false (.var 11) (.var 3)))) [.expr (.mt .append (.var 5) [.var 12]), .expr (.mt .append (.var 7) [.var 11]), .seti (.var 9) (.var 12) (.op2 .sub true (.idx (.var 8) (.var 12)) (.con (.int 1)))] []], .ret (.tup [.bi .tuple false [.var 6], .bi .tuple false [.bi .sorted false [.var 7]], .bi .tuple false [.var 9], .var 5])]
def is_law_fire (pg : Pg) (f : Nat) : Prop := Is pg f 4 15 true (b_law_fire)
/-- _law_any_fire(deck, town, root, purse); slots 0:deck 1:town 2:root 3:purse 4:step 5:burning 6:gone 7:counts 8:some 9:k 10:house 11:one 12:other -/
def b_law_any_fire (f_law_pick : Nat) : List S := [.par [5, 6, 7] [.lst true [.var 2], .lst true [], .op2 .mul true (.lst false [.con (.int 0)]) (.idx (.var 1) (.con (.int 0)))], .for_ (.name 4) .range [.bi .len false [.idx (.var 1) (.con (.int 1))]] [.set 8 (.lst true []), .for_ (.tup [(.name 9), (.tup [(.name 11), (.name 12)])]) .enum [.idx (.var 1) (.con (.int 1))] [.ife (.andE (.op2 .notin false (.var 9) (.var 6)) (.op2 .ne false (.op2 .in_ false (.var 11) (.var 5)) (.op2 .in_ false (.var 12) (.var 5)))) [.expr (.mt .append (.var 8) [.var 9])] []], .ife (.op2 .eq false (.var 8) (.lst false [])) [.brk] [], .set 9 (.call f_law_pick [.var 0, .var 8]), .setT (.tup [(.name 11), (.name 12)]) (.idx (.idx (.var 1) (.con (.int 1))) (.var 9)), .set 10 (.ife (.op2 .in_ false (.var 11) (.var 5)) (.var 12) (.var 11)), .expr (.mt .append (.var 6) [.var 9]), .seti (.var 7) (.var 10) (.op2 .add true (.idx (.var 7) (.var 10)) (.con (.int 1))), .ife (.op2 .gt false (.idx (.var 7) (.var 10)) (.idx (.var 3) (.var 10))) [.expr (.mt .append (.var 5) [.var 10])] []], .ret (.bi .sorted false [.var 5])]
def is_law_any_fire (pg : Pg) (f : Nat) (f_law_pick : Nat) : Prop := Is pg f 4 13 true (b_law_any_fire f_law_pick)
/-- _law_any_tree(deck, town); slots 0:deck 1:town 2:k 3:parts 4:found 5:one 6:other 7:part -/
def b_law_any_tree (f_law_mixed : Nat) : List S := [.par [3, 4] [.rng false false [.idx (.var 1) (.con (.int 0))], .lst true []], .for_ (.name 2) .seq [.call f_law_mixed [.var 0, .rng false false [.bi .len false [.idx (.var 1) (.con (.int 1))]]]] [.setT (.tup [(.name 5), (.name 6)]) (.tup [.idx (.var 3) (.idx (.idx (.idx (.var 1) (.con (.int 1))) (.var 2)) (.con (.int 0))), .idx (.var 3) (.idx (.idx (.idx (.var 1) (.con (.int 1))) (.var 2)) (.con (.int 1)))]), .ife (.op2 .ne false (.var 5) (.var 6)) [.expr (.mt .append (.var 4) [.var 2]), .set 3 (.comp false (.ife (.op2 .eq false (.var 7) (.var 6)) (.var 5) (.var 7)) (.name 7) .seq [.var 3] none [7])] []], .ret (.bi .tuple false [.bi .sorted false [.var 4]])]
def is_law_any_tree (pg : Pg) (f : Nat) (f_law_mixed : Nat) : Prop := Is pg f 2 8 true (b_law_any_tree f_law_mixed)
/-- law(script); slots 0:script 1:deck 2:step 3:town 4:degrees 5:root 6:again 7:purse 8:first 9:turn 10:due 11:told 12:never 13:tree 14:house 15:kept 16:houses 17:count -/
def b_law (f_law_deck f_law_town f_law_pick f_law_degrees f_law_next f_law_any_tree f_law_fire f_law_any_fire f_is_reduced f_burnt : Nat) : List S := [.set 1 (.call f_law_deck [.var 0]), .for_ (.name 2) .range [.con (.int 4)] [.set 3 (.call f_law_town [.var 1, .call f_law_pick [.var 1, .lst false [.con (.int 1), .con (.int 4), .con (.int 5), .con (.int 7)]], .call f_law_pick [.var 1, .lst false [.con (.int 0), .con (.int 3), .con (.int 6)]]]), .set 4 (.call f_law_degrees [.var 3]), .set 5 (.call f_law_next [.var 1, .idx (.var 3) (.con (.int 0))]), .for_ (.name 6) .range [.con (.int 3)] [.set 7 (.bi .tuple false [.comp false (.call f_law_next [.var 1, .op2 .add false (.con (.int 1)) (.bi .max false [.con (.int 1), .op2 .sub false (.var 17) (.call f_law_next [.var 1, .con (.int 2)])])]) (.name 17) .seq [.var 4] none [17]]), .ife (.op2 .eq false (.call f_law_next [.var 1, .con (.int 2)]) (.con (.int 0))) [.set 13 (.call f_law_any_tree [.var 1, .var 3]), .set 7 (.idx (.call f_law_fire [.var 3, .var 5, .con .non, .var 13]) (.con (.int 2))), .set 14 (.call f_law_next [.var 1, .idx (.var 3) (.con (.int 0))]), .set 7 (.op2 .add false (.op2 .add false (.sl false (.var 7) none (some (.var 14))) (.tup [.op2 .add false (.idx (.var 7) (.var 14)) (.call f_law_next [.var 1, .con (.int 3)])])) (.sl false (.var 7) (some (.op2 .add false (.var 14) (.con (.int 1)))) none))] [], .par [15, 16] [.bi .repr false [.lst false [.var 3, .var 5, .var 7]], .rng false false [.idx (.var 3) (.con (.int 0))]], .set 8 (.call f_law_any_fire [.var 1, .var 3, .var 5, .var 7]), .for_ (.name 9) .range [.con (.int 2)] [.ife (.op2 .ne false (.call f_law_any_fire [.var 1, .var 3, .var 5, .var 7]) (.var 8)) [.ret (.con (.bl false))] []], .ife (.op2 .ne false (.bi .sorted false [.idx (.call f_law_fire [.var 3, .var 5, .var 7, .con .non]) (.con (.int 3))]) (.var 8)) [.ret (.con (.bl false))] [], .set 10 (.op2 .eq false (.var 8) (.var 16)), .set 11 (.lst false [.call f_is_reduced [.var 3, .var 7, .var 5], .callk f_is_reduced [] [.var 3, .var 7, .var 5] [0, 1, 2]]), .ife (.op2 .ne false (.bi .repr false [.var 11]) (.bi .repr false [.lst false [.var 10, .var 10]])) [.ret (.con (.bl false))] [], .set 12 (.bi .tuple false [.comp false (.var 14) (.name 14) .seq [.var 16] (some (.op2 .notin false (.var 14) (.var 8))) [14]]), .set 11 (.lst false [.idx (.call f_burnt [.var 3, .var 7, .var 5]) (.con (.int 1)), .idx (.callk f_burnt [] [.var 3, .var 7, .var 5] [0, 1, 2]) (.con (.int 1))]), .ife (.op2 .ne false (.bi .repr false [.var 11]) (.bi .repr false [.lst false [.var 12, .var 12]])) [.ret (.con (.bl false))] [], .ife (.op2 .ne false (.bi .repr false [.lst false [.var 3, .var 5, .var 7]]) (.var 15)) [.ret (.con (.bl false))] []]], .ret (.con (.bl true))]
def is_law (pg : Pg) (f : Nat) (f_law_deck f_law_town f_law_pick f_law_degrees f_law_next f_law_any_tree f_law_fire f_law_any_fire f_is_reduced f_burnt : Nat) : Prop := Is pg f 1 18 false (b_law f_law_deck f_law_town f_law_pick f_law_degrees f_law_next f_law_any_tree f_law_fire f_law_any_fire f_is_reduced f_burnt)

/-! ### fire, road by road -/
def rd (rs : List Rd2) (k : Nat) : Rd2 := rs.getD k (0, 0)
theorem rd_get {rs : List Rd2} {k : Nat} (h : k < rs.length) : rs[k]? = some (rd rs k) := by simp [rd, h]
theorem rd_mem {rs : List Rd2} {k : Nat} (h : k < rs.length) : rd rs k ∈ rs := List.mem_of_getElem? (rd_get h)
theorem rd_map (rs : List Rd2) : rs = (List.range rs.length).map (rd rs) := by
  apply List.ext_getElem?
  intro i
  by_cases h : i < rs.length
  · rw [rd_get h]; simp [h]
  · rw [List.getElem?_eq_none (by omega), List.getElem?_eq_none (by simp; omega)]
def qB (B : Nat → Bool) (v : Nat) (r : Rd2) : Bool := (r.1 == v && B r.2) || (r.2 == v && B r.1)
def inc (v : Nat) (r : Rd2) : Bool := r.1 == v || r.2 == v
theorem heat_rng {rs : List Rd2} {B : Nat → Bool} {v : Nat} (h : B v = false) : heat rs B v = (List.range rs.length).countP fun k => qB B v (rd rs k) := by
  have e1 := countP_or (xs := rs) (p := qB B v) (q := fun r : Rd2 => r.1 == v && B r.2) (r := fun r => r.2 == v && B r.1) (fun x _ => rfl) fun x _ hx => by
    simp at hx ⊢
    intro e
    rw [← hx.1] at h
    exact h
  have e2 : rs.countP (qB B v) = (List.range rs.length).countP fun k => qB B v (rd rs k) := by
    conv => lhs; rw [rd_map rs]
    rw [List.countP_map]; rfl
  rw [← e2, e1]; rfl
def cG (rs : List Rd2) (G : List Nat) (c : Rd2 → Bool) : Nat := (List.range rs.length).countP fun k => decide (k ∈ G) && c (rd rs k)
theorem one_count {n k : Nat} {c : Nat → Bool} (hk : k < n) : (List.range n).countP (fun x => decide (x = k) && c x) = if c k = true then 1 else 0 := by
  induction n with
  | zero => omega
  | succ n ih =>
    rw [List.range_succ, List.countP_append]
    by_cases e : k = n
    · subst e
      have : (List.range k).countP (fun x => decide (x = k) && c x) = 0 := List.countP_eq_zero.mpr fun a ha => by
        have := List.mem_range.mp ha
        rw [decide_eq_false (by omega)]; simp
      rw [this]
      cases hc : c k <;> simp [hc]
    · rw [ih (by omega)]
      have : ([n].countP fun x => decide (x = k) && c x) = 0 := List.countP_eq_zero.mpr fun a ha => by
        rw [List.mem_singleton.mp ha, decide_eq_false (Ne.symm e)]; simp
      rw [this]; rfl
theorem cG_add {rs : List Rd2} {G : List Nat} {k : Nat} {c : Rd2 → Bool} (hk : k < rs.length) (hG : k ∉ G) : cG rs (G ++ [k]) c = cG rs G c + if c (rd rs k) = true then 1 else 0 := by
  have e1 := countP_or (xs := List.range rs.length) (p := fun x => decide (x ∈ G ++ [k]) && c (rd rs x)) (q := fun x => decide (x ∈ G) && c (rd rs x)) (r := fun x => decide (x = k) && c (rd rs x)) (fun x _ => by
    rw [← Bool.and_or_distrib_right]
    congr 1
    rw [Bool.eq_iff_iff]; simp) fun x _ hx => by
    rw [Bool.and_eq_true, decide_eq_true_eq] at hx
    rw [decide_eq_false (fun e : x = k => hG (e ▸ hx.1))]; rfl
  unfold cG
  rw [e1, one_count (c := fun x => c (rd rs x)) hk]
structure FS (n : Nat) (rs : List Rd2) (p : Nat → Int) (root : Nat) (B G : List Nat) (c : Nat → Int) : Prop where
  inB : root ∈ B
  nod : B.Nodup
  lt : ∀ v ∈ B, v < n
  cl : ∀ v ∈ B, fireE n rs p root v = true
  gone : ∀ k ∈ G, k < rs.length ∧ ((rd rs k).1 ∈ B ∨ (rd rs k).2 ∈ B)
  cnt : ∀ v, v < n → v ∉ B → c v = cG rs G (inc v) ∧ c v ≤ p v
  all : cG rs G (fun _ => true) = G.length
theorem cG_nil {rs : List Rd2} {c : Rd2 → Bool} : cG rs [] c = 0 := List.countP_eq_zero.mpr fun a _ => by simp
theorem FS.start {n root : Nat} {rs : List Rd2} {p : Nat → Int} (ho : root < n) (hp : ∀ v, v < n → 0 ≤ p v) : FS n rs p root [root] [] fun _ => 0 :=
  ⟨List.mem_singleton.mpr rfl, by simp, fun v hv => by rw [List.mem_singleton.mp hv]; exact ho, fun v hv => by rw [List.mem_singleton.mp hv]; exact fireE_root, fun k hk => (by cases hk), fun v hv _ => ⟨by rw [cG_nil]; rfl, hp v hv⟩, by rw [cG_nil]; rfl⟩
theorem fire_new {n root : Nat} {rs : List Rd2} {p : Nat → Int} : newF n rs p (fireE n rs p root) = [] := fire_stable n _ cold_le
theorem FS.step {n root : Nat} {rs : List Rd2} {p : Nat → Int} {B G : List Nat} {c : Nat → Int} (s : FS n rs p root B G c) {k h b : Nat} (hk : k < rs.length) (hG : k ∉ G) (hn : h < n) (hh : h ∉ B) (hb : b ∈ B) (hr : rd rs k = (h, b) ∨ rd rs k = (b, h)) :
    (p h < c h + 1 → FS n rs p root (B ++ [h]) (G ++ [k]) fun v => if v = h then c h + 1 else c v) ∧ (¬ p h < c h + 1 → FS n rs p root B (G ++ [k]) fun v => if v = h then c h + 1 else c v) := by
  have ih : inc h (rd rs k) = true := by rcases hr with e | e <;> simp [e, inc]
  have io : ∀ v, v ∉ B → v ≠ h → inc v (rd rs k) = false := fun v hv hvh => by
    have hvb : b ≠ v := fun e => hv (e ▸ hb)
    rcases hr with e | e <;> simp [e, inc, hvb, Ne.symm hvh]
  have cnt : ∀ v, v < n → v ∉ B → (if v = h then c h + 1 else c v) = cG rs (G ++ [k]) (inc v) := fun v hv hvB => by
    rw [cG_add hk hG]
    by_cases e : v = h
    · subst e
      rw [if_pos rfl, if_pos ih, (s.cnt v hv hvB).1]; push_cast; rfl
    · rw [if_neg e, io v hvB e, (s.cnt v hv hvB).1]; simp
  have all : cG rs (G ++ [k]) (fun _ => true) = (G ++ [k]).length := by
    rw [cG_add hk hG, s.all]; simp
  have gone : ∀ j ∈ G ++ [k], j < rs.length ∧ ((rd rs j).1 ∈ B ∨ (rd rs j).2 ∈ B) := fun j hj => by
    rcases List.mem_append.mp hj with hj | hj
    · exact s.gone j hj
    · rw [List.mem_singleton.mp hj]
      refine ⟨hk, ?_⟩
      rcases hr with e | e <;> simp [e, hb]
  refine ⟨fun hf => ?_, fun hf => ?_⟩
  · refine ⟨List.mem_append_left _ s.inB, ?_, fun v hv => ?_, fun v hv => ?_, fun j hj => ⟨(gone j hj).1, ?_⟩, fun v hv hvB => ?_, all⟩
    · rw [List.nodup_append]
      exact ⟨s.nod, by simp, fun a ha x hx => by rw [List.mem_singleton.mp hx]; exact fun e => hh (e ▸ ha)⟩
    · rcases List.mem_append.mp hv with hv | hv
      · exact s.lt v hv
      · rw [List.mem_singleton.mp hv]; exact hn
    · rcases List.mem_append.mp hv with hv | hv
      · exact s.cl v hv
      · rw [List.mem_singleton.mp hv]
        cases hF : fireE n rs p root h with
        | true => rfl
        | false =>
          have e1 := cnt h hn hh
          rw [if_pos rfl] at e1
          have e2 : cG rs (G ++ [k]) (inc h) ≤ heat rs (fireE n rs p root) h := by
            rw [heat_rng hF]
            refine List.countP_mono_left fun j _ hj => ?_
            rw [Bool.and_eq_true, decide_eq_true_eq] at hj
            have hg := (gone j hj.1).2
            have hi := hj.2
            unfold inc at hi
            unfold qB
            rw [Bool.or_eq_true, beq_iff_eq, beq_iff_eq] at hi
            rw [Bool.or_eq_true, Bool.and_eq_true, Bool.and_eq_true, beq_iff_eq, beq_iff_eq]
            rcases hi with e | e
            · rcases hg with g | g
              · rw [e] at g; exact absurd g hh
              · exact .inl ⟨e, s.cl _ g⟩
            · rcases hg with g | g
              · exact .inr ⟨e, s.cl _ g⟩
              · rw [e] at g; exact absurd g hh
          have : h ∈ newF n rs p (fireE n rs p root) := mem_new.mpr ⟨hn, hF, by omega⟩
          rw [fire_new] at this; cases this
    · rcases (gone j hj).2 with g | g
      · exact .inl (List.mem_append_left _ g)
      · exact .inr (List.mem_append_left _ g)
    · have hvB' : v ∉ B := fun e => hvB (List.mem_append_left _ e)
      have hvh : v ≠ h := fun e => hvB (List.mem_append_right _ (List.mem_singleton.mpr e))
      refine ⟨cnt v hv hvB', ?_⟩
      rw [if_neg hvh]; exact (s.cnt v hv hvB').2
  · refine ⟨s.inB, s.nod, s.lt, s.cl, gone, fun v hv hvB => ⟨cnt v hv hvB, ?_⟩, all⟩
    by_cases e : v = h
    · subst e; rw [if_pos rfl]; omega
    · rw [if_neg e]; exact (s.cnt v hv hvB).2
theorem FS.done {n root : Nat} {rs : List Rd2} {p : Nat → Int} {B G : List Nat} {c : Nat → Int} (s : FS n rs p root B G c) (ho : root < n) (hc : ∀ k, k < rs.length → k ∉ G → ((rd rs k).1 ∈ B ↔ (rd rs k).2 ∈ B)) : ∀ v, v ∈ B ↔ v < n ∧ fireE n rs p root v = true := fun v => by
  have key : ∀ v, fireE n rs p root v = true → v ∈ B := by
    refine fire_inv (n := n) (rs := rs) (p := p) (fun S => ∀ v, S v = true → v ∈ B) (fun S hS v hv => ?_) n (at1 root) fun v hv => ?_
    · unfold addB at hv
      rw [Bool.or_eq_true, decide_eq_true_eq] at hv
      rcases hv with hv | hv
      · exact hS v hv
      · obtain ⟨hvn, hSv, hlt⟩ := mem_new.mp hv
        refine Classical.byContradiction fun hvB => ?_
        have h1 := s.cnt v hvn hvB
        rw [heat_rng hSv] at hlt
        have h2 : ((List.range rs.length).countP fun k => qB S v (rd rs k)) ≤ cG rs G (inc v) := List.countP_mono_left fun k hk hq => by
          have hk := List.mem_range.mp hk
          unfold qB at hq
          rw [Bool.or_eq_true, Bool.and_eq_true, Bool.and_eq_true, beq_iff_eq, beq_iff_eq] at hq
          rw [Bool.and_eq_true, decide_eq_true_eq]
          have hi : inc v (rd rs k) = true := by
            unfold inc
            rw [Bool.or_eq_true, beq_iff_eq, beq_iff_eq]
            rcases hq with h | h
            · exact .inl h.1
            · exact .inr h.1
          refine ⟨Classical.byContradiction fun hkG => ?_, hi⟩
          have hx := hc k hk hkG
          rcases hq with h | h
          · rw [h.1] at hx; exact hvB (hx.mpr (hS _ h.2))
          · rw [h.1] at hx; exact hvB (hx.mp (hS _ h.2))
        omega
    · have : v = root := of_decide_eq_true hv
      rw [this]; exact s.inB
  exact ⟨fun h => ⟨s.lt v h, s.cl v h⟩, fun h => key v h.2⟩
/-- the burnt ones, in order -/
def burnL (n : Nat) (rs : List Rd2) (p : Nat → Int) (root : Nat) : List Nat := (List.range n).filter fun v => fireE n rs p root v
theorem sorted_nats {B L : List Nat} {ph : PHp} {own : Bool} {v : PV} {Q : QV} (hs : lstOf ph v = some (natsPV B)) (nd : B.Nodup) (hm : ∀ x, x ∈ B ↔ x ∈ L) (hL : L.Pairwise fun a b => a < b) (q : newL own (natsPV L) ph Q) : biS .sorted own [v] ph Q := by
  refine ⟨_, hs, .inl ⟨B.map fun n : Nat => (n : Int), ?_, ?_⟩⟩
  · rw [nats_ints]; exact intsOf_map _
  · have hp : B.Perm L := (List.perm_ext_iff_of_nodup nd (hL.imp fun h => by omega)).mpr hm
    have e : (B.map fun n : Nat => (n : Int)).mergeSort (fun a b => decide (a ≤ b)) = L.map fun n : Nat => (n : Int) := by
      refine List.Perm.eq_of_pairwise (le := fun a b => decide (a ≤ b) = true) (fun a b _ _ h1 h2 => by simp at h1 h2; omega) (List.pairwise_mergeSort (fun a b c h1 h2 => by simp at h1 h2 ⊢; omega) (fun a b => by simp; omega) _) ?_ ((List.mergeSort_perm ..).trans (hp.map _))
      rw [List.pairwise_map]
      exact hL.imp fun h => by simp; omega
    rw [e, ← nats_ints]
    exact q
theorem burnL_sorted {n root : Nat} {rs : List Rd2} {p : Nat → Int} : (burnL n rs p root).Pairwise fun a b => a < b := List.Pairwise.filter _ List.pairwise_lt_range
theorem mem_burnL {n root v : Nat} {rs : List Rd2} {p : Nat → Int} : v ∈ burnL n rs p root ↔ v < n ∧ fireE n rs p root v = true := by simp [burnL]
/-! ### the walks -/
def openL (rs : List Rd2) (B G : List Nat) (j : Nat) : List Nat := (List.range j).filter fun k => !decide (k ∈ G) && (decide ((rd rs k).1 ∈ B) != decide ((rd rs k).2 ∈ B))
theorem openL_len {rs : List Rd2} {B G : List Nat} {j : Nat} : (openL rs B G j).length ≤ j := by
  have := List.length_filter_le (fun k => !decide (k ∈ G) && (decide ((rd rs k).1 ∈ B) != decide ((rd rs k).2 ∈ B))) (List.range j)
  rwa [List.length_range] at this
theorem openL_succ {rs : List Rd2} {B G : List Nat} {j : Nat} : openL rs B G (j + 1) = openL rs B G j ++ if (!decide (j ∈ G) && (decide ((rd rs j).1 ∈ B) != decide ((rd rs j).2 ∈ B))) = true then [j] else [] := by
  unfold openL
  rw [List.range_succ, List.filter_append]
  congr 1
  rw [List.filter_cons, List.filter_nil]
theorem in_rnats {ph : PHp} {n x : Nat} {xs : List Nat} {k : Bool → Prop} (e : ph[n]? = some (.lst (natsPV xs))) (h : k (decide (x ∈ xs))) : isIn (.int (x : Int)) (.ref n) ph k := by
  rw [nats_ints] at e
  refine in_rints e ?_
  have e : decide ((x : Int) ∈ xs.map fun n : Nat => (n : Int)) = decide (x ∈ xs) := by
    rw [decide_eq_decide, List.mem_map]
    constructor
    · rintro ⟨y, hy, e⟩
      have : y = x := by omega
      exact this ▸ hy
    · intro h; exact ⟨x, h, rfl⟩
  rw [e]; exact h
theorem eqP_bl {ph : PHp} {a b : Bool} {k : Bool → Prop} (h : k (a == b)) : eqP (.bl a) (.bl b) ph k := eqP_of (.bl a) (.bl b) rfl rfl (by cases a <;> cases b <;> exact h)
theorem eq_rnil {ph : PHp} {n : Nat} {xs : List Nat} {k : Bool → Prop} (e : ph[n]? = some (.lst (natsPV xs))) (h : k (decide (xs = []))) : eqP (.ref n) (.lst []) ph k := by
  rw [nats_ints] at e
  refine eqP_of (.ref e (dat_ints _ _)) (.lst .nil) (shaped_ints _) rfl ?_
  rw [eqv_nil]
  have e : decide ((xs.map fun n : Nat => (n : Int)) = []) = decide (xs = []) := by rw [decide_eq_decide, List.map_eq_nil_iff]
  rw [e]; exact h
section
variable {pg : Pg} {f k : Nat} {h ex : PHp} {Q : QV} {X : QX}
theorem any_fire_ok {pk dr : Nat} (i : is_law_any_fire pg f pk) (i1 : is_law_pick pg pk dr) (dw : Draws FA.deckA pg dr) {n root : Nat} {rs : List Rd2} {p : List Int} (g : FA.deckA.Gd 0 h) (hn : n ≤ 100) (hl : rs.length ≤ 100) (hr : In2 n rs) (pl : p.length = n) (ho : root < n) (hp : ∀ x ∈ p, 0 ≤ x)
    (q : ∀ h', FA.deckA.Gd 0 h' → Q (.lst (natsPV (burnL n rs (nth p) root))) (h' ++ ex)) : callK pg (k + 3) f [.ref 1, townPV n rs, .int root, pursePV p] (h ++ ex) Q X := by
  refine i.call rfl ?_
  have hsz := sz
  have hp' : ∀ v, v < n → 0 ≤ nth p v := fun v hv => hp _ (nth_mem (by omega))
  simp only [b_law_any_fire, RL.idx_town0, RL.idx_town1, bindT, bindTs, wpB, wpS, wpE, wpEs, wpO, wpC, wpIs, wpMs, ex_some, ex_some1, ex_bl, ex_int, ex_tup, List.getElem?_cons_zero, List.getElem?_cons_succ, List.set_cons_zero, List.set_cons_succ, List.length_cons, List.length_nil, Atom.pv, add_i, sub_i, mul_i, mod_i, fdiv_i, pow_i, lt_i, le_i, gt_i, ge_i, eq_, ne_, in_e, nin_e, is_n, isnot_n, idx_tup, idx_lst, eqP_int, eqP_str, atI_0, atI_1, atI_2, ixN_0, ixN_1, ixN_2, decide_eq_true_eq, Bool.not_true, Bool.not_false, if_true, Bool.false_eq_true, if_false, setSl, len_lst, len_tup, int_i, int_bl, abs_i, min_i, max_i, tup_t, tup_l, newL_F, newL_T, List.map_cons, List.map_nil, List.append_nil, List.nil_append, List.cons_append, Nat.reduceAdd, Nat.reduceSub, List.replicate_succ, List.replicate_zero, retF, retXF, RL.add_ll, RL.add_t, RL.sl_tup, RL.sl_lst, RL.sl_scr, RL.mul_t, RL.str_int, List.zip_nil_left, List.zip_cons_cons]
  (repeat (refine And.intro (by first | assumption | omega | (decide; done) | (exact mulOk_small (by omega) (by omega) (by omega) (by omega)) | (exact fdivOk (by omega) (by omega)) | (simp; done) | (simp; omega)) ?_))
  refine mul_l rfl (by omega) (by decide) (newL_t (by simp; omega) ?_)
  rw [show ((n : Int)).toNat = n from Int.toNat_natCast n, tab_rep]
  simp only [List.append_assoc, List.cons_append, List.nil_append]
  rw [dl0 g, dl1 g, dl2 g]
  (try simp only [bindT, bindTs, wpB, wpS, wpE, wpEs, wpO, wpC, wpIs, wpMs, ex_some, ex_some1, ex_bl, ex_int, ex_tup, List.getElem?_cons_zero, List.getElem?_cons_succ, List.set_cons_zero, List.set_cons_succ, List.length_cons, List.length_nil, Atom.pv, add_i, sub_i, mul_i, mod_i, fdiv_i, pow_i, lt_i, le_i, gt_i, ge_i, eq_, ne_, in_e, nin_e, is_n, isnot_n, idx_tup, idx_lst, eqP_int, eqP_str, atI_0, atI_1, atI_2, ixN_0, ixN_1, ixN_2, decide_eq_true_eq, Bool.not_true, Bool.not_false, if_true, Bool.false_eq_true, if_false, setSl, len_lst, len_tup, int_i, int_bl, abs_i, min_i, max_i, tup_t, tup_l, newL_F, newL_T, List.map_cons, List.map_nil, List.append_nil, List.nil_append, List.cons_append, Nat.reduceAdd, Nat.reduceSub, List.replicate_succ, List.replicate_zero, retF, retXF, RL.add_ll, RL.add_t, RL.sl_tup, RL.sl_lst, RL.sl_scr, RL.mul_t, RL.str_int, List.zip_nil_left, List.zip_cons_cons])
  rw [List.length_map]
  refine ⟨_, it_n (by omega), ?_⟩
  have finB : ∀ (hp : PHp) (B G : List Nat) (c : Nat → Int) (zs : PHp), FA.deckA.Gd 0 hp → FS n rs (nth p) root B G c → (∀ k, k < rs.length → k ∉ G → ((rd rs k).1 ∈ B ↔ (rd rs k).2 ∈ B)) → biS .sorted false [.ref (FA.deckA.N + ex.length)] (hp ++ (ex ++ .lst (natsPV B) :: zs)) (retS true (h ++ ex) Q) := fun hp B G c zs g2 fs hc => by
    have dn := fs.done ho hc
    refine sorted_nats (B := B) (by simp only [lstOf, dg0 g2]) fs.nod (fun x => by rw [dn, mem_burnL]) burnL_sorted ?_
    have bl : (burnL n rs (nth p) root).length ≤ n := by
      have := List.length_filter_le (fun v => fireE n rs (nth p) root v) (List.range n)
      rwa [List.length_range] at this
    rw [newL_F]
    exact ⟨by rw [nats_len]; omega, ret_deckO g g2 (.lst (old_nats _)) (q hp g2)⟩
  refine forL_rule (fun j env ph => ∃ (hp : PHp) (B G : List Nat) (c : Nat → Int) (zs : PHp) (a4 a8 a9 a10 a11 a12 : Option PV), FA.deckA.Gd 0 hp ∧ FS n rs (nth p) root B G c ∧ G.length = j ∧ B.length ≤ j + 1 ∧ (∀ v, v < n → -1 ≤ c v ∧ c v ≤ j) ∧ ph = hp ++ (ex ++ .lst (natsPV B) :: .lst (natsPV G) :: .lst ((tab n c).map .int) :: zs) ∧
    env = [some (.ref 1), some (townPV n rs), some (.int root), some (pursePV p), a4, some (.ref (FA.deckA.N + ex.length)), some (.ref (FA.deckA.N + ex.length + 1)), some (.ref (FA.deckA.N + ex.length + 2)), a8, a9, a10, a11, a12]) ?_ ?_ ⟨h, [root], [], fun _ => 0, [], _, _, _, _, _, _, g, FS.start ho hp', rfl, by simp, fun v hv => ⟨by show (-1 : Int) ≤ 0; omega, by show (0 : Int) ≤ _; omega⟩, rfl, rfl⟩
  · rintro j0 v env ph hv ⟨hp1, B, G, c, zs, a4, a8, a9, a10, a11, a12, g1, fs, Gl, Bl, cb, rfl, rfl⟩
    obtain ⟨rfl, hj⟩ := rng0_get hv
    refine ⟨it_n (by omega), fun M hM => ⟨by simp, ?_⟩⟩
    (try simp only [RL.idx_town0, RL.idx_town1, bindT, bindTs, wpB, wpS, wpE, wpEs, wpO, wpC, wpIs, wpMs, ex_some, ex_some1, ex_bl, ex_int, ex_tup, List.getElem?_cons_zero, List.getElem?_cons_succ, List.set_cons_zero, List.set_cons_succ, List.length_cons, List.length_nil, Atom.pv, add_i, sub_i, mul_i, mod_i, fdiv_i, pow_i, lt_i, le_i, gt_i, ge_i, eq_, ne_, in_e, nin_e, is_n, isnot_n, idx_tup, idx_lst, eqP_int, eqP_str, atI_0, atI_1, atI_2, ixN_0, ixN_1, ixN_2, decide_eq_true_eq, Bool.not_true, Bool.not_false, if_true, Bool.false_eq_true, if_false, setSl, len_lst, len_tup, int_i, int_bl, abs_i, min_i, max_i, tup_t, tup_l, newL_F, newL_T, List.map_cons, List.map_nil, List.append_nil, List.nil_append, List.cons_append, Nat.reduceAdd, Nat.reduceSub, List.replicate_succ, List.replicate_zero, retF, retXF, RL.add_ll, RL.add_t, RL.sl_tup, RL.sl_lst, RL.sl_scr, RL.mul_t, RL.str_int, List.zip_nil_left, List.zip_cons_cons])
    obtain ⟨P, hP⟩ : ∃ P, P = hp1 ++ (ex ++ .lst (natsPV B) :: .lst (natsPV G) :: .lst ((tab n c).map .int) :: zs) := ⟨_, rfl⟩
    have hB : ∀ z, (P ++ z)[FA.deckA.N + ex.length]? = some (.lst (natsPV B)) := fun z => by
      rw [hP, List.append_assoc, List.append_assoc]; exact dg0 g1
    have hG : ∀ z, (P ++ z)[FA.deckA.N + ex.length + 1]? = some (.lst (natsPV G)) := fun z => by
      rw [hP, List.append_assoc, List.append_assoc]; exact dg1 g1
    rw [← hP]
    refine ⟨by omega, by simp, _, rfl, ?_⟩
    refine forL_rule (fun j env ph => ∃ (a b c9 : Option PV), ph = P ++ [.lst (natsPV (openL rs B G j))] ∧ env = [some (.ref 1), some (townPV n rs), some (.int root), some (pursePV p), some (.int (j0 : Int)), some (.ref (FA.deckA.N + ex.length)), some (.ref (FA.deckA.N + ex.length + 1)), some (.ref (FA.deckA.N + ex.length + 2)), some (.ref P.length), a, a10, b, c9]) ?_ ?_ ⟨_, _, _, by simp [openL, natsPV], rfl⟩
    · rintro j w env ph hw ⟨a, b, c9, rfl, rfl⟩
      obtain ⟨x, hx, rfl⟩ := enumL_at hw
      rw [List.getElem?_map, Option.map_eq_some_iff] at hx
      obtain ⟨r, hr', rfl⟩ := hx
      have hj := (List.getElem?_eq_some_iff.mp hr').1
      have er : rd rs j = r := by rw [rd_get hj] at hr'; exact Option.some.inj hr'
      have ol := openL_len (rs := rs) (B := B) (G := G) (j := j)
      refine ⟨rfl, fun M' hM' => ⟨_, rfl, rfl, by simp, _, rfl, rfl, by simp, by simp, ?_⟩⟩
      (try simp only [bindT, bindTs, wpB, wpS, wpE, wpEs, wpO, wpC, wpIs, wpMs, ex_some, ex_some1, ex_bl, ex_int, ex_tup, List.getElem?_cons_zero, List.getElem?_cons_succ, List.set_cons_zero, List.set_cons_succ, List.length_cons, List.length_nil, Atom.pv, add_i, sub_i, mul_i, mod_i, fdiv_i, pow_i, lt_i, le_i, gt_i, ge_i, eq_, ne_, in_e, nin_e, is_n, isnot_n, idx_tup, idx_lst, eqP_int, eqP_str, atI_0, atI_1, atI_2, ixN_0, ixN_1, ixN_2, decide_eq_true_eq, Bool.not_true, Bool.not_false, if_true, Bool.false_eq_true, if_false, setSl, len_lst, len_tup, int_i, int_bl, abs_i, min_i, max_i, tup_t, tup_l, newL_F, newL_T, List.map_cons, List.map_nil, List.append_nil, List.nil_append, List.cons_append, Nat.reduceAdd, Nat.reduceSub, List.replicate_succ, List.replicate_zero, retF, retXF, RL.add_ll, RL.add_t, RL.sl_tup, RL.sl_lst, RL.sl_scr, RL.mul_t, RL.str_int, List.zip_nil_left, List.zip_cons_cons])
      rw [show 0 + j = j by omega]
      have no : (!decide (j ∈ G) && (decide (r.1 ∈ B) != decide (r.2 ∈ B))) = false → ∀ (a b c9 : Option PV), M' [some (.ref 1), some (townPV n rs), some (.int root), some (pursePV p), some (.int (j0 : Int)), some (.ref (FA.deckA.N + ex.length)), some (.ref (FA.deckA.N + ex.length + 1)), some (.ref (FA.deckA.N + ex.length + 2)), some (.ref P.length), a, a10, b, c9] (P ++ [.lst (natsPV (openL rs B G j))]) := fun h a b c9 => hM' _ _ ⟨a, b, c9, by rw [openL_succ, er, h]; simp, rfl⟩
      have yes : (!decide (j ∈ G) && (decide (r.1 ∈ B) != decide (r.2 ∈ B))) = true → ∀ (a b c9 : Option PV), M' [some (.ref 1), some (townPV n rs), some (.int root), some (pursePV p), some (.int (j0 : Int)), some (.ref (FA.deckA.N + ex.length)), some (.ref (FA.deckA.N + ex.length + 1)), some (.ref (FA.deckA.N + ex.length + 2)), some (.ref P.length), a, a10, b, c9] (P ++ [.lst (natsPV (openL rs B G j) ++ [.int (j : Int)])]) := fun h a b c9 => hM' _ _ ⟨a, b, c9, by rw [openL_succ, er, h]; simp [natsPV], rfl⟩
      refine in_rnats (hG _) ?_
      by_cases hjG : j ∈ G
      · rw [decide_eq_true hjG] at no ⊢
        (try simp only [bindT, bindTs, wpB, wpS, wpE, wpEs, wpO, wpC, wpIs, wpMs, ex_some, ex_some1, ex_bl, ex_int, ex_tup, List.getElem?_cons_zero, List.getElem?_cons_succ, List.set_cons_zero, List.set_cons_succ, List.length_cons, List.length_nil, Atom.pv, add_i, sub_i, mul_i, mod_i, fdiv_i, pow_i, lt_i, le_i, gt_i, ge_i, eq_, ne_, in_e, nin_e, is_n, isnot_n, idx_tup, idx_lst, eqP_int, eqP_str, atI_0, atI_1, atI_2, ixN_0, ixN_1, ixN_2, decide_eq_true_eq, Bool.not_true, Bool.not_false, if_true, Bool.false_eq_true, if_false, setSl, len_lst, len_tup, int_i, int_bl, abs_i, min_i, max_i, tup_t, tup_l, newL_F, newL_T, List.map_cons, List.map_nil, List.append_nil, List.nil_append, List.cons_append, Nat.reduceAdd, Nat.reduceSub, List.replicate_succ, List.replicate_zero, retF, retXF, RL.add_ll, RL.add_t, RL.sl_tup, RL.sl_lst, RL.sl_scr, RL.mul_t, RL.str_int, List.zip_nil_left, List.zip_cons_cons])
        exact no rfl _ _ _
      · rw [decide_eq_false hjG] at no yes ⊢
        (try simp only [bindT, bindTs, wpB, wpS, wpE, wpEs, wpO, wpC, wpIs, wpMs, ex_some, ex_some1, ex_bl, ex_int, ex_tup, List.getElem?_cons_zero, List.getElem?_cons_succ, List.set_cons_zero, List.set_cons_succ, List.length_cons, List.length_nil, Atom.pv, add_i, sub_i, mul_i, mod_i, fdiv_i, pow_i, lt_i, le_i, gt_i, ge_i, eq_, ne_, in_e, nin_e, is_n, isnot_n, idx_tup, idx_lst, eqP_int, eqP_str, atI_0, atI_1, atI_2, ixN_0, ixN_1, ixN_2, decide_eq_true_eq, Bool.not_true, Bool.not_false, if_true, Bool.false_eq_true, if_false, setSl, len_lst, len_tup, int_i, int_bl, abs_i, min_i, max_i, tup_t, tup_l, newL_F, newL_T, List.map_cons, List.map_nil, List.append_nil, List.nil_append, List.cons_append, Nat.reduceAdd, Nat.reduceSub, List.replicate_succ, List.replicate_zero, retF, retXF, RL.add_ll, RL.add_t, RL.sl_tup, RL.sl_lst, RL.sl_scr, RL.mul_t, RL.str_int, List.zip_nil_left, List.zip_cons_cons])
        refine in_rnats (hB _) (in_rnats (hB _) (eqP_bl ?_))
        cases hxx : (decide (r.1 ∈ B) == decide (r.2 ∈ B)) with
        | true =>
          (try simp only [bindT, bindTs, wpB, wpS, wpE, wpEs, wpO, wpC, wpIs, wpMs, ex_some, ex_some1, ex_bl, ex_int, ex_tup, List.getElem?_cons_zero, List.getElem?_cons_succ, List.set_cons_zero, List.set_cons_succ, List.length_cons, List.length_nil, Atom.pv, add_i, sub_i, mul_i, mod_i, fdiv_i, pow_i, lt_i, le_i, gt_i, ge_i, eq_, ne_, in_e, nin_e, is_n, isnot_n, idx_tup, idx_lst, eqP_int, eqP_str, atI_0, atI_1, atI_2, ixN_0, ixN_1, ixN_2, decide_eq_true_eq, Bool.not_true, Bool.not_false, if_true, Bool.false_eq_true, if_false, setSl, len_lst, len_tup, int_i, int_bl, abs_i, min_i, max_i, tup_t, tup_l, newL_F, newL_T, List.map_cons, List.map_nil, List.append_nil, List.nil_append, List.cons_append, Nat.reduceAdd, Nat.reduceSub, List.replicate_succ, List.replicate_zero, retF, retXF, RL.add_ll, RL.add_t, RL.sl_tup, RL.sl_lst, RL.sl_scr, RL.mul_t, RL.str_int, List.zip_nil_left, List.zip_cons_cons])
          refine no ?_ _ _ _
          rw [bne, hxx]; rfl
        | false =>
          (try simp only [bindT, bindTs, wpB, wpS, wpE, wpEs, wpO, wpC, wpIs, wpMs, ex_some, ex_some1, ex_bl, ex_int, ex_tup, List.getElem?_cons_zero, List.getElem?_cons_succ, List.set_cons_zero, List.set_cons_succ, List.length_cons, List.length_nil, Atom.pv, add_i, sub_i, mul_i, mod_i, fdiv_i, pow_i, lt_i, le_i, gt_i, ge_i, eq_, ne_, in_e, nin_e, is_n, isnot_n, idx_tup, idx_lst, eqP_int, eqP_str, atI_0, atI_1, atI_2, ixN_0, ixN_1, ixN_2, decide_eq_true_eq, Bool.not_true, Bool.not_false, if_true, Bool.false_eq_true, if_false, setSl, len_lst, len_tup, int_i, int_bl, abs_i, min_i, max_i, tup_t, tup_l, newL_F, newL_T, List.map_cons, List.map_nil, List.append_nil, List.nil_append, List.cons_append, Nat.reduceAdd, Nat.reduceSub, List.replicate_succ, List.replicate_zero, retF, retXF, RL.add_ll, RL.add_t, RL.sl_tup, RL.sl_lst, RL.sl_scr, RL.mul_t, RL.str_int, List.zip_nil_left, List.zip_cons_cons])
          refine ⟨by simp only [lstOf, pg0]; rfl, _, pg0, by rw [nats_len]; omega, ?_⟩
          rw [ps0]
          refine yes ?_ _ _ _
          rw [bne, hxx]; rfl
    · rintro env ph ⟨a, b, c9, rfl, rfl⟩
      refine ⟨rfl, ?_⟩
      rw [enumL_len, List.length_map]
      have ol := openL_len (rs := rs) (B := B) (G := G) (j := rs.length)
      obtain ⟨s, hs⟩ : ∃ s, s = openL rs B G rs.length := ⟨_, rfl⟩
      rw [← hs] at ol ⊢
      have sm : ∀ k ∈ s, k < rs.length ∧ k ∉ G ∧ ((decide ((rd rs k).1 ∈ B)) != (decide ((rd rs k).2 ∈ B))) = true := fun k hk => by
        rw [hs, openL, List.mem_filter, Bool.and_eq_true, Bool.not_eq_true', decide_eq_false_iff_not] at hk
        exact ⟨List.mem_range.mp hk.1, hk.2.1, hk.2.2⟩
      have sn : s = [] → ∀ k, k < rs.length → k ∉ G → ((rd rs k).1 ∈ B ↔ (rd rs k).2 ∈ B) := fun h k hk hkG => by
        refine Classical.byContradiction fun hne => ?_
        have : k ∈ s := by
          rw [hs, openL, List.mem_filter]
          refine ⟨List.mem_range.mpr hk, ?_⟩
          rw [decide_eq_false hkG]
          by_cases h1 : (rd rs k).1 ∈ B <;> by_cases h2 : (rd rs k).2 ∈ B <;> simp [h1, h2] at hne ⊢
        rw [h] at this; cases this
      (try simp only [bindT, bindTs, wpB, wpS, wpE, wpEs, wpO, wpC, wpIs, wpMs, ex_some, ex_some1, ex_bl, ex_int, ex_tup, List.getElem?_cons_zero, List.getElem?_cons_succ, List.set_cons_zero, List.set_cons_succ, List.length_cons, List.length_nil, Atom.pv, add_i, sub_i, mul_i, mod_i, fdiv_i, pow_i, lt_i, le_i, gt_i, ge_i, eq_, ne_, in_e, nin_e, is_n, isnot_n, idx_tup, idx_lst, eqP_int, eqP_str, atI_0, atI_1, atI_2, ixN_0, ixN_1, ixN_2, decide_eq_true_eq, Bool.not_true, Bool.not_false, if_true, Bool.false_eq_true, if_false, setSl, len_lst, len_tup, int_i, int_bl, abs_i, min_i, max_i, tup_t, tup_l, newL_F, newL_T, List.map_cons, List.map_nil, List.append_nil, List.nil_append, List.cons_append, Nat.reduceAdd, Nat.reduceSub, List.replicate_succ, List.replicate_zero, retF, retXF, RL.add_ll, RL.add_t, RL.sl_tup, RL.sl_lst, RL.sl_scr, RL.mul_t, RL.str_int, List.zip_nil_left, List.zip_cons_cons])
      refine ⟨by omega, eq_rnil pg0 ?_⟩
      by_cases hnil : s = []
      · rw [decide_eq_true hnil]
        (try simp only [bindT, bindTs, wpB, wpS, wpE, wpEs, wpO, wpC, wpIs, wpMs, ex_some, ex_some1, ex_bl, ex_int, ex_tup, List.getElem?_cons_zero, List.getElem?_cons_succ, List.set_cons_zero, List.set_cons_succ, List.length_cons, List.length_nil, Atom.pv, add_i, sub_i, mul_i, mod_i, fdiv_i, pow_i, lt_i, le_i, gt_i, ge_i, eq_, ne_, in_e, nin_e, is_n, isnot_n, idx_tup, idx_lst, eqP_int, eqP_str, atI_0, atI_1, atI_2, ixN_0, ixN_1, ixN_2, decide_eq_true_eq, Bool.not_true, Bool.not_false, if_true, Bool.false_eq_true, if_false, setSl, len_lst, len_tup, int_i, int_bl, abs_i, min_i, max_i, tup_t, tup_l, newL_F, newL_T, List.map_cons, List.map_nil, List.append_nil, List.nil_append, List.cons_append, Nat.reduceAdd, Nat.reduceSub, List.replicate_succ, List.replicate_zero, retF, retXF, RL.add_ll, RL.add_t, RL.sl_tup, RL.sl_lst, RL.sl_scr, RL.mul_t, RL.str_int, List.zip_nil_left, List.zip_cons_cons])
        rw [hP, List.append_assoc, List.append_assoc]
        exact finB hp1 B G c _ g1 fs (sn hnil)
      · rw [decide_eq_false hnil]
        (try simp only [bindT, bindTs, wpB, wpS, wpE, wpEs, wpO, wpC, wpIs, wpMs, ex_some, ex_some1, ex_bl, ex_int, ex_tup, List.getElem?_cons_zero, List.getElem?_cons_succ, List.set_cons_zero, List.set_cons_succ, List.length_cons, List.length_nil, Atom.pv, add_i, sub_i, mul_i, mod_i, fdiv_i, pow_i, lt_i, le_i, gt_i, ge_i, eq_, ne_, in_e, nin_e, is_n, isnot_n, idx_tup, idx_lst, eqP_int, eqP_str, atI_0, atI_1, atI_2, ixN_0, ixN_1, ixN_2, decide_eq_true_eq, Bool.not_true, Bool.not_false, if_true, Bool.false_eq_true, if_false, setSl, len_lst, len_tup, int_i, int_bl, abs_i, min_i, max_i, tup_t, tup_l, newL_F, newL_T, List.map_cons, List.map_nil, List.append_nil, List.nil_append, List.cons_append, Nat.reduceAdd, Nat.reduceSub, List.replicate_succ, List.replicate_zero, retF, retXF, RL.add_ll, RL.add_t, RL.sl_tup, RL.sl_lst, RL.sl_scr, RL.mul_t, RL.str_int, List.zip_nil_left, List.zip_cons_cons])
        obtain ⟨E, hE⟩ : ∃ E, E = ex ++ (PO.lst (natsPV B) :: .lst (natsPV G) :: .lst ((tab n c).map .int) :: zs) := ⟨_, rfl⟩
        have hPE : P = hp1 ++ E := by rw [hP, hE]
        have PL : P.length = FA.deckA.N + E.length := by rw [hPE, dl0 g1]
        have s1 : 1 ≤ (natsPV s).length := by
          rw [nats_len]
          cases s with
          | nil => exact absurd rfl hnil
          | cons _ _ => simp
        rw [PL, hPE, List.append_assoc]
        refine pickR_ok i1 dw (ex := E ++ [.lst (natsPV s)]) (n := E.length) (vs := natsPV s) g1 (by omega) (by simp) s1 (by rw [nats_len]; omega) fun v h2 g2 hv => ?_
        obtain ⟨k, hk, rfl⟩ := List.mem_map.mp hv
        obtain ⟨hkl, hkG, hkx⟩ := sm k hk
        have g2' : FA.deckA.Gd 0 h2 := g2
        have e3 : E ++ [PO.lst (natsPV s)] = ex ++ (PO.lst (natsPV B) :: .lst (natsPV G) :: .lst ((tab n c).map .int) :: (zs ++ [.lst (natsPV s)])) := by rw [hE]; simp
        rw [e3]
        (try simp only [RL.idx_town0, RL.idx_town1, bindT, bindTs, wpB, wpS, wpE, wpEs, wpO, wpC, wpIs, wpMs, ex_some, ex_some1, ex_bl, ex_int, ex_tup, List.getElem?_cons_zero, List.getElem?_cons_succ, List.set_cons_zero, List.set_cons_succ, List.length_cons, List.length_nil, Atom.pv, add_i, sub_i, mul_i, mod_i, fdiv_i, pow_i, lt_i, le_i, gt_i, ge_i, eq_, ne_, in_e, nin_e, is_n, isnot_n, idx_tup, idx_lst, eqP_int, eqP_str, atI_0, atI_1, atI_2, ixN_0, ixN_1, ixN_2, decide_eq_true_eq, Bool.not_true, Bool.not_false, if_true, Bool.false_eq_true, if_false, setSl, len_lst, len_tup, int_i, int_bl, abs_i, min_i, max_i, tup_t, tup_l, newL_F, newL_T, List.map_cons, List.map_nil, List.append_nil, List.nil_append, List.cons_append, Nat.reduceAdd, Nat.reduceSub, List.replicate_succ, List.replicate_zero, retF, retXF, RL.add_ll, RL.add_t, RL.sl_tup, RL.sl_lst, RL.sl_scr, RL.mul_t, RL.str_int, List.zip_nil_left, List.zip_cons_cons])
        refine ⟨by simp, _, atI_nat (by rw [List.getElem?_map, rd_get hkl]; rfl), _, rfl, rfl, ?_⟩
        (try simp only [bindT, bindTs, wpB, wpS, wpE, wpEs, wpO, wpC, wpIs, wpMs, ex_some, ex_some1, ex_bl, ex_int, ex_tup, List.getElem?_cons_zero, List.getElem?_cons_succ, List.set_cons_zero, List.set_cons_succ, List.length_cons, List.length_nil, Atom.pv, add_i, sub_i, mul_i, mod_i, fdiv_i, pow_i, lt_i, le_i, gt_i, ge_i, eq_, ne_, in_e, nin_e, is_n, isnot_n, idx_tup, idx_lst, eqP_int, eqP_str, atI_0, atI_1, atI_2, ixN_0, ixN_1, ixN_2, decide_eq_true_eq, Bool.not_true, Bool.not_false, if_true, Bool.false_eq_true, if_false, setSl, len_lst, len_tup, int_i, int_bl, abs_i, min_i, max_i, tup_t, tup_l, newL_F, newL_T, List.map_cons, List.map_nil, List.append_nil, List.nil_append, List.cons_append, Nat.reduceAdd, Nat.reduceSub, List.replicate_succ, List.replicate_zero, retF, retXF, RL.add_ll, RL.add_t, RL.sl_tup, RL.sl_lst, RL.sl_scr, RL.mul_t, RL.str_int, List.zip_nil_left, List.zip_cons_cons])
        refine ⟨by simp, by simp, ?_⟩
        have hin := hr _ (rd_mem hkl)
        obtain ⟨r1, hr1⟩ : ∃ r1, r1 = (rd rs k).1 := ⟨_, rfl⟩
        obtain ⟨r2, hr2⟩ : ∃ r2, r2 = (rd rs k).2 := ⟨_, rfl⟩
        rw [← hr1, ← hr2] at hin hkx ⊢
        have er : rd rs k = (r1, r2) := by rw [hr1, hr2]
        (try simp only [bindT, bindTs, wpB, wpS, wpE, wpEs, wpO, wpC, wpIs, wpMs, ex_some, ex_some1, ex_bl, ex_int, ex_tup, List.getElem?_cons_zero, List.getElem?_cons_succ, List.set_cons_zero, List.set_cons_succ, List.length_cons, List.length_nil, Atom.pv, add_i, sub_i, mul_i, mod_i, fdiv_i, pow_i, lt_i, le_i, gt_i, ge_i, eq_, ne_, in_e, nin_e, is_n, isnot_n, idx_tup, idx_lst, eqP_int, eqP_str, atI_0, atI_1, atI_2, ixN_0, ixN_1, ixN_2, decide_eq_true_eq, Bool.not_true, Bool.not_false, if_true, Bool.false_eq_true, if_false, setSl, len_lst, len_tup, int_i, int_bl, abs_i, min_i, max_i, tup_t, tup_l, newL_F, newL_T, List.map_cons, List.map_nil, List.append_nil, List.nil_append, List.cons_append, Nat.reduceAdd, Nat.reduceSub, List.replicate_succ, List.replicate_zero, retF, retXF, RL.add_ll, RL.add_t, RL.sl_tup, RL.sl_lst, RL.sl_scr, RL.mul_t, RL.str_int, List.zip_nil_left, List.zip_cons_cons])
        refine in_rnats (dg0 g2') ?_
        by_cases hb1 : r1 ∈ B
        · have hb2 : r2 ∉ B := fun hb2 => by rw [decide_eq_true hb1, decide_eq_true hb2] at hkx; cases hkx
          rw [decide_eq_true hb1]
          (try simp only [bindT, bindTs, wpB, wpS, wpE, wpEs, wpO, wpC, wpIs, wpMs, ex_some, ex_some1, ex_bl, ex_int, ex_tup, List.getElem?_cons_zero, List.getElem?_cons_succ, List.set_cons_zero, List.set_cons_succ, List.length_cons, List.length_nil, Atom.pv, add_i, sub_i, mul_i, mod_i, fdiv_i, pow_i, lt_i, le_i, gt_i, ge_i, eq_, ne_, in_e, nin_e, is_n, isnot_n, idx_tup, idx_lst, eqP_int, eqP_str, atI_0, atI_1, atI_2, ixN_0, ixN_1, ixN_2, decide_eq_true_eq, Bool.not_true, Bool.not_false, if_true, Bool.false_eq_true, if_false, setSl, len_lst, len_tup, int_i, int_bl, abs_i, min_i, max_i, tup_t, tup_l, newL_F, newL_T, List.map_cons, List.map_nil, List.append_nil, List.nil_append, List.cons_append, Nat.reduceAdd, Nat.reduceSub, List.replicate_succ, List.replicate_zero, retF, retXF, RL.add_ll, RL.add_t, RL.sl_tup, RL.sl_lst, RL.sl_scr, RL.mul_t, RL.str_int, List.zip_nil_left, List.zip_cons_cons])
          refine ⟨by simp, by simp only [lstOf, dg1 g2']; rfl, _, dg1 g2', by rw [nats_len]; omega, ?_⟩
          rw [ds1 g2', show natsPV G ++ [PV.int (k : Int)] = natsPV (G ++ [k]) by simp [natsPV]]
          dsimp only
          rw [idx_ref (dg2 g2')]
          refine ⟨_, atI_tab hin.2, ?_⟩
          (try simp only [bindT, bindTs, wpB, wpS, wpE, wpEs, wpO, wpC, wpIs, wpMs, ex_some, ex_some1, ex_bl, ex_int, ex_tup, List.getElem?_cons_zero, List.getElem?_cons_succ, List.set_cons_zero, List.set_cons_succ, List.length_cons, List.length_nil, Atom.pv, add_i, sub_i, mul_i, mod_i, fdiv_i, pow_i, lt_i, le_i, gt_i, ge_i, eq_, ne_, in_e, nin_e, is_n, isnot_n, idx_tup, idx_lst, eqP_int, eqP_str, atI_0, atI_1, atI_2, ixN_0, ixN_1, ixN_2, decide_eq_true_eq, Bool.not_true, Bool.not_false, if_true, Bool.false_eq_true, if_false, setSl, len_lst, len_tup, int_i, int_bl, abs_i, min_i, max_i, tup_t, tup_l, newL_F, newL_T, List.map_cons, List.map_nil, List.append_nil, List.nil_append, List.cons_append, Nat.reduceAdd, Nat.reduceSub, List.replicate_succ, List.replicate_zero, retF, retXF, RL.add_ll, RL.add_t, RL.sl_tup, RL.sl_lst, RL.sl_scr, RL.mul_t, RL.str_int, List.zip_nil_left, List.zip_cons_cons])
          rw [seti_ref (dg2 g2')]
          refine ⟨r2, ixN_nat (by rw [List.length_map, tab_len]; exact hin.2), ?_⟩
          rw [ds2 g2', set_int, tab_set hin.2, idx_ref (dg2 g2')]
          refine ⟨_, atI_tab hin.2, ?_⟩
          rw [if_pos rfl]
          simp only [pursePV, bindT, bindTs, wpB, wpS, wpE, wpEs, wpO, wpC, wpIs, wpMs, ex_some, ex_some1, ex_bl, ex_int, ex_tup, List.getElem?_cons_zero, List.getElem?_cons_succ, List.set_cons_zero, List.set_cons_succ, List.length_cons, List.length_nil, Atom.pv, add_i, sub_i, mul_i, mod_i, fdiv_i, pow_i, lt_i, le_i, gt_i, ge_i, eq_, ne_, in_e, nin_e, is_n, isnot_n, idx_tup, idx_lst, eqP_int, eqP_str, atI_0, atI_1, atI_2, ixN_0, ixN_1, ixN_2, decide_eq_true_eq, Bool.not_true, Bool.not_false, if_true, Bool.false_eq_true, if_false, setSl, len_lst, len_tup, int_i, int_bl, abs_i, min_i, max_i, tup_t, tup_l, newL_F, newL_T, List.map_cons, List.map_nil, List.append_nil, List.nil_append, List.cons_append, Nat.reduceAdd, Nat.reduceSub, List.replicate_succ, List.replicate_zero, retF, retXF, RL.add_ll, RL.add_t, RL.sl_tup, RL.sl_lst, RL.sl_scr, RL.mul_t, RL.str_int, List.zip_nil_left, List.zip_cons_cons]
          refine ⟨_, atI_nth (by omega), ?_⟩
          (try simp only [bindT, bindTs, wpB, wpS, wpE, wpEs, wpO, wpC, wpIs, wpMs, ex_some, ex_some1, ex_bl, ex_int, ex_tup, List.getElem?_cons_zero, List.getElem?_cons_succ, List.set_cons_zero, List.set_cons_succ, List.length_cons, List.length_nil, Atom.pv, add_i, sub_i, mul_i, mod_i, fdiv_i, pow_i, lt_i, le_i, gt_i, ge_i, eq_, ne_, in_e, nin_e, is_n, isnot_n, idx_tup, idx_lst, eqP_int, eqP_str, atI_0, atI_1, atI_2, ixN_0, ixN_1, ixN_2, decide_eq_true_eq, Bool.not_true, Bool.not_false, if_true, Bool.false_eq_true, if_false, setSl, len_lst, len_tup, int_i, int_bl, abs_i, min_i, max_i, tup_t, tup_l, newL_F, newL_T, List.map_cons, List.map_nil, List.append_nil, List.nil_append, List.cons_append, Nat.reduceAdd, Nat.reduceSub, List.replicate_succ, List.replicate_zero, retF, retXF, RL.add_ll, RL.add_t, RL.sl_tup, RL.sl_lst, RL.sl_scr, RL.mul_t, RL.str_int, List.zip_nil_left, List.zip_cons_cons])
          have st := fs.step hkl hkG hin.2 hb2 hb1 (.inr er)
          have cb2 : ∀ v, v < n → -1 ≤ (if v = r2 then c r2 + 1 else c v) ∧ (if v = r2 then c r2 + 1 else c v) ≤ ((j0 + 1 : Nat) : Int) := fun v hv => by
            have b1 := cb v hv
            have b2 := cb r2 hin.2
            split <;> omega
          by_cases hf : nth p r2 < c r2 + 1
          · rw [if_pos hf]
            refine ⟨by simp only [lstOf, dg0 g2']; rfl, _, dg0 g2', by rw [nats_len]; omega, ?_⟩
            rw [ds0 g2', show natsPV B ++ [PV.int (r2 : Int)] = natsPV (B ++ [r2]) by simp [natsPV]]
            exact hM _ _ ⟨h2, _, _, _, _, _, _, _, _, _, _, g2', st.1 hf, by simp [Gl], by simp; omega, cb2, rfl, rfl⟩
          · rw [if_neg hf]
            exact hM _ _ ⟨h2, _, _, _, _, _, _, _, _, _, _, g2', st.2 hf, by simp [Gl], by omega, cb2, rfl, rfl⟩
        · have hb2 : r2 ∈ B := Classical.byContradiction fun hb2 => by rw [decide_eq_false hb1, decide_eq_false hb2] at hkx; cases hkx
          rw [decide_eq_false hb1]
          (try simp only [bindT, bindTs, wpB, wpS, wpE, wpEs, wpO, wpC, wpIs, wpMs, ex_some, ex_some1, ex_bl, ex_int, ex_tup, List.getElem?_cons_zero, List.getElem?_cons_succ, List.set_cons_zero, List.set_cons_succ, List.length_cons, List.length_nil, Atom.pv, add_i, sub_i, mul_i, mod_i, fdiv_i, pow_i, lt_i, le_i, gt_i, ge_i, eq_, ne_, in_e, nin_e, is_n, isnot_n, idx_tup, idx_lst, eqP_int, eqP_str, atI_0, atI_1, atI_2, ixN_0, ixN_1, ixN_2, decide_eq_true_eq, Bool.not_true, Bool.not_false, if_true, Bool.false_eq_true, if_false, setSl, len_lst, len_tup, int_i, int_bl, abs_i, min_i, max_i, tup_t, tup_l, newL_F, newL_T, List.map_cons, List.map_nil, List.append_nil, List.nil_append, List.cons_append, Nat.reduceAdd, Nat.reduceSub, List.replicate_succ, List.replicate_zero, retF, retXF, RL.add_ll, RL.add_t, RL.sl_tup, RL.sl_lst, RL.sl_scr, RL.mul_t, RL.str_int, List.zip_nil_left, List.zip_cons_cons])
          refine ⟨by simp, by simp only [lstOf, dg1 g2']; rfl, _, dg1 g2', by rw [nats_len]; omega, ?_⟩
          rw [ds1 g2', show natsPV G ++ [PV.int (k : Int)] = natsPV (G ++ [k]) by simp [natsPV]]
          dsimp only
          rw [idx_ref (dg2 g2')]
          refine ⟨_, atI_tab hin.1, ?_⟩
          (try simp only [bindT, bindTs, wpB, wpS, wpE, wpEs, wpO, wpC, wpIs, wpMs, ex_some, ex_some1, ex_bl, ex_int, ex_tup, List.getElem?_cons_zero, List.getElem?_cons_succ, List.set_cons_zero, List.set_cons_succ, List.length_cons, List.length_nil, Atom.pv, add_i, sub_i, mul_i, mod_i, fdiv_i, pow_i, lt_i, le_i, gt_i, ge_i, eq_, ne_, in_e, nin_e, is_n, isnot_n, idx_tup, idx_lst, eqP_int, eqP_str, atI_0, atI_1, atI_2, ixN_0, ixN_1, ixN_2, decide_eq_true_eq, Bool.not_true, Bool.not_false, if_true, Bool.false_eq_true, if_false, setSl, len_lst, len_tup, int_i, int_bl, abs_i, min_i, max_i, tup_t, tup_l, newL_F, newL_T, List.map_cons, List.map_nil, List.append_nil, List.nil_append, List.cons_append, Nat.reduceAdd, Nat.reduceSub, List.replicate_succ, List.replicate_zero, retF, retXF, RL.add_ll, RL.add_t, RL.sl_tup, RL.sl_lst, RL.sl_scr, RL.mul_t, RL.str_int, List.zip_nil_left, List.zip_cons_cons])
          rw [seti_ref (dg2 g2')]
          refine ⟨r1, ixN_nat (by rw [List.length_map, tab_len]; exact hin.1), ?_⟩
          rw [ds2 g2', set_int, tab_set hin.1, idx_ref (dg2 g2')]
          refine ⟨_, atI_tab hin.1, ?_⟩
          rw [if_pos rfl]
          simp only [pursePV, bindT, bindTs, wpB, wpS, wpE, wpEs, wpO, wpC, wpIs, wpMs, ex_some, ex_some1, ex_bl, ex_int, ex_tup, List.getElem?_cons_zero, List.getElem?_cons_succ, List.set_cons_zero, List.set_cons_succ, List.length_cons, List.length_nil, Atom.pv, add_i, sub_i, mul_i, mod_i, fdiv_i, pow_i, lt_i, le_i, gt_i, ge_i, eq_, ne_, in_e, nin_e, is_n, isnot_n, idx_tup, idx_lst, eqP_int, eqP_str, atI_0, atI_1, atI_2, ixN_0, ixN_1, ixN_2, decide_eq_true_eq, Bool.not_true, Bool.not_false, if_true, Bool.false_eq_true, if_false, setSl, len_lst, len_tup, int_i, int_bl, abs_i, min_i, max_i, tup_t, tup_l, newL_F, newL_T, List.map_cons, List.map_nil, List.append_nil, List.nil_append, List.cons_append, Nat.reduceAdd, Nat.reduceSub, List.replicate_succ, List.replicate_zero, retF, retXF, RL.add_ll, RL.add_t, RL.sl_tup, RL.sl_lst, RL.sl_scr, RL.mul_t, RL.str_int, List.zip_nil_left, List.zip_cons_cons]
          refine ⟨_, atI_nth (by omega), ?_⟩
          (try simp only [bindT, bindTs, wpB, wpS, wpE, wpEs, wpO, wpC, wpIs, wpMs, ex_some, ex_some1, ex_bl, ex_int, ex_tup, List.getElem?_cons_zero, List.getElem?_cons_succ, List.set_cons_zero, List.set_cons_succ, List.length_cons, List.length_nil, Atom.pv, add_i, sub_i, mul_i, mod_i, fdiv_i, pow_i, lt_i, le_i, gt_i, ge_i, eq_, ne_, in_e, nin_e, is_n, isnot_n, idx_tup, idx_lst, eqP_int, eqP_str, atI_0, atI_1, atI_2, ixN_0, ixN_1, ixN_2, decide_eq_true_eq, Bool.not_true, Bool.not_false, if_true, Bool.false_eq_true, if_false, setSl, len_lst, len_tup, int_i, int_bl, abs_i, min_i, max_i, tup_t, tup_l, newL_F, newL_T, List.map_cons, List.map_nil, List.append_nil, List.nil_append, List.cons_append, Nat.reduceAdd, Nat.reduceSub, List.replicate_succ, List.replicate_zero, retF, retXF, RL.add_ll, RL.add_t, RL.sl_tup, RL.sl_lst, RL.sl_scr, RL.mul_t, RL.str_int, List.zip_nil_left, List.zip_cons_cons])
          have st := fs.step hkl hkG hin.1 hb1 hb2 (.inl er)
          have cb2 : ∀ v, v < n → -1 ≤ (if v = r1 then c r1 + 1 else c v) ∧ (if v = r1 then c r1 + 1 else c v) ≤ ((j0 + 1 : Nat) : Int) := fun v hv => by
            have b1 := cb v hv
            have b2 := cb r1 hin.1
            split <;> omega
          by_cases hf : nth p r1 < c r1 + 1
          · rw [if_pos hf]
            refine ⟨by simp only [lstOf, dg0 g2']; rfl, _, dg0 g2', by rw [nats_len]; omega, ?_⟩
            rw [ds0 g2', show natsPV B ++ [PV.int (r1 : Int)] = natsPV (B ++ [r1]) by simp [natsPV]]
            exact hM _ _ ⟨h2, _, _, _, _, _, _, _, _, _, _, g2', st.1 hf, by simp [Gl], by simp; omega, cb2, rfl, rfl⟩
          · rw [if_neg hf]
            exact hM _ _ ⟨h2, _, _, _, _, _, _, _, _, _, _, g2', st.2 hf, by simp [Gl], by omega, cb2, rfl, rfl⟩
  · rintro env ph ⟨hp1, B, G, c, zs, a4, a8, a9, a10, a11, a12, g1, fs, Gl, Bl, cb, rfl, rfl⟩
    rw [rng0_len] at Gl
    refine ⟨it_n (by omega), ?_⟩
    (try simp only [bindT, bindTs, wpB, wpS, wpE, wpEs, wpO, wpC, wpIs, wpMs, ex_some, ex_some1, ex_bl, ex_int, ex_tup, List.getElem?_cons_zero, List.getElem?_cons_succ, List.set_cons_zero, List.set_cons_succ, List.length_cons, List.length_nil, Atom.pv, add_i, sub_i, mul_i, mod_i, fdiv_i, pow_i, lt_i, le_i, gt_i, ge_i, eq_, ne_, in_e, nin_e, is_n, isnot_n, idx_tup, idx_lst, eqP_int, eqP_str, atI_0, atI_1, atI_2, ixN_0, ixN_1, ixN_2, decide_eq_true_eq, Bool.not_true, Bool.not_false, if_true, Bool.false_eq_true, if_false, setSl, len_lst, len_tup, int_i, int_bl, abs_i, min_i, max_i, tup_t, tup_l, newL_F, newL_T, List.map_cons, List.map_nil, List.append_nil, List.nil_append, List.cons_append, Nat.reduceAdd, Nat.reduceSub, List.replicate_succ, List.replicate_zero, retF, retXF, RL.add_ll, RL.add_t, RL.sl_tup, RL.sl_lst, RL.sl_scr, RL.mul_t, RL.str_int, List.zip_nil_left, List.zip_cons_cons])
    refine finB hp1 B G c _ g1 fs fun k hk hkG => ?_
    exfalso
    have e1 := fs.all
    rw [Gl] at e1
    have e2 : (List.range rs.length).countP (fun k => decide (k ∈ G) && true) = (List.range rs.length).length := by rw [List.length_range]; exact e1
    have := List.countP_eq_length.mp e2 k (List.mem_range.mpr hk)
    simp at this
    exact hkG this
theorem pg4 {ph zs : PHp} {a b c d e : PO} : (ph ++ a :: b :: c :: d :: e :: zs)[ph.length + 4]? = some e := by rw [List.getElem?_append_right (by omega), show ph.length + 4 - ph.length = 4 by omega]; rfl
theorem ps4 {ph zs : PHp} {a b c d e e' : PO} : setO (ph ++ a :: b :: c :: d :: e :: zs) (ph.length + 4) e' = ph ++ a :: b :: c :: d :: e' :: zs := by unfold setO; rw [List.set_append_right _ _ (by omega), show ph.length + 4 - ph.length = 4 by omega]; rfl
theorem atI_neg1 {xs : List PV} (h : xs ≠ []) : ∃ v, atI xs (-1) = some v ∧ v ∈ xs := by
  have hl : 1 ≤ xs.length := by
    cases xs with
    | nil => exact absurd rfl h
    | cons _ _ => simp
  have e : atI xs (-1) = xs[xs.length - 1]? := by
    unfold atI ixN
    rw [if_neg (by omega), if_pos (by omega), show (-1 + (xs.length : Int)).toNat = xs.length - 1 by omega]; rfl
  exact ⟨xs[xs.length - 1], by rw [e, List.getElem?_eq_getElem (by omega)], List.getElem_mem _⟩
theorem fireP_ok (i : is_law_fire pg f) {ph : PHp} {n root : Nat} {rs : List Rd2} {p : List Int} (hn : n ≤ 100) (hl : rs.length ≤ 100) (hr : In2 n rs) (pl : p.length = n) (ho : root < n) (hp : ∀ x ∈ p, 0 ≤ x)
    (q : ∀ (x y z : PV) (B : List Nat), B.Nodup → B.length ≤ n + 200 → (∀ x, x ∈ B ↔ x ∈ burnL n rs (nth p) root) → Q (.tup [x, y, z, .lst (natsPV B)]) ph) : callK pg (k + 1) f [townPV n rs, .int root, (pursePV p), .non] ph Q X := by
  refine i.call rfl ?_
  have hsz := sz
  have hp' : ∀ v, v < n → 0 ≤ nth p v := fun v hv => hp _ (nth_mem (by omega))
  simp only [b_law_fire, RL.idx_town0, RL.idx_town1, bindT, bindTs, wpB, wpS, wpE, wpEs, wpO, wpC, wpIs, wpMs, ex_some, ex_some1, ex_bl, ex_int, ex_tup, List.getElem?_cons_zero, List.getElem?_cons_succ, List.set_cons_zero, List.set_cons_succ, List.length_cons, List.length_nil, Atom.pv, add_i, sub_i, mul_i, mod_i, fdiv_i, pow_i, lt_i, le_i, gt_i, ge_i, eq_, ne_, in_e, nin_e, is_n, isnot_n, idx_tup, idx_lst, eqP_int, eqP_str, atI_0, atI_1, atI_2, ixN_0, ixN_1, ixN_2, decide_eq_true_eq, Bool.not_true, Bool.not_false, if_true, Bool.false_eq_true, if_false, setSl, len_lst, len_tup, int_i, int_bl, abs_i, min_i, max_i, tup_t, tup_l, newL_F, newL_T, List.map_cons, List.map_nil, List.append_nil, List.nil_append, List.cons_append, Nat.reduceAdd, Nat.reduceSub, List.replicate_succ, List.replicate_zero, retF, retXF, RL.add_ll, RL.add_t, RL.sl_tup, RL.sl_lst, RL.sl_scr, RL.mul_t, RL.str_int, List.zip_nil_left, List.zip_cons_cons]
  (repeat (refine And.intro (by first | assumption | omega | (decide; done) | (exact mulOk_small (by omega) (by omega) (by omega) (by omega)) | (exact fdivOk (by omega) (by omega)) | (simp; done) | (simp; omega)) ?_))
  refine mul_l rfl (by omega) (by decide) (newL_t (by simp; omega) ?_)
  (try simp only [RL.idx_town0, RL.idx_town1, bindT, bindTs, wpB, wpS, wpE, wpEs, wpO, wpC, wpIs, wpMs, ex_some, ex_some1, ex_bl, ex_int, ex_tup, List.getElem?_cons_zero, List.getElem?_cons_succ, List.set_cons_zero, List.set_cons_succ, List.length_cons, List.length_nil, Atom.pv, add_i, sub_i, mul_i, mod_i, fdiv_i, pow_i, lt_i, le_i, gt_i, ge_i, eq_, ne_, in_e, nin_e, is_n, isnot_n, idx_tup, idx_lst, eqP_int, eqP_str, atI_0, atI_1, atI_2, ixN_0, ixN_1, ixN_2, decide_eq_true_eq, Bool.not_true, Bool.not_false, if_true, Bool.false_eq_true, if_false, setSl, len_lst, len_tup, int_i, int_bl, abs_i, min_i, max_i, tup_t, tup_l, newL_F, newL_T, List.map_cons, List.map_nil, List.append_nil, List.nil_append, List.cons_append, Nat.reduceAdd, Nat.reduceSub, List.replicate_succ, List.replicate_zero, retF, retXF, RL.add_ll, RL.add_t, RL.sl_tup, RL.sl_lst, RL.sl_scr, RL.mul_t, RL.str_int, List.zip_nil_left, List.zip_cons_cons])
  (repeat (refine And.intro (by first | assumption | omega | (decide; done) | (exact mulOk_small (by omega) (by omega) (by omega) (by omega)) | (exact fdivOk (by omega) (by omega)) | (simp; done) | (simp; omega)) ?_))
  refine mul_l rfl (by omega) (by decide) (newL_t (by simp; omega) ?_)
  rw [show ((n : Int)).toNat = n from Int.toNat_natCast n, tab_rep]
  simp only [List.append_assoc, List.cons_append, List.nil_append, List.length_append, List.length_cons, List.length_nil]
  (try simp only [RL.idx_town0, RL.idx_town1, bindT, bindTs, wpB, wpS, wpE, wpEs, wpO, wpC, wpIs, wpMs, ex_some, ex_some1, ex_bl, ex_int, ex_tup, List.getElem?_cons_zero, List.getElem?_cons_succ, List.set_cons_zero, List.set_cons_succ, List.length_cons, List.length_nil, Atom.pv, add_i, sub_i, mul_i, mod_i, fdiv_i, pow_i, lt_i, le_i, gt_i, ge_i, eq_, ne_, in_e, nin_e, is_n, isnot_n, idx_tup, idx_lst, eqP_int, eqP_str, atI_0, atI_1, atI_2, ixN_0, ixN_1, ixN_2, decide_eq_true_eq, Bool.not_true, Bool.not_false, if_true, Bool.false_eq_true, if_false, setSl, len_lst, len_tup, int_i, int_bl, abs_i, min_i, max_i, tup_t, tup_l, newL_F, newL_T, List.map_cons, List.map_nil, List.append_nil, List.nil_append, List.cons_append, Nat.reduceAdd, Nat.reduceSub, List.replicate_succ, List.replicate_zero, retF, retXF, RL.add_ll, RL.add_t, RL.sl_tup, RL.sl_lst, RL.sl_scr, RL.mul_t, RL.str_int, List.zip_nil_left, List.zip_cons_cons])
  rw [List.length_map]
  refine ⟨by omega, trivial, by simp, by simp, by simp, by simp, by simp, _, it_n (by omega), ?_⟩
  have finB : ∀ (B G T : List Nat) (c d : Nat → Int) (zs : PHp), FS n rs (nth p) root B G c → (∀ k, k < rs.length → k ∉ G → ((rd rs k).1 ∈ B ↔ (rd rs k).2 ∈ B)) → B.length ≤ 200 → G.length ≤ 200 → T.length ≤ 200 → (∀ v, v < n → 0 ≤ d v ∧ d v ≤ 100) → biS .tuple false [.ref (ph.length + 1)] (ph ++ .lst (natsPV B) :: .lst (natsPV G) :: .lst (natsPV T) :: .lst ((tab n c).map .int) :: .lst ((tab n d).map .int) :: zs) fun x1 h1 => biS .sorted false [.ref (ph.length + 2)] h1 fun x2 h2 => biS .tuple false [x2] h2 fun x3 h3 => biS .tuple false [.ref (ph.length + 4)] h3 fun x4 h4 => 4 ≤ sizeLine ∧ retS true ph Q (.tup [x1, x3, x4, .ref ph.length]) h4 := fun B G T c d zs fs hc bl gl tl db => by
    rw [tup_r pg1]
    refine ⟨natsPV T, by simp only [lstOf, pg2], .inl ⟨T.map fun n : Nat => (n : Int), by rw [nats_ints]; exact intsOf_map _, ?_⟩⟩
    rw [newL_F]
    refine ⟨by rw [List.length_map, (List.mergeSort_perm ..).length_eq, List.length_map]; omega, ?_⟩
    rw [tup_l, tup_r pg4]
    refine ⟨by omega, ret_new (.tup (.cons (frz_old (.tup (old_nats _))) (.cons (frz_old (.tup (oldL_ints _))) (.cons (frz_old (.tup (oldL_ints _))) (.cons (.ref (Nat.le_refl _) pg0 (frzs_old (old_nats _))) .nil))))) ?_⟩
    exact q _ _ _ B fs.nod (by omega) fun x => by rw [fs.done ho hc, mem_burnL]
  refine forL_rule (fun j env ph' => ∃ (B G T : List Nat) (c d : Nat → Int) (zs : PHp) (a4 a10 a11 a12 a13 a14 : Option PV), FS n rs (nth p) root B G c ∧ G.length = j ∧ B.length ≤ j + 1 ∧ T.length ≤ j ∧ (∀ v, v < n → 0 ≤ c v ∧ c v ≤ j) ∧ (∀ v, v < n → 0 ≤ d v ∧ d v ≤ 100) ∧ ph' = ph ++ .lst (natsPV B) :: .lst (natsPV G) :: .lst (natsPV T) :: .lst ((tab n c).map .int) :: .lst ((tab n d).map .int) :: zs ∧ env = [some (townPV n rs), some (.int root), some (pursePV p), some .non, a4, some (.ref ph.length), some (.ref (ph.length + 1)), some (.ref (ph.length + 2)), some (.ref (ph.length + 3)), some (.ref (ph.length + 4)), a10, a11, a12, a13, a14]) ?_ ?_ ⟨[root], [], [], fun _ => 0, fun _ => 0, [], _, _, _, _, _, _, FS.start ho hp', rfl, by simp, by simp, fun v hv => ⟨by show (0 : Int) ≤ 0; omega, by show (0 : Int) ≤ _; omega⟩, fun v hv => ⟨by show (0 : Int) ≤ 0; omega, by show (0 : Int) ≤ 100; omega⟩, rfl, rfl⟩
  · rintro j0 v env ph' hv ⟨B, G, T, c, d, zs, a4, a10, a11, a12, a13, a14, fs, Gl, Bl, Tl, cb, db, rfl, rfl⟩
    obtain ⟨rfl, hj⟩ := rng0_get hv
    refine ⟨it_n (by omega), fun M hM => ⟨by simp, ?_⟩⟩
    (try simp only [RL.idx_town0, RL.idx_town1, bindT, bindTs, wpB, wpS, wpE, wpEs, wpO, wpC, wpIs, wpMs, ex_some, ex_some1, ex_bl, ex_int, ex_tup, List.getElem?_cons_zero, List.getElem?_cons_succ, List.set_cons_zero, List.set_cons_succ, List.length_cons, List.length_nil, Atom.pv, add_i, sub_i, mul_i, mod_i, fdiv_i, pow_i, lt_i, le_i, gt_i, ge_i, eq_, ne_, in_e, nin_e, is_n, isnot_n, idx_tup, idx_lst, eqP_int, eqP_str, atI_0, atI_1, atI_2, ixN_0, ixN_1, ixN_2, decide_eq_true_eq, Bool.not_true, Bool.not_false, if_true, Bool.false_eq_true, if_false, setSl, len_lst, len_tup, int_i, int_bl, abs_i, min_i, max_i, tup_t, tup_l, newL_F, newL_T, List.map_cons, List.map_nil, List.append_nil, List.nil_append, List.cons_append, Nat.reduceAdd, Nat.reduceSub, List.replicate_succ, List.replicate_zero, retF, retXF, RL.add_ll, RL.add_t, RL.sl_tup, RL.sl_lst, RL.sl_scr, RL.mul_t, RL.str_int, List.zip_nil_left, List.zip_cons_cons])
    obtain ⟨P, hP⟩ : ∃ P, P = ph ++ (.lst (natsPV B) :: .lst (natsPV G) :: .lst (natsPV T) :: .lst ((tab n c).map .int) :: .lst ((tab n d).map .int) :: zs) := ⟨_, rfl⟩
    have hB : ∀ z, (P ++ z)[ph.length]? = some (.lst (natsPV B)) := fun z => by
      rw [hP, List.append_assoc]; exact pg0
    have hG : ∀ z, (P ++ z)[ph.length + 1]? = some (.lst (natsPV G)) := fun z => by
      rw [hP, List.append_assoc]; exact pg1
    rw [← hP]
    refine ⟨by omega, by simp, _, rfl, ?_⟩
    refine forL_rule (fun j env ph2 => ∃ (a b c9 : Option PV), ph2 = P ++ [.lst (natsPV (openL rs B G j))] ∧ env = [some (townPV n rs), some (.int root), some (pursePV p), some .non, some (.int (j0 : Int)), some (.ref ph.length), some (.ref (ph.length + 1)), some (.ref (ph.length + 2)), some (.ref (ph.length + 3)), some (.ref (ph.length + 4)), some (.ref P.length), a, a12, b, c9]) ?_ ?_ ⟨_, _, _, by simp [openL, natsPV], rfl⟩
    · rintro j w env ph2 hw ⟨a, b, c9, rfl, rfl⟩
      obtain ⟨x, hx, rfl⟩ := enumL_at hw
      rw [List.getElem?_map, Option.map_eq_some_iff] at hx
      obtain ⟨r, hr', rfl⟩ := hx
      have hj := (List.getElem?_eq_some_iff.mp hr').1
      have er : rd rs j = r := by rw [rd_get hj] at hr'; exact Option.some.inj hr'
      have ol := openL_len (rs := rs) (B := B) (G := G) (j := j)
      refine ⟨rfl, fun M' hM' => ⟨_, rfl, rfl, by simp, _, rfl, rfl, by simp, by simp, ?_⟩⟩
      (try simp only [bindT, bindTs, wpB, wpS, wpE, wpEs, wpO, wpC, wpIs, wpMs, ex_some, ex_some1, ex_bl, ex_int, ex_tup, List.getElem?_cons_zero, List.getElem?_cons_succ, List.set_cons_zero, List.set_cons_succ, List.length_cons, List.length_nil, Atom.pv, add_i, sub_i, mul_i, mod_i, fdiv_i, pow_i, lt_i, le_i, gt_i, ge_i, eq_, ne_, in_e, nin_e, is_n, isnot_n, idx_tup, idx_lst, eqP_int, eqP_str, atI_0, atI_1, atI_2, ixN_0, ixN_1, ixN_2, decide_eq_true_eq, Bool.not_true, Bool.not_false, if_true, Bool.false_eq_true, if_false, setSl, len_lst, len_tup, int_i, int_bl, abs_i, min_i, max_i, tup_t, tup_l, newL_F, newL_T, List.map_cons, List.map_nil, List.append_nil, List.nil_append, List.cons_append, Nat.reduceAdd, Nat.reduceSub, List.replicate_succ, List.replicate_zero, retF, retXF, RL.add_ll, RL.add_t, RL.sl_tup, RL.sl_lst, RL.sl_scr, RL.mul_t, RL.str_int, List.zip_nil_left, List.zip_cons_cons])
      rw [show 0 + j = j by omega]
      have no : (!decide (j ∈ G) && (decide (r.1 ∈ B) != decide (r.2 ∈ B))) = false → ∀ (a b c9 : Option PV), M' [some (townPV n rs), some (.int root), some (pursePV p), some .non, some (.int (j0 : Int)), some (.ref ph.length), some (.ref (ph.length + 1)), some (.ref (ph.length + 2)), some (.ref (ph.length + 3)), some (.ref (ph.length + 4)), some (.ref P.length), a, a12, b, c9] (P ++ [.lst (natsPV (openL rs B G j))]) := fun h a b c9 => hM' _ _ ⟨a, b, c9, by rw [openL_succ, er, h]; simp, rfl⟩
      have yes : (!decide (j ∈ G) && (decide (r.1 ∈ B) != decide (r.2 ∈ B))) = true → ∀ (a b c9 : Option PV), M' [some (townPV n rs), some (.int root), some (pursePV p), some .non, some (.int (j0 : Int)), some (.ref ph.length), some (.ref (ph.length + 1)), some (.ref (ph.length + 2)), some (.ref (ph.length + 3)), some (.ref (ph.length + 4)), some (.ref P.length), a, a12, b, c9] (P ++ [.lst (natsPV (openL rs B G j) ++ [.int (j : Int)])]) := fun h a b c9 => hM' _ _ ⟨a, b, c9, by rw [openL_succ, er, h]; simp [natsPV], rfl⟩
      refine in_rnats (hG _) ?_
      by_cases hjG : j ∈ G
      · rw [decide_eq_true hjG] at no ⊢
        (try simp only [bindT, bindTs, wpB, wpS, wpE, wpEs, wpO, wpC, wpIs, wpMs, ex_some, ex_some1, ex_bl, ex_int, ex_tup, List.getElem?_cons_zero, List.getElem?_cons_succ, List.set_cons_zero, List.set_cons_succ, List.length_cons, List.length_nil, Atom.pv, add_i, sub_i, mul_i, mod_i, fdiv_i, pow_i, lt_i, le_i, gt_i, ge_i, eq_, ne_, in_e, nin_e, is_n, isnot_n, idx_tup, idx_lst, eqP_int, eqP_str, atI_0, atI_1, atI_2, ixN_0, ixN_1, ixN_2, decide_eq_true_eq, Bool.not_true, Bool.not_false, if_true, Bool.false_eq_true, if_false, setSl, len_lst, len_tup, int_i, int_bl, abs_i, min_i, max_i, tup_t, tup_l, newL_F, newL_T, List.map_cons, List.map_nil, List.append_nil, List.nil_append, List.cons_append, Nat.reduceAdd, Nat.reduceSub, List.replicate_succ, List.replicate_zero, retF, retXF, RL.add_ll, RL.add_t, RL.sl_tup, RL.sl_lst, RL.sl_scr, RL.mul_t, RL.str_int, List.zip_nil_left, List.zip_cons_cons])
        exact no rfl _ _ _
      · rw [decide_eq_false hjG] at no yes ⊢
        (try simp only [bindT, bindTs, wpB, wpS, wpE, wpEs, wpO, wpC, wpIs, wpMs, ex_some, ex_some1, ex_bl, ex_int, ex_tup, List.getElem?_cons_zero, List.getElem?_cons_succ, List.set_cons_zero, List.set_cons_succ, List.length_cons, List.length_nil, Atom.pv, add_i, sub_i, mul_i, mod_i, fdiv_i, pow_i, lt_i, le_i, gt_i, ge_i, eq_, ne_, in_e, nin_e, is_n, isnot_n, idx_tup, idx_lst, eqP_int, eqP_str, atI_0, atI_1, atI_2, ixN_0, ixN_1, ixN_2, decide_eq_true_eq, Bool.not_true, Bool.not_false, if_true, Bool.false_eq_true, if_false, setSl, len_lst, len_tup, int_i, int_bl, abs_i, min_i, max_i, tup_t, tup_l, newL_F, newL_T, List.map_cons, List.map_nil, List.append_nil, List.nil_append, List.cons_append, Nat.reduceAdd, Nat.reduceSub, List.replicate_succ, List.replicate_zero, retF, retXF, RL.add_ll, RL.add_t, RL.sl_tup, RL.sl_lst, RL.sl_scr, RL.mul_t, RL.str_int, List.zip_nil_left, List.zip_cons_cons])
        refine in_rnats (hB _) (in_rnats (hB _) (eqP_bl ?_))
        cases hxx : (decide (r.1 ∈ B) == decide (r.2 ∈ B)) with
        | true =>
          (try simp only [bindT, bindTs, wpB, wpS, wpE, wpEs, wpO, wpC, wpIs, wpMs, ex_some, ex_some1, ex_bl, ex_int, ex_tup, List.getElem?_cons_zero, List.getElem?_cons_succ, List.set_cons_zero, List.set_cons_succ, List.length_cons, List.length_nil, Atom.pv, add_i, sub_i, mul_i, mod_i, fdiv_i, pow_i, lt_i, le_i, gt_i, ge_i, eq_, ne_, in_e, nin_e, is_n, isnot_n, idx_tup, idx_lst, eqP_int, eqP_str, atI_0, atI_1, atI_2, ixN_0, ixN_1, ixN_2, decide_eq_true_eq, Bool.not_true, Bool.not_false, if_true, Bool.false_eq_true, if_false, setSl, len_lst, len_tup, int_i, int_bl, abs_i, min_i, max_i, tup_t, tup_l, newL_F, newL_T, List.map_cons, List.map_nil, List.append_nil, List.nil_append, List.cons_append, Nat.reduceAdd, Nat.reduceSub, List.replicate_succ, List.replicate_zero, retF, retXF, RL.add_ll, RL.add_t, RL.sl_tup, RL.sl_lst, RL.sl_scr, RL.mul_t, RL.str_int, List.zip_nil_left, List.zip_cons_cons])
          refine no ?_ _ _ _
          rw [bne, hxx]; rfl
        | false =>
          (try simp only [bindT, bindTs, wpB, wpS, wpE, wpEs, wpO, wpC, wpIs, wpMs, ex_some, ex_some1, ex_bl, ex_int, ex_tup, List.getElem?_cons_zero, List.getElem?_cons_succ, List.set_cons_zero, List.set_cons_succ, List.length_cons, List.length_nil, Atom.pv, add_i, sub_i, mul_i, mod_i, fdiv_i, pow_i, lt_i, le_i, gt_i, ge_i, eq_, ne_, in_e, nin_e, is_n, isnot_n, idx_tup, idx_lst, eqP_int, eqP_str, atI_0, atI_1, atI_2, ixN_0, ixN_1, ixN_2, decide_eq_true_eq, Bool.not_true, Bool.not_false, if_true, Bool.false_eq_true, if_false, setSl, len_lst, len_tup, int_i, int_bl, abs_i, min_i, max_i, tup_t, tup_l, newL_F, newL_T, List.map_cons, List.map_nil, List.append_nil, List.nil_append, List.cons_append, Nat.reduceAdd, Nat.reduceSub, List.replicate_succ, List.replicate_zero, retF, retXF, RL.add_ll, RL.add_t, RL.sl_tup, RL.sl_lst, RL.sl_scr, RL.mul_t, RL.str_int, List.zip_nil_left, List.zip_cons_cons])
          refine ⟨by simp only [lstOf, pg0]; rfl, _, pg0, by rw [nats_len]; omega, ?_⟩
          rw [ps0]
          refine yes ?_ _ _ _
          rw [bne, hxx]; rfl
    · rintro env ph2 ⟨a, b, c9, rfl, rfl⟩
      refine ⟨rfl, ?_⟩
      rw [enumL_len, List.length_map]
      have ol := openL_len (rs := rs) (B := B) (G := G) (j := rs.length)
      obtain ⟨s, hs⟩ : ∃ s, s = openL rs B G rs.length := ⟨_, rfl⟩
      rw [← hs] at ol ⊢
      have sm : ∀ k ∈ s, k < rs.length ∧ k ∉ G ∧ ((decide ((rd rs k).1 ∈ B)) != (decide ((rd rs k).2 ∈ B))) = true := fun k hk => by
        rw [hs, openL, List.mem_filter, Bool.and_eq_true, Bool.not_eq_true', decide_eq_false_iff_not] at hk
        exact ⟨List.mem_range.mp hk.1, hk.2.1, hk.2.2⟩
      have sn : s = [] → ∀ k, k < rs.length → k ∉ G → ((rd rs k).1 ∈ B ↔ (rd rs k).2 ∈ B) := fun h k hk hkG => by
        refine Classical.byContradiction fun hne => ?_
        have : k ∈ s := by
          rw [hs, openL, List.mem_filter]
          refine ⟨List.mem_range.mpr hk, ?_⟩
          rw [decide_eq_false hkG]
          by_cases h1 : (rd rs k).1 ∈ B <;> by_cases h2 : (rd rs k).2 ∈ B <;> simp [h1, h2] at hne ⊢
        rw [h] at this; cases this
      (try simp only [bindT, bindTs, wpB, wpS, wpE, wpEs, wpO, wpC, wpIs, wpMs, ex_some, ex_some1, ex_bl, ex_int, ex_tup, List.getElem?_cons_zero, List.getElem?_cons_succ, List.set_cons_zero, List.set_cons_succ, List.length_cons, List.length_nil, Atom.pv, add_i, sub_i, mul_i, mod_i, fdiv_i, pow_i, lt_i, le_i, gt_i, ge_i, eq_, ne_, in_e, nin_e, is_n, isnot_n, idx_tup, idx_lst, eqP_int, eqP_str, atI_0, atI_1, atI_2, ixN_0, ixN_1, ixN_2, decide_eq_true_eq, Bool.not_true, Bool.not_false, if_true, Bool.false_eq_true, if_false, setSl, len_lst, len_tup, int_i, int_bl, abs_i, min_i, max_i, tup_t, tup_l, newL_F, newL_T, List.map_cons, List.map_nil, List.append_nil, List.nil_append, List.cons_append, Nat.reduceAdd, Nat.reduceSub, List.replicate_succ, List.replicate_zero, retF, retXF, RL.add_ll, RL.add_t, RL.sl_tup, RL.sl_lst, RL.sl_scr, RL.mul_t, RL.str_int, List.zip_nil_left, List.zip_cons_cons])
      refine ⟨by omega, eq_rnil pg0 ?_⟩
      have hPz : ∀ z, P ++ z = ph ++ (.lst (natsPV B) :: .lst (natsPV G) :: .lst (natsPV T) :: .lst ((tab n c).map .int) :: .lst ((tab n d).map .int) :: (zs ++ z)) := fun z => by rw [hP]; simp
      by_cases hnil : s = []
      · rw [decide_eq_true hnil]
        (try simp only [bindT, bindTs, wpB, wpS, wpE, wpEs, wpO, wpC, wpIs, wpMs, ex_some, ex_some1, ex_bl, ex_int, ex_tup, List.getElem?_cons_zero, List.getElem?_cons_succ, List.set_cons_zero, List.set_cons_succ, List.length_cons, List.length_nil, Atom.pv, add_i, sub_i, mul_i, mod_i, fdiv_i, pow_i, lt_i, le_i, gt_i, ge_i, eq_, ne_, in_e, nin_e, is_n, isnot_n, idx_tup, idx_lst, eqP_int, eqP_str, atI_0, atI_1, atI_2, ixN_0, ixN_1, ixN_2, decide_eq_true_eq, Bool.not_true, Bool.not_false, if_true, Bool.false_eq_true, if_false, setSl, len_lst, len_tup, int_i, int_bl, abs_i, min_i, max_i, tup_t, tup_l, newL_F, newL_T, List.map_cons, List.map_nil, List.append_nil, List.nil_append, List.cons_append, Nat.reduceAdd, Nat.reduceSub, List.replicate_succ, List.replicate_zero, retF, retXF, RL.add_ll, RL.add_t, RL.sl_tup, RL.sl_lst, RL.sl_scr, RL.mul_t, RL.str_int, List.zip_nil_left, List.zip_cons_cons])
        rw [hPz]
        exact finB B G T c d _ fs (sn hnil) (by omega) (by omega) (by omega) db
      · rw [decide_eq_false hnil]
        (try simp only [bindT, bindTs, wpB, wpS, wpE, wpEs, wpO, wpC, wpIs, wpMs, ex_some, ex_some1, ex_bl, ex_int, ex_tup, List.getElem?_cons_zero, List.getElem?_cons_succ, List.set_cons_zero, List.set_cons_succ, List.length_cons, List.length_nil, Atom.pv, add_i, sub_i, mul_i, mod_i, fdiv_i, pow_i, lt_i, le_i, gt_i, ge_i, eq_, ne_, in_e, nin_e, is_n, isnot_n, idx_tup, idx_lst, eqP_int, eqP_str, atI_0, atI_1, atI_2, ixN_0, ixN_1, ixN_2, decide_eq_true_eq, Bool.not_true, Bool.not_false, if_true, Bool.false_eq_true, if_false, setSl, len_lst, len_tup, int_i, int_bl, abs_i, min_i, max_i, tup_t, tup_l, newL_F, newL_T, List.map_cons, List.map_nil, List.append_nil, List.nil_append, List.cons_append, Nat.reduceAdd, Nat.reduceSub, List.replicate_succ, List.replicate_zero, retF, retXF, RL.add_ll, RL.add_t, RL.sl_tup, RL.sl_lst, RL.sl_scr, RL.mul_t, RL.str_int, List.zip_nil_left, List.zip_cons_cons])
        have s1 : natsPV s ≠ [] := fun e => hnil (List.map_eq_nil_iff.mp e)
        obtain ⟨w, hw, hwm⟩ := atI_neg1 s1
        obtain ⟨k, hk, rfl⟩ := List.mem_map.mp hwm
        obtain ⟨hkl, hkG, hkx⟩ := sm k hk
        rw [idx_ref pg0]
        refine ⟨_, hw, by simp, ?_⟩
        rw [hPz]
        (try simp only [RL.idx_town0, RL.idx_town1, bindT, bindTs, wpB, wpS, wpE, wpEs, wpO, wpC, wpIs, wpMs, ex_some, ex_some1, ex_bl, ex_int, ex_tup, List.getElem?_cons_zero, List.getElem?_cons_succ, List.set_cons_zero, List.set_cons_succ, List.length_cons, List.length_nil, Atom.pv, add_i, sub_i, mul_i, mod_i, fdiv_i, pow_i, lt_i, le_i, gt_i, ge_i, eq_, ne_, in_e, nin_e, is_n, isnot_n, idx_tup, idx_lst, eqP_int, eqP_str, atI_0, atI_1, atI_2, ixN_0, ixN_1, ixN_2, decide_eq_true_eq, Bool.not_true, Bool.not_false, if_true, Bool.false_eq_true, if_false, setSl, len_lst, len_tup, int_i, int_bl, abs_i, min_i, max_i, tup_t, tup_l, newL_F, newL_T, List.map_cons, List.map_nil, List.append_nil, List.nil_append, List.cons_append, Nat.reduceAdd, Nat.reduceSub, List.replicate_succ, List.replicate_zero, retF, retXF, RL.add_ll, RL.add_t, RL.sl_tup, RL.sl_lst, RL.sl_scr, RL.mul_t, RL.str_int, List.zip_nil_left, List.zip_cons_cons])
        refine ⟨_, atI_nat (by rw [List.getElem?_map, rd_get hkl]; rfl), _, rfl, rfl, ?_⟩
        (try simp only [bindT, bindTs, wpB, wpS, wpE, wpEs, wpO, wpC, wpIs, wpMs, ex_some, ex_some1, ex_bl, ex_int, ex_tup, List.getElem?_cons_zero, List.getElem?_cons_succ, List.set_cons_zero, List.set_cons_succ, List.length_cons, List.length_nil, Atom.pv, add_i, sub_i, mul_i, mod_i, fdiv_i, pow_i, lt_i, le_i, gt_i, ge_i, eq_, ne_, in_e, nin_e, is_n, isnot_n, idx_tup, idx_lst, eqP_int, eqP_str, atI_0, atI_1, atI_2, ixN_0, ixN_1, ixN_2, decide_eq_true_eq, Bool.not_true, Bool.not_false, if_true, Bool.false_eq_true, if_false, setSl, len_lst, len_tup, int_i, int_bl, abs_i, min_i, max_i, tup_t, tup_l, newL_F, newL_T, List.map_cons, List.map_nil, List.append_nil, List.nil_append, List.cons_append, Nat.reduceAdd, Nat.reduceSub, List.replicate_succ, List.replicate_zero, retF, retXF, RL.add_ll, RL.add_t, RL.sl_tup, RL.sl_lst, RL.sl_scr, RL.mul_t, RL.str_int, List.zip_nil_left, List.zip_cons_cons])
        refine ⟨by simp, by simp, ?_⟩
        have hin := hr _ (rd_mem hkl)
        obtain ⟨r1, hr1⟩ : ∃ r1, r1 = (rd rs k).1 := ⟨_, rfl⟩
        obtain ⟨r2, hr2⟩ : ∃ r2, r2 = (rd rs k).2 := ⟨_, rfl⟩
        rw [← hr1, ← hr2] at hin hkx ⊢
        have er : rd rs k = (r1, r2) := by rw [hr1, hr2]
        (try simp only [bindT, bindTs, wpB, wpS, wpE, wpEs, wpO, wpC, wpIs, wpMs, ex_some, ex_some1, ex_bl, ex_int, ex_tup, List.getElem?_cons_zero, List.getElem?_cons_succ, List.set_cons_zero, List.set_cons_succ, List.length_cons, List.length_nil, Atom.pv, add_i, sub_i, mul_i, mod_i, fdiv_i, pow_i, lt_i, le_i, gt_i, ge_i, eq_, ne_, in_e, nin_e, is_n, isnot_n, idx_tup, idx_lst, eqP_int, eqP_str, atI_0, atI_1, atI_2, ixN_0, ixN_1, ixN_2, decide_eq_true_eq, Bool.not_true, Bool.not_false, if_true, Bool.false_eq_true, if_false, setSl, len_lst, len_tup, int_i, int_bl, abs_i, min_i, max_i, tup_t, tup_l, newL_F, newL_T, List.map_cons, List.map_nil, List.append_nil, List.nil_append, List.cons_append, Nat.reduceAdd, Nat.reduceSub, List.replicate_succ, List.replicate_zero, retF, retXF, RL.add_ll, RL.add_t, RL.sl_tup, RL.sl_lst, RL.sl_scr, RL.mul_t, RL.str_int, List.zip_nil_left, List.zip_cons_cons])
        refine in_rnats pg0 ?_
        by_cases hb1 : r1 ∈ B
        · have hb2 : r2 ∉ B := fun hb2 => by rw [decide_eq_true hb1, decide_eq_true hb2] at hkx; cases hkx
          rw [decide_eq_true hb1]
          (try simp only [bindT, bindTs, wpB, wpS, wpE, wpEs, wpO, wpC, wpIs, wpMs, ex_some, ex_some1, ex_bl, ex_int, ex_tup, List.getElem?_cons_zero, List.getElem?_cons_succ, List.set_cons_zero, List.set_cons_succ, List.length_cons, List.length_nil, Atom.pv, add_i, sub_i, mul_i, mod_i, fdiv_i, pow_i, lt_i, le_i, gt_i, ge_i, eq_, ne_, in_e, nin_e, is_n, isnot_n, idx_tup, idx_lst, eqP_int, eqP_str, atI_0, atI_1, atI_2, ixN_0, ixN_1, ixN_2, decide_eq_true_eq, Bool.not_true, Bool.not_false, if_true, Bool.false_eq_true, if_false, setSl, len_lst, len_tup, int_i, int_bl, abs_i, min_i, max_i, tup_t, tup_l, newL_F, newL_T, List.map_cons, List.map_nil, List.append_nil, List.nil_append, List.cons_append, Nat.reduceAdd, Nat.reduceSub, List.replicate_succ, List.replicate_zero, retF, retXF, RL.add_ll, RL.add_t, RL.sl_tup, RL.sl_lst, RL.sl_scr, RL.mul_t, RL.str_int, List.zip_nil_left, List.zip_cons_cons])
          refine ⟨by simp, by simp only [lstOf, pg1]; rfl, _, pg1, by rw [nats_len]; omega, ?_⟩
          rw [ps1, show natsPV G ++ [PV.int (k : Int)] = natsPV (G ++ [k]) by simp [natsPV]]
          dsimp only
          rw [idx_ref pg3]
          refine ⟨_, atI_tab hin.2, ?_⟩
          (try simp only [bindT, bindTs, wpB, wpS, wpE, wpEs, wpO, wpC, wpIs, wpMs, ex_some, ex_some1, ex_bl, ex_int, ex_tup, List.getElem?_cons_zero, List.getElem?_cons_succ, List.set_cons_zero, List.set_cons_succ, List.length_cons, List.length_nil, Atom.pv, add_i, sub_i, mul_i, mod_i, fdiv_i, pow_i, lt_i, le_i, gt_i, ge_i, eq_, ne_, in_e, nin_e, is_n, isnot_n, idx_tup, idx_lst, eqP_int, eqP_str, atI_0, atI_1, atI_2, ixN_0, ixN_1, ixN_2, decide_eq_true_eq, Bool.not_true, Bool.not_false, if_true, Bool.false_eq_true, if_false, setSl, len_lst, len_tup, int_i, int_bl, abs_i, min_i, max_i, tup_t, tup_l, newL_F, newL_T, List.map_cons, List.map_nil, List.append_nil, List.nil_append, List.cons_append, Nat.reduceAdd, Nat.reduceSub, List.replicate_succ, List.replicate_zero, retF, retXF, RL.add_ll, RL.add_t, RL.sl_tup, RL.sl_lst, RL.sl_scr, RL.mul_t, RL.str_int, List.zip_nil_left, List.zip_cons_cons])
          rw [seti_ref pg3]
          refine ⟨r2, ixN_nat (by rw [List.length_map, tab_len]; exact hin.2), ?_⟩
          rw [ps3, set_int, tab_set hin.2]
          have st := fs.step hkl hkG hin.2 hb2 hb1 (.inr er)
          have db2 : ∀ v, v < n → 0 ≤ (if v = r2 then c r2 + 1 - 1 else d v) ∧ (if v = r2 then c r2 + 1 - 1 else d v) ≤ 100 := fun v hv => by
            have b1 := db v hv
            have b2 := cb r2 hin.2
            split <;> omega
          have cb2 : ∀ v, v < n → 0 ≤ (if v = r2 then c r2 + 1 else c v) ∧ (if v = r2 then c r2 + 1 else c v) ≤ ((j0 + 1 : Nat) : Int) := fun v hv => by
            have b1 := cb v hv
            have b2 := cb r2 hin.2
            split <;> omega
          (try simp only [bindT, bindTs, wpB, wpS, wpE, wpEs, wpO, wpC, wpIs, wpMs, ex_some, ex_some1, ex_bl, ex_int, ex_tup, List.getElem?_cons_zero, List.getElem?_cons_succ, List.set_cons_zero, List.set_cons_succ, List.length_cons, List.length_nil, Atom.pv, add_i, sub_i, mul_i, mod_i, fdiv_i, pow_i, lt_i, le_i, gt_i, ge_i, eq_, ne_, in_e, nin_e, is_n, isnot_n, idx_tup, idx_lst, eqP_int, eqP_str, atI_0, atI_1, atI_2, ixN_0, ixN_1, ixN_2, decide_eq_true_eq, Bool.not_true, Bool.not_false, if_true, Bool.false_eq_true, if_false, setSl, len_lst, len_tup, int_i, int_bl, abs_i, min_i, max_i, tup_t, tup_l, newL_F, newL_T, List.map_cons, List.map_nil, List.append_nil, List.nil_append, List.cons_append, Nat.reduceAdd, Nat.reduceSub, List.replicate_succ, List.replicate_zero, retF, retXF, RL.add_ll, RL.add_t, RL.sl_tup, RL.sl_lst, RL.sl_scr, RL.mul_t, RL.str_int, List.zip_nil_left, List.zip_cons_cons])
          rw [show RL.isNon PV.non = true from rfl]
          (try simp only [bindT, bindTs, wpB, wpS, wpE, wpEs, wpO, wpC, wpIs, wpMs, ex_some, ex_some1, ex_bl, ex_int, ex_tup, List.getElem?_cons_zero, List.getElem?_cons_succ, List.set_cons_zero, List.set_cons_succ, List.length_cons, List.length_nil, Atom.pv, add_i, sub_i, mul_i, mod_i, fdiv_i, pow_i, lt_i, le_i, gt_i, ge_i, eq_, ne_, in_e, nin_e, is_n, isnot_n, idx_tup, idx_lst, eqP_int, eqP_str, atI_0, atI_1, atI_2, ixN_0, ixN_1, ixN_2, decide_eq_true_eq, Bool.not_true, Bool.not_false, if_true, Bool.false_eq_true, if_false, setSl, len_lst, len_tup, int_i, int_bl, abs_i, min_i, max_i, tup_t, tup_l, newL_F, newL_T, List.map_cons, List.map_nil, List.append_nil, List.nil_append, List.cons_append, Nat.reduceAdd, Nat.reduceSub, List.replicate_succ, List.replicate_zero, retF, retXF, RL.add_ll, RL.add_t, RL.sl_tup, RL.sl_lst, RL.sl_scr, RL.mul_t, RL.str_int, List.zip_nil_left, List.zip_cons_cons])
          rw [idx_ref pg3]
          refine ⟨_, atI_tab hin.2, ?_⟩
          rw [if_pos rfl]
          simp only [pursePV, bindT, bindTs, wpB, wpS, wpE, wpEs, wpO, wpC, wpIs, wpMs, ex_some, ex_some1, ex_bl, ex_int, ex_tup, List.getElem?_cons_zero, List.getElem?_cons_succ, List.set_cons_zero, List.set_cons_succ, List.length_cons, List.length_nil, Atom.pv, add_i, sub_i, mul_i, mod_i, fdiv_i, pow_i, lt_i, le_i, gt_i, ge_i, eq_, ne_, in_e, nin_e, is_n, isnot_n, idx_tup, idx_lst, eqP_int, eqP_str, atI_0, atI_1, atI_2, ixN_0, ixN_1, ixN_2, decide_eq_true_eq, Bool.not_true, Bool.not_false, if_true, Bool.false_eq_true, if_false, setSl, len_lst, len_tup, int_i, int_bl, abs_i, min_i, max_i, tup_t, tup_l, newL_F, newL_T, List.map_cons, List.map_nil, List.append_nil, List.nil_append, List.cons_append, Nat.reduceAdd, Nat.reduceSub, List.replicate_succ, List.replicate_zero, retF, retXF, RL.add_ll, RL.add_t, RL.sl_tup, RL.sl_lst, RL.sl_scr, RL.mul_t, RL.str_int, List.zip_nil_left, List.zip_cons_cons]
          refine ⟨_, atI_nth (by omega), ?_⟩
          (try simp only [bindT, bindTs, wpB, wpS, wpE, wpEs, wpO, wpC, wpIs, wpMs, ex_some, ex_some1, ex_bl, ex_int, ex_tup, List.getElem?_cons_zero, List.getElem?_cons_succ, List.set_cons_zero, List.set_cons_succ, List.length_cons, List.length_nil, Atom.pv, add_i, sub_i, mul_i, mod_i, fdiv_i, pow_i, lt_i, le_i, gt_i, ge_i, eq_, ne_, in_e, nin_e, is_n, isnot_n, idx_tup, idx_lst, eqP_int, eqP_str, atI_0, atI_1, atI_2, ixN_0, ixN_1, ixN_2, decide_eq_true_eq, Bool.not_true, Bool.not_false, if_true, Bool.false_eq_true, if_false, setSl, len_lst, len_tup, int_i, int_bl, abs_i, min_i, max_i, tup_t, tup_l, newL_F, newL_T, List.map_cons, List.map_nil, List.append_nil, List.nil_append, List.cons_append, Nat.reduceAdd, Nat.reduceSub, List.replicate_succ, List.replicate_zero, retF, retXF, RL.add_ll, RL.add_t, RL.sl_tup, RL.sl_lst, RL.sl_scr, RL.mul_t, RL.str_int, List.zip_nil_left, List.zip_cons_cons])
          by_cases hf : nth p r2 < c r2 + 1
          · rw [if_pos hf]
            refine ⟨by simp only [lstOf, pg0]; rfl, _, pg0, by rw [nats_len]; omega, ?_⟩
            rw [ps0, show natsPV B ++ [PV.int (r2 : Int)] = natsPV (B ++ [r2]) by simp [natsPV]]
            dsimp only
            refine ⟨by simp only [lstOf, pg2]; rfl, _, pg2, by rw [nats_len]; omega, ?_⟩
            rw [ps2, show natsPV T ++ [PV.int (k : Int)] = natsPV (T ++ [k]) by simp [natsPV]]
            dsimp only
            rw [idx_ref pg3]
            refine ⟨_, atI_tab hin.2, ?_⟩
            rw [if_pos rfl]
            (try simp only [bindT, bindTs, wpB, wpS, wpE, wpEs, wpO, wpC, wpIs, wpMs, ex_some, ex_some1, ex_bl, ex_int, ex_tup, List.getElem?_cons_zero, List.getElem?_cons_succ, List.set_cons_zero, List.set_cons_succ, List.length_cons, List.length_nil, Atom.pv, add_i, sub_i, mul_i, mod_i, fdiv_i, pow_i, lt_i, le_i, gt_i, ge_i, eq_, ne_, in_e, nin_e, is_n, isnot_n, idx_tup, idx_lst, eqP_int, eqP_str, atI_0, atI_1, atI_2, ixN_0, ixN_1, ixN_2, decide_eq_true_eq, Bool.not_true, Bool.not_false, if_true, Bool.false_eq_true, if_false, setSl, len_lst, len_tup, int_i, int_bl, abs_i, min_i, max_i, tup_t, tup_l, newL_F, newL_T, List.map_cons, List.map_nil, List.append_nil, List.nil_append, List.cons_append, Nat.reduceAdd, Nat.reduceSub, List.replicate_succ, List.replicate_zero, retF, retXF, RL.add_ll, RL.add_t, RL.sl_tup, RL.sl_lst, RL.sl_scr, RL.mul_t, RL.str_int, List.zip_nil_left, List.zip_cons_cons])
            rw [seti_ref pg4]
            refine ⟨r2, ixN_nat (by rw [List.length_map, tab_len]; exact hin.2), ?_⟩
            rw [ps4, set_int, tab_set hin.2]
            exact hM _ _ ⟨_, _, _, _, _, _, _, _, _, _, _, _, st.1 hf, by simp [Gl], by simp; omega, by simp; omega, cb2, db2, rfl, rfl⟩
          · rw [if_neg hf]
            exact hM _ _ ⟨_, _, _, _, _, _, _, _, _, _, _, _, st.2 hf, by simp [Gl], by omega, by omega, cb2, db, rfl, rfl⟩
        · have hb2 : r2 ∈ B := Classical.byContradiction fun hb2 => by rw [decide_eq_false hb1, decide_eq_false hb2] at hkx; cases hkx
          rw [decide_eq_false hb1]
          (try simp only [bindT, bindTs, wpB, wpS, wpE, wpEs, wpO, wpC, wpIs, wpMs, ex_some, ex_some1, ex_bl, ex_int, ex_tup, List.getElem?_cons_zero, List.getElem?_cons_succ, List.set_cons_zero, List.set_cons_succ, List.length_cons, List.length_nil, Atom.pv, add_i, sub_i, mul_i, mod_i, fdiv_i, pow_i, lt_i, le_i, gt_i, ge_i, eq_, ne_, in_e, nin_e, is_n, isnot_n, idx_tup, idx_lst, eqP_int, eqP_str, atI_0, atI_1, atI_2, ixN_0, ixN_1, ixN_2, decide_eq_true_eq, Bool.not_true, Bool.not_false, if_true, Bool.false_eq_true, if_false, setSl, len_lst, len_tup, int_i, int_bl, abs_i, min_i, max_i, tup_t, tup_l, newL_F, newL_T, List.map_cons, List.map_nil, List.append_nil, List.nil_append, List.cons_append, Nat.reduceAdd, Nat.reduceSub, List.replicate_succ, List.replicate_zero, retF, retXF, RL.add_ll, RL.add_t, RL.sl_tup, RL.sl_lst, RL.sl_scr, RL.mul_t, RL.str_int, List.zip_nil_left, List.zip_cons_cons])
          refine ⟨by simp, by simp only [lstOf, pg1]; rfl, _, pg1, by rw [nats_len]; omega, ?_⟩
          rw [ps1, show natsPV G ++ [PV.int (k : Int)] = natsPV (G ++ [k]) by simp [natsPV]]
          dsimp only
          rw [idx_ref pg3]
          refine ⟨_, atI_tab hin.1, ?_⟩
          (try simp only [bindT, bindTs, wpB, wpS, wpE, wpEs, wpO, wpC, wpIs, wpMs, ex_some, ex_some1, ex_bl, ex_int, ex_tup, List.getElem?_cons_zero, List.getElem?_cons_succ, List.set_cons_zero, List.set_cons_succ, List.length_cons, List.length_nil, Atom.pv, add_i, sub_i, mul_i, mod_i, fdiv_i, pow_i, lt_i, le_i, gt_i, ge_i, eq_, ne_, in_e, nin_e, is_n, isnot_n, idx_tup, idx_lst, eqP_int, eqP_str, atI_0, atI_1, atI_2, ixN_0, ixN_1, ixN_2, decide_eq_true_eq, Bool.not_true, Bool.not_false, if_true, Bool.false_eq_true, if_false, setSl, len_lst, len_tup, int_i, int_bl, abs_i, min_i, max_i, tup_t, tup_l, newL_F, newL_T, List.map_cons, List.map_nil, List.append_nil, List.nil_append, List.cons_append, Nat.reduceAdd, Nat.reduceSub, List.replicate_succ, List.replicate_zero, retF, retXF, RL.add_ll, RL.add_t, RL.sl_tup, RL.sl_lst, RL.sl_scr, RL.mul_t, RL.str_int, List.zip_nil_left, List.zip_cons_cons])
          rw [seti_ref pg3]
          refine ⟨r1, ixN_nat (by rw [List.length_map, tab_len]; exact hin.1), ?_⟩
          rw [ps3, set_int, tab_set hin.1]
          have st := fs.step hkl hkG hin.1 hb1 hb2 (.inl er)
          have db2 : ∀ v, v < n → 0 ≤ (if v = r1 then c r1 + 1 - 1 else d v) ∧ (if v = r1 then c r1 + 1 - 1 else d v) ≤ 100 := fun v hv => by
            have b1 := db v hv
            have b2 := cb r1 hin.1
            split <;> omega
          have cb2 : ∀ v, v < n → 0 ≤ (if v = r1 then c r1 + 1 else c v) ∧ (if v = r1 then c r1 + 1 else c v) ≤ ((j0 + 1 : Nat) : Int) := fun v hv => by
            have b1 := cb v hv
            have b2 := cb r1 hin.1
            split <;> omega
          (try simp only [bindT, bindTs, wpB, wpS, wpE, wpEs, wpO, wpC, wpIs, wpMs, ex_some, ex_some1, ex_bl, ex_int, ex_tup, List.getElem?_cons_zero, List.getElem?_cons_succ, List.set_cons_zero, List.set_cons_succ, List.length_cons, List.length_nil, Atom.pv, add_i, sub_i, mul_i, mod_i, fdiv_i, pow_i, lt_i, le_i, gt_i, ge_i, eq_, ne_, in_e, nin_e, is_n, isnot_n, idx_tup, idx_lst, eqP_int, eqP_str, atI_0, atI_1, atI_2, ixN_0, ixN_1, ixN_2, decide_eq_true_eq, Bool.not_true, Bool.not_false, if_true, Bool.false_eq_true, if_false, setSl, len_lst, len_tup, int_i, int_bl, abs_i, min_i, max_i, tup_t, tup_l, newL_F, newL_T, List.map_cons, List.map_nil, List.append_nil, List.nil_append, List.cons_append, Nat.reduceAdd, Nat.reduceSub, List.replicate_succ, List.replicate_zero, retF, retXF, RL.add_ll, RL.add_t, RL.sl_tup, RL.sl_lst, RL.sl_scr, RL.mul_t, RL.str_int, List.zip_nil_left, List.zip_cons_cons])
          rw [show RL.isNon PV.non = true from rfl]
          (try simp only [bindT, bindTs, wpB, wpS, wpE, wpEs, wpO, wpC, wpIs, wpMs, ex_some, ex_some1, ex_bl, ex_int, ex_tup, List.getElem?_cons_zero, List.getElem?_cons_succ, List.set_cons_zero, List.set_cons_succ, List.length_cons, List.length_nil, Atom.pv, add_i, sub_i, mul_i, mod_i, fdiv_i, pow_i, lt_i, le_i, gt_i, ge_i, eq_, ne_, in_e, nin_e, is_n, isnot_n, idx_tup, idx_lst, eqP_int, eqP_str, atI_0, atI_1, atI_2, ixN_0, ixN_1, ixN_2, decide_eq_true_eq, Bool.not_true, Bool.not_false, if_true, Bool.false_eq_true, if_false, setSl, len_lst, len_tup, int_i, int_bl, abs_i, min_i, max_i, tup_t, tup_l, newL_F, newL_T, List.map_cons, List.map_nil, List.append_nil, List.nil_append, List.cons_append, Nat.reduceAdd, Nat.reduceSub, List.replicate_succ, List.replicate_zero, retF, retXF, RL.add_ll, RL.add_t, RL.sl_tup, RL.sl_lst, RL.sl_scr, RL.mul_t, RL.str_int, List.zip_nil_left, List.zip_cons_cons])
          rw [idx_ref pg3]
          refine ⟨_, atI_tab hin.1, ?_⟩
          rw [if_pos rfl]
          simp only [pursePV, bindT, bindTs, wpB, wpS, wpE, wpEs, wpO, wpC, wpIs, wpMs, ex_some, ex_some1, ex_bl, ex_int, ex_tup, List.getElem?_cons_zero, List.getElem?_cons_succ, List.set_cons_zero, List.set_cons_succ, List.length_cons, List.length_nil, Atom.pv, add_i, sub_i, mul_i, mod_i, fdiv_i, pow_i, lt_i, le_i, gt_i, ge_i, eq_, ne_, in_e, nin_e, is_n, isnot_n, idx_tup, idx_lst, eqP_int, eqP_str, atI_0, atI_1, atI_2, ixN_0, ixN_1, ixN_2, decide_eq_true_eq, Bool.not_true, Bool.not_false, if_true, Bool.false_eq_true, if_false, setSl, len_lst, len_tup, int_i, int_bl, abs_i, min_i, max_i, tup_t, tup_l, newL_F, newL_T, List.map_cons, List.map_nil, List.append_nil, List.nil_append, List.cons_append, Nat.reduceAdd, Nat.reduceSub, List.replicate_succ, List.replicate_zero, retF, retXF, RL.add_ll, RL.add_t, RL.sl_tup, RL.sl_lst, RL.sl_scr, RL.mul_t, RL.str_int, List.zip_nil_left, List.zip_cons_cons]
          refine ⟨_, atI_nth (by omega), ?_⟩
          (try simp only [bindT, bindTs, wpB, wpS, wpE, wpEs, wpO, wpC, wpIs, wpMs, ex_some, ex_some1, ex_bl, ex_int, ex_tup, List.getElem?_cons_zero, List.getElem?_cons_succ, List.set_cons_zero, List.set_cons_succ, List.length_cons, List.length_nil, Atom.pv, add_i, sub_i, mul_i, mod_i, fdiv_i, pow_i, lt_i, le_i, gt_i, ge_i, eq_, ne_, in_e, nin_e, is_n, isnot_n, idx_tup, idx_lst, eqP_int, eqP_str, atI_0, atI_1, atI_2, ixN_0, ixN_1, ixN_2, decide_eq_true_eq, Bool.not_true, Bool.not_false, if_true, Bool.false_eq_true, if_false, setSl, len_lst, len_tup, int_i, int_bl, abs_i, min_i, max_i, tup_t, tup_l, newL_F, newL_T, List.map_cons, List.map_nil, List.append_nil, List.nil_append, List.cons_append, Nat.reduceAdd, Nat.reduceSub, List.replicate_succ, List.replicate_zero, retF, retXF, RL.add_ll, RL.add_t, RL.sl_tup, RL.sl_lst, RL.sl_scr, RL.mul_t, RL.str_int, List.zip_nil_left, List.zip_cons_cons])
          by_cases hf : nth p r1 < c r1 + 1
          · rw [if_pos hf]
            refine ⟨by simp only [lstOf, pg0]; rfl, _, pg0, by rw [nats_len]; omega, ?_⟩
            rw [ps0, show natsPV B ++ [PV.int (r1 : Int)] = natsPV (B ++ [r1]) by simp [natsPV]]
            dsimp only
            refine ⟨by simp only [lstOf, pg2]; rfl, _, pg2, by rw [nats_len]; omega, ?_⟩
            rw [ps2, show natsPV T ++ [PV.int (k : Int)] = natsPV (T ++ [k]) by simp [natsPV]]
            dsimp only
            rw [idx_ref pg3]
            refine ⟨_, atI_tab hin.1, ?_⟩
            rw [if_pos rfl]
            (try simp only [bindT, bindTs, wpB, wpS, wpE, wpEs, wpO, wpC, wpIs, wpMs, ex_some, ex_some1, ex_bl, ex_int, ex_tup, List.getElem?_cons_zero, List.getElem?_cons_succ, List.set_cons_zero, List.set_cons_succ, List.length_cons, List.length_nil, Atom.pv, add_i, sub_i, mul_i, mod_i, fdiv_i, pow_i, lt_i, le_i, gt_i, ge_i, eq_, ne_, in_e, nin_e, is_n, isnot_n, idx_tup, idx_lst, eqP_int, eqP_str, atI_0, atI_1, atI_2, ixN_0, ixN_1, ixN_2, decide_eq_true_eq, Bool.not_true, Bool.not_false, if_true, Bool.false_eq_true, if_false, setSl, len_lst, len_tup, int_i, int_bl, abs_i, min_i, max_i, tup_t, tup_l, newL_F, newL_T, List.map_cons, List.map_nil, List.append_nil, List.nil_append, List.cons_append, Nat.reduceAdd, Nat.reduceSub, List.replicate_succ, List.replicate_zero, retF, retXF, RL.add_ll, RL.add_t, RL.sl_tup, RL.sl_lst, RL.sl_scr, RL.mul_t, RL.str_int, List.zip_nil_left, List.zip_cons_cons])
            rw [seti_ref pg4]
            refine ⟨r1, ixN_nat (by rw [List.length_map, tab_len]; exact hin.1), ?_⟩
            rw [ps4, set_int, tab_set hin.1]
            exact hM _ _ ⟨_, _, _, _, _, _, _, _, _, _, _, _, st.1 hf, by simp [Gl], by simp; omega, by simp; omega, cb2, db2, rfl, rfl⟩
          · rw [if_neg hf]
            exact hM _ _ ⟨_, _, _, _, _, _, _, _, _, _, _, _, st.2 hf, by simp [Gl], by omega, by omega, cb2, db, rfl, rfl⟩
  · rintro env ph' ⟨B, G, T, c, d, zs, a4, a10, a11, a12, a13, a14, fs, Gl, Bl, Tl, cb, db, rfl, rfl⟩
    rw [rng0_len] at Gl Bl Tl
    refine ⟨it_n (by omega), ?_⟩
    (try simp only [bindT, bindTs, wpB, wpS, wpE, wpEs, wpO, wpC, wpIs, wpMs, ex_some, ex_some1, ex_bl, ex_int, ex_tup, List.getElem?_cons_zero, List.getElem?_cons_succ, List.set_cons_zero, List.set_cons_succ, List.length_cons, List.length_nil, Atom.pv, add_i, sub_i, mul_i, mod_i, fdiv_i, pow_i, lt_i, le_i, gt_i, ge_i, eq_, ne_, in_e, nin_e, is_n, isnot_n, idx_tup, idx_lst, eqP_int, eqP_str, atI_0, atI_1, atI_2, ixN_0, ixN_1, ixN_2, decide_eq_true_eq, Bool.not_true, Bool.not_false, if_true, Bool.false_eq_true, if_false, setSl, len_lst, len_tup, int_i, int_bl, abs_i, min_i, max_i, tup_t, tup_l, newL_F, newL_T, List.map_cons, List.map_nil, List.append_nil, List.nil_append, List.cons_append, Nat.reduceAdd, Nat.reduceSub, List.replicate_succ, List.replicate_zero, retF, retXF, RL.add_ll, RL.add_t, RL.sl_tup, RL.sl_lst, RL.sl_scr, RL.mul_t, RL.str_int, List.zip_nil_left, List.zip_cons_cons])
    refine finB B G T c d _ fs (fun k hk hkG => by
      exfalso
      have e1 := fs.all
      rw [Gl] at e1
      have e2 : (List.range rs.length).countP (fun k => decide (k ∈ G) && true) = (List.range rs.length).length := by rw [List.length_range]; exact e1
      have := List.countP_eq_length.mp e2 k (List.mem_range.mpr hk)
      simp at this
      exact hkG this) (by omega) (by omega) (by omega) db
theorem fireT_ok (i : is_law_fire pg f) {ph : PHp} {n root : Nat} {rs : List Rd2} {tr : List Nat} (hn : n ≤ 100) (hl : rs.length ≤ 100) (hr : In2 n rs)  (ho : root < n) 
    (q : ∀ (x y z : PV) (d : List Int), d.length = n → (∀ z ∈ d, 0 ≤ z ∧ z ≤ 100) → Q (.tup [x, y, pursePV d, z]) ph) : callK pg (k + 1) f [townPV n rs, .int root, .non, (.tup (natsPV tr))] ph Q X := by
  refine i.call rfl ?_
  have hsz := sz
  simp only [b_law_fire, RL.idx_town0, RL.idx_town1, bindT, bindTs, wpB, wpS, wpE, wpEs, wpO, wpC, wpIs, wpMs, ex_some, ex_some1, ex_bl, ex_int, ex_tup, List.getElem?_cons_zero, List.getElem?_cons_succ, List.set_cons_zero, List.set_cons_succ, List.length_cons, List.length_nil, Atom.pv, add_i, sub_i, mul_i, mod_i, fdiv_i, pow_i, lt_i, le_i, gt_i, ge_i, eq_, ne_, in_e, nin_e, is_n, isnot_n, idx_tup, idx_lst, eqP_int, eqP_str, atI_0, atI_1, atI_2, ixN_0, ixN_1, ixN_2, decide_eq_true_eq, Bool.not_true, Bool.not_false, if_true, Bool.false_eq_true, if_false, setSl, len_lst, len_tup, int_i, int_bl, abs_i, min_i, max_i, tup_t, tup_l, newL_F, newL_T, List.map_cons, List.map_nil, List.append_nil, List.nil_append, List.cons_append, Nat.reduceAdd, Nat.reduceSub, List.replicate_succ, List.replicate_zero, retF, retXF, RL.add_ll, RL.add_t, RL.sl_tup, RL.sl_lst, RL.sl_scr, RL.mul_t, RL.str_int, List.zip_nil_left, List.zip_cons_cons]
  (repeat (refine And.intro (by first | assumption | omega | (decide; done) | (exact mulOk_small (by omega) (by omega) (by omega) (by omega)) | (exact fdivOk (by omega) (by omega)) | (simp; done) | (simp; omega)) ?_))
  refine mul_l rfl (by omega) (by decide) (newL_t (by simp; omega) ?_)
  (try simp only [RL.idx_town0, RL.idx_town1, bindT, bindTs, wpB, wpS, wpE, wpEs, wpO, wpC, wpIs, wpMs, ex_some, ex_some1, ex_bl, ex_int, ex_tup, List.getElem?_cons_zero, List.getElem?_cons_succ, List.set_cons_zero, List.set_cons_succ, List.length_cons, List.length_nil, Atom.pv, add_i, sub_i, mul_i, mod_i, fdiv_i, pow_i, lt_i, le_i, gt_i, ge_i, eq_, ne_, in_e, nin_e, is_n, isnot_n, idx_tup, idx_lst, eqP_int, eqP_str, atI_0, atI_1, atI_2, ixN_0, ixN_1, ixN_2, decide_eq_true_eq, Bool.not_true, Bool.not_false, if_true, Bool.false_eq_true, if_false, setSl, len_lst, len_tup, int_i, int_bl, abs_i, min_i, max_i, tup_t, tup_l, newL_F, newL_T, List.map_cons, List.map_nil, List.append_nil, List.nil_append, List.cons_append, Nat.reduceAdd, Nat.reduceSub, List.replicate_succ, List.replicate_zero, retF, retXF, RL.add_ll, RL.add_t, RL.sl_tup, RL.sl_lst, RL.sl_scr, RL.mul_t, RL.str_int, List.zip_nil_left, List.zip_cons_cons])
  (repeat (refine And.intro (by first | assumption | omega | (decide; done) | (exact mulOk_small (by omega) (by omega) (by omega) (by omega)) | (exact fdivOk (by omega) (by omega)) | (simp; done) | (simp; omega)) ?_))
  refine mul_l rfl (by omega) (by decide) (newL_t (by simp; omega) ?_)
  rw [show ((n : Int)).toNat = n from Int.toNat_natCast n, tab_rep]
  simp only [List.append_assoc, List.cons_append, List.nil_append, List.length_append, List.length_cons, List.length_nil]
  (try simp only [RL.idx_town0, RL.idx_town1, bindT, bindTs, wpB, wpS, wpE, wpEs, wpO, wpC, wpIs, wpMs, ex_some, ex_some1, ex_bl, ex_int, ex_tup, List.getElem?_cons_zero, List.getElem?_cons_succ, List.set_cons_zero, List.set_cons_succ, List.length_cons, List.length_nil, Atom.pv, add_i, sub_i, mul_i, mod_i, fdiv_i, pow_i, lt_i, le_i, gt_i, ge_i, eq_, ne_, in_e, nin_e, is_n, isnot_n, idx_tup, idx_lst, eqP_int, eqP_str, atI_0, atI_1, atI_2, ixN_0, ixN_1, ixN_2, decide_eq_true_eq, Bool.not_true, Bool.not_false, if_true, Bool.false_eq_true, if_false, setSl, len_lst, len_tup, int_i, int_bl, abs_i, min_i, max_i, tup_t, tup_l, newL_F, newL_T, List.map_cons, List.map_nil, List.append_nil, List.nil_append, List.cons_append, Nat.reduceAdd, Nat.reduceSub, List.replicate_succ, List.replicate_zero, retF, retXF, RL.add_ll, RL.add_t, RL.sl_tup, RL.sl_lst, RL.sl_scr, RL.mul_t, RL.str_int, List.zip_nil_left, List.zip_cons_cons])
  rw [List.length_map]
  refine ⟨by omega, trivial, by simp, by simp, by simp, by simp, by simp, _, it_n (by omega), ?_⟩
  have finB : ∀ (B G T : List Nat) (c d : Nat → Int) (zs : PHp), True → B.length ≤ 200 → G.length ≤ 200 → T.length ≤ 200 → (∀ v, v < n → 0 ≤ d v ∧ d v ≤ 100) → biS .tuple false [.ref (ph.length + 1)] (ph ++ .lst (natsPV B) :: .lst (natsPV G) :: .lst (natsPV T) :: .lst ((tab n c).map .int) :: .lst ((tab n d).map .int) :: zs) fun x1 h1 => biS .sorted false [.ref (ph.length + 2)] h1 fun x2 h2 => biS .tuple false [x2] h2 fun x3 h3 => biS .tuple false [.ref (ph.length + 4)] h3 fun x4 h4 => 4 ≤ sizeLine ∧ retS true ph Q (.tup [x1, x3, x4, .ref ph.length]) h4 := fun B G T c d zs _ bl gl tl db => by
    rw [tup_r pg1]
    refine ⟨natsPV T, by simp only [lstOf, pg2], .inl ⟨T.map fun n : Nat => (n : Int), by rw [nats_ints]; exact intsOf_map _, ?_⟩⟩
    rw [newL_F]
    refine ⟨by rw [List.length_map, (List.mergeSort_perm ..).length_eq, List.length_map]; omega, ?_⟩
    rw [tup_l, tup_r pg4]
    refine ⟨by omega, ret_new (.tup (.cons (frz_old (.tup (old_nats _))) (.cons (frz_old (.tup (oldL_ints _))) (.cons (frz_old (.tup (oldL_ints _))) (.cons (.ref (Nat.le_refl _) pg0 (frzs_old (old_nats _))) .nil))))) ?_⟩
    exact q _ _ _ _ tab_len fun z hz => by obtain ⟨v, hv, rfl⟩ := tab_mem hz; exact db v hv
  refine forL_rule (fun j env ph' => ∃ (B G T : List Nat) (c d : Nat → Int) (zs : PHp) (a4 a10 a11 a12 a13 a14 : Option PV), True ∧ G.length = j ∧ B.length ≤ j + 1 ∧ T.length ≤ j ∧ (∀ v, v < n → 0 ≤ c v ∧ c v ≤ j) ∧ (∀ v, v < n → 0 ≤ d v ∧ d v ≤ 100) ∧ ph' = ph ++ .lst (natsPV B) :: .lst (natsPV G) :: .lst (natsPV T) :: .lst ((tab n c).map .int) :: .lst ((tab n d).map .int) :: zs ∧ env = [some (townPV n rs), some (.int root), some .non, some (.tup (natsPV tr)), a4, some (.ref ph.length), some (.ref (ph.length + 1)), some (.ref (ph.length + 2)), some (.ref (ph.length + 3)), some (.ref (ph.length + 4)), a10, a11, a12, a13, a14]) ?_ ?_ ⟨[root], [], [], fun _ => 0, fun _ => 0, [], _, _, _, _, _, _, trivial, rfl, by simp, by simp, fun v hv => ⟨by show (0 : Int) ≤ 0; omega, by show (0 : Int) ≤ _; omega⟩, fun v hv => ⟨by show (0 : Int) ≤ 0; omega, by show (0 : Int) ≤ 100; omega⟩, rfl, rfl⟩
  · rintro j0 v env ph' hv ⟨B, G, T, c, d, zs, a4, a10, a11, a12, a13, a14, fs, Gl, Bl, Tl, cb, db, rfl, rfl⟩
    obtain ⟨rfl, hj⟩ := rng0_get hv
    refine ⟨it_n (by omega), fun M hM => ⟨by simp, ?_⟩⟩
    (try simp only [RL.idx_town0, RL.idx_town1, bindT, bindTs, wpB, wpS, wpE, wpEs, wpO, wpC, wpIs, wpMs, ex_some, ex_some1, ex_bl, ex_int, ex_tup, List.getElem?_cons_zero, List.getElem?_cons_succ, List.set_cons_zero, List.set_cons_succ, List.length_cons, List.length_nil, Atom.pv, add_i, sub_i, mul_i, mod_i, fdiv_i, pow_i, lt_i, le_i, gt_i, ge_i, eq_, ne_, in_e, nin_e, is_n, isnot_n, idx_tup, idx_lst, eqP_int, eqP_str, atI_0, atI_1, atI_2, ixN_0, ixN_1, ixN_2, decide_eq_true_eq, Bool.not_true, Bool.not_false, if_true, Bool.false_eq_true, if_false, setSl, len_lst, len_tup, int_i, int_bl, abs_i, min_i, max_i, tup_t, tup_l, newL_F, newL_T, List.map_cons, List.map_nil, List.append_nil, List.nil_append, List.cons_append, Nat.reduceAdd, Nat.reduceSub, List.replicate_succ, List.replicate_zero, retF, retXF, RL.add_ll, RL.add_t, RL.sl_tup, RL.sl_lst, RL.sl_scr, RL.mul_t, RL.str_int, List.zip_nil_left, List.zip_cons_cons])
    obtain ⟨P, hP⟩ : ∃ P, P = ph ++ (.lst (natsPV B) :: .lst (natsPV G) :: .lst (natsPV T) :: .lst ((tab n c).map .int) :: .lst ((tab n d).map .int) :: zs) := ⟨_, rfl⟩
    have hB : ∀ z, (P ++ z)[ph.length]? = some (.lst (natsPV B)) := fun z => by
      rw [hP, List.append_assoc]; exact pg0
    have hG : ∀ z, (P ++ z)[ph.length + 1]? = some (.lst (natsPV G)) := fun z => by
      rw [hP, List.append_assoc]; exact pg1
    rw [← hP]
    refine ⟨by omega, by simp, _, rfl, ?_⟩
    refine forL_rule (fun j env ph2 => ∃ (a b c9 : Option PV), ph2 = P ++ [.lst (natsPV (openL rs B G j))] ∧ env = [some (townPV n rs), some (.int root), some .non, some (.tup (natsPV tr)), some (.int (j0 : Int)), some (.ref ph.length), some (.ref (ph.length + 1)), some (.ref (ph.length + 2)), some (.ref (ph.length + 3)), some (.ref (ph.length + 4)), some (.ref P.length), a, a12, b, c9]) ?_ ?_ ⟨_, _, _, by simp [openL, natsPV], rfl⟩
    · rintro j w env ph2 hw ⟨a, b, c9, rfl, rfl⟩
      obtain ⟨x, hx, rfl⟩ := enumL_at hw
      rw [List.getElem?_map, Option.map_eq_some_iff] at hx
      obtain ⟨r, hr', rfl⟩ := hx
      have hj := (List.getElem?_eq_some_iff.mp hr').1
      have er : rd rs j = r := by rw [rd_get hj] at hr'; exact Option.some.inj hr'
      have ol := openL_len (rs := rs) (B := B) (G := G) (j := j)
      refine ⟨rfl, fun M' hM' => ⟨_, rfl, rfl, by simp, _, rfl, rfl, by simp, by simp, ?_⟩⟩
      (try simp only [bindT, bindTs, wpB, wpS, wpE, wpEs, wpO, wpC, wpIs, wpMs, ex_some, ex_some1, ex_bl, ex_int, ex_tup, List.getElem?_cons_zero, List.getElem?_cons_succ, List.set_cons_zero, List.set_cons_succ, List.length_cons, List.length_nil, Atom.pv, add_i, sub_i, mul_i, mod_i, fdiv_i, pow_i, lt_i, le_i, gt_i, ge_i, eq_, ne_, in_e, nin_e, is_n, isnot_n, idx_tup, idx_lst, eqP_int, eqP_str, atI_0, atI_1, atI_2, ixN_0, ixN_1, ixN_2, decide_eq_true_eq, Bool.not_true, Bool.not_false, if_true, Bool.false_eq_true, if_false, setSl, len_lst, len_tup, int_i, int_bl, abs_i, min_i, max_i, tup_t, tup_l, newL_F, newL_T, List.map_cons, List.map_nil, List.append_nil, List.nil_append, List.cons_append, Nat.reduceAdd, Nat.reduceSub, List.replicate_succ, List.replicate_zero, retF, retXF, RL.add_ll, RL.add_t, RL.sl_tup, RL.sl_lst, RL.sl_scr, RL.mul_t, RL.str_int, List.zip_nil_left, List.zip_cons_cons])
      rw [show 0 + j = j by omega]
      have no : (!decide (j ∈ G) && (decide (r.1 ∈ B) != decide (r.2 ∈ B))) = false → ∀ (a b c9 : Option PV), M' [some (townPV n rs), some (.int root), some .non, some (.tup (natsPV tr)), some (.int (j0 : Int)), some (.ref ph.length), some (.ref (ph.length + 1)), some (.ref (ph.length + 2)), some (.ref (ph.length + 3)), some (.ref (ph.length + 4)), some (.ref P.length), a, a12, b, c9] (P ++ [.lst (natsPV (openL rs B G j))]) := fun h a b c9 => hM' _ _ ⟨a, b, c9, by rw [openL_succ, er, h]; simp, rfl⟩
      have yes : (!decide (j ∈ G) && (decide (r.1 ∈ B) != decide (r.2 ∈ B))) = true → ∀ (a b c9 : Option PV), M' [some (townPV n rs), some (.int root), some .non, some (.tup (natsPV tr)), some (.int (j0 : Int)), some (.ref ph.length), some (.ref (ph.length + 1)), some (.ref (ph.length + 2)), some (.ref (ph.length + 3)), some (.ref (ph.length + 4)), some (.ref P.length), a, a12, b, c9] (P ++ [.lst (natsPV (openL rs B G j) ++ [.int (j : Int)])]) := fun h a b c9 => hM' _ _ ⟨a, b, c9, by rw [openL_succ, er, h]; simp [natsPV], rfl⟩
      refine in_rnats (hG _) ?_
      by_cases hjG : j ∈ G
      · rw [decide_eq_true hjG] at no ⊢
        (try simp only [bindT, bindTs, wpB, wpS, wpE, wpEs, wpO, wpC, wpIs, wpMs, ex_some, ex_some1, ex_bl, ex_int, ex_tup, List.getElem?_cons_zero, List.getElem?_cons_succ, List.set_cons_zero, List.set_cons_succ, List.length_cons, List.length_nil, Atom.pv, add_i, sub_i, mul_i, mod_i, fdiv_i, pow_i, lt_i, le_i, gt_i, ge_i, eq_, ne_, in_e, nin_e, is_n, isnot_n, idx_tup, idx_lst, eqP_int, eqP_str, atI_0, atI_1, atI_2, ixN_0, ixN_1, ixN_2, decide_eq_true_eq, Bool.not_true, Bool.not_false, if_true, Bool.false_eq_true, if_false, setSl, len_lst, len_tup, int_i, int_bl, abs_i, min_i, max_i, tup_t, tup_l, newL_F, newL_T, List.map_cons, List.map_nil, List.append_nil, List.nil_append, List.cons_append, Nat.reduceAdd, Nat.reduceSub, List.replicate_succ, List.replicate_zero, retF, retXF, RL.add_ll, RL.add_t, RL.sl_tup, RL.sl_lst, RL.sl_scr, RL.mul_t, RL.str_int, List.zip_nil_left, List.zip_cons_cons])
        exact no rfl _ _ _
      · rw [decide_eq_false hjG] at no yes ⊢
        (try simp only [bindT, bindTs, wpB, wpS, wpE, wpEs, wpO, wpC, wpIs, wpMs, ex_some, ex_some1, ex_bl, ex_int, ex_tup, List.getElem?_cons_zero, List.getElem?_cons_succ, List.set_cons_zero, List.set_cons_succ, List.length_cons, List.length_nil, Atom.pv, add_i, sub_i, mul_i, mod_i, fdiv_i, pow_i, lt_i, le_i, gt_i, ge_i, eq_, ne_, in_e, nin_e, is_n, isnot_n, idx_tup, idx_lst, eqP_int, eqP_str, atI_0, atI_1, atI_2, ixN_0, ixN_1, ixN_2, decide_eq_true_eq, Bool.not_true, Bool.not_false, if_true, Bool.false_eq_true, if_false, setSl, len_lst, len_tup, int_i, int_bl, abs_i, min_i, max_i, tup_t, tup_l, newL_F, newL_T, List.map_cons, List.map_nil, List.append_nil, List.nil_append, List.cons_append, Nat.reduceAdd, Nat.reduceSub, List.replicate_succ, List.replicate_zero, retF, retXF, RL.add_ll, RL.add_t, RL.sl_tup, RL.sl_lst, RL.sl_scr, RL.mul_t, RL.str_int, List.zip_nil_left, List.zip_cons_cons])
        refine in_rnats (hB _) (in_rnats (hB _) (eqP_bl ?_))
        cases hxx : (decide (r.1 ∈ B) == decide (r.2 ∈ B)) with
        | true =>
          (try simp only [bindT, bindTs, wpB, wpS, wpE, wpEs, wpO, wpC, wpIs, wpMs, ex_some, ex_some1, ex_bl, ex_int, ex_tup, List.getElem?_cons_zero, List.getElem?_cons_succ, List.set_cons_zero, List.set_cons_succ, List.length_cons, List.length_nil, Atom.pv, add_i, sub_i, mul_i, mod_i, fdiv_i, pow_i, lt_i, le_i, gt_i, ge_i, eq_, ne_, in_e, nin_e, is_n, isnot_n, idx_tup, idx_lst, eqP_int, eqP_str, atI_0, atI_1, atI_2, ixN_0, ixN_1, ixN_2, decide_eq_true_eq, Bool.not_true, Bool.not_false, if_true, Bool.false_eq_true, if_false, setSl, len_lst, len_tup, int_i, int_bl, abs_i, min_i, max_i, tup_t, tup_l, newL_F, newL_T, List.map_cons, List.map_nil, List.append_nil, List.nil_append, List.cons_append, Nat.reduceAdd, Nat.reduceSub, List.replicate_succ, List.replicate_zero, retF, retXF, RL.add_ll, RL.add_t, RL.sl_tup, RL.sl_lst, RL.sl_scr, RL.mul_t, RL.str_int, List.zip_nil_left, List.zip_cons_cons])
          refine no ?_ _ _ _
          rw [bne, hxx]; rfl
        | false =>
          (try simp only [bindT, bindTs, wpB, wpS, wpE, wpEs, wpO, wpC, wpIs, wpMs, ex_some, ex_some1, ex_bl, ex_int, ex_tup, List.getElem?_cons_zero, List.getElem?_cons_succ, List.set_cons_zero, List.set_cons_succ, List.length_cons, List.length_nil, Atom.pv, add_i, sub_i, mul_i, mod_i, fdiv_i, pow_i, lt_i, le_i, gt_i, ge_i, eq_, ne_, in_e, nin_e, is_n, isnot_n, idx_tup, idx_lst, eqP_int, eqP_str, atI_0, atI_1, atI_2, ixN_0, ixN_1, ixN_2, decide_eq_true_eq, Bool.not_true, Bool.not_false, if_true, Bool.false_eq_true, if_false, setSl, len_lst, len_tup, int_i, int_bl, abs_i, min_i, max_i, tup_t, tup_l, newL_F, newL_T, List.map_cons, List.map_nil, List.append_nil, List.nil_append, List.cons_append, Nat.reduceAdd, Nat.reduceSub, List.replicate_succ, List.replicate_zero, retF, retXF, RL.add_ll, RL.add_t, RL.sl_tup, RL.sl_lst, RL.sl_scr, RL.mul_t, RL.str_int, List.zip_nil_left, List.zip_cons_cons])
          refine ⟨by simp only [lstOf, pg0]; rfl, _, pg0, by rw [nats_len]; omega, ?_⟩
          rw [ps0]
          refine yes ?_ _ _ _
          rw [bne, hxx]; rfl
    · rintro env ph2 ⟨a, b, c9, rfl, rfl⟩
      refine ⟨rfl, ?_⟩
      rw [enumL_len, List.length_map]
      have ol := openL_len (rs := rs) (B := B) (G := G) (j := rs.length)
      obtain ⟨s, hs⟩ : ∃ s, s = openL rs B G rs.length := ⟨_, rfl⟩
      rw [← hs] at ol ⊢
      have sm : ∀ k ∈ s, k < rs.length ∧ k ∉ G ∧ ((decide ((rd rs k).1 ∈ B)) != (decide ((rd rs k).2 ∈ B))) = true := fun k hk => by
        rw [hs, openL, List.mem_filter, Bool.and_eq_true, Bool.not_eq_true', decide_eq_false_iff_not] at hk
        exact ⟨List.mem_range.mp hk.1, hk.2.1, hk.2.2⟩
      have sn : s = [] → ∀ k, k < rs.length → k ∉ G → ((rd rs k).1 ∈ B ↔ (rd rs k).2 ∈ B) := fun h k hk hkG => by
        refine Classical.byContradiction fun hne => ?_
        have : k ∈ s := by
          rw [hs, openL, List.mem_filter]
          refine ⟨List.mem_range.mpr hk, ?_⟩
          rw [decide_eq_false hkG]
          by_cases h1 : (rd rs k).1 ∈ B <;> by_cases h2 : (rd rs k).2 ∈ B <;> simp [h1, h2] at hne ⊢
        rw [h] at this; cases this
      (try simp only [bindT, bindTs, wpB, wpS, wpE, wpEs, wpO, wpC, wpIs, wpMs, ex_some, ex_some1, ex_bl, ex_int, ex_tup, List.getElem?_cons_zero, List.getElem?_cons_succ, List.set_cons_zero, List.set_cons_succ, List.length_cons, List.length_nil, Atom.pv, add_i, sub_i, mul_i, mod_i, fdiv_i, pow_i, lt_i, le_i, gt_i, ge_i, eq_, ne_, in_e, nin_e, is_n, isnot_n, idx_tup, idx_lst, eqP_int, eqP_str, atI_0, atI_1, atI_2, ixN_0, ixN_1, ixN_2, decide_eq_true_eq, Bool.not_true, Bool.not_false, if_true, Bool.false_eq_true, if_false, setSl, len_lst, len_tup, int_i, int_bl, abs_i, min_i, max_i, tup_t, tup_l, newL_F, newL_T, List.map_cons, List.map_nil, List.append_nil, List.nil_append, List.cons_append, Nat.reduceAdd, Nat.reduceSub, List.replicate_succ, List.replicate_zero, retF, retXF, RL.add_ll, RL.add_t, RL.sl_tup, RL.sl_lst, RL.sl_scr, RL.mul_t, RL.str_int, List.zip_nil_left, List.zip_cons_cons])
      refine ⟨by omega, eq_rnil pg0 ?_⟩
      have hPz : ∀ z, P ++ z = ph ++ (.lst (natsPV B) :: .lst (natsPV G) :: .lst (natsPV T) :: .lst ((tab n c).map .int) :: .lst ((tab n d).map .int) :: (zs ++ z)) := fun z => by rw [hP]; simp
      by_cases hnil : s = []
      · rw [decide_eq_true hnil]
        (try simp only [bindT, bindTs, wpB, wpS, wpE, wpEs, wpO, wpC, wpIs, wpMs, ex_some, ex_some1, ex_bl, ex_int, ex_tup, List.getElem?_cons_zero, List.getElem?_cons_succ, List.set_cons_zero, List.set_cons_succ, List.length_cons, List.length_nil, Atom.pv, add_i, sub_i, mul_i, mod_i, fdiv_i, pow_i, lt_i, le_i, gt_i, ge_i, eq_, ne_, in_e, nin_e, is_n, isnot_n, idx_tup, idx_lst, eqP_int, eqP_str, atI_0, atI_1, atI_2, ixN_0, ixN_1, ixN_2, decide_eq_true_eq, Bool.not_true, Bool.not_false, if_true, Bool.false_eq_true, if_false, setSl, len_lst, len_tup, int_i, int_bl, abs_i, min_i, max_i, tup_t, tup_l, newL_F, newL_T, List.map_cons, List.map_nil, List.append_nil, List.nil_append, List.cons_append, Nat.reduceAdd, Nat.reduceSub, List.replicate_succ, List.replicate_zero, retF, retXF, RL.add_ll, RL.add_t, RL.sl_tup, RL.sl_lst, RL.sl_scr, RL.mul_t, RL.str_int, List.zip_nil_left, List.zip_cons_cons])
        rw [hPz]
        exact finB B G T c d _ trivial (by omega) (by omega) (by omega) db
      · rw [decide_eq_false hnil]
        (try simp only [bindT, bindTs, wpB, wpS, wpE, wpEs, wpO, wpC, wpIs, wpMs, ex_some, ex_some1, ex_bl, ex_int, ex_tup, List.getElem?_cons_zero, List.getElem?_cons_succ, List.set_cons_zero, List.set_cons_succ, List.length_cons, List.length_nil, Atom.pv, add_i, sub_i, mul_i, mod_i, fdiv_i, pow_i, lt_i, le_i, gt_i, ge_i, eq_, ne_, in_e, nin_e, is_n, isnot_n, idx_tup, idx_lst, eqP_int, eqP_str, atI_0, atI_1, atI_2, ixN_0, ixN_1, ixN_2, decide_eq_true_eq, Bool.not_true, Bool.not_false, if_true, Bool.false_eq_true, if_false, setSl, len_lst, len_tup, int_i, int_bl, abs_i, min_i, max_i, tup_t, tup_l, newL_F, newL_T, List.map_cons, List.map_nil, List.append_nil, List.nil_append, List.cons_append, Nat.reduceAdd, Nat.reduceSub, List.replicate_succ, List.replicate_zero, retF, retXF, RL.add_ll, RL.add_t, RL.sl_tup, RL.sl_lst, RL.sl_scr, RL.mul_t, RL.str_int, List.zip_nil_left, List.zip_cons_cons])
        have s1 : natsPV s ≠ [] := fun e => hnil (List.map_eq_nil_iff.mp e)
        obtain ⟨w, hw, hwm⟩ := atI_neg1 s1
        obtain ⟨k, hk, rfl⟩ := List.mem_map.mp hwm
        obtain ⟨hkl, hkG, hkx⟩ := sm k hk
        rw [idx_ref pg0]
        refine ⟨_, hw, by simp, ?_⟩
        rw [hPz]
        (try simp only [RL.idx_town0, RL.idx_town1, bindT, bindTs, wpB, wpS, wpE, wpEs, wpO, wpC, wpIs, wpMs, ex_some, ex_some1, ex_bl, ex_int, ex_tup, List.getElem?_cons_zero, List.getElem?_cons_succ, List.set_cons_zero, List.set_cons_succ, List.length_cons, List.length_nil, Atom.pv, add_i, sub_i, mul_i, mod_i, fdiv_i, pow_i, lt_i, le_i, gt_i, ge_i, eq_, ne_, in_e, nin_e, is_n, isnot_n, idx_tup, idx_lst, eqP_int, eqP_str, atI_0, atI_1, atI_2, ixN_0, ixN_1, ixN_2, decide_eq_true_eq, Bool.not_true, Bool.not_false, if_true, Bool.false_eq_true, if_false, setSl, len_lst, len_tup, int_i, int_bl, abs_i, min_i, max_i, tup_t, tup_l, newL_F, newL_T, List.map_cons, List.map_nil, List.append_nil, List.nil_append, List.cons_append, Nat.reduceAdd, Nat.reduceSub, List.replicate_succ, List.replicate_zero, retF, retXF, RL.add_ll, RL.add_t, RL.sl_tup, RL.sl_lst, RL.sl_scr, RL.mul_t, RL.str_int, List.zip_nil_left, List.zip_cons_cons])
        refine ⟨_, atI_nat (by rw [List.getElem?_map, rd_get hkl]; rfl), _, rfl, rfl, ?_⟩
        (try simp only [bindT, bindTs, wpB, wpS, wpE, wpEs, wpO, wpC, wpIs, wpMs, ex_some, ex_some1, ex_bl, ex_int, ex_tup, List.getElem?_cons_zero, List.getElem?_cons_succ, List.set_cons_zero, List.set_cons_succ, List.length_cons, List.length_nil, Atom.pv, add_i, sub_i, mul_i, mod_i, fdiv_i, pow_i, lt_i, le_i, gt_i, ge_i, eq_, ne_, in_e, nin_e, is_n, isnot_n, idx_tup, idx_lst, eqP_int, eqP_str, atI_0, atI_1, atI_2, ixN_0, ixN_1, ixN_2, decide_eq_true_eq, Bool.not_true, Bool.not_false, if_true, Bool.false_eq_true, if_false, setSl, len_lst, len_tup, int_i, int_bl, abs_i, min_i, max_i, tup_t, tup_l, newL_F, newL_T, List.map_cons, List.map_nil, List.append_nil, List.nil_append, List.cons_append, Nat.reduceAdd, Nat.reduceSub, List.replicate_succ, List.replicate_zero, retF, retXF, RL.add_ll, RL.add_t, RL.sl_tup, RL.sl_lst, RL.sl_scr, RL.mul_t, RL.str_int, List.zip_nil_left, List.zip_cons_cons])
        refine ⟨by simp, by simp, ?_⟩
        have hin := hr _ (rd_mem hkl)
        obtain ⟨r1, hr1⟩ : ∃ r1, r1 = (rd rs k).1 := ⟨_, rfl⟩
        obtain ⟨r2, hr2⟩ : ∃ r2, r2 = (rd rs k).2 := ⟨_, rfl⟩
        rw [← hr1, ← hr2] at hin hkx ⊢
        have er : rd rs k = (r1, r2) := by rw [hr1, hr2]
        (try simp only [bindT, bindTs, wpB, wpS, wpE, wpEs, wpO, wpC, wpIs, wpMs, ex_some, ex_some1, ex_bl, ex_int, ex_tup, List.getElem?_cons_zero, List.getElem?_cons_succ, List.set_cons_zero, List.set_cons_succ, List.length_cons, List.length_nil, Atom.pv, add_i, sub_i, mul_i, mod_i, fdiv_i, pow_i, lt_i, le_i, gt_i, ge_i, eq_, ne_, in_e, nin_e, is_n, isnot_n, idx_tup, idx_lst, eqP_int, eqP_str, atI_0, atI_1, atI_2, ixN_0, ixN_1, ixN_2, decide_eq_true_eq, Bool.not_true, Bool.not_false, if_true, Bool.false_eq_true, if_false, setSl, len_lst, len_tup, int_i, int_bl, abs_i, min_i, max_i, tup_t, tup_l, newL_F, newL_T, List.map_cons, List.map_nil, List.append_nil, List.nil_append, List.cons_append, Nat.reduceAdd, Nat.reduceSub, List.replicate_succ, List.replicate_zero, retF, retXF, RL.add_ll, RL.add_t, RL.sl_tup, RL.sl_lst, RL.sl_scr, RL.mul_t, RL.str_int, List.zip_nil_left, List.zip_cons_cons])
        refine in_rnats pg0 ?_
        by_cases hb1 : r1 ∈ B
        · have hb2 : r2 ∉ B := fun hb2 => by rw [decide_eq_true hb1, decide_eq_true hb2] at hkx; cases hkx
          rw [decide_eq_true hb1]
          (try simp only [bindT, bindTs, wpB, wpS, wpE, wpEs, wpO, wpC, wpIs, wpMs, ex_some, ex_some1, ex_bl, ex_int, ex_tup, List.getElem?_cons_zero, List.getElem?_cons_succ, List.set_cons_zero, List.set_cons_succ, List.length_cons, List.length_nil, Atom.pv, add_i, sub_i, mul_i, mod_i, fdiv_i, pow_i, lt_i, le_i, gt_i, ge_i, eq_, ne_, in_e, nin_e, is_n, isnot_n, idx_tup, idx_lst, eqP_int, eqP_str, atI_0, atI_1, atI_2, ixN_0, ixN_1, ixN_2, decide_eq_true_eq, Bool.not_true, Bool.not_false, if_true, Bool.false_eq_true, if_false, setSl, len_lst, len_tup, int_i, int_bl, abs_i, min_i, max_i, tup_t, tup_l, newL_F, newL_T, List.map_cons, List.map_nil, List.append_nil, List.nil_append, List.cons_append, Nat.reduceAdd, Nat.reduceSub, List.replicate_succ, List.replicate_zero, retF, retXF, RL.add_ll, RL.add_t, RL.sl_tup, RL.sl_lst, RL.sl_scr, RL.mul_t, RL.str_int, List.zip_nil_left, List.zip_cons_cons])
          refine ⟨by simp, by simp only [lstOf, pg1]; rfl, _, pg1, by rw [nats_len]; omega, ?_⟩
          rw [ps1, show natsPV G ++ [PV.int (k : Int)] = natsPV (G ++ [k]) by simp [natsPV]]
          dsimp only
          rw [idx_ref pg3]
          refine ⟨_, atI_tab hin.2, ?_⟩
          (try simp only [bindT, bindTs, wpB, wpS, wpE, wpEs, wpO, wpC, wpIs, wpMs, ex_some, ex_some1, ex_bl, ex_int, ex_tup, List.getElem?_cons_zero, List.getElem?_cons_succ, List.set_cons_zero, List.set_cons_succ, List.length_cons, List.length_nil, Atom.pv, add_i, sub_i, mul_i, mod_i, fdiv_i, pow_i, lt_i, le_i, gt_i, ge_i, eq_, ne_, in_e, nin_e, is_n, isnot_n, idx_tup, idx_lst, eqP_int, eqP_str, atI_0, atI_1, atI_2, ixN_0, ixN_1, ixN_2, decide_eq_true_eq, Bool.not_true, Bool.not_false, if_true, Bool.false_eq_true, if_false, setSl, len_lst, len_tup, int_i, int_bl, abs_i, min_i, max_i, tup_t, tup_l, newL_F, newL_T, List.map_cons, List.map_nil, List.append_nil, List.nil_append, List.cons_append, Nat.reduceAdd, Nat.reduceSub, List.replicate_succ, List.replicate_zero, retF, retXF, RL.add_ll, RL.add_t, RL.sl_tup, RL.sl_lst, RL.sl_scr, RL.mul_t, RL.str_int, List.zip_nil_left, List.zip_cons_cons])
          rw [seti_ref pg3]
          refine ⟨r2, ixN_nat (by rw [List.length_map, tab_len]; exact hin.2), ?_⟩
          rw [ps3, set_int, tab_set hin.2]
          have st : True := trivial
          have db2 : ∀ v, v < n → 0 ≤ (if v = r2 then c r2 + 1 - 1 else d v) ∧ (if v = r2 then c r2 + 1 - 1 else d v) ≤ 100 := fun v hv => by
            have b1 := db v hv
            have b2 := cb r2 hin.2
            split <;> omega
          have cb2 : ∀ v, v < n → 0 ≤ (if v = r2 then c r2 + 1 else c v) ∧ (if v = r2 then c r2 + 1 else c v) ≤ ((j0 + 1 : Nat) : Int) := fun v hv => by
            have b1 := cb v hv
            have b2 := cb r2 hin.2
            split <;> omega
          (try simp only [bindT, bindTs, wpB, wpS, wpE, wpEs, wpO, wpC, wpIs, wpMs, ex_some, ex_some1, ex_bl, ex_int, ex_tup, List.getElem?_cons_zero, List.getElem?_cons_succ, List.set_cons_zero, List.set_cons_succ, List.length_cons, List.length_nil, Atom.pv, add_i, sub_i, mul_i, mod_i, fdiv_i, pow_i, lt_i, le_i, gt_i, ge_i, eq_, ne_, in_e, nin_e, is_n, isnot_n, idx_tup, idx_lst, eqP_int, eqP_str, atI_0, atI_1, atI_2, ixN_0, ixN_1, ixN_2, decide_eq_true_eq, Bool.not_true, Bool.not_false, if_true, Bool.false_eq_true, if_false, setSl, len_lst, len_tup, int_i, int_bl, abs_i, min_i, max_i, tup_t, tup_l, newL_F, newL_T, List.map_cons, List.map_nil, List.append_nil, List.nil_append, List.cons_append, Nat.reduceAdd, Nat.reduceSub, List.replicate_succ, List.replicate_zero, retF, retXF, RL.add_ll, RL.add_t, RL.sl_tup, RL.sl_lst, RL.sl_scr, RL.mul_t, RL.str_int, List.zip_nil_left, List.zip_cons_cons])
          rw [show RL.isNon (PV.tup (natsPV tr)) = false from rfl]
          (try simp only [bindT, bindTs, wpB, wpS, wpE, wpEs, wpO, wpC, wpIs, wpMs, ex_some, ex_some1, ex_bl, ex_int, ex_tup, List.getElem?_cons_zero, List.getElem?_cons_succ, List.set_cons_zero, List.set_cons_succ, List.length_cons, List.length_nil, Atom.pv, add_i, sub_i, mul_i, mod_i, fdiv_i, pow_i, lt_i, le_i, gt_i, ge_i, eq_, ne_, in_e, nin_e, is_n, isnot_n, idx_tup, idx_lst, eqP_int, eqP_str, atI_0, atI_1, atI_2, ixN_0, ixN_1, ixN_2, decide_eq_true_eq, Bool.not_true, Bool.not_false, if_true, Bool.false_eq_true, if_false, setSl, len_lst, len_tup, int_i, int_bl, abs_i, min_i, max_i, tup_t, tup_l, newL_F, newL_T, List.map_cons, List.map_nil, List.append_nil, List.nil_append, List.cons_append, Nat.reduceAdd, Nat.reduceSub, List.replicate_succ, List.replicate_zero, retF, retXF, RL.add_ll, RL.add_t, RL.sl_tup, RL.sl_lst, RL.sl_scr, RL.mul_t, RL.str_int, List.zip_nil_left, List.zip_cons_cons])
          refine in_tnats ?_
          by_cases hf : k ∈ tr
          · rw [decide_eq_true hf]
            (try simp only [bindT, bindTs, wpB, wpS, wpE, wpEs, wpO, wpC, wpIs, wpMs, ex_some, ex_some1, ex_bl, ex_int, ex_tup, List.getElem?_cons_zero, List.getElem?_cons_succ, List.set_cons_zero, List.set_cons_succ, List.length_cons, List.length_nil, Atom.pv, add_i, sub_i, mul_i, mod_i, fdiv_i, pow_i, lt_i, le_i, gt_i, ge_i, eq_, ne_, in_e, nin_e, is_n, isnot_n, idx_tup, idx_lst, eqP_int, eqP_str, atI_0, atI_1, atI_2, ixN_0, ixN_1, ixN_2, decide_eq_true_eq, Bool.not_true, Bool.not_false, if_true, Bool.false_eq_true, if_false, setSl, len_lst, len_tup, int_i, int_bl, abs_i, min_i, max_i, tup_t, tup_l, newL_F, newL_T, List.map_cons, List.map_nil, List.append_nil, List.nil_append, List.cons_append, Nat.reduceAdd, Nat.reduceSub, List.replicate_succ, List.replicate_zero, retF, retXF, RL.add_ll, RL.add_t, RL.sl_tup, RL.sl_lst, RL.sl_scr, RL.mul_t, RL.str_int, List.zip_nil_left, List.zip_cons_cons])
            refine ⟨by simp only [lstOf, pg0]; rfl, _, pg0, by rw [nats_len]; omega, ?_⟩
            rw [ps0, show natsPV B ++ [PV.int (r2 : Int)] = natsPV (B ++ [r2]) by simp [natsPV]]
            dsimp only
            refine ⟨by simp only [lstOf, pg2]; rfl, _, pg2, by rw [nats_len]; omega, ?_⟩
            rw [ps2, show natsPV T ++ [PV.int (k : Int)] = natsPV (T ++ [k]) by simp [natsPV]]
            dsimp only
            rw [idx_ref pg3]
            refine ⟨_, atI_tab hin.2, ?_⟩
            rw [if_pos rfl]
            (try simp only [bindT, bindTs, wpB, wpS, wpE, wpEs, wpO, wpC, wpIs, wpMs, ex_some, ex_some1, ex_bl, ex_int, ex_tup, List.getElem?_cons_zero, List.getElem?_cons_succ, List.set_cons_zero, List.set_cons_succ, List.length_cons, List.length_nil, Atom.pv, add_i, sub_i, mul_i, mod_i, fdiv_i, pow_i, lt_i, le_i, gt_i, ge_i, eq_, ne_, in_e, nin_e, is_n, isnot_n, idx_tup, idx_lst, eqP_int, eqP_str, atI_0, atI_1, atI_2, ixN_0, ixN_1, ixN_2, decide_eq_true_eq, Bool.not_true, Bool.not_false, if_true, Bool.false_eq_true, if_false, setSl, len_lst, len_tup, int_i, int_bl, abs_i, min_i, max_i, tup_t, tup_l, newL_F, newL_T, List.map_cons, List.map_nil, List.append_nil, List.nil_append, List.cons_append, Nat.reduceAdd, Nat.reduceSub, List.replicate_succ, List.replicate_zero, retF, retXF, RL.add_ll, RL.add_t, RL.sl_tup, RL.sl_lst, RL.sl_scr, RL.mul_t, RL.str_int, List.zip_nil_left, List.zip_cons_cons])
            rw [seti_ref pg4]
            refine ⟨r2, ixN_nat (by rw [List.length_map, tab_len]; exact hin.2), ?_⟩
            rw [ps4, set_int, tab_set hin.2]
            exact hM _ _ ⟨_, _, _, _, _, _, _, _, _, _, _, _, trivial, by simp [Gl], by simp; omega, by simp; omega, cb2, db2, rfl, rfl⟩
          · rw [decide_eq_false hf]
            (try simp only [bindT, bindTs, wpB, wpS, wpE, wpEs, wpO, wpC, wpIs, wpMs, ex_some, ex_some1, ex_bl, ex_int, ex_tup, List.getElem?_cons_zero, List.getElem?_cons_succ, List.set_cons_zero, List.set_cons_succ, List.length_cons, List.length_nil, Atom.pv, add_i, sub_i, mul_i, mod_i, fdiv_i, pow_i, lt_i, le_i, gt_i, ge_i, eq_, ne_, in_e, nin_e, is_n, isnot_n, idx_tup, idx_lst, eqP_int, eqP_str, atI_0, atI_1, atI_2, ixN_0, ixN_1, ixN_2, decide_eq_true_eq, Bool.not_true, Bool.not_false, if_true, Bool.false_eq_true, if_false, setSl, len_lst, len_tup, int_i, int_bl, abs_i, min_i, max_i, tup_t, tup_l, newL_F, newL_T, List.map_cons, List.map_nil, List.append_nil, List.nil_append, List.cons_append, Nat.reduceAdd, Nat.reduceSub, List.replicate_succ, List.replicate_zero, retF, retXF, RL.add_ll, RL.add_t, RL.sl_tup, RL.sl_lst, RL.sl_scr, RL.mul_t, RL.str_int, List.zip_nil_left, List.zip_cons_cons])
            exact hM _ _ ⟨_, _, _, _, _, _, _, _, _, _, _, _, trivial, by simp [Gl], by omega, by omega, cb2, db, rfl, rfl⟩
        · have hb2 : r2 ∈ B := Classical.byContradiction fun hb2 => by rw [decide_eq_false hb1, decide_eq_false hb2] at hkx; cases hkx
          rw [decide_eq_false hb1]
          (try simp only [bindT, bindTs, wpB, wpS, wpE, wpEs, wpO, wpC, wpIs, wpMs, ex_some, ex_some1, ex_bl, ex_int, ex_tup, List.getElem?_cons_zero, List.getElem?_cons_succ, List.set_cons_zero, List.set_cons_succ, List.length_cons, List.length_nil, Atom.pv, add_i, sub_i, mul_i, mod_i, fdiv_i, pow_i, lt_i, le_i, gt_i, ge_i, eq_, ne_, in_e, nin_e, is_n, isnot_n, idx_tup, idx_lst, eqP_int, eqP_str, atI_0, atI_1, atI_2, ixN_0, ixN_1, ixN_2, decide_eq_true_eq, Bool.not_true, Bool.not_false, if_true, Bool.false_eq_true, if_false, setSl, len_lst, len_tup, int_i, int_bl, abs_i, min_i, max_i, tup_t, tup_l, newL_F, newL_T, List.map_cons, List.map_nil, List.append_nil, List.nil_append, List.cons_append, Nat.reduceAdd, Nat.reduceSub, List.replicate_succ, List.replicate_zero, retF, retXF, RL.add_ll, RL.add_t, RL.sl_tup, RL.sl_lst, RL.sl_scr, RL.mul_t, RL.str_int, List.zip_nil_left, List.zip_cons_cons])
          refine ⟨by simp, by simp only [lstOf, pg1]; rfl, _, pg1, by rw [nats_len]; omega, ?_⟩
          rw [ps1, show natsPV G ++ [PV.int (k : Int)] = natsPV (G ++ [k]) by simp [natsPV]]
          dsimp only
          rw [idx_ref pg3]
          refine ⟨_, atI_tab hin.1, ?_⟩
          (try simp only [bindT, bindTs, wpB, wpS, wpE, wpEs, wpO, wpC, wpIs, wpMs, ex_some, ex_some1, ex_bl, ex_int, ex_tup, List.getElem?_cons_zero, List.getElem?_cons_succ, List.set_cons_zero, List.set_cons_succ, List.length_cons, List.length_nil, Atom.pv, add_i, sub_i, mul_i, mod_i, fdiv_i, pow_i, lt_i, le_i, gt_i, ge_i, eq_, ne_, in_e, nin_e, is_n, isnot_n, idx_tup, idx_lst, eqP_int, eqP_str, atI_0, atI_1, atI_2, ixN_0, ixN_1, ixN_2, decide_eq_true_eq, Bool.not_true, Bool.not_false, if_true, Bool.false_eq_true, if_false, setSl, len_lst, len_tup, int_i, int_bl, abs_i, min_i, max_i, tup_t, tup_l, newL_F, newL_T, List.map_cons, List.map_nil, List.append_nil, List.nil_append, List.cons_append, Nat.reduceAdd, Nat.reduceSub, List.replicate_succ, List.replicate_zero, retF, retXF, RL.add_ll, RL.add_t, RL.sl_tup, RL.sl_lst, RL.sl_scr, RL.mul_t, RL.str_int, List.zip_nil_left, List.zip_cons_cons])
          rw [seti_ref pg3]
          refine ⟨r1, ixN_nat (by rw [List.length_map, tab_len]; exact hin.1), ?_⟩
          rw [ps3, set_int, tab_set hin.1]
          have st : True := trivial
          have db2 : ∀ v, v < n → 0 ≤ (if v = r1 then c r1 + 1 - 1 else d v) ∧ (if v = r1 then c r1 + 1 - 1 else d v) ≤ 100 := fun v hv => by
            have b1 := db v hv
            have b2 := cb r1 hin.1
            split <;> omega
          have cb2 : ∀ v, v < n → 0 ≤ (if v = r1 then c r1 + 1 else c v) ∧ (if v = r1 then c r1 + 1 else c v) ≤ ((j0 + 1 : Nat) : Int) := fun v hv => by
            have b1 := cb v hv
            have b2 := cb r1 hin.1
            split <;> omega
          (try simp only [bindT, bindTs, wpB, wpS, wpE, wpEs, wpO, wpC, wpIs, wpMs, ex_some, ex_some1, ex_bl, ex_int, ex_tup, List.getElem?_cons_zero, List.getElem?_cons_succ, List.set_cons_zero, List.set_cons_succ, List.length_cons, List.length_nil, Atom.pv, add_i, sub_i, mul_i, mod_i, fdiv_i, pow_i, lt_i, le_i, gt_i, ge_i, eq_, ne_, in_e, nin_e, is_n, isnot_n, idx_tup, idx_lst, eqP_int, eqP_str, atI_0, atI_1, atI_2, ixN_0, ixN_1, ixN_2, decide_eq_true_eq, Bool.not_true, Bool.not_false, if_true, Bool.false_eq_true, if_false, setSl, len_lst, len_tup, int_i, int_bl, abs_i, min_i, max_i, tup_t, tup_l, newL_F, newL_T, List.map_cons, List.map_nil, List.append_nil, List.nil_append, List.cons_append, Nat.reduceAdd, Nat.reduceSub, List.replicate_succ, List.replicate_zero, retF, retXF, RL.add_ll, RL.add_t, RL.sl_tup, RL.sl_lst, RL.sl_scr, RL.mul_t, RL.str_int, List.zip_nil_left, List.zip_cons_cons])
          rw [show RL.isNon (PV.tup (natsPV tr)) = false from rfl]
          (try simp only [bindT, bindTs, wpB, wpS, wpE, wpEs, wpO, wpC, wpIs, wpMs, ex_some, ex_some1, ex_bl, ex_int, ex_tup, List.getElem?_cons_zero, List.getElem?_cons_succ, List.set_cons_zero, List.set_cons_succ, List.length_cons, List.length_nil, Atom.pv, add_i, sub_i, mul_i, mod_i, fdiv_i, pow_i, lt_i, le_i, gt_i, ge_i, eq_, ne_, in_e, nin_e, is_n, isnot_n, idx_tup, idx_lst, eqP_int, eqP_str, atI_0, atI_1, atI_2, ixN_0, ixN_1, ixN_2, decide_eq_true_eq, Bool.not_true, Bool.not_false, if_true, Bool.false_eq_true, if_false, setSl, len_lst, len_tup, int_i, int_bl, abs_i, min_i, max_i, tup_t, tup_l, newL_F, newL_T, List.map_cons, List.map_nil, List.append_nil, List.nil_append, List.cons_append, Nat.reduceAdd, Nat.reduceSub, List.replicate_succ, List.replicate_zero, retF, retXF, RL.add_ll, RL.add_t, RL.sl_tup, RL.sl_lst, RL.sl_scr, RL.mul_t, RL.str_int, List.zip_nil_left, List.zip_cons_cons])
          refine in_tnats ?_
          by_cases hf : k ∈ tr
          · rw [decide_eq_true hf]
            (try simp only [bindT, bindTs, wpB, wpS, wpE, wpEs, wpO, wpC, wpIs, wpMs, ex_some, ex_some1, ex_bl, ex_int, ex_tup, List.getElem?_cons_zero, List.getElem?_cons_succ, List.set_cons_zero, List.set_cons_succ, List.length_cons, List.length_nil, Atom.pv, add_i, sub_i, mul_i, mod_i, fdiv_i, pow_i, lt_i, le_i, gt_i, ge_i, eq_, ne_, in_e, nin_e, is_n, isnot_n, idx_tup, idx_lst, eqP_int, eqP_str, atI_0, atI_1, atI_2, ixN_0, ixN_1, ixN_2, decide_eq_true_eq, Bool.not_true, Bool.not_false, if_true, Bool.false_eq_true, if_false, setSl, len_lst, len_tup, int_i, int_bl, abs_i, min_i, max_i, tup_t, tup_l, newL_F, newL_T, List.map_cons, List.map_nil, List.append_nil, List.nil_append, List.cons_append, Nat.reduceAdd, Nat.reduceSub, List.replicate_succ, List.replicate_zero, retF, retXF, RL.add_ll, RL.add_t, RL.sl_tup, RL.sl_lst, RL.sl_scr, RL.mul_t, RL.str_int, List.zip_nil_left, List.zip_cons_cons])
            refine ⟨by simp only [lstOf, pg0]; rfl, _, pg0, by rw [nats_len]; omega, ?_⟩
            rw [ps0, show natsPV B ++ [PV.int (r1 : Int)] = natsPV (B ++ [r1]) by simp [natsPV]]
            dsimp only
            refine ⟨by simp only [lstOf, pg2]; rfl, _, pg2, by rw [nats_len]; omega, ?_⟩
            rw [ps2, show natsPV T ++ [PV.int (k : Int)] = natsPV (T ++ [k]) by simp [natsPV]]
            dsimp only
            rw [idx_ref pg3]
            refine ⟨_, atI_tab hin.1, ?_⟩
            rw [if_pos rfl]
            (try simp only [bindT, bindTs, wpB, wpS, wpE, wpEs, wpO, wpC, wpIs, wpMs, ex_some, ex_some1, ex_bl, ex_int, ex_tup, List.getElem?_cons_zero, List.getElem?_cons_succ, List.set_cons_zero, List.set_cons_succ, List.length_cons, List.length_nil, Atom.pv, add_i, sub_i, mul_i, mod_i, fdiv_i, pow_i, lt_i, le_i, gt_i, ge_i, eq_, ne_, in_e, nin_e, is_n, isnot_n, idx_tup, idx_lst, eqP_int, eqP_str, atI_0, atI_1, atI_2, ixN_0, ixN_1, ixN_2, decide_eq_true_eq, Bool.not_true, Bool.not_false, if_true, Bool.false_eq_true, if_false, setSl, len_lst, len_tup, int_i, int_bl, abs_i, min_i, max_i, tup_t, tup_l, newL_F, newL_T, List.map_cons, List.map_nil, List.append_nil, List.nil_append, List.cons_append, Nat.reduceAdd, Nat.reduceSub, List.replicate_succ, List.replicate_zero, retF, retXF, RL.add_ll, RL.add_t, RL.sl_tup, RL.sl_lst, RL.sl_scr, RL.mul_t, RL.str_int, List.zip_nil_left, List.zip_cons_cons])
            rw [seti_ref pg4]
            refine ⟨r1, ixN_nat (by rw [List.length_map, tab_len]; exact hin.1), ?_⟩
            rw [ps4, set_int, tab_set hin.1]
            exact hM _ _ ⟨_, _, _, _, _, _, _, _, _, _, _, _, trivial, by simp [Gl], by simp; omega, by simp; omega, cb2, db2, rfl, rfl⟩
          · rw [decide_eq_false hf]
            (try simp only [bindT, bindTs, wpB, wpS, wpE, wpEs, wpO, wpC, wpIs, wpMs, ex_some, ex_some1, ex_bl, ex_int, ex_tup, List.getElem?_cons_zero, List.getElem?_cons_succ, List.set_cons_zero, List.set_cons_succ, List.length_cons, List.length_nil, Atom.pv, add_i, sub_i, mul_i, mod_i, fdiv_i, pow_i, lt_i, le_i, gt_i, ge_i, eq_, ne_, in_e, nin_e, is_n, isnot_n, idx_tup, idx_lst, eqP_int, eqP_str, atI_0, atI_1, atI_2, ixN_0, ixN_1, ixN_2, decide_eq_true_eq, Bool.not_true, Bool.not_false, if_true, Bool.false_eq_true, if_false, setSl, len_lst, len_tup, int_i, int_bl, abs_i, min_i, max_i, tup_t, tup_l, newL_F, newL_T, List.map_cons, List.map_nil, List.append_nil, List.nil_append, List.cons_append, Nat.reduceAdd, Nat.reduceSub, List.replicate_succ, List.replicate_zero, retF, retXF, RL.add_ll, RL.add_t, RL.sl_tup, RL.sl_lst, RL.sl_scr, RL.mul_t, RL.str_int, List.zip_nil_left, List.zip_cons_cons])
            exact hM _ _ ⟨_, _, _, _, _, _, _, _, _, _, _, _, trivial, by simp [Gl], by omega, by omega, cb2, db, rfl, rfl⟩
  · rintro env ph' ⟨B, G, T, c, d, zs, a4, a10, a11, a12, a13, a14, fs, Gl, Bl, Tl, cb, db, rfl, rfl⟩
    rw [rng0_len] at Gl Bl Tl
    refine ⟨it_n (by omega), ?_⟩
    (try simp only [bindT, bindTs, wpB, wpS, wpE, wpEs, wpO, wpC, wpIs, wpMs, ex_some, ex_some1, ex_bl, ex_int, ex_tup, List.getElem?_cons_zero, List.getElem?_cons_succ, List.set_cons_zero, List.set_cons_succ, List.length_cons, List.length_nil, Atom.pv, add_i, sub_i, mul_i, mod_i, fdiv_i, pow_i, lt_i, le_i, gt_i, ge_i, eq_, ne_, in_e, nin_e, is_n, isnot_n, idx_tup, idx_lst, eqP_int, eqP_str, atI_0, atI_1, atI_2, ixN_0, ixN_1, ixN_2, decide_eq_true_eq, Bool.not_true, Bool.not_false, if_true, Bool.false_eq_true, if_false, setSl, len_lst, len_tup, int_i, int_bl, abs_i, min_i, max_i, tup_t, tup_l, newL_F, newL_T, List.map_cons, List.map_nil, List.append_nil, List.nil_append, List.cons_append, Nat.reduceAdd, Nat.reduceSub, List.replicate_succ, List.replicate_zero, retF, retXF, RL.add_ll, RL.add_t, RL.sl_tup, RL.sl_lst, RL.sl_scr, RL.mul_t, RL.str_int, List.zip_nil_left, List.zip_cons_cons])
    refine finB B G T c d _ trivial (by omega) (by omega) (by omega) db
theorem degrees_ok (i : is_law_degrees pg f) {ph : PHp} {n : Nat} {rs : List Rd2} (hn : n ≤ 100) (hl : rs.length ≤ 15) (hr : In2 n rs) (q : ∀ d : List Int, d.length = n → (∀ x ∈ d, 0 ≤ x ∧ x ≤ 30) → Q (.lst (d.map .int)) ph) : callK pg (k + 1) f [townPV n rs] ph Q X := by
  refine i.call rfl ?_
  have hsz := sz
  simp only [b_law_degrees, RL.idx_town0, RL.idx_town1, bindT, bindTs, wpB, wpS, wpE, wpEs, wpO, wpC, wpIs, wpMs, ex_some, ex_some1, ex_bl, ex_int, ex_tup, List.getElem?_cons_zero, List.getElem?_cons_succ, List.set_cons_zero, List.set_cons_succ, List.length_cons, List.length_nil, Atom.pv, add_i, sub_i, mul_i, mod_i, fdiv_i, pow_i, lt_i, le_i, gt_i, ge_i, eq_, ne_, in_e, nin_e, is_n, isnot_n, idx_tup, idx_lst, eqP_int, eqP_str, atI_0, atI_1, atI_2, ixN_0, ixN_1, ixN_2, decide_eq_true_eq, Bool.not_true, Bool.not_false, if_true, Bool.false_eq_true, if_false, setSl, len_lst, len_tup, int_i, int_bl, abs_i, min_i, max_i, tup_t, tup_l, newL_F, newL_T, List.map_cons, List.map_nil, List.append_nil, List.nil_append, List.cons_append, Nat.reduceAdd, Nat.reduceSub, List.replicate_succ, List.replicate_zero, retF, retXF, RL.add_ll, RL.add_t, RL.sl_tup, RL.sl_lst, RL.sl_scr, RL.mul_t, RL.str_int, List.zip_nil_left, List.zip_cons_cons]
  (repeat (refine And.intro (by first | assumption | omega | (decide; done) | (exact mulOk_small (by omega) (by omega) (by omega) (by omega)) | (exact fdivOk (by omega) (by omega)) | (simp; done) | (simp; omega)) ?_))
  refine mul_l rfl (by omega) (by decide) (newL_t (by simp; omega) ?_)
  rw [show ((n : Int)).toNat = n from Int.toNat_natCast n, tab_rep]
  (try simp only [RL.idx_town0, RL.idx_town1, bindT, bindTs, wpB, wpS, wpE, wpEs, wpO, wpC, wpIs, wpMs, ex_some, ex_some1, ex_bl, ex_int, ex_tup, List.getElem?_cons_zero, List.getElem?_cons_succ, List.set_cons_zero, List.set_cons_succ, List.length_cons, List.length_nil, Atom.pv, add_i, sub_i, mul_i, mod_i, fdiv_i, pow_i, lt_i, le_i, gt_i, ge_i, eq_, ne_, in_e, nin_e, is_n, isnot_n, idx_tup, idx_lst, eqP_int, eqP_str, atI_0, atI_1, atI_2, ixN_0, ixN_1, ixN_2, decide_eq_true_eq, Bool.not_true, Bool.not_false, if_true, Bool.false_eq_true, if_false, setSl, len_lst, len_tup, int_i, int_bl, abs_i, min_i, max_i, tup_t, tup_l, newL_F, newL_T, List.map_cons, List.map_nil, List.append_nil, List.nil_append, List.cons_append, Nat.reduceAdd, Nat.reduceSub, List.replicate_succ, List.replicate_zero, retF, retXF, RL.add_ll, RL.add_t, RL.sl_tup, RL.sl_lst, RL.sl_scr, RL.mul_t, RL.str_int, List.zip_nil_left, List.zip_cons_cons])
  refine ⟨by simp, _, rfl, ?_⟩
  refine forL_rule (fun j env ph' => ∃ (a b : Option PV) (d : Nat → Int), (∀ v, v < n → 0 ≤ d v ∧ d v ≤ 2 * j) ∧ env = [some (townPV n rs), some (.ref ph.length), a, b] ∧ ph' = ph ++ [.lst ((tab n d).map .int)]) ?_ ?_ ⟨none, none, fun _ => 0, fun v hv => ⟨by show (0 : Int) ≤ 0; omega, by show (0 : Int) ≤ _; omega⟩, rfl, rfl⟩
  · rintro j v env ph' hv ⟨a, b, d, hd, rfl, rfl⟩
    obtain ⟨a, b, hr', rfl⟩ := road_at hv
    have hab := hr _ (List.mem_of_getElem? hr')
    simp only at hab
    refine ⟨rfl, fun N hN => ⟨_, rfl, rfl, by simp, by simp, ?_⟩⟩
    (try simp only [bindT, bindTs, wpB, wpS, wpE, wpEs, wpO, wpC, wpIs, wpMs, ex_some, ex_some1, ex_bl, ex_int, ex_tup, List.getElem?_cons_zero, List.getElem?_cons_succ, List.set_cons_zero, List.set_cons_succ, List.length_cons, List.length_nil, Atom.pv, add_i, sub_i, mul_i, mod_i, fdiv_i, pow_i, lt_i, le_i, gt_i, ge_i, eq_, ne_, in_e, nin_e, is_n, isnot_n, idx_tup, idx_lst, eqP_int, eqP_str, atI_0, atI_1, atI_2, ixN_0, ixN_1, ixN_2, decide_eq_true_eq, Bool.not_true, Bool.not_false, if_true, Bool.false_eq_true, if_false, setSl, len_lst, len_tup, int_i, int_bl, abs_i, min_i, max_i, tup_t, tup_l, newL_F, newL_T, List.map_cons, List.map_nil, List.append_nil, List.nil_append, List.cons_append, Nat.reduceAdd, Nat.reduceSub, List.replicate_succ, List.replicate_zero, retF, retXF, RL.add_ll, RL.add_t, RL.sl_tup, RL.sl_lst, RL.sl_scr, RL.mul_t, RL.str_int, List.zip_nil_left, List.zip_cons_cons])
    rw [idx_ref pg0]
    refine ⟨_, atI_tab hab.1, ?_⟩
    (try simp only [bindT, bindTs, wpB, wpS, wpE, wpEs, wpO, wpC, wpIs, wpMs, ex_some, ex_some1, ex_bl, ex_int, ex_tup, List.getElem?_cons_zero, List.getElem?_cons_succ, List.set_cons_zero, List.set_cons_succ, List.length_cons, List.length_nil, Atom.pv, add_i, sub_i, mul_i, mod_i, fdiv_i, pow_i, lt_i, le_i, gt_i, ge_i, eq_, ne_, in_e, nin_e, is_n, isnot_n, idx_tup, idx_lst, eqP_int, eqP_str, atI_0, atI_1, atI_2, ixN_0, ixN_1, ixN_2, decide_eq_true_eq, Bool.not_true, Bool.not_false, if_true, Bool.false_eq_true, if_false, setSl, len_lst, len_tup, int_i, int_bl, abs_i, min_i, max_i, tup_t, tup_l, newL_F, newL_T, List.map_cons, List.map_nil, List.append_nil, List.nil_append, List.cons_append, Nat.reduceAdd, Nat.reduceSub, List.replicate_succ, List.replicate_zero, retF, retXF, RL.add_ll, RL.add_t, RL.sl_tup, RL.sl_lst, RL.sl_scr, RL.mul_t, RL.str_int, List.zip_nil_left, List.zip_cons_cons])
    rw [seti_ref pg0]
    refine ⟨a, ixN_nat (by rw [List.length_map, tab_len]; exact hab.1), ?_⟩
    rw [ps0, set_int, tab_set hab.1, idx_ref pg0]
    refine ⟨_, atI_tab hab.2, ?_⟩
    (try simp only [bindT, bindTs, wpB, wpS, wpE, wpEs, wpO, wpC, wpIs, wpMs, ex_some, ex_some1, ex_bl, ex_int, ex_tup, List.getElem?_cons_zero, List.getElem?_cons_succ, List.set_cons_zero, List.set_cons_succ, List.length_cons, List.length_nil, Atom.pv, add_i, sub_i, mul_i, mod_i, fdiv_i, pow_i, lt_i, le_i, gt_i, ge_i, eq_, ne_, in_e, nin_e, is_n, isnot_n, idx_tup, idx_lst, eqP_int, eqP_str, atI_0, atI_1, atI_2, ixN_0, ixN_1, ixN_2, decide_eq_true_eq, Bool.not_true, Bool.not_false, if_true, Bool.false_eq_true, if_false, setSl, len_lst, len_tup, int_i, int_bl, abs_i, min_i, max_i, tup_t, tup_l, newL_F, newL_T, List.map_cons, List.map_nil, List.append_nil, List.nil_append, List.cons_append, Nat.reduceAdd, Nat.reduceSub, List.replicate_succ, List.replicate_zero, retF, retXF, RL.add_ll, RL.add_t, RL.sl_tup, RL.sl_lst, RL.sl_scr, RL.mul_t, RL.str_int, List.zip_nil_left, List.zip_cons_cons])
    rw [seti_ref pg0]
    refine ⟨b, ixN_nat (by rw [List.length_map, tab_len]; exact hab.2), ?_⟩
    rw [ps0, set_int, tab_set hab.2]
    refine hN _ _ ⟨_, _, _, fun v hv => ?_, rfl, rfl⟩
    have h1 := hd v hv
    have h2 := hd a hab.1
    have h3 := hd b hab.2
    split <;> (try split) <;> (try split) <;> omega
  · rintro env ph' ⟨a, b, d, hd, rfl, rfl⟩
    refine ⟨rfl, ?_⟩
    (try simp only [bindT, bindTs, wpB, wpS, wpE, wpEs, wpO, wpC, wpIs, wpMs, ex_some, ex_some1, ex_bl, ex_int, ex_tup, List.getElem?_cons_zero, List.getElem?_cons_succ, List.set_cons_zero, List.set_cons_succ, List.length_cons, List.length_nil, Atom.pv, add_i, sub_i, mul_i, mod_i, fdiv_i, pow_i, lt_i, le_i, gt_i, ge_i, eq_, ne_, in_e, nin_e, is_n, isnot_n, idx_tup, idx_lst, eqP_int, eqP_str, atI_0, atI_1, atI_2, ixN_0, ixN_1, ixN_2, decide_eq_true_eq, Bool.not_true, Bool.not_false, if_true, Bool.false_eq_true, if_false, setSl, len_lst, len_tup, int_i, int_bl, abs_i, min_i, max_i, tup_t, tup_l, newL_F, newL_T, List.map_cons, List.map_nil, List.append_nil, List.nil_append, List.cons_append, Nat.reduceAdd, Nat.reduceSub, List.replicate_succ, List.replicate_zero, retF, retXF, RL.add_ll, RL.add_t, RL.sl_tup, RL.sl_lst, RL.sl_scr, RL.mul_t, RL.str_int, List.zip_nil_left, List.zip_cons_cons])
    refine ret_new (.ref (Nat.le_refl _) pg0 (frzs_old (oldL_ints _))) (q _ tab_len fun x hx => ?_)
    obtain ⟨v, hv, rfl⟩ := tab_mem hx
    have := hd v hv
    rw [List.length_map] at this
    omega
theorem any_tree_ok {mi dr : Nat} (i : is_law_any_tree pg f mi) (i1 : is_law_mixed pg mi dr) (dw : Draws FA.deckA pg dr) {n : Nat} {rs : List Rd2} (g : FA.deckA.Gd 0 h) (hn : n ≤ 100) (hl : rs.length ≤ 100) (hr : In2 n rs)
    (q : ∀ tr h', FA.deckA.Gd 0 h' → Q (.tup (natsPV tr)) (h' ++ ex)) : callK pg (k + 3) f [.ref 1, townPV n rs] (h ++ ex) Q X := by
  refine i.call rfl ?_
  have hsz := sz
  simp only [b_law_any_tree, RL.idx_town0, RL.idx_town1, bindT, bindTs, wpB, wpS, wpE, wpEs, wpO, wpC, wpIs, wpMs, ex_some, ex_some1, ex_bl, ex_int, ex_tup, List.getElem?_cons_zero, List.getElem?_cons_succ, List.set_cons_zero, List.set_cons_succ, List.length_cons, List.length_nil, Atom.pv, add_i, sub_i, mul_i, mod_i, fdiv_i, pow_i, lt_i, le_i, gt_i, ge_i, eq_, ne_, in_e, nin_e, is_n, isnot_n, idx_tup, idx_lst, eqP_int, eqP_str, atI_0, atI_1, atI_2, ixN_0, ixN_1, ixN_2, decide_eq_true_eq, Bool.not_true, Bool.not_false, if_true, Bool.false_eq_true, if_false, setSl, len_lst, len_tup, int_i, int_bl, abs_i, min_i, max_i, tup_t, tup_l, newL_F, newL_T, List.map_cons, List.map_nil, List.append_nil, List.nil_append, List.cons_append, Nat.reduceAdd, Nat.reduceSub, List.replicate_succ, List.replicate_zero, retF, retXF, RL.add_ll, RL.add_t, RL.sl_tup, RL.sl_lst, RL.sl_scr, RL.mul_t, RL.str_int, List.zip_nil_left, List.zip_cons_cons]
  rw [List.length_map]
  refine ⟨_, rng12_1 (rOk_small (by omega) (by omega) (by omega) (by omega)), by rw [rng0_len]; omega, by rw [rng0_len]; omega, by omega, _, rng12_1 (rOk_small (by omega) (by omega) (by omega) (by omega)), by rw [rng0_len]; omega, by rw [rng0_len]; omega, ?_⟩
  rw [rng0_nats, rng0_nats, List.append_assoc, dl0 g]
  refine mix_ok i1 dw RwN (ex := ex ++ [.lst []]) (vs := List.range rs.length) (v := .lst (natsPV (List.range rs.length))) g (by rw [List.length_range]; omega) rfl (by rw [List.length_range]; omega) fun ns h1 g1 hperm => ?_
  obtain ⟨nl, nd, nm⟩ := perm_range hperm
  have eN : List.map RwN.f ns = natsPV ns := rfl
  rw [eN]
  have g1' : FA.deckA.Gd 0 h1 := g1
  refine ⟨_, rfl, ?_⟩
  refine forL_rule (fun j env ph => ∃ (P T : List Nat) (a1 a2 a3 a4 : Option PV), P.length = n ∧ T.length ≤ j ∧ ph = h1 ++ (ex ++ [.lst (natsPV T)]) ∧ env = [some (.ref 1), some (townPV n rs), a1, some (.lst (natsPV P)), some (.ref (FA.deckA.N + ex.length)), a2, a3, a4]) ?_ ?_ ⟨List.range n, [], none, none, none, none, by simp, by simp, rfl, rfl⟩
  · rintro j v env ph hv ⟨P, T, a1, a2, a3, a4, Pl, Tl, rfl, rfl⟩
    rw [natsPV, List.getElem?_map, Option.map_eq_some_iff] at hv
    obtain ⟨k, hk, rfl⟩ := hv
    have hj := (List.getElem?_eq_some_iff.mp hk).1
    have hkl := (nm k).mp (List.mem_of_getElem? hk)
    have hin := hr _ (rd_mem hkl)
    refine ⟨rfl, fun M hM => ⟨by simp, ?_⟩⟩
    (try simp only [RL.idx_town0, RL.idx_town1, bindT, bindTs, wpB, wpS, wpE, wpEs, wpO, wpC, wpIs, wpMs, ex_some, ex_some1, ex_bl, ex_int, ex_tup, List.getElem?_cons_zero, List.getElem?_cons_succ, List.set_cons_zero, List.set_cons_succ, List.length_cons, List.length_nil, Atom.pv, add_i, sub_i, mul_i, mod_i, fdiv_i, pow_i, lt_i, le_i, gt_i, ge_i, eq_, ne_, in_e, nin_e, is_n, isnot_n, idx_tup, idx_lst, eqP_int, eqP_str, atI_0, atI_1, atI_2, ixN_0, ixN_1, ixN_2, decide_eq_true_eq, Bool.not_true, Bool.not_false, if_true, Bool.false_eq_true, if_false, setSl, len_lst, len_tup, int_i, int_bl, abs_i, min_i, max_i, tup_t, tup_l, newL_F, newL_T, List.map_cons, List.map_nil, List.append_nil, List.nil_append, List.cons_append, Nat.reduceAdd, Nat.reduceSub, List.replicate_succ, List.replicate_zero, retF, retXF, RL.add_ll, RL.add_t, RL.sl_tup, RL.sl_lst, RL.sl_scr, RL.mul_t, RL.str_int, List.zip_nil_left, List.zip_cons_cons])
    refine ⟨_, atI_nat (by rw [List.getElem?_map, rd_get hkl]; rfl), ?_⟩
    simp only [roadPV, bindT, bindTs, wpB, wpS, wpE, wpEs, wpO, wpC, wpIs, wpMs, ex_some, ex_some1, ex_bl, ex_int, ex_tup, List.getElem?_cons_zero, List.getElem?_cons_succ, List.set_cons_zero, List.set_cons_succ, List.length_cons, List.length_nil, Atom.pv, add_i, sub_i, mul_i, mod_i, fdiv_i, pow_i, lt_i, le_i, gt_i, ge_i, eq_, ne_, in_e, nin_e, is_n, isnot_n, idx_tup, idx_lst, eqP_int, eqP_str, atI_0, atI_1, atI_2, ixN_0, ixN_1, ixN_2, decide_eq_true_eq, Bool.not_true, Bool.not_false, if_true, Bool.false_eq_true, if_false, setSl, len_lst, len_tup, int_i, int_bl, abs_i, min_i, max_i, tup_t, tup_l, newL_F, newL_T, List.map_cons, List.map_nil, List.append_nil, List.nil_append, List.cons_append, Nat.reduceAdd, Nat.reduceSub, List.replicate_succ, List.replicate_zero, retF, retXF, RL.add_ll, RL.add_t, RL.sl_tup, RL.sl_lst, RL.sl_scr, RL.mul_t, RL.str_int, List.zip_nil_left, List.zip_cons_cons]
    refine ⟨_, atI_nats (by omega), _, atI_nat (by rw [List.getElem?_map, rd_get hkl]; rfl), ?_⟩
    simp only [roadPV, bindT, bindTs, wpB, wpS, wpE, wpEs, wpO, wpC, wpIs, wpMs, ex_some, ex_some1, ex_bl, ex_int, ex_tup, List.getElem?_cons_zero, List.getElem?_cons_succ, List.set_cons_zero, List.set_cons_succ, List.length_cons, List.length_nil, Atom.pv, add_i, sub_i, mul_i, mod_i, fdiv_i, pow_i, lt_i, le_i, gt_i, ge_i, eq_, ne_, in_e, nin_e, is_n, isnot_n, idx_tup, idx_lst, eqP_int, eqP_str, atI_0, atI_1, atI_2, ixN_0, ixN_1, ixN_2, decide_eq_true_eq, Bool.not_true, Bool.not_false, if_true, Bool.false_eq_true, if_false, setSl, len_lst, len_tup, int_i, int_bl, abs_i, min_i, max_i, tup_t, tup_l, newL_F, newL_T, List.map_cons, List.map_nil, List.append_nil, List.nil_append, List.cons_append, Nat.reduceAdd, Nat.reduceSub, List.replicate_succ, List.replicate_zero, retF, retXF, RL.add_ll, RL.add_t, RL.sl_tup, RL.sl_lst, RL.sl_scr, RL.mul_t, RL.str_int, List.zip_nil_left, List.zip_cons_cons]
    refine ⟨_, atI_nats (by omega), ?_⟩
    (try simp only [bindT, bindTs, wpB, wpS, wpE, wpEs, wpO, wpC, wpIs, wpMs, ex_some, ex_some1, ex_bl, ex_int, ex_tup, List.getElem?_cons_zero, List.getElem?_cons_succ, List.set_cons_zero, List.set_cons_succ, List.length_cons, List.length_nil, Atom.pv, add_i, sub_i, mul_i, mod_i, fdiv_i, pow_i, lt_i, le_i, gt_i, ge_i, eq_, ne_, in_e, nin_e, is_n, isnot_n, idx_tup, idx_lst, eqP_int, eqP_str, atI_0, atI_1, atI_2, ixN_0, ixN_1, ixN_2, decide_eq_true_eq, Bool.not_true, Bool.not_false, if_true, Bool.false_eq_true, if_false, setSl, len_lst, len_tup, int_i, int_bl, abs_i, min_i, max_i, tup_t, tup_l, newL_F, newL_T, List.map_cons, List.map_nil, List.append_nil, List.nil_append, List.cons_append, Nat.reduceAdd, Nat.reduceSub, List.replicate_succ, List.replicate_zero, retF, retXF, RL.add_ll, RL.add_t, RL.sl_tup, RL.sl_lst, RL.sl_scr, RL.mul_t, RL.str_int, List.zip_nil_left, List.zip_cons_cons])
    refine ⟨by omega, trivial, by simp, by simp, ?_⟩
    by_cases e : ((P[(rd rs k).1]'(by omega) : Nat) : Int) = (P[(rd rs k).2]'(by omega) : Nat)
    · rw [decide_eq_true e]
      (try simp only [bindT, bindTs, wpB, wpS, wpE, wpEs, wpO, wpC, wpIs, wpMs, ex_some, ex_some1, ex_bl, ex_int, ex_tup, List.getElem?_cons_zero, List.getElem?_cons_succ, List.set_cons_zero, List.set_cons_succ, List.length_cons, List.length_nil, Atom.pv, add_i, sub_i, mul_i, mod_i, fdiv_i, pow_i, lt_i, le_i, gt_i, ge_i, eq_, ne_, in_e, nin_e, is_n, isnot_n, idx_tup, idx_lst, eqP_int, eqP_str, atI_0, atI_1, atI_2, ixN_0, ixN_1, ixN_2, decide_eq_true_eq, Bool.not_true, Bool.not_false, if_true, Bool.false_eq_true, if_false, setSl, len_lst, len_tup, int_i, int_bl, abs_i, min_i, max_i, tup_t, tup_l, newL_F, newL_T, List.map_cons, List.map_nil, List.append_nil, List.nil_append, List.cons_append, Nat.reduceAdd, Nat.reduceSub, List.replicate_succ, List.replicate_zero, retF, retXF, RL.add_ll, RL.add_t, RL.sl_tup, RL.sl_lst, RL.sl_scr, RL.mul_t, RL.str_int, List.zip_nil_left, List.zip_cons_cons])
      exact hM _ _ ⟨P, T, _, _, _, _, Pl, by omega, rfl, rfl⟩
    · rw [decide_eq_false e]
      (try simp only [bindT, bindTs, wpB, wpS, wpE, wpEs, wpO, wpC, wpIs, wpMs, ex_some, ex_some1, ex_bl, ex_int, ex_tup, List.getElem?_cons_zero, List.getElem?_cons_succ, List.set_cons_zero, List.set_cons_succ, List.length_cons, List.length_nil, Atom.pv, add_i, sub_i, mul_i, mod_i, fdiv_i, pow_i, lt_i, le_i, gt_i, ge_i, eq_, ne_, in_e, nin_e, is_n, isnot_n, idx_tup, idx_lst, eqP_int, eqP_str, atI_0, atI_1, atI_2, ixN_0, ixN_1, ixN_2, decide_eq_true_eq, Bool.not_true, Bool.not_false, if_true, Bool.false_eq_true, if_false, setSl, len_lst, len_tup, int_i, int_bl, abs_i, min_i, max_i, tup_t, tup_l, newL_F, newL_T, List.map_cons, List.map_nil, List.append_nil, List.nil_append, List.cons_append, Nat.reduceAdd, Nat.reduceSub, List.replicate_succ, List.replicate_zero, retF, retXF, RL.add_ll, RL.add_t, RL.sl_tup, RL.sl_lst, RL.sl_scr, RL.mul_t, RL.str_int, List.zip_nil_left, List.zip_cons_cons])
      refine ⟨by simp only [lstOf, dg0 g1']; rfl, _, dg0 g1', by rw [nats_len]; omega, ?_⟩
      rw [ds0 g1', show natsPV T ++ [PV.int (k : Int)] = natsPV (T ++ [k]) by simp [natsPV]]
      dsimp only
      refine ⟨_, rfl, ?_⟩
      refine comp_natM (fun x => .int ((if x = P[(rd rs k).2]'(by omega) then P[(rd rs k).1]'(by omega) else x : Nat) : Int)) rfl (by omega) (fun x hx K R hK => ?_) ?_
      · refine ⟨by simp [wipeE], ?_⟩
        simp only [wipeE, bindT, bindTs, wpB, wpS, wpE, wpEs, wpO, wpC, wpIs, wpMs, ex_some, ex_some1, ex_bl, ex_int, ex_tup, List.getElem?_cons_zero, List.getElem?_cons_succ, List.set_cons_zero, List.set_cons_succ, List.length_cons, List.length_nil, Atom.pv, add_i, sub_i, mul_i, mod_i, fdiv_i, pow_i, lt_i, le_i, gt_i, ge_i, eq_, ne_, in_e, nin_e, is_n, isnot_n, idx_tup, idx_lst, eqP_int, eqP_str, atI_0, atI_1, atI_2, ixN_0, ixN_1, ixN_2, decide_eq_true_eq, Bool.not_true, Bool.not_false, if_true, Bool.false_eq_true, if_false, setSl, len_lst, len_tup, int_i, int_bl, abs_i, min_i, max_i, tup_t, tup_l, newL_F, newL_T, List.map_cons, List.map_nil, List.append_nil, List.nil_append, List.cons_append, Nat.reduceAdd, Nat.reduceSub, List.replicate_succ, List.replicate_zero, retF, retXF, RL.add_ll, RL.add_t, RL.sl_tup, RL.sl_lst, RL.sl_scr, RL.mul_t, RL.str_int, List.zip_nil_left, List.zip_cons_cons]
        by_cases e2 : x = P[(rd rs k).2]'(by omega)
        · rw [if_pos e2] at hK
          rw [if_pos (by rw [e2])]
          exact hK
        · rw [if_neg e2] at hK
          rw [if_neg (by omega)]
          exact hK
      · have em : P.map (fun x => PV.int ((if x = P[(rd rs k).2]'(by omega) then P[(rd rs k).1]'(by omega) else x : Nat) : Int)) = natsPV (P.map fun x => if x = P[(rd rs k).2]'(by omega) then P[(rd rs k).1]'(by omega) else x) := by rw [natsPV, List.map_map]; rfl
        rw [em]
        (try simp only [bindT, bindTs, wpB, wpS, wpE, wpEs, wpO, wpC, wpIs, wpMs, ex_some, ex_some1, ex_bl, ex_int, ex_tup, List.getElem?_cons_zero, List.getElem?_cons_succ, List.set_cons_zero, List.set_cons_succ, List.length_cons, List.length_nil, Atom.pv, add_i, sub_i, mul_i, mod_i, fdiv_i, pow_i, lt_i, le_i, gt_i, ge_i, eq_, ne_, in_e, nin_e, is_n, isnot_n, idx_tup, idx_lst, eqP_int, eqP_str, atI_0, atI_1, atI_2, ixN_0, ixN_1, ixN_2, decide_eq_true_eq, Bool.not_true, Bool.not_false, if_true, Bool.false_eq_true, if_false, setSl, len_lst, len_tup, int_i, int_bl, abs_i, min_i, max_i, tup_t, tup_l, newL_F, newL_T, List.map_cons, List.map_nil, List.append_nil, List.nil_append, List.cons_append, Nat.reduceAdd, Nat.reduceSub, List.replicate_succ, List.replicate_zero, retF, retXF, RL.add_ll, RL.add_t, RL.sl_tup, RL.sl_lst, RL.sl_scr, RL.mul_t, RL.str_int, List.zip_nil_left, List.zip_cons_cons])
        exact ⟨by rw [nats_len, List.length_map]; omega, by simp, hM _ _ ⟨_, T ++ [k], _, _, _, _, by rw [List.length_map]; exact Pl, by simp; omega, rfl, rfl⟩⟩
  · rintro env ph ⟨P, T, a1, a2, a3, a4, Pl, Tl, rfl, rfl⟩
    rw [nats_len, nl] at Tl
    refine ⟨rfl, ?_⟩
    (try simp only [bindT, bindTs, wpB, wpS, wpE, wpEs, wpO, wpC, wpIs, wpMs, ex_some, ex_some1, ex_bl, ex_int, ex_tup, List.getElem?_cons_zero, List.getElem?_cons_succ, List.set_cons_zero, List.set_cons_succ, List.length_cons, List.length_nil, Atom.pv, add_i, sub_i, mul_i, mod_i, fdiv_i, pow_i, lt_i, le_i, gt_i, ge_i, eq_, ne_, in_e, nin_e, is_n, isnot_n, idx_tup, idx_lst, eqP_int, eqP_str, atI_0, atI_1, atI_2, ixN_0, ixN_1, ixN_2, decide_eq_true_eq, Bool.not_true, Bool.not_false, if_true, Bool.false_eq_true, if_false, setSl, len_lst, len_tup, int_i, int_bl, abs_i, min_i, max_i, tup_t, tup_l, newL_F, newL_T, List.map_cons, List.map_nil, List.append_nil, List.nil_append, List.cons_append, Nat.reduceAdd, Nat.reduceSub, List.replicate_succ, List.replicate_zero, retF, retXF, RL.add_ll, RL.add_t, RL.sl_tup, RL.sl_lst, RL.sl_scr, RL.mul_t, RL.str_int, List.zip_nil_left, List.zip_cons_cons])
    refine ⟨natsPV T, by simp only [lstOf, dg0 g1'], .inl ⟨T.map fun n : Nat => (n : Int), by rw [nats_ints]; exact intsOf_map _, ?_⟩⟩
    rw [newL_F]
    refine ⟨by rw [List.length_map, (List.mergeSort_perm ..).length_eq, List.length_map]; omega, ?_⟩
    rw [tup_l]
    have es : ((T.map fun n : Nat => (n : Int)).mergeSort fun a b => decide (a ≤ b)).map PV.int = natsPV ((((T.map fun n : Nat => (n : Int)).mergeSort fun a b => decide (a ≤ b))).map Int.toNat) := by
      rw [natsPV, List.map_map]
      refine List.map_congr_left fun z hz => ?_
      have hz' := (List.mergeSort_perm ..).mem_iff.mp hz
      obtain ⟨a, _, rfl⟩ := List.mem_map.mp hz'
      simp
    rw [es]
    exact ret_deckO g g1' (.tup (old_nats _)) (q _ h1 g1')
end
theorem join4 {α β γ δ : Type} {G : α → β → γ → δ → Prop} {R : Prop} (C : α → β → γ → δ → Prop) (h2 : (∀ a b c d, C a b c d → G a b c d) → R) (h1 : ∀ a b c d, C a b c d → G a b c d) : R := h2 h1
theorem red_burn {n root : Nat} {rs : List Rd2} {p : List Int} (pl : p.length = n) (hp : ∀ x ∈ p, 0 ≤ x) : redB n rs p root = decide (burnL n rs (nth p) root = List.range n) := by
  have h1 : richB n root p = true := by
    unfold richB
    rw [List.all_eq_true]
    intro v hv
    have := List.mem_range.mp (List.mem_filter.mp hv).1
    exact decide_eq_true (hp _ (nth_mem (by omega)))
  unfold redB
  rw [h1, Bool.true_and, decide_eq_decide]
  unfold restL coldL burnL
  constructor
  · intro h
    rw [List.filter_eq_nil_iff] at h
    refine List.filter_eq_self.mpr fun v hv => ?_
    have := h v hv
    simpa using this
  · intro h
    rw [List.filter_eq_nil_iff]
    intro v hv
    have := List.filter_eq_self.mp h v hv
    simp [this]
theorem rest_burn {n root : Nat} {rs : List Rd2} {p : Nat → Int} : ((List.range n).filter fun v => !decide (v ∈ burnL n rs p root)) = restL n rs p root := by
  unfold restL coldL
  refine List.filter_congr fun v hv => ?_
  have hv := List.mem_range.mp hv
  congr 1
  rw [Bool.eq_iff_iff, decide_eq_true_eq, mem_burnL]
  exact ⟨fun h => h.2, fun h => ⟨hv, h⟩⟩
theorem law_ok (ns : List Int) (hl : ns.length ≤ 63) (hb : ∀ z ∈ ns, Builtin.Int.intBits z ≤ 1048576) : callK lw.pg 60 12 [.scr ns] [] (fun v _ => v = .bl true) noX := by
  show callK pgm 60 12 _ _ _ _
  have i_law : is_law pgm 12 2 7 4 8 3 11 9 10 1 0 := ⟨⟨_, rfl, rfl, rfl, rfl, rfl⟩⟩
  have i_next : FA.is_law_next pgm 3 := ⟨⟨_, rfl, rfl, rfl, rfl, rfl⟩⟩
  have i_pick : is_law_pick pgm 4 3 := ⟨⟨_, rfl, rfl, rfl, rfl, rfl⟩⟩
  have i_mix : is_law_mixed pgm 5 3 := ⟨⟨_, rfl, rfl, rfl, rfl, rfl⟩⟩
  have i_pair : FA.is_law_pair pgm 6 := ⟨⟨_, rfl, rfl, rfl, rfl, rfl⟩⟩
  have i_town : FA.is_law_town pgm 7 3 5 6 4 := ⟨⟨_, rfl, rfl, rfl, rfl, rfl⟩⟩
  have i_deg : is_law_degrees pgm 8 := ⟨⟨_, rfl, rfl, rfl, rfl, rfl⟩⟩
  have i_tree : is_law_any_tree pgm 11 5 := ⟨⟨_, rfl, rfl, rfl, rfl, rfl⟩⟩
  have i_fire : is_law_fire pgm 9 := ⟨⟨_, rfl, rfl, rfl, rfl, rfl⟩⟩
  have i_any : is_law_any_fire pgm 10 4 := ⟨⟨_, rfl, rfl, rfl, rfl, rfl⟩⟩
  have i_burnt : is_burnt pgm 0 := ⟨⟨_, rfl, rfl, rfl, rfl, rfl⟩⟩
  have i_red : is_is_reduced pgm 1 0 := ⟨⟨_, rfl, rfl, rfl, rfl, rfl⟩⟩
  have hsz := sz
  have two : 2 ≤ sizeLine := by omega
  have three : 3 ≤ sizeLine := by omega
  refine i_law.call rfl ?_
  simp only [b_law, bindT, bindTs, wpB, wpS, wpE, wpEs, wpO, wpC, wpIs, wpMs, ex_some, ex_some1, ex_bl, ex_int, ex_tup, List.getElem?_cons_zero, List.getElem?_cons_succ, List.set_cons_zero, List.set_cons_succ, List.length_cons, List.length_nil, Atom.pv, add_i, sub_i, mul_i, mod_i, fdiv_i, pow_i, lt_i, le_i, gt_i, ge_i, eq_, ne_, in_e, nin_e, is_n, isnot_n, idx_tup, idx_lst, eqP_int, eqP_str, atI_0, atI_1, atI_2, ixN_0, ixN_1, ixN_2, decide_eq_true_eq, Bool.not_true, Bool.not_false, if_true, Bool.false_eq_true, if_false, setSl, len_lst, len_tup, int_i, int_bl, abs_i, min_i, max_i, tup_t, tup_l, newL_F, newL_T, List.map_cons, List.map_nil, List.append_nil, List.nil_append, List.cons_append, Nat.reduceAdd, Nat.reduceSub, List.replicate_succ, List.replicate_zero, retF, retXF, RL.add_ll, RL.add_t, RL.sl_tup, RL.sl_lst, RL.sl_scr, RL.mul_t, RL.str_int, List.zip_nil_left, List.zip_cons_cons]
  refine FA.deck_ok ⟨⟨_, rfl, rfl, rfl, rfl, rfl⟩⟩ fun h0 g0 => ⟨by simp, _, it_r1 (by decide), ?_⟩
  have dw : Draws FA.deckA pgm 3 := FA.draw_ok i_next
  refine forL_rule (fun i env ph => ∃ (a2 a3 a4 a5 a6 a7 a8 a9 a10 a11 a12 a13 a14 a15 a16 a17 : Option PV) (h : PHp), FA.deckA.Gd 0 h ∧ ph = h ++ [] ∧ env = [some (.scr ns), some (.ref 1), a2, a3, a4, a5, a6, a7, a8, a9, a10, a11, a12, a13, a14, a15, a16, a17]) ?_ ?_ ⟨none, none, none, none, none, none, none, none, none, none, none, none, none, none, none, none, h0, g0, by simp, rfl⟩
  · rintro i v env ph hv ⟨a2, a3, a4, a5, a6, a7, a8, a9, a10, a11, a12, a13, a14, a15, a16, a17, h, g, rfl, rfl⟩
    obtain ⟨rfl, _⟩ := rng1_get hv
    rw [show (0 : Int) + (i : Int) = (i : Int) by omega]
    obtain ⟨ex, hex⟩ : ∃ ex : PHp, ex = [] := ⟨_, rfl⟩
    rw [← hex]
    refine ⟨it_r1 (by decide), fun M hM => ⟨by simp, ?_⟩⟩
    simp only [bindT, bindTs, wpB, wpS, wpE, wpEs, wpO, wpC, wpIs, wpMs, ex_some, ex_some1, ex_bl, ex_int, ex_tup, List.getElem?_cons_zero, List.getElem?_cons_succ, List.set_cons_zero, List.set_cons_succ, List.length_cons, List.length_nil, Atom.pv, add_i, sub_i, mul_i, mod_i, fdiv_i, pow_i, lt_i, le_i, gt_i, ge_i, eq_, ne_, in_e, nin_e, is_n, isnot_n, idx_tup, idx_lst, eqP_int, eqP_str, atI_0, atI_1, atI_2, ixN_0, ixN_1, ixN_2, decide_eq_true_eq, Bool.not_true, Bool.not_false, if_true, Bool.false_eq_true, if_false, setSl, len_lst, len_tup, int_i, int_bl, abs_i, min_i, max_i, tup_t, tup_l, newL_F, newL_T, List.map_cons, List.map_nil, List.append_nil, List.nil_append, List.cons_append, Nat.reduceAdd, Nat.reduceSub, List.replicate_succ, List.replicate_zero, retF, retXF, RL.add_ll, RL.add_t, RL.sl_tup, RL.sl_lst, RL.sl_scr, RL.mul_t, RL.str_int, List.zip_nil_left, List.zip_cons_cons]
    refine ⟨by omega, pickL_ok i_pick dw g (by omega) (by decide) (by decide) fun v h1 g1 hv => ⟨by omega, pickL_ok i_pick dw g1 (by omega) (by decide) (by decide) fun w h2 g2 hw => ?_⟩⟩
    have e1 : ∃ a : Nat, v = .int (a : Int) ∧ 1 ≤ a ∧ a ≤ 7 := by
      simp only [List.mem_cons, List.not_mem_nil, or_false] at hv
      rcases hv with rfl | rfl | rfl | rfl
      · exact ⟨1, rfl, by omega, by omega⟩
      · exact ⟨4, rfl, by omega, by omega⟩
      · exact ⟨5, rfl, by omega, by omega⟩
      · exact ⟨7, rfl, by omega, by omega⟩
    have e2 : ∃ a : Nat, w = .int (a : Int) ∧ a ≤ 6 := by
      simp only [List.mem_cons, List.not_mem_nil, or_false] at hw
      rcases hw with rfl | rfl | rfl
      · exact ⟨0, rfl, by omega⟩
      · exact ⟨3, rfl, by omega⟩
      · exact ⟨6, rfl, by omega⟩
    obtain ⟨most, rfl, m1, m7⟩ := e1
    obtain ⟨more, rfl, m6⟩ := e2
    have g2' : FA.deckA.Gd 0 h2 := g2
    refine FA.town_ok i_town i_mix i_pair i_pick dw g2' (by omega) (by omega) (by omega) fun n rs h3 g3 n1 nm rl hr hne => ⟨by simp, ?_⟩
    refine degrees_ok i_deg (by omega) (by omega) hr fun dg dl db => ⟨by simp, ?_⟩
    (try simp only [RL.idx_town0, RL.idx_town1, bindT, bindTs, wpB, wpS, wpE, wpEs, wpO, wpC, wpIs, wpMs, ex_some, ex_some1, ex_bl, ex_int, ex_tup, List.getElem?_cons_zero, List.getElem?_cons_succ, List.set_cons_zero, List.set_cons_succ, List.length_cons, List.length_nil, Atom.pv, add_i, sub_i, mul_i, mod_i, fdiv_i, pow_i, lt_i, le_i, gt_i, ge_i, eq_, ne_, in_e, nin_e, is_n, isnot_n, idx_tup, idx_lst, eqP_int, eqP_str, atI_0, atI_1, atI_2, ixN_0, ixN_1, ixN_2, decide_eq_true_eq, Bool.not_true, Bool.not_false, if_true, Bool.false_eq_true, if_false, setSl, len_lst, len_tup, int_i, int_bl, abs_i, min_i, max_i, tup_t, tup_l, newL_F, newL_T, List.map_cons, List.map_nil, List.append_nil, List.nil_append, List.cons_append, Nat.reduceAdd, Nat.reduceSub, List.replicate_succ, List.replicate_zero, retF, retXF, RL.add_ll, RL.add_t, RL.sl_tup, RL.sl_lst, RL.sl_scr, RL.mul_t, RL.str_int, List.zip_nil_left, List.zip_cons_cons])
    refine dw g3 (by omega) (by omega) (by omega) fun root h4 g4 o0 o1 => ?_
    obtain ⟨root, rfl⟩ : ∃ a' : Nat, (a' : Int) = root := ⟨root.toNat, by omega⟩
    have ho : root < n := by omega
    have g4' : FA.deckA.Gd 0 h4 := g4
    refine ⟨by simp, _, it_r1 (by decide), ?_⟩
    refine forL_rule (fun i2 env ph => ∃ (a6 a7 a8 a9 a10 a11 a12 a13 a14 a15 a16 a17 : Option PV) (h : PHp), FA.deckA.Gd 0 h ∧ ph = h ++ ex ∧ env = [some (.scr ns), some (.ref 1), some (.int (i : Int)), some (townPV n rs), some (.lst (dg.map .int)), some (.int (root : Int)), a6, a7, a8, a9, a10, a11, a12, a13, a14, a15, a16, a17]) ?_ ?_ ⟨_, _, _, _, _, _, _, _, _, _, _, _, h4, g4', rfl, rfl⟩
    · rintro i2 v2 env ph hv2 ⟨a6, a7, a8, a9, a10, a11, a12, a13, a14, a15, a16, a17, h5, g5, rfl, rfl⟩
      refine ⟨it_r1 (by decide), fun N hN => ⟨by simp, ?_⟩⟩
      (try simp only [bindT, bindTs, wpB, wpS, wpE, wpEs, wpO, wpC, wpIs, wpMs, ex_some, ex_some1, ex_bl, ex_int, ex_tup, List.getElem?_cons_zero, List.getElem?_cons_succ, List.set_cons_zero, List.set_cons_succ, List.length_cons, List.length_nil, Atom.pv, add_i, sub_i, mul_i, mod_i, fdiv_i, pow_i, lt_i, le_i, gt_i, ge_i, eq_, ne_, in_e, nin_e, is_n, isnot_n, idx_tup, idx_lst, eqP_int, eqP_str, atI_0, atI_1, atI_2, ixN_0, ixN_1, ixN_2, decide_eq_true_eq, Bool.not_true, Bool.not_false, if_true, Bool.false_eq_true, if_false, setSl, len_lst, len_tup, int_i, int_bl, abs_i, min_i, max_i, tup_t, tup_l, newL_F, newL_T, List.map_cons, List.map_nil, List.append_nil, List.nil_append, List.cons_append, Nat.reduceAdd, Nat.reduceSub, List.replicate_succ, List.replicate_zero, retF, retXF, RL.add_ll, RL.add_t, RL.sl_tup, RL.sl_lst, RL.sl_scr, RL.mul_t, RL.str_int, List.zip_nil_left, List.zip_cons_cons])
      refine ⟨_, rfl, ?_⟩
      refine compL_rule (fun j acc ph => ∃ (hp : PHp) (zs : List Int), FA.deckA.Gd 0 hp ∧ ph = hp ++ ex ∧ acc = zs.map .int ∧ zs.length = j ∧ ∀ x ∈ zs, 0 ≤ x ∧ x ≤ 200) ?_ ?_ ⟨h5, [], g5, rfl, rfl, rfl, by simp⟩
      · rintro j v acc ph hv ⟨hp, zs, g6, rfl, rfl, zl, hz⟩
        rw [List.getElem?_map, Option.map_eq_some_iff] at hv
        obtain ⟨y, hy, rfl⟩ := hv
        have hyb := db y (List.mem_of_getElem? hy)
        have hj := (List.getElem?_eq_some_iff.mp hy).1
        refine ⟨rfl, fun M' hM' => ⟨by simp [wipeE], ?_⟩⟩
        simp only [wipeE, bindT, bindTs, wpB, wpS, wpE, wpEs, wpO, wpC, wpIs, wpMs, ex_some, ex_some1, ex_bl, ex_int, ex_tup, List.getElem?_cons_zero, List.getElem?_cons_succ, List.set_cons_zero, List.set_cons_succ, List.length_cons, List.length_nil, Atom.pv, add_i, sub_i, mul_i, mod_i, fdiv_i, pow_i, lt_i, le_i, gt_i, ge_i, eq_, ne_, in_e, nin_e, is_n, isnot_n, idx_tup, idx_lst, eqP_int, eqP_str, atI_0, atI_1, atI_2, ixN_0, ixN_1, ixN_2, decide_eq_true_eq, Bool.not_true, Bool.not_false, if_true, Bool.false_eq_true, if_false, setSl, len_lst, len_tup, int_i, int_bl, abs_i, min_i, max_i, tup_t, tup_l, newL_F, newL_T, List.map_cons, List.map_nil, List.append_nil, List.nil_append, List.cons_append, Nat.reduceAdd, Nat.reduceSub, List.replicate_succ, List.replicate_zero, retF, retXF, RL.add_ll, RL.add_t, RL.sl_tup, RL.sl_lst, RL.sl_scr, RL.mul_t, RL.str_int, List.zip_nil_left, List.zip_cons_cons]
        refine dw g6 (by omega) (by omega) (by omega) fun r h7 g7 r0 r1 => ?_
        (try simp only [bindT, bindTs, wpB, wpS, wpE, wpEs, wpO, wpC, wpIs, wpMs, ex_some, ex_some1, ex_bl, ex_int, ex_tup, List.getElem?_cons_zero, List.getElem?_cons_succ, List.set_cons_zero, List.set_cons_succ, List.length_cons, List.length_nil, Atom.pv, add_i, sub_i, mul_i, mod_i, fdiv_i, pow_i, lt_i, le_i, gt_i, ge_i, eq_, ne_, in_e, nin_e, is_n, isnot_n, idx_tup, idx_lst, eqP_int, eqP_str, atI_0, atI_1, atI_2, ixN_0, ixN_1, ixN_2, decide_eq_true_eq, Bool.not_true, Bool.not_false, if_true, Bool.false_eq_true, if_false, setSl, len_lst, len_tup, int_i, int_bl, abs_i, min_i, max_i, tup_t, tup_l, newL_F, newL_T, List.map_cons, List.map_nil, List.append_nil, List.nil_append, List.cons_append, Nat.reduceAdd, Nat.reduceSub, List.replicate_succ, List.replicate_zero, retF, retXF, RL.add_ll, RL.add_t, RL.sl_tup, RL.sl_lst, RL.sl_scr, RL.mul_t, RL.str_int, List.zip_nil_left, List.zip_cons_cons])
        refine dw g7 (by omega) (by omega) (by omega) fun t h8 g8 t0 t1 => ?_
        exact ⟨by rw [List.length_map]; omega, hM' _ _ ⟨h8, zs ++ [t], g8, rfl, ints_acc _ _, by simp [zl], fun x hx => by
          rcases List.mem_append.mp hx with hx | hx
          · exact hz x hx
          · rw [List.mem_singleton.mp hx]; omega⟩⟩
      rintro acc ph ⟨h6, p0, g6, rfl, rfl, p0l, p0b⟩
      rw [List.length_map, dl] at p0l
      refine ⟨rfl, ?_⟩
      (try simp only [bindT, bindTs, wpB, wpS, wpE, wpEs, wpO, wpC, wpIs, wpMs, ex_some, ex_some1, ex_bl, ex_int, ex_tup, List.getElem?_cons_zero, List.getElem?_cons_succ, List.set_cons_zero, List.set_cons_succ, List.length_cons, List.length_nil, Atom.pv, add_i, sub_i, mul_i, mod_i, fdiv_i, pow_i, lt_i, le_i, gt_i, ge_i, eq_, ne_, in_e, nin_e, is_n, isnot_n, idx_tup, idx_lst, eqP_int, eqP_str, atI_0, atI_1, atI_2, ixN_0, ixN_1, ixN_2, decide_eq_true_eq, Bool.not_true, Bool.not_false, if_true, Bool.false_eq_true, if_false, setSl, len_lst, len_tup, int_i, int_bl, abs_i, min_i, max_i, tup_t, tup_l, newL_F, newL_T, List.map_cons, List.map_nil, List.append_nil, List.nil_append, List.cons_append, Nat.reduceAdd, Nat.reduceSub, List.replicate_succ, List.replicate_zero, retF, retXF, RL.add_ll, RL.add_t, RL.sl_tup, RL.sl_lst, RL.sl_scr, RL.mul_t, RL.str_int, List.zip_nil_left, List.zip_cons_cons])
      refine ⟨by rw [List.length_map]; omega, by simp, dw g6 (by omega) (by omega) (by omega) fun c h7 g7 c0 c1 => ?_⟩
      have g7' : FA.deckA.Gd 0 h7 := g7
      rw [eqP_int]
      apply join4 (fun (a13 a14 : Option PV) (p : List Int) (h8 : PHp) => FA.deckA.Gd 0 h8 ∧ p.length = n ∧ ∀ x ∈ p, 0 ≤ x ∧ x ≤ 300)
      · intro fin
        by_cases cz : c = 0
        · rw [decide_eq_true cz, if_pos rfl]
          refine any_tree_ok i_tree i_mix dw g7' (by omega) (by omega) hr fun tr h8 g8 => ⟨by simp, ?_⟩
          refine fireT_ok i_fire (by omega) (by omega) hr ho fun x y z d dl2 db2 => ⟨_, atI_2, by simp, ?_⟩
          (try simp only [RL.idx_town0, RL.idx_town1, bindT, bindTs, wpB, wpS, wpE, wpEs, wpO, wpC, wpIs, wpMs, ex_some, ex_some1, ex_bl, ex_int, ex_tup, List.getElem?_cons_zero, List.getElem?_cons_succ, List.set_cons_zero, List.set_cons_succ, List.length_cons, List.length_nil, Atom.pv, add_i, sub_i, mul_i, mod_i, fdiv_i, pow_i, lt_i, le_i, gt_i, ge_i, eq_, ne_, in_e, nin_e, is_n, isnot_n, idx_tup, idx_lst, eqP_int, eqP_str, atI_0, atI_1, atI_2, ixN_0, ixN_1, ixN_2, decide_eq_true_eq, Bool.not_true, Bool.not_false, if_true, Bool.false_eq_true, if_false, setSl, len_lst, len_tup, int_i, int_bl, abs_i, min_i, max_i, tup_t, tup_l, newL_F, newL_T, List.map_cons, List.map_nil, List.append_nil, List.nil_append, List.cons_append, Nat.reduceAdd, Nat.reduceSub, List.replicate_succ, List.replicate_zero, retF, retXF, RL.add_ll, RL.add_t, RL.sl_tup, RL.sl_lst, RL.sl_scr, RL.mul_t, RL.str_int, List.zip_nil_left, List.zip_cons_cons])
          refine dw g8 (by omega) (by omega) (by omega) fun hs h9 g9 s0 s1 => ?_
          obtain ⟨hs, rfl⟩ : ∃ a' : Nat, (a' : Int) = hs := ⟨hs.toNat, by omega⟩
          have hsn : hs < d.length := by omega
          simp only [pursePV, bindT, bindTs, wpB, wpS, wpE, wpEs, wpO, wpC, wpIs, wpMs, ex_some, ex_some1, ex_bl, ex_int, ex_tup, List.getElem?_cons_zero, List.getElem?_cons_succ, List.set_cons_zero, List.set_cons_succ, List.length_cons, List.length_nil, Atom.pv, add_i, sub_i, mul_i, mod_i, fdiv_i, pow_i, lt_i, le_i, gt_i, ge_i, eq_, ne_, in_e, nin_e, is_n, isnot_n, idx_tup, idx_lst, eqP_int, eqP_str, atI_0, atI_1, atI_2, ixN_0, ixN_1, ixN_2, decide_eq_true_eq, Bool.not_true, Bool.not_false, if_true, Bool.false_eq_true, if_false, setSl, len_lst, len_tup, int_i, int_bl, abs_i, min_i, max_i, tup_t, tup_l, newL_F, newL_T, List.map_cons, List.map_nil, List.append_nil, List.nil_append, List.cons_append, Nat.reduceAdd, Nat.reduceSub, List.replicate_succ, List.replicate_zero, retF, retXF, RL.add_ll, RL.add_t, RL.sl_tup, RL.sl_lst, RL.sl_scr, RL.mul_t, RL.str_int, List.zip_nil_left, List.zip_cons_cons]
          refine ⟨by simp, _, atI_nth hsn, ?_⟩
          refine dw g9 (by omega) (by omega) (by omega) fun r h10 g10 r0 r1 => ?_
          have g10' : FA.deckA.Gd 0 h10 := g10
          have hdh := db2 _ (nth_mem hsn)
          have c1' := cut_le (xs := d.map PV.int) (lo := none) (hi := some (hs : Int))
          have c2' := cut_le (xs := d.map PV.int) (lo := some ((hs : Int) + 1)) (hi := none)
          rw [List.length_map, dl2] at c1' c2'
          (try simp only [bindT, bindTs, wpB, wpS, wpE, wpEs, wpO, wpC, wpIs, wpMs, ex_some, ex_some1, ex_bl, ex_int, ex_tup, List.getElem?_cons_zero, List.getElem?_cons_succ, List.set_cons_zero, List.set_cons_succ, List.length_cons, List.length_nil, Atom.pv, add_i, sub_i, mul_i, mod_i, fdiv_i, pow_i, lt_i, le_i, gt_i, ge_i, eq_, ne_, in_e, nin_e, is_n, isnot_n, idx_tup, idx_lst, eqP_int, eqP_str, atI_0, atI_1, atI_2, ixN_0, ixN_1, ixN_2, decide_eq_true_eq, Bool.not_true, Bool.not_false, if_true, Bool.false_eq_true, if_false, setSl, len_lst, len_tup, int_i, int_bl, abs_i, min_i, max_i, tup_t, tup_l, newL_F, newL_T, List.map_cons, List.map_nil, List.append_nil, List.nil_append, List.cons_append, Nat.reduceAdd, Nat.reduceSub, List.replicate_succ, List.replicate_zero, retF, retXF, RL.add_ll, RL.add_t, RL.sl_tup, RL.sl_lst, RL.sl_scr, RL.mul_t, RL.str_int, List.zip_nil_left, List.zip_cons_cons])
          refine ⟨by omega, by omega, by simp only [List.length_append, List.length_cons, List.length_nil]; omega, by simp, ?_⟩
          have key : cut (d.map PV.int) none (some (hs : Int)) ++ [.int (nth d hs + r)] ++ cut (d.map PV.int) (some ((hs : Int) + 1)) none = (d.set hs (nth d hs + r)).map .int := by
            rw [cut_set (by rw [List.length_map]; exact hsn), set_int]
          rw [key]
          obtain ⟨b13, e13⟩ : ∃ b, b = some (PV.tup (natsPV tr)) := ⟨_, rfl⟩
          obtain ⟨b14, e14⟩ : ∃ b, b = some (PV.int (hs : Int)) := ⟨_, rfl⟩
          obtain ⟨p1, hp1⟩ : ∃ p1, p1 = d.set hs (nth d hs + r) := ⟨_, rfl⟩
          rw [← e13, ← e14, ← hp1]
          exact fin b13 b14 p1 h10 ⟨g10', by rw [hp1, List.length_set]; exact dl2, fun x hx => by
            rw [hp1] at hx
            rcases List.mem_or_eq_of_mem_set hx with hx | rfl
            · have := db2 x hx; omega
            · omega⟩
        · rw [decide_eq_false cz, if_neg (by decide)]
          (try simp only [RL.idx_town0, RL.idx_town1, bindT, bindTs, wpB, wpS, wpE, wpEs, wpO, wpC, wpIs, wpMs, ex_some, ex_some1, ex_bl, ex_int, ex_tup, List.getElem?_cons_zero, List.getElem?_cons_succ, List.set_cons_zero, List.set_cons_succ, List.length_cons, List.length_nil, Atom.pv, add_i, sub_i, mul_i, mod_i, fdiv_i, pow_i, lt_i, le_i, gt_i, ge_i, eq_, ne_, in_e, nin_e, is_n, isnot_n, idx_tup, idx_lst, eqP_int, eqP_str, atI_0, atI_1, atI_2, ixN_0, ixN_1, ixN_2, decide_eq_true_eq, Bool.not_true, Bool.not_false, if_true, Bool.false_eq_true, if_false, setSl, len_lst, len_tup, int_i, int_bl, abs_i, min_i, max_i, tup_t, tup_l, newL_F, newL_T, List.map_cons, List.map_nil, List.append_nil, List.nil_append, List.cons_append, Nat.reduceAdd, Nat.reduceSub, List.replicate_succ, List.replicate_zero, retF, retXF, RL.add_ll, RL.add_t, RL.sl_tup, RL.sl_lst, RL.sl_scr, RL.mul_t, RL.str_int, List.zip_nil_left, List.zip_cons_cons])
          exact fin a13 a14 p0 h7 ⟨g7', p0l, fun x hx => by have := p0b x hx; omega⟩
      rintro b13 b14 p h8 ⟨g8, pl, pb⟩
      have pp : ∀ x ∈ p, 0 ≤ x := fun x hx => (pb x hx).1
      have epp : PV.tup (p.map .int) = pursePV p := rfl
      rw [epp]
      have tk : Tx 40000 4 (.lst [townPV n rs, .int (root : Int), pursePV p]) := tx_lst (w := 12000) (dp := 3) (txA_cons (tx_town hr (by omega) (by omega)) (txA_cons (tx_nat (by omega)) (txA_cons ((tx_purse (fun x hx => by have := pb x hx; omega) (by omega)).mono (by decide) (by decide)) txA_nil))) (by simp) (by decide)
      obtain ⟨BL, hBL⟩ : ∃ BL, BL = burnL n rs (nth p) root := ⟨_, rfl⟩
      have bll : BL.length ≤ n := by
        rw [hBL]
        have := List.length_filter_le (fun v => fireE n rs (nth p) root v) (List.range n)
        rwa [List.length_range] at this
      (try simp only [RL.idx_town0, RL.idx_town1, bindT, bindTs, wpB, wpS, wpE, wpEs, wpO, wpC, wpIs, wpMs, ex_some, ex_some1, ex_bl, ex_int, ex_tup, List.getElem?_cons_zero, List.getElem?_cons_succ, List.set_cons_zero, List.set_cons_succ, List.length_cons, List.length_nil, Atom.pv, add_i, sub_i, mul_i, mod_i, fdiv_i, pow_i, lt_i, le_i, gt_i, ge_i, eq_, ne_, in_e, nin_e, is_n, isnot_n, idx_tup, idx_lst, eqP_int, eqP_str, atI_0, atI_1, atI_2, ixN_0, ixN_1, ixN_2, decide_eq_true_eq, Bool.not_true, Bool.not_false, if_true, Bool.false_eq_true, if_false, setSl, len_lst, len_tup, int_i, int_bl, abs_i, min_i, max_i, tup_t, tup_l, newL_F, newL_T, List.map_cons, List.map_nil, List.append_nil, List.nil_append, List.cons_append, Nat.reduceAdd, Nat.reduceSub, List.replicate_succ, List.replicate_zero, retF, retXF, RL.add_ll, RL.add_t, RL.sl_tup, RL.sl_lst, RL.sl_scr, RL.mul_t, RL.str_int, List.zip_nil_left, List.zip_cons_cons])
      refine ⟨three, repr_tx tk (by decide) (by decide) ⟨_, rng12_1 (rOk_small (by omega) (by omega) (by omega) (by omega)), by rw [rng0_len]; omega, by rw [rng0_len]; omega, ?_⟩⟩
      rw [rng0_nats]
      refine any_fire_ok i_any i_pick dw g8 (by omega) (by omega) hr pl ho pp fun h9 g9 => ⟨by simp, _, it_r1 (by decide), ?_⟩
      rw [← hBL]
      refine forL_rule (fun i3 env ph => ∃ (a9 a10 a11 a12 : Option PV) (h : PHp), FA.deckA.Gd 0 h ∧ ph = h ++ ex ∧ env = [some (.scr ns), some (.ref 1), some (.int (i : Int)), some (townPV n rs), some (.lst (dg.map .int)), some (.int (root : Int)), some v2, some (pursePV p), some (.lst (natsPV BL)), a9, a10, a11, a12, b13, b14, some (.str (txt (.lst [townPV n rs, .int (root : Int), pursePV p]))), some (.lst (natsPV (List.range n))), a17]) ?_ ?_ ⟨_, _, _, _, h9, g9, rfl, rfl⟩
      · rintro i3 v3 env ph hv3 ⟨a9, a10, a11, a12, h10, g10, rfl, rfl⟩
        refine ⟨it_r1 (by decide), fun M' hM' => ⟨by simp, ?_⟩⟩
        (try simp only [bindT, bindTs, wpB, wpS, wpE, wpEs, wpO, wpC, wpIs, wpMs, ex_some, ex_some1, ex_bl, ex_int, ex_tup, List.getElem?_cons_zero, List.getElem?_cons_succ, List.set_cons_zero, List.set_cons_succ, List.length_cons, List.length_nil, Atom.pv, add_i, sub_i, mul_i, mod_i, fdiv_i, pow_i, lt_i, le_i, gt_i, ge_i, eq_, ne_, in_e, nin_e, is_n, isnot_n, idx_tup, idx_lst, eqP_int, eqP_str, atI_0, atI_1, atI_2, ixN_0, ixN_1, ixN_2, decide_eq_true_eq, Bool.not_true, Bool.not_false, if_true, Bool.false_eq_true, if_false, setSl, len_lst, len_tup, int_i, int_bl, abs_i, min_i, max_i, tup_t, tup_l, newL_F, newL_T, List.map_cons, List.map_nil, List.append_nil, List.nil_append, List.cons_append, Nat.reduceAdd, Nat.reduceSub, List.replicate_succ, List.replicate_zero, retF, retXF, RL.add_ll, RL.add_t, RL.sl_tup, RL.sl_lst, RL.sl_scr, RL.mul_t, RL.str_int, List.zip_nil_left, List.zip_cons_cons])
        refine any_fire_ok i_any i_pick dw g10 (by omega) (by omega) hr pl ho pp fun h11 g11 => ?_
        rw [← hBL]
        refine eq_lnats ?_
        rw [decide_eq_true rfl]
        (try simp only [bindT, bindTs, wpB, wpS, wpE, wpEs, wpO, wpC, wpIs, wpMs, ex_some, ex_some1, ex_bl, ex_int, ex_tup, List.getElem?_cons_zero, List.getElem?_cons_succ, List.set_cons_zero, List.set_cons_succ, List.length_cons, List.length_nil, Atom.pv, add_i, sub_i, mul_i, mod_i, fdiv_i, pow_i, lt_i, le_i, gt_i, ge_i, eq_, ne_, in_e, nin_e, is_n, isnot_n, idx_tup, idx_lst, eqP_int, eqP_str, atI_0, atI_1, atI_2, ixN_0, ixN_1, ixN_2, decide_eq_true_eq, Bool.not_true, Bool.not_false, if_true, Bool.false_eq_true, if_false, setSl, len_lst, len_tup, int_i, int_bl, abs_i, min_i, max_i, tup_t, tup_l, newL_F, newL_T, List.map_cons, List.map_nil, List.append_nil, List.nil_append, List.cons_append, Nat.reduceAdd, Nat.reduceSub, List.replicate_succ, List.replicate_zero, retF, retXF, RL.add_ll, RL.add_t, RL.sl_tup, RL.sl_lst, RL.sl_scr, RL.mul_t, RL.str_int, List.zip_nil_left, List.zip_cons_cons])
        exact hM' _ _ ⟨_, _, _, _, h11, g11, rfl, rfl⟩
      rintro env ph ⟨a9, a10, a11, a12, h10, g10, rfl, rfl⟩
      refine ⟨it_r1 (by decide), ?_⟩
      (try simp only [bindT, bindTs, wpB, wpS, wpE, wpEs, wpO, wpC, wpIs, wpMs, ex_some, ex_some1, ex_bl, ex_int, ex_tup, List.getElem?_cons_zero, List.getElem?_cons_succ, List.set_cons_zero, List.set_cons_succ, List.length_cons, List.length_nil, Atom.pv, add_i, sub_i, mul_i, mod_i, fdiv_i, pow_i, lt_i, le_i, gt_i, ge_i, eq_, ne_, in_e, nin_e, is_n, isnot_n, idx_tup, idx_lst, eqP_int, eqP_str, atI_0, atI_1, atI_2, ixN_0, ixN_1, ixN_2, decide_eq_true_eq, Bool.not_true, Bool.not_false, if_true, Bool.false_eq_true, if_false, setSl, len_lst, len_tup, int_i, int_bl, abs_i, min_i, max_i, tup_t, tup_l, newL_F, newL_T, List.map_cons, List.map_nil, List.append_nil, List.nil_append, List.cons_append, Nat.reduceAdd, Nat.reduceSub, List.replicate_succ, List.replicate_zero, retF, retXF, RL.add_ll, RL.add_t, RL.sl_tup, RL.sl_lst, RL.sl_scr, RL.mul_t, RL.str_int, List.zip_nil_left, List.zip_cons_cons])
      refine fireP_ok i_fire (by omega) (by omega) hr pl ho pp fun x y z B nd Bl hB => ⟨_, rfl, ?_⟩
      refine sorted_nats (B := B) rfl nd hB burnL_sorted ?_
      rw [← hBL]
      (try simp only [bindT, bindTs, wpB, wpS, wpE, wpEs, wpO, wpC, wpIs, wpMs, ex_some, ex_some1, ex_bl, ex_int, ex_tup, List.getElem?_cons_zero, List.getElem?_cons_succ, List.set_cons_zero, List.set_cons_succ, List.length_cons, List.length_nil, Atom.pv, add_i, sub_i, mul_i, mod_i, fdiv_i, pow_i, lt_i, le_i, gt_i, ge_i, eq_, ne_, in_e, nin_e, is_n, isnot_n, idx_tup, idx_lst, eqP_int, eqP_str, atI_0, atI_1, atI_2, ixN_0, ixN_1, ixN_2, decide_eq_true_eq, Bool.not_true, Bool.not_false, if_true, Bool.false_eq_true, if_false, setSl, len_lst, len_tup, int_i, int_bl, abs_i, min_i, max_i, tup_t, tup_l, newL_F, newL_T, List.map_cons, List.map_nil, List.append_nil, List.nil_append, List.cons_append, Nat.reduceAdd, Nat.reduceSub, List.replicate_succ, List.replicate_zero, retF, retXF, RL.add_ll, RL.add_t, RL.sl_tup, RL.sl_lst, RL.sl_scr, RL.mul_t, RL.str_int, List.zip_nil_left, List.zip_cons_cons])
      refine ⟨by rw [nats_len]; omega, eq_lnats ?_⟩
      rw [decide_eq_true rfl]
      (try simp only [bindT, bindTs, wpB, wpS, wpE, wpEs, wpO, wpC, wpIs, wpMs, ex_some, ex_some1, ex_bl, ex_int, ex_tup, List.getElem?_cons_zero, List.getElem?_cons_succ, List.set_cons_zero, List.set_cons_succ, List.length_cons, List.length_nil, Atom.pv, add_i, sub_i, mul_i, mod_i, fdiv_i, pow_i, lt_i, le_i, gt_i, ge_i, eq_, ne_, in_e, nin_e, is_n, isnot_n, idx_tup, idx_lst, eqP_int, eqP_str, atI_0, atI_1, atI_2, ixN_0, ixN_1, ixN_2, decide_eq_true_eq, Bool.not_true, Bool.not_false, if_true, Bool.false_eq_true, if_false, setSl, len_lst, len_tup, int_i, int_bl, abs_i, min_i, max_i, tup_t, tup_l, newL_F, newL_T, List.map_cons, List.map_nil, List.append_nil, List.nil_append, List.cons_append, Nat.reduceAdd, Nat.reduceSub, List.replicate_succ, List.replicate_zero, retF, retXF, RL.add_ll, RL.add_t, RL.sl_tup, RL.sl_lst, RL.sl_scr, RL.mul_t, RL.str_int, List.zip_nil_left, List.zip_cons_cons])
      refine eq_lnats ?_
      have er := red_burn (n := n) (root := root) (rs := rs) pl pp
      rw [← hBL] at er
      rw [← er]
      (try simp only [bindT, bindTs, wpB, wpS, wpE, wpEs, wpO, wpC, wpIs, wpMs, ex_some, ex_some1, ex_bl, ex_int, ex_tup, List.getElem?_cons_zero, List.getElem?_cons_succ, List.set_cons_zero, List.set_cons_succ, List.length_cons, List.length_nil, Atom.pv, add_i, sub_i, mul_i, mod_i, fdiv_i, pow_i, lt_i, le_i, gt_i, ge_i, eq_, ne_, in_e, nin_e, is_n, isnot_n, idx_tup, idx_lst, eqP_int, eqP_str, atI_0, atI_1, atI_2, ixN_0, ixN_1, ixN_2, decide_eq_true_eq, Bool.not_true, Bool.not_false, if_true, Bool.false_eq_true, if_false, setSl, len_lst, len_tup, int_i, int_bl, abs_i, min_i, max_i, tup_t, tup_l, newL_F, newL_T, List.map_cons, List.map_nil, List.append_nil, List.nil_append, List.cons_append, Nat.reduceAdd, Nat.reduceSub, List.replicate_succ, List.replicate_zero, retF, retXF, RL.add_ll, RL.add_t, RL.sl_tup, RL.sl_lst, RL.sl_scr, RL.mul_t, RL.str_int, List.zip_nil_left, List.zip_cons_cons])
      refine ⟨by simp, is_reduced_ok i_red i_burnt (by omega) hr (by omega) pl ho ⟨_, rfl, is_reduced_ok i_red i_burnt (by omega) hr (by omega) pl ho ?_⟩⟩
      obtain ⟨rb, hrb⟩ : ∃ rb, rb = redB n rs p root := ⟨_, rfl⟩
      rw [← hrb]
      have tb := tx_two (tx_bl (w := 10) (dp := 1) (b := rb)) (tx_bl (b := rb))
      refine ⟨two, by simp, repr_tx tb (by decide) (by decide) ⟨two, repr_tx tb (by decide) (by decide) (eq_txt rfl ?_)⟩⟩
      (try simp only [bindT, bindTs, wpB, wpS, wpE, wpEs, wpO, wpC, wpIs, wpMs, ex_some, ex_some1, ex_bl, ex_int, ex_tup, List.getElem?_cons_zero, List.getElem?_cons_succ, List.set_cons_zero, List.set_cons_succ, List.length_cons, List.length_nil, Atom.pv, add_i, sub_i, mul_i, mod_i, fdiv_i, pow_i, lt_i, le_i, gt_i, ge_i, eq_, ne_, in_e, nin_e, is_n, isnot_n, idx_tup, idx_lst, eqP_int, eqP_str, atI_0, atI_1, atI_2, ixN_0, ixN_1, ixN_2, decide_eq_true_eq, Bool.not_true, Bool.not_false, if_true, Bool.false_eq_true, if_false, setSl, len_lst, len_tup, int_i, int_bl, abs_i, min_i, max_i, tup_t, tup_l, newL_F, newL_T, List.map_cons, List.map_nil, List.append_nil, List.nil_append, List.cons_append, Nat.reduceAdd, Nat.reduceSub, List.replicate_succ, List.replicate_zero, retF, retXF, RL.add_ll, RL.add_t, RL.sl_tup, RL.sl_lst, RL.sl_scr, RL.mul_t, RL.str_int, List.zip_nil_left, List.zip_cons_cons])
      refine ⟨_, rfl, ?_⟩
      refine comp_natF (fun v => !decide (v ∈ BL)) (fun v => .int (v : Int)) rfl (by rw [List.length_range]; omega) (fun v hv K R k1 k2 => ?_) ?_
      · refine ⟨by simp [wipeE], ?_⟩
        simp only [wipeE, bindT, bindTs, wpB, wpS, wpE, wpEs, wpO, wpC, wpIs, wpMs, ex_some, ex_some1, ex_bl, ex_int, ex_tup, List.getElem?_cons_zero, List.getElem?_cons_succ, List.set_cons_zero, List.set_cons_succ, List.length_cons, List.length_nil, Atom.pv, add_i, sub_i, mul_i, mod_i, fdiv_i, pow_i, lt_i, le_i, gt_i, ge_i, eq_, ne_, in_e, nin_e, is_n, isnot_n, idx_tup, idx_lst, eqP_int, eqP_str, atI_0, atI_1, atI_2, ixN_0, ixN_1, ixN_2, decide_eq_true_eq, Bool.not_true, Bool.not_false, if_true, Bool.false_eq_true, if_false, setSl, len_lst, len_tup, int_i, int_bl, abs_i, min_i, max_i, tup_t, tup_l, newL_F, newL_T, List.map_cons, List.map_nil, List.append_nil, List.nil_append, List.cons_append, Nat.reduceAdd, Nat.reduceSub, List.replicate_succ, List.replicate_zero, retF, retXF, RL.add_ll, RL.add_t, RL.sl_tup, RL.sl_lst, RL.sl_scr, RL.mul_t, RL.str_int, List.zip_nil_left, List.zip_cons_cons]
        refine in_lnats ?_
        by_cases e : v ∈ BL
        · rw [decide_eq_true e]
          exact k2 (by simp [e])
        · rw [decide_eq_false e]
          exact k1 (by simp [e])
      · have en : ((List.range n).filter fun v => !decide (v ∈ BL)).map (fun v : Nat => PV.int (v : Int)) = natsPV (restL n rs (nth p) root) := by
          rw [hBL, rest_burn]; rfl
        rw [en]
        have rl2 : (restL n rs (nth p) root).length ≤ n := cold_le
        (try simp only [bindT, bindTs, wpB, wpS, wpE, wpEs, wpO, wpC, wpIs, wpMs, ex_some, ex_some1, ex_bl, ex_int, ex_tup, List.getElem?_cons_zero, List.getElem?_cons_succ, List.set_cons_zero, List.set_cons_succ, List.length_cons, List.length_nil, Atom.pv, add_i, sub_i, mul_i, mod_i, fdiv_i, pow_i, lt_i, le_i, gt_i, ge_i, eq_, ne_, in_e, nin_e, is_n, isnot_n, idx_tup, idx_lst, eqP_int, eqP_str, atI_0, atI_1, atI_2, ixN_0, ixN_1, ixN_2, decide_eq_true_eq, Bool.not_true, Bool.not_false, if_true, Bool.false_eq_true, if_false, setSl, len_lst, len_tup, int_i, int_bl, abs_i, min_i, max_i, tup_t, tup_l, newL_F, newL_T, List.map_cons, List.map_nil, List.append_nil, List.nil_append, List.cons_append, Nat.reduceAdd, Nat.reduceSub, List.replicate_succ, List.replicate_zero, retF, retXF, RL.add_ll, RL.add_t, RL.sl_tup, RL.sl_lst, RL.sl_scr, RL.mul_t, RL.str_int, List.zip_nil_left, List.zip_cons_cons])
        refine ⟨by rw [nats_len]; omega, by simp, ?_⟩
        refine burnt_ok i_burnt (by omega) hr (by omega) pl ho ⟨_, atI_1, ⟨_, rfl, burnt_ok i_burnt (by omega) hr (by omega) pl ho ⟨_, atI_1, ?_⟩⟩⟩
        have tr : Tx 2500 1 (.tup (natsPV (restL n rs (nth p) root))) := by
          rw [nats_ints]
          exact tx_purse (fun x hx => by
            obtain ⟨v, hv, rfl⟩ := List.mem_map.mp hx
            have := (mem_cold.mp hv).1
            omega) (by rw [List.length_map]; omega)
        have tt := tx_two tr tr
        refine ⟨two, by simp, repr_tx tt (by decide) (by decide) ⟨two, repr_tx tt (by decide) (by decide) (eq_txt rfl ?_)⟩⟩
        (try simp only [bindT, bindTs, wpB, wpS, wpE, wpEs, wpO, wpC, wpIs, wpMs, ex_some, ex_some1, ex_bl, ex_int, ex_tup, List.getElem?_cons_zero, List.getElem?_cons_succ, List.set_cons_zero, List.set_cons_succ, List.length_cons, List.length_nil, Atom.pv, add_i, sub_i, mul_i, mod_i, fdiv_i, pow_i, lt_i, le_i, gt_i, ge_i, eq_, ne_, in_e, nin_e, is_n, isnot_n, idx_tup, idx_lst, eqP_int, eqP_str, atI_0, atI_1, atI_2, ixN_0, ixN_1, ixN_2, decide_eq_true_eq, Bool.not_true, Bool.not_false, if_true, Bool.false_eq_true, if_false, setSl, len_lst, len_tup, int_i, int_bl, abs_i, min_i, max_i, tup_t, tup_l, newL_F, newL_T, List.map_cons, List.map_nil, List.append_nil, List.nil_append, List.cons_append, Nat.reduceAdd, Nat.reduceSub, List.replicate_succ, List.replicate_zero, retF, retXF, RL.add_ll, RL.add_t, RL.sl_tup, RL.sl_lst, RL.sl_scr, RL.mul_t, RL.str_int, List.zip_nil_left, List.zip_cons_cons])
        refine ⟨three, repr_tx tk (by decide) (by decide) (eq_txt rfl ?_)⟩
        (try simp only [bindT, bindTs, wpB, wpS, wpE, wpEs, wpO, wpC, wpIs, wpMs, ex_some, ex_some1, ex_bl, ex_int, ex_tup, List.getElem?_cons_zero, List.getElem?_cons_succ, List.set_cons_zero, List.set_cons_succ, List.length_cons, List.length_nil, Atom.pv, add_i, sub_i, mul_i, mod_i, fdiv_i, pow_i, lt_i, le_i, gt_i, ge_i, eq_, ne_, in_e, nin_e, is_n, isnot_n, idx_tup, idx_lst, eqP_int, eqP_str, atI_0, atI_1, atI_2, ixN_0, ixN_1, ixN_2, decide_eq_true_eq, Bool.not_true, Bool.not_false, if_true, Bool.false_eq_true, if_false, setSl, len_lst, len_tup, int_i, int_bl, abs_i, min_i, max_i, tup_t, tup_l, newL_F, newL_T, List.map_cons, List.map_nil, List.append_nil, List.nil_append, List.cons_append, Nat.reduceAdd, Nat.reduceSub, List.replicate_succ, List.replicate_zero, retF, retXF, RL.add_ll, RL.add_t, RL.sl_tup, RL.sl_lst, RL.sl_scr, RL.mul_t, RL.str_int, List.zip_nil_left, List.zip_cons_cons])
        exact hN _ _ ⟨_, _, _, _, _, _, _, _, _, _, _, _, h10, g10, rfl, rfl⟩
    · rintro env ph ⟨a6, a7, a8, a9, a10, a11, a12, a13, a14, a15, a16, a17, h5, g5, rfl, rfl⟩
      refine ⟨it_r1 (by decide), ?_⟩
      (try simp only [bindT, bindTs, wpB, wpS, wpE, wpEs, wpO, wpC, wpIs, wpMs, ex_some, ex_some1, ex_bl, ex_int, ex_tup, List.getElem?_cons_zero, List.getElem?_cons_succ, List.set_cons_zero, List.set_cons_succ, List.length_cons, List.length_nil, Atom.pv, add_i, sub_i, mul_i, mod_i, fdiv_i, pow_i, lt_i, le_i, gt_i, ge_i, eq_, ne_, in_e, nin_e, is_n, isnot_n, idx_tup, idx_lst, eqP_int, eqP_str, atI_0, atI_1, atI_2, ixN_0, ixN_1, ixN_2, decide_eq_true_eq, Bool.not_true, Bool.not_false, if_true, Bool.false_eq_true, if_false, setSl, len_lst, len_tup, int_i, int_bl, abs_i, min_i, max_i, tup_t, tup_l, newL_F, newL_T, List.map_cons, List.map_nil, List.append_nil, List.nil_append, List.cons_append, Nat.reduceAdd, Nat.reduceSub, List.replicate_succ, List.replicate_zero, retF, retXF, RL.add_ll, RL.add_t, RL.sl_tup, RL.sl_lst, RL.sl_scr, RL.mul_t, RL.str_int, List.zip_nil_left, List.zip_cons_cons])
      exact hM _ _ ⟨_, _, _, _, _, _, _, _, _, _, _, _, _, _, _, _, h5, g5, rfl, rfl⟩
  · rintro env ph ⟨a2, a3, a4, a5, a6, a7, a8, a9, a10, a11, a12, a13, a14, a15, a16, a17, h, g, rfl, rfl⟩
    refine ⟨it_r1 (by decide), ?_⟩
    (try simp only [bindT, bindTs, wpB, wpS, wpE, wpEs, wpO, wpC, wpIs, wpMs, ex_some, ex_some1, ex_bl, ex_int, ex_tup, List.getElem?_cons_zero, List.getElem?_cons_succ, List.set_cons_zero, List.set_cons_succ, List.length_cons, List.length_nil, Atom.pv, add_i, sub_i, mul_i, mod_i, fdiv_i, pow_i, lt_i, le_i, gt_i, ge_i, eq_, ne_, in_e, nin_e, is_n, isnot_n, idx_tup, idx_lst, eqP_int, eqP_str, atI_0, atI_1, atI_2, ixN_0, ixN_1, ixN_2, decide_eq_true_eq, Bool.not_true, Bool.not_false, if_true, Bool.false_eq_true, if_false, setSl, len_lst, len_tup, int_i, int_bl, abs_i, min_i, max_i, tup_t, tup_l, newL_F, newL_T, List.map_cons, List.map_nil, List.append_nil, List.nil_append, List.cons_append, Nat.reduceAdd, Nat.reduceSub, List.replicate_succ, List.replicate_zero, retF, retXF, RL.add_ll, RL.add_t, RL.sl_tup, RL.sl_lst, RL.sl_scr, RL.mul_t, RL.str_int, List.zip_nil_left, List.zip_cons_cons])
end RLT

namespace RLT
open PySem PySem.Spec PyProof.Rows L2 RL
theorem defs_ok : ∀ (f : Nat) (d : Df) (st : Stmt), lw.pg.defs[f]? = some d → lw.sts[f]? = some st → DefS lw d st := DsOk.get (show DsOk lw _ _ from ⟨dfs_0, dfs_1, dfs_2, dfs_3, dfs_4, dfs_5, dfs_6, dfs_7, dfs_8, dfs_9, dfs_10, dfs_11, dfs_12, trivial⟩)
theorem grd {K : PySem.W.Frag} {h : Heap} {mg : Str → Option Value} (X : K.In h) (G : h.Ns mainGlobals mg) {os : Obj} (y : K.lookup sysModules = some os) {f0 : Addr} {oc0 kV0 dc0 pm0 cd0 ct0 : Value} {od0 an0 : Option Addr} {sl0 : Array (Option Value)} (a0 : PySem.W.nsIn K mainGlobals "burnt" = some (some (.ref f0))) (l0 : K.lookup f0 = some ⟨oc0, od0, .func (PySem.W.fnOf "burnt" "burnt" (defArgs st_0) (defBody st_0) (defScope st_0) .none kV0 dc0 pm0 an0 cd0 ct0), sl0⟩) (c0 : PySem.W.codeIn K cd0 "burnt" = true) (k0 : PySem.W.keepIn K (.ref f0) = true) {f1 : Addr} {oc1 kV1 dc1 pm1 cd1 ct1 : Value} {od1 an1 : Option Addr} {sl1 : Array (Option Value)} (a1 : PySem.W.nsIn K mainGlobals "is_reduced" = some (some (.ref f1))) (l1 : K.lookup f1 = some ⟨oc1, od1, .func (PySem.W.fnOf "is_reduced" "is_reduced" (defArgs st_1) (defBody st_1) (defScope st_1) .none kV1 dc1 pm1 an1 cd1 ct1), sl1⟩) (c1 : PySem.W.codeIn K cd1 "is_reduced" = true) (k1 : PySem.W.keepIn K (.ref f1) = true) {f2 : Addr} {oc2 kV2 dc2 pm2 cd2 ct2 : Value} {od2 an2 : Option Addr} {sl2 : Array (Option Value)} (a2 : PySem.W.nsIn K mainGlobals "_law_deck" = some (some (.ref f2))) (l2 : K.lookup f2 = some ⟨oc2, od2, .func (PySem.W.fnOf "_law_deck" "_law_deck" (defArgs st_2) (defBody st_2) (defScope st_2) .none kV2 dc2 pm2 an2 cd2 ct2), sl2⟩) (c2 : PySem.W.codeIn K cd2 "_law_deck" = true) (k2 : PySem.W.keepIn K (.ref f2) = true) {f3 : Addr} {oc3 kV3 dc3 pm3 cd3 ct3 : Value} {od3 an3 : Option Addr} {sl3 : Array (Option Value)} (a3 : PySem.W.nsIn K mainGlobals "_law_next" = some (some (.ref f3))) (l3 : K.lookup f3 = some ⟨oc3, od3, .func (PySem.W.fnOf "_law_next" "_law_next" (defArgs st_3) (defBody st_3) (defScope st_3) .none kV3 dc3 pm3 an3 cd3 ct3), sl3⟩) (c3 : PySem.W.codeIn K cd3 "_law_next" = true) (k3 : PySem.W.keepIn K (.ref f3) = true) {f4 : Addr} {oc4 kV4 dc4 pm4 cd4 ct4 : Value} {od4 an4 : Option Addr} {sl4 : Array (Option Value)} (a4 : PySem.W.nsIn K mainGlobals "_law_pick" = some (some (.ref f4))) (l4 : K.lookup f4 = some ⟨oc4, od4, .func (PySem.W.fnOf "_law_pick" "_law_pick" (defArgs st_4) (defBody st_4) (defScope st_4) .none kV4 dc4 pm4 an4 cd4 ct4), sl4⟩) (c4 : PySem.W.codeIn K cd4 "_law_pick" = true) (k4 : PySem.W.keepIn K (.ref f4) = true) {f5 : Addr} {oc5 kV5 dc5 pm5 cd5 ct5 : Value} {od5 an5 : Option Addr} {sl5 : Array (Option Value)} (a5 : PySem.W.nsIn K mainGlobals "_law_mixed" = some (some (.ref f5))) (l5 : K.lookup f5 = some ⟨oc5, od5, .func (PySem.W.fnOf "_law_mixed" "_law_mixed" (defArgs st_5) (defBody st_5) (defScope st_5) .none kV5 dc5 pm5 an5 cd5 ct5), sl5⟩) (c5 : PySem.W.codeIn K cd5 "_law_mixed" = true) (k5 : PySem.W.keepIn K (.ref f5) = true) {f6 : Addr} {oc6 kV6 dc6 pm6 cd6 ct6 : Value} {od6 an6 : Option Addr} {sl6 : Array (Option Value)} (a6 : PySem.W.nsIn K mainGlobals "_law_pair" = some (some (.ref f6))) (l6 : K.lookup f6 = some ⟨oc6, od6, .func (PySem.W.fnOf "_law_pair" "_law_pair" (defArgs st_6) (defBody st_6) (defScope st_6) .none kV6 dc6 pm6 an6 cd6 ct6), sl6⟩) (c6 : PySem.W.codeIn K cd6 "_law_pair" = true) (k6 : PySem.W.keepIn K (.ref f6) = true) {f7 : Addr} {oc7 kV7 dc7 pm7 cd7 ct7 : Value} {od7 an7 : Option Addr} {sl7 : Array (Option Value)} (a7 : PySem.W.nsIn K mainGlobals "_law_town" = some (some (.ref f7))) (l7 : K.lookup f7 = some ⟨oc7, od7, .func (PySem.W.fnOf "_law_town" "_law_town" (defArgs st_7) (defBody st_7) (defScope st_7) .none kV7 dc7 pm7 an7 cd7 ct7), sl7⟩) (c7 : PySem.W.codeIn K cd7 "_law_town" = true) (k7 : PySem.W.keepIn K (.ref f7) = true) {f8 : Addr} {oc8 kV8 dc8 pm8 cd8 ct8 : Value} {od8 an8 : Option Addr} {sl8 : Array (Option Value)} (a8 : PySem.W.nsIn K mainGlobals "_law_degrees" = some (some (.ref f8))) (l8 : K.lookup f8 = some ⟨oc8, od8, .func (PySem.W.fnOf "_law_degrees" "_law_degrees" (defArgs st_8) (defBody st_8) (defScope st_8) .none kV8 dc8 pm8 an8 cd8 ct8), sl8⟩) (c8 : PySem.W.codeIn K cd8 "_law_degrees" = true) (k8 : PySem.W.keepIn K (.ref f8) = true) {f9 : Addr} {oc9 kV9 dc9 pm9 cd9 ct9 : Value} {od9 an9 : Option Addr} {sl9 : Array (Option Value)} (a9 : PySem.W.nsIn K mainGlobals "_law_fire" = some (some (.ref f9))) (l9 : K.lookup f9 = some ⟨oc9, od9, .func (PySem.W.fnOf "_law_fire" "_law_fire" (defArgs st_9) (defBody st_9) (defScope st_9) .none kV9 dc9 pm9 an9 cd9 ct9), sl9⟩) (c9 : PySem.W.codeIn K cd9 "_law_fire" = true) (k9 : PySem.W.keepIn K (.ref f9) = true) {f10 : Addr} {oc10 kV10 dc10 pm10 cd10 ct10 : Value} {od10 an10 : Option Addr} {sl10 : Array (Option Value)} (a10 : PySem.W.nsIn K mainGlobals "_law_any_fire" = some (some (.ref f10))) (l10 : K.lookup f10 = some ⟨oc10, od10, .func (PySem.W.fnOf "_law_any_fire" "_law_any_fire" (defArgs st_10) (defBody st_10) (defScope st_10) .none kV10 dc10 pm10 an10 cd10 ct10), sl10⟩) (c10 : PySem.W.codeIn K cd10 "_law_any_fire" = true) (k10 : PySem.W.keepIn K (.ref f10) = true) {f11 : Addr} {oc11 kV11 dc11 pm11 cd11 ct11 : Value} {od11 an11 : Option Addr} {sl11 : Array (Option Value)} (a11 : PySem.W.nsIn K mainGlobals "_law_any_tree" = some (some (.ref f11))) (l11 : K.lookup f11 = some ⟨oc11, od11, .func (PySem.W.fnOf "_law_any_tree" "_law_any_tree" (defArgs st_11) (defBody st_11) (defScope st_11) .none kV11 dc11 pm11 an11 cd11 ct11), sl11⟩) (c11 : PySem.W.codeIn K cd11 "_law_any_tree" = true) (k11 : PySem.W.keepIn K (.ref f11) = true) {f12 : Addr} {oc12 kV12 dc12 pm12 cd12 ct12 : Value} {od12 an12 : Option Addr} {sl12 : Array (Option Value)} (a12 : PySem.W.nsIn K mainGlobals "law" = some (some (.ref f12))) (l12 : K.lookup f12 = some ⟨oc12, od12, .func (PySem.W.fnOf "law" "law" (defArgs st_12) (defBody st_12) (defScope st_12) .none kV12 dc12 pm12 an12 cd12 ct12), sl12⟩) (c12 : PySem.W.codeIn K cd12 "law" = true) (k12 : PySem.W.keepIn K (.ref f12) = true) (z0 : PySem.W.nsIn K mainGlobals "len" = some none) (z1 : PySem.W.nsIn K mainGlobals "tuple" = some none) (z2 : PySem.W.nsIn K mainGlobals "list" = some none) (z3 : PySem.W.nsIn K mainGlobals "int" = some none) (z4 : PySem.W.nsIn K mainGlobals "repr" = some none) (z5 : PySem.W.nsIn K mainGlobals "sum" = some none) (z6 : PySem.W.nsIn K mainGlobals "min" = some none) (z7 : PySem.W.nsIn K mainGlobals "max" = some none) (z8 : PySem.W.nsIn K mainGlobals "abs" = some none) (z9 : PySem.W.nsIn K mainGlobals "sorted" = some none) (z10 : PySem.W.nsIn K mainGlobals "all" = some none) (z11 : PySem.W.nsIn K mainGlobals "any" = some none) (z12 : PySem.W.nsIn K mainGlobals "str" = some none) (z13 : PySem.W.nsIn K mainGlobals "isinstance" = some none) (z14 : PySem.W.nsIn K mainGlobals "range" = some none) (z15 : PySem.W.nsIn K mainGlobals "enumerate" = some none) (z16 : PySem.W.nsIn K mainGlobals "zip" = some none) (z17 : PySem.W.nsIn K mainGlobals "bool" = some none) (z18 : PySem.W.nsIn K mainGlobals "dict" = some none)  : Ground0 lw K mg :=
  ⟨⟨os, y⟩, fun x hx => by
    simp only [bnames, List.mem_cons, List.not_mem_nil, or_false] at hx
    rcases hx with rfl | rfl | rfl | rfl | rfl | rfl | rfl | rfl | rfl | rfl | rfl | rfl | rfl | rfl | rfl | rfl | rfl | rfl | rfl
    · exact PySem.W.mg_none_of X G z0
    · exact PySem.W.mg_none_of X G z1
    · exact PySem.W.mg_none_of X G z2
    · exact PySem.W.mg_none_of X G z3
    · exact PySem.W.mg_none_of X G z4
    · exact PySem.W.mg_none_of X G z5
    · exact PySem.W.mg_none_of X G z6
    · exact PySem.W.mg_none_of X G z7
    · exact PySem.W.mg_none_of X G z8
    · exact PySem.W.mg_none_of X G z9
    · exact PySem.W.mg_none_of X G z10
    · exact PySem.W.mg_none_of X G z11
    · exact PySem.W.mg_none_of X G z12
    · exact PySem.W.mg_none_of X G z13
    · exact PySem.W.mg_none_of X G z14
    · exact PySem.W.mg_none_of X G z15
    · exact PySem.W.mg_none_of X G z16
    · exact PySem.W.mg_none_of X G z17
    · exact PySem.W.mg_none_of X G z18,
    GlOk.get (show GlOk mg lw.pg.gl from trivial), ClsF.nil rfl, FnsOk.get (show FnsOk K mg lw.pg.defs lw.sts from ⟨fun_at X G a0 l0 c0 k0, fun_at X G a1 l1 c1 k1, fun_at X G a2 l2 c2 k2, fun_at X G a3 l3 c3 k3, fun_at X G a4 l4 c4 k4, fun_at X G a5 l5 c5 k5, fun_at X G a6 l6 c6 k6, fun_at X G a7 l7 c7 k7, fun_at X G a8 l8 c8 k8, fun_at X G a9 l9 c9 k9, fun_at X G a10 l10 c10 k10, fun_at X G a11 l11 c11 k11, fun_at X G a12 l12 c12 k12, trivial⟩)⟩
end RLT
open PySem PySem.W PyProof.Rows
set_option maxHeartbeats 0 in
theorem PySem.Challenge.cw_roadloans_k40_whole_fire_in_other_orders_holds : PySem.Challenge.rw_roadloans_k40_whole_fire_in_other_orders.Holds := by
  w_on; o_law; x_head; (case hw => w_witness2)
  k_fill
  refine RL.walk (l := PySem.Challenge.rw_roadloans_k40_whole_fire_in_other_orders) (n := 63) (k := 60) (f := 12) (x := "script") RLT.lw RLT.df_12 RLT.st_12 rfl (by decide) rfl ⟨rfl, by decide, by decide⟩ rfl rfl rfl rfl (RLT.bd_law) RLT.defs_ok RLT.law_ok (fun w h Y => PySem.W.kIn_of Y) ?B
  case B =>
    intro w mg h KX G
    refine' RLT.grd KX G ?rl_y ?rl_a0 ?rl_l0 ?rl_c0 ?rl_k0 ?rl_a1 ?rl_l1 ?rl_c1 ?rl_k1 ?rl_a2 ?rl_l2 ?rl_c2 ?rl_k2 ?rl_a3 ?rl_l3 ?rl_c3 ?rl_k3 ?rl_a4 ?rl_l4 ?rl_c4 ?rl_k4 ?rl_a5 ?rl_l5 ?rl_c5 ?rl_k5 ?rl_a6 ?rl_l6 ?rl_c6 ?rl_k6 ?rl_a7 ?rl_l7 ?rl_c7 ?rl_k7 ?rl_a8 ?rl_l8 ?rl_c8 ?rl_k8 ?rl_a9 ?rl_l9 ?rl_c9 ?rl_k9 ?rl_a10 ?rl_l10 ?rl_c10 ?rl_k10 ?rl_a11 ?rl_l11 ?rl_c11 ?rl_k11 ?rl_a12 ?rl_l12 ?rl_c12 ?rl_k12 ?rl_z0 ?rl_z1 ?rl_z2 ?rl_z3 ?rl_z4 ?rl_z5 ?rl_z6 ?rl_z7 ?rl_z8 ?rl_z9 ?rl_z10 ?rl_z11 ?rl_z12 ?rl_z13 ?rl_z14 ?rl_z15 ?rl_z16 ?rl_z17 ?rl_z18
    (case rl_y => k_is); (case rl_a0 => k_is); (case rl_l0 => k_is); (case rl_c0 => k_is); (case rl_k0 => k_is); (case rl_a1 => k_is); (case rl_l1 => k_is); (case rl_c1 => k_is); (case rl_k1 => k_is); (case rl_a2 => k_is); (case rl_l2 => k_is); (case rl_c2 => k_is); (case rl_k2 => k_is); (case rl_a3 => k_is); (case rl_l3 => k_is); (case rl_c3 => k_is); (case rl_k3 => k_is); (case rl_a4 => k_is); (case rl_l4 => k_is); (case rl_c4 => k_is); (case rl_k4 => k_is); (case rl_a5 => k_is); (case rl_l5 => k_is); (case rl_c5 => k_is); (case rl_k5 => k_is); (case rl_a6 => k_is); (case rl_l6 => k_is); (case rl_c6 => k_is); (case rl_k6 => k_is); (case rl_a7 => k_is); (case rl_l7 => k_is); (case rl_c7 => k_is); (case rl_k7 => k_is); (case rl_a8 => k_is); (case rl_l8 => k_is); (case rl_c8 => k_is); (case rl_k8 => k_is); (case rl_a9 => k_is); (case rl_l9 => k_is); (case rl_c9 => k_is); (case rl_k9 => k_is); (case rl_a10 => k_is); (case rl_l10 => k_is); (case rl_c10 => k_is); (case rl_k10 => k_is); (case rl_a11 => k_is); (case rl_l11 => k_is); (case rl_c11 => k_is); (case rl_k11 => k_is); (case rl_a12 => k_is); (case rl_l12 => k_is); (case rl_c12 => k_is); (case rl_k12 => k_is); (case rl_z0 => k_is); (case rl_z1 => k_is); (case rl_z2 => k_is); (case rl_z3 => k_is); (case rl_z4 => k_is); (case rl_z5 => k_is); (case rl_z6 => k_is); (case rl_z7 => k_is); (case rl_z8 => k_is); (case rl_z9 => k_is); (case rl_z10 => k_is); (case rl_z11 => k_is); (case rl_z12 => k_is); (case rl_z13 => k_is); (case rl_z14 => k_is); (case rl_z15 => k_is); (case rl_z16 => k_is); (case rl_z17 => k_is); (case rl_z18 => k_is)
