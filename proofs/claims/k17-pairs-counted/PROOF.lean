import PyProof.Rows.All
import Wide.All
import OpenK.AllK
import Wide.FinOn
import HandS.Comp
import HandS.Deep
import HandS.DictTup
import HandS.EndBits
import HandS.Flow
import HandS.ForExc
import HandS.ForMost
import HandS.HeadHook1
import HandS.IsInst
import HandS.ListItems
import HandS.Style
import HandS.TupAny
import HandS.TupLe
import HandS.TupLen
import HandS.Wide
import HandS.WordsExc
import KE.DataEq
import KE.DataFind
import KE.DatumIndex
import KE.KDictItemsList
import KE.KDictKeyed
import KE.SortData
import PyProof.Claim2
import PyProof.EqLayable
import PyProof.P3Statements
import PySem.Claim
import PySem.Eval
import PySem.Machine
import PySem.PyData
import PySem.Syntax
import PySem.Challenge.RW_lateriver_k17_pairs_counted
section
set_option autoImplicit false
/-! M3: plain data, a core language and its weakest preconditions. -/
namespace M3
open PySem

inductive D where
  | non | bl (b : Bool) | int (i : Int) | str (s : Str) | tup (ds : List D) | ref (n : Nat) | kl (xs : List D)
  deriving Inhabited

mutual
def D.beq : D → D → Bool
  | .non, .non => true
  | .bl a, .bl b => a == b
  | .int a, .int b => a == b
  | .str a, .str b => a == b
  | .tup a, .tup b => D.beqs a b
  | .ref a, .ref b => a == b
  | .kl a, .kl b => D.beqs a b
  | _, _ => false
def D.beqs : List D → List D → Bool
  | [], [] => true
  | a :: as, b :: bs => D.beq a b && D.beqs as bs
  | _, _ => false
end
mutual
theorem D.beq_iff : ∀ a b : D, D.beq a b = true ↔ a = b
  | .non, b => by cases b <;> simp [D.beq]
  | .bl a, b => by cases b <;> simp [D.beq]
  | .int a, b => by cases b <;> simp [D.beq]
  | .str a, b => by cases b <;> simp [D.beq]
  | .tup a, b => by cases b <;> simp [D.beq, D.beqs_iff a]
  | .ref a, b => by cases b <;> simp [D.beq]
  | .kl a, b => by cases b <;> simp [D.beq, D.beqs_iff a]
theorem D.beqs_iff : ∀ a b : List D, D.beqs a b = true ↔ a = b
  | [], b => by cases b <;> simp [D.beqs]
  | a :: as, b => by cases b <;> simp [D.beqs, D.beq_iff a, D.beqs_iff as]
end
instance : DecidableEq D := fun a b => decidable_of_iff _ (D.beq_iff a b)

/-- what stands at a label; cst, cdt: read only -/
inductive Cell where
  | lst (xs : List D) | cst (xs : List D) | dct (kvs : List (D × D)) | cdt (kvs : List (D × D)) | set (xs : List D) | ins (c : Nat) (fs : List (Str × D)) | exn (c : Nat)

structure Store where
  nx : Nat
  cell : Nat → Option Cell
def Store.push (S : Store) (c : Cell) : Store := ⟨S.nx + 1, fun l => if l = S.nx then some c else S.cell l⟩
def Store.put (S : Store) (l : Nat) (c : Cell) : Store := ⟨S.nx, fun m => if m = l then some c else S.cell m⟩

abbrev Env := List (Option D)

/-- a raw result: a value, or a list just made that nothing else holds -/
inductive Rz where
  | val (d : D) | lst (xs : List D) | cst (xs : List D) | dct (kvs : List (D × D)) | set (xs : List D)

inductive BOp where | add | sub | mul | fdiv | mod | pow
  deriving DecidableEq
inductive COp where | eq | ne | lt | le | gt | ge | inn | nin | is | isn
  deriving DecidableEq
/-- classes that isinstance asks for -/
inductive Ty where | int | bool | str | tuple | list | dict | own (c : Nat)
  deriving DecidableEq
inductive Bi where
  | len | abs | int | bool | str | repr | all | any | sum | min | max | min2 | max2 | sorted | set | tuple | list | dict | range
  deriving DecidableEq
inductive Mt where
  | append | get1 | get2 | pop0 | pop1 | pop2 | items | keys | values | copy | extend | clear | count | index | setdefault | update | remove | reverse
  | join | split | startswith | startswith2 | find | partition | replace
  deriving DecidableEq

/-- a target -/
inductive Tg where
  | v (i : Nat) | t (ts : List Tg)

mutual
inductive CE where
  | var (i : Nat)
  | lit (d : D)
  | cl (xs : List D)                    -- a list of the module's own top, read only
  | tup (es : List CE)
  | lst (es : List CE)
  | dct (kvs : List CE)                  -- a key, its value, and so on
  | bin (op : BOp) (a b : CE)
  | neg (a : CE)
  | not (a : CE)
  | cmp (op : COp) (a b : CE)
  | cmp2 (o1 o2 : COp) (a b c : CE)
  | and (a b : CE)
  | or (a b : CE)
  | ife (c a b : CE)
  | idx (a i : CE)
  | slc (a : CE) (lo hi : Option CE)
  | call (f : Nat) (as : List CE)
  | bi (b : Bi) (as : List CE)
  | bii (b : Bi) (it : CI)              -- a built-in over an iterator
  | isi (a : CE) (ts : List Ty)
  | mth (m : Mt) (o : CE) (as : List CE)
  | cmpr (elt : CE) (tg : Tg) (it : CI) (ifs : List CE) (own : List Nat)
/-- what a for walks -/
inductive CI where
  | e (c : CE)
  | range (as : List CE)
  | zip (a b : CE)
  | enum (a : CE)
  | items (a : CE)
  | values (a : CE)
  | rev (a : CE)
end

inductive CS where
  | expr (e : CE)
  | asg (t : Tg) (e : CE)
  | aug (i : Nat) (op : BOp) (e : CE)
  | seti (o i e : CE)
  | ifs (c : CE) (a b : List CS)
  | whl (c : CE) (b : List CS)
  | for (t : Tg) (it : CI) (b : List CS)
  | ret (e : CE)
  | retn
  | brk | cnt | pass

structure Fn where
  ar : Nat
  nl : Nat
  body : List CS

/-! ### deep reading -/
mutual
/-- d reads as the data p -/
def Rdd (S : Store) : PyData → D → Prop
  | .none, d => d = .non
  | .bool b, d => d = .bl b
  | .int i, d => d = .int i
  | .str s, d => d = .str s
  | .tuple xs, d => ∃ ds, d = .tup ds ∧ Rdds S xs ds
  | .list xs, d => ∃ ds, (d = .kl ds ∨ ∃ l, d = .ref l ∧ (S.cell l = some (.lst ds) ∨ S.cell l = some (.cst ds))) ∧ Rdds S xs ds
  | .dict _, _ => False
def Rdds (S : Store) : List PyData → List D → Prop
  | [], ds => ds = []
  | p :: ps, ds => ∃ d r, ds = d :: r ∧ Rdd S p d ∧ Rdds S ps r
end
/-- of a raw result -/
def RdZ (S : Store) (p : PyData) : Rz → Prop
  | .val d => Rdd S p d
  | .lst ds => ∃ xs, p = .list xs ∧ Rdds S xs ds
  | .cst ds => ∃ xs, p = .list xs ∧ Rdds S xs ds
  | _ => False

/-! ### raw results in use -/
abbrev Lim : Nat := 16777216
/-- as a value: what is new gets a label -/
def cv (Q : D → Store → Prop) : Rz → Store → Prop
  | .val d, S => Q d S
  | .lst xs, S => Q (.ref S.nx) (S.push (.lst xs))
  | .cst _, _ => False
  | .dct kvs, S => Q (.ref S.nx) (S.push (.dct kvs))
  | .set xs, S => Q (.ref S.nx) (S.push (.set xs))
/-- as a list or a tuple of things -/
def cq (Q : List D → Store → Prop) : Rz → Store → Prop
  | .val (.tup ds), S => Q ds S
  | .val (.kl ds), S => Q ds S
  | .val (.ref l), S => match S.cell l with
    | some (.lst xs) => Q xs S
    | some (.cst xs) => Q xs S
    | _ => False
  | .lst xs, S => Q xs S
  | .cst xs, S => Q xs S
  | _, _ => False
/-- truth -/
def truth (Q : Bool → Store → Prop) : Rz → Store → Prop
  | .val .non, S => Q false S
  | .val (.bl b), S => Q b S
  | .val (.int i), S => Q (i != 0) S
  | .val (.str s), S => s.length ≤ Lim ∧ Q (s.length != 0) S
  | .val (.tup ds), S => Q (!ds.isEmpty) S
  | .val (.kl ds), S => Q (!ds.isEmpty) S
  | .val (.ref l), S => match S.cell l with
    | some (.lst xs) => Q (!xs.isEmpty) S
    | some (.cst xs) => Q (!xs.isEmpty) S
    | _ => False
  | .lst xs, S => Q (!xs.isEmpty) S
  | .cst xs, S => Q (!xs.isEmpty) S
  | _, _ => False

/-! ### keys and dicts -/
mutual
/-- a key that is data without truths, floats or labels -/
def keyOk : D → Bool
  | .non => true
  | .int _ => true
  | .str _ => true
  | .tup ds => keyOks ds
  | _ => false
def keyOks : List D → Bool
  | [] => true
  | d :: ds => keyOk d && keyOks ds
end
mutual
def kdep : D → Nat
  | .tup ds => kdeps ds + 1
  | _ => 0
def kdeps : List D → Nat
  | [] => 0
  | d :: ds => max (kdep d) (kdeps ds)
end
def dget (k : D) (kvs : List (D × D)) : Option D := (kvs.find? fun p => decide (p.1 = k)).map (·.2)
def dput (k v : D) (kvs : List (D × D)) : List (D × D) := if (dget k kvs).isSome then kvs.map (fun p => if p.1 = k then (p.1, v) else p) else kvs ++ [(k, v)]
def ddrop (k : D) (kvs : List (D × D)) : List (D × D) := kvs.filter fun p => decide (p.1 ≠ k)
def isFlatK : D → Bool
  | .str _ => true
  | .int _ => true
  | _ => false
def isTupK : D → Bool
  | .tup _ => true
  | _ => false
/-- a key that goes with the keys of a dict: texts and whole numbers, or tuples of data -/
def keyFit (kvs : List (D × D)) : D → Bool
  | .str _ => kvs.all fun p => isFlatK p.1
  | .int _ => kvs.all fun p => isFlatK p.1
  | .tup ds => keyOks ds && decide (kdeps ds ≤ 7) && kvs.all fun p => isTupK p.1
  | _ => false

/-! ### operators on raw results -/
def mulOk (i j : Int) : Prop := (-(2 ^ 64) < i ∧ i < 2 ^ 64) ∨ (-(2 ^ 64) < j ∧ j < 2 ^ 64)
/-- a list that is new, or stands at a label -/
def asL (Q : List D → Prop) (S : Store) : Rz → Prop
  | .lst xs => Q xs
  | .cst xs => Q xs
  | .val (.kl xs) => Q xs
  | .val (.ref l) => match S.cell l with
    | some (.lst xs) => Q xs
    | some (.cst xs) => Q xs
    | _ => False
  | _ => False
def binZ (op : BOp) (x y : Rz) (S : Store) (Q : Rz → Store → Prop) : Prop :=
  match op, x, y with
  | .add, .val (.int i), .val (.int j) => Q (.val (.int (i + j))) S
  | .sub, .val (.int i), .val (.int j) => Q (.val (.int (i - j))) S
  | .mul, .val (.int i), .val (.int j) => mulOk i j ∧ Q (.val (.int (i * j))) S
  | .fdiv, .val (.int i), .val (.int j) => (0 < j ∧ j < 1073741824) ∧ Q (.val (.int (i / j))) S
  | .mod, .val (.int i), .val (.int j) => 0 < j ∧ Q (.val (.int (i % j))) S
  | .pow, .val (.int i), .val (.int j) => (0 ≤ j ∧ j ≤ 1000000 ∧ i.natAbs < 2 ^ 64) ∧ Q (.val (.int (i ^ j.toNat))) S
  | .add, .val (.str s), .val (.str t) => s.length + t.length ≤ Lim ∧ Q (.val (.str (s ++ t))) S
  | .add, .val (.tup as), .val (.tup bs) => as.length + bs.length ≤ Lim ∧ Q (.val (.tup (as ++ bs))) S
  | .add, a, b => asL (fun xs => asL (fun ys => xs.length + ys.length ≤ Lim ∧ Q (.lst (xs ++ ys)) S) S b) S a
  | _, _, _ => False
/-- x in y -/
def inZ (x y : Rz) (S : Store) (R : Bool → Prop) : Prop :=
  match y with
  | .val (.str t) => match x with
    | .val (.str s) => R (!(Builtin.Str.occurrences t s 0 t.length 1).isEmpty)
    | _ => False
  | .val (.tup xs) => ∃ p ps, RdZ S p x ∧ Rdds S ps xs ∧ SeqAt.shaped p = true ∧ SeqAt.shaped (.tuple ps) = true ∧ R (ps.any fun q => PyData.eqv q p)
  | .lst xs => ∃ p ps, RdZ S p x ∧ Rdds S ps xs ∧ SeqAt.shaped p = true ∧ SeqAt.shaped (.list ps) = true ∧ R (ps.any fun q => PyData.eqv q p)
  | .val (.kl xs) => ∃ p ps, RdZ S p x ∧ Rdds S ps xs ∧ SeqAt.shaped p = true ∧ SeqAt.shaped (.list ps) = true ∧ R (ps.any fun q => PyData.eqv q p)
  | .cst xs => ∃ p ps, RdZ S p x ∧ Rdds S ps xs ∧ SeqAt.shaped p = true ∧ SeqAt.shaped (.list ps) = true ∧ R (ps.any fun q => PyData.eqv q p)
  | .val (.ref l) => match S.cell l with
    | some (.lst xs) => ∃ p ps, RdZ S p x ∧ Rdds S ps xs ∧ SeqAt.shaped p = true ∧ SeqAt.shaped (.list ps) = true ∧ R (ps.any fun q => PyData.eqv q p)
    | some (.cst xs) => ∃ p ps, RdZ S p x ∧ Rdds S ps xs ∧ SeqAt.shaped p = true ∧ SeqAt.shaped (.list ps) = true ∧ R (ps.any fun q => PyData.eqv q p)
    | some (.dct kvs) => match x with
      | .val k => keyFit kvs k = true ∧ R (dget k kvs).isSome
      | _ => False
    | some (.cdt kvs) => match x with
      | .val k => keyFit kvs k = true ∧ R (dget k kvs).isSome
      | _ => False
    | _ => False
  | _ => False
def isNon : Rz → Bool
  | .val .non => true
  | _ => false
def cmpZ (op : COp) (x y : Rz) (S : Store) (Q : Rz → Store → Prop) : Prop :=
  match op, x, y with
  | .lt, .val (.int i), .val (.int j) => Q (.val (.bl (decide (i < j)))) S
  | .le, .val (.int i), .val (.int j) => Q (.val (.bl (decide (i ≤ j)))) S
  | .gt, .val (.int i), .val (.int j) => Q (.val (.bl (decide (j < i)))) S
  | .ge, .val (.int i), .val (.int j) => Q (.val (.bl (decide (j ≤ i)))) S
  | .is, x, .val .non => Q (.val (.bl (isNon x))) S
  | .isn, x, .val .non => Q (.val (.bl (!isNon x))) S
  | .is, .val (.bl a), .val (.bl b) => Q (.val (.bl (a == b))) S
  | .isn, .val (.bl a), .val (.bl b) => Q (.val (.bl (a != b))) S
  | .eq, .val (.int i), .val (.int j) => Q (.val (.bl (decide (i = j)))) S
  | .ne, .val (.int i), .val (.int j) => Q (.val (.bl (!decide (i = j)))) S
  | .eq, .val (.bl i), .val (.bl j) => Q (.val (.bl (decide (i = j)))) S
  | .ne, .val (.bl i), .val (.bl j) => Q (.val (.bl (!decide (i = j)))) S
  | .eq, .val (.str i), .val (.str j) => Q (.val (.bl (decide (i = j)))) S
  | .ne, .val (.str i), .val (.str j) => Q (.val (.bl (!decide (i = j)))) S
  | .eq, x, y => ∃ p q, RdZ S p x ∧ RdZ S q y ∧ SeqAt.shaped p = true ∧ SeqAt.shaped q = true ∧ Q (.val (.bl (PyData.eqv p q))) S
  | .ne, x, y => ∃ p q, RdZ S p x ∧ RdZ S q y ∧ SeqAt.shaped p = true ∧ SeqAt.shaped q = true ∧ Q (.val (.bl (!PyData.eqv p q))) S
  | .inn, x, y => inZ x y S fun b => Q (.val (.bl b)) S
  | .nin, x, y => inZ x y S fun b => Q (.val (.bl (!b))) S
  | _, _, _ => False

/-! ### items -/
/-- the place of a whole number in a row of so many -/
def place (n : Nat) (i : Int) : Option Nat := if 0 ≤ i then (if i < n then some i.toNat else none) else (if 0 ≤ i + n then some (i + n).toNat else none)
def idxZ (x y : Rz) (S : Store) (Q : Rz → Store → Prop) : Prop :=
  match x, y with
  | .val (.ref l), .val k => match S.cell l with
    | some (.dct kvs) => keyFit kvs k = true ∧ ∃ v, dget k kvs = some v ∧ Q (.val v) S
    | some (.cdt kvs) => keyFit kvs k = true ∧ ∃ v, dget k kvs = some v ∧ Q (.val v) S
    | some (.lst xs) => ∃ i j d, k = .int i ∧ place xs.length i = some j ∧ xs[j]? = some d ∧ Q (.val d) S
    | some (.cst xs) => ∃ i j d, k = .int i ∧ place xs.length i = some j ∧ xs[j]? = some d ∧ Q (.val d) S
    | _ => False
  | .val (.tup xs), .val (.int i) => ∃ j d, place xs.length i = some j ∧ xs[j]? = some d ∧ Q (.val d) S
  | .val (.kl xs), .val (.int i) => ∃ j d, place xs.length i = some j ∧ xs[j]? = some d ∧ Q (.val d) S
  | .cst xs, .val (.int i) => ∃ j d, place xs.length i = some j ∧ xs[j]? = some d ∧ Q (.val d) S
  | .lst xs, .val (.int i) => ∃ j d, place xs.length i = some j ∧ xs[j]? = some d ∧ Q (.val d) S
  | .val (.str s), .val (.int i) => ∃ j c, s.length ≤ Lim ∧ place s.cps.toList.length i = some j ∧ s.cps.toList[j]? = some c ∧ Q (.val (.str ⟨#[c]⟩)) S
  | _, _ => False
end M3
end

section
set_option autoImplicit false
namespace M3
open PySem

/-! ### built-ins -/
def tyZ (S : Store) : Rz → Option Ty
  | .val (.bl _) => some .bool
  | .val (.int _) => some .int
  | .val (.str _) => some .str
  | .val (.tup _) => some .tuple
  | .val (.kl _) => some .list
  | .val (.ref l) => match S.cell l with
    | some (.lst _) => some .list
    | some (.cst _) => some .list
    | some (.dct _) => some .dict
    | some (.cdt _) => some .dict
    | some (.ins c _) => some (.own c)
    | _ => none
  | .lst _ => some .list
  | .cst _ => some .list
  | .dct _ => some .dict
  | _ => none
/-- of this class, or of one below it -/
def isTy (t T : Ty) : Bool := t == T || (t == .bool && T == .int)
def isiZ (ts : List Ty) (z : Rz) (S : Store) (Q : Rz → Store → Prop) : Prop :=
  match z with
  | .val .non => Q (.val (.bl false)) S
  | z => match tyZ S z with
    | some t => Q (.val (.bl (ts.any (isTy t)))) S
    | none => False

def lenZ (z : Rz) (S : Store) (Q : Rz → Store → Prop) : Prop :=
  match z with
  | .val (.str s) => s.length ≤ Lim ∧ Q (.val (.int s.length)) S
  | .val (.tup ds) => Q (.val (.int ds.length)) S
  | .val (.kl ds) => Q (.val (.int ds.length)) S
  | .lst ds => Q (.val (.int ds.length)) S
  | .cst ds => Q (.val (.int ds.length)) S
  | .set ds => Q (.val (.int ds.length)) S
  | .val (.ref l) => match S.cell l with
    | some (.lst xs) => Q (.val (.int xs.length)) S
    | some (.cst xs) => Q (.val (.int xs.length)) S
    | some (.dct kvs) => Q (.val (.int kvs.length)) S
    | some (.cdt kvs) => Q (.val (.int kvs.length)) S
    | _ => False
  | _ => False

/-- sorted things: bs stand for the items, enc reads them -/
def sortW (items : List D) (S : Store) (Q : Rz → Store → Prop) : Prop :=
  ∃ (β : Type) (bs : List β) (dec : β → D) (enc : β → PyData), items = bs.map dec ∧ (∀ b ∈ bs, Rdd S (enc b) (dec b)) ∧ PySem.W.AllAlike (bs.map enc) ∧ PySem.W.Sortable (bs.map enc) ∧ bs.length ≤ Lim ∧
    (∀ b ∈ bs, (enc b).depth ≤ 60) ∧ Q (.lst ((bs.mergeSort (PySem.W.dataLe false enc)).map dec)) S

/-- a dict of pairs: later ones win -/
def ofPairs : List D → List (D × D) → Option (List (D × D))
  | [], acc => some acc
  | .tup [k, v] :: r, acc => ofPairs r (dput k v acc)
  | _, _ => none
def pairKeys (p : D → Bool) : List D → Bool
  | [] => true
  | .tup [k, _] :: r => p k && pairKeys p r
  | _ => false
/-- dict(pairs) -/
def dictW (items : List D) (S : Store) (Q : Rz → Store → Prop) : Prop :=
  ∃ kvs, ofPairs items [] = some kvs ∧ (pairKeys (fun k => isTupK k && keyOk k && decide (kdep k ≤ 8)) items || pairKeys isFlatK items) = true ∧ Q (.dct kvs) S
def undup : List D → List D
  | [] => []
  | d :: ds => if d ∈ undup ds then undup ds else d :: undup ds

/-- what a built-in makes of what was handed in -/
def biZ (b : Bi) (zs : List Rz) (S : Store) (Q : Rz → Store → Prop) : Prop :=
  match b with
  | .len => match zs with
    | [z] => lenZ z S Q
    | _ => False
  | .abs => match zs with
    | [.val (.int i)] => Q (.val (.int (if i < 0 then -i else i))) S
    | _ => False
  | .int => match zs with
    | [.val (.int i)] => Q (.val (.int i)) S
    | [.val (.bl k)] => Q (.val (.int (if k then 1 else 0))) S
    | _ => False
  | .bool => match zs with
    | [z] => truth (fun k S' => Q (.val (.bl k)) S') z S
    | _ => False
  | .str => match zs with
    | [.val (.int i)] => i.natAbs.log2 < 1920 ∧ Q (.val (.str (toString i))) S
    | _ => False
  | .min2 => match zs with
    | [.val (.int i), .val (.int j)] => Q (.val (.int (if j < i then j else i))) S
    | _ => False
  | .max2 => match zs with
    | [.val (.int i), .val (.int j)] => Q (.val (.int (if j > i then j else i))) S
    | _ => False
  | .all => match zs with
    | [z] => asL (fun items => ∃ bs : List Bool, items = bs.map .bl ∧ Q (.val (.bl (bs.all id))) S) S z
    | _ => False
  | .any => match zs with
    | [z] => asL (fun items => ∃ bs : List Bool, items = bs.map .bl ∧ Q (.val (.bl (bs.any id))) S) S z
    | _ => False
  | .sum => match zs with
    | [z] => asL (fun items => ∃ is : List Int, items = is.map .int ∧ Q (.val (.int is.sum)) S) S z
    | _ => False
  | .min => match zs with
    | [z] => asL (fun items => ∃ (m : Int) (is : List Int), items = is.map .int ∧ m ∈ is ∧ (∀ y ∈ is, m ≤ y) ∧ Q (.val (.int m)) S) S z
    | _ => False
  | .max => match zs with
    | [z] => asL (fun items => ∃ (m : Int) (is : List Int), items = is.map .int ∧ m ∈ is ∧ (∀ y ∈ is, y ≤ m) ∧ Q (.val (.int m)) S) S z
    | _ => False
  | .sorted => match zs with
    | [z] => asL (fun items => sortW items S Q) S z
    | _ => False
  | .tuple => match zs with
    | [z] => cq (fun items S' => Q (.val (.tup items)) S') z S
    | _ => False
  | .list => match zs with
    | [z] => cq (fun items S' => Q (.lst items) S') z S
    | _ => False
  | .dict => match zs with
    | [z] => asL (fun items => dictW items S Q) S z
    | _ => False
  | _ => False

/-- a receiver's class -/
inductive RT where | lst | dct | str | tup
  deriving DecidableEq
def rcv (S : Store) : Rz → Option RT
  | .val (.str _) => some .str
  | .val (.tup _) => some .tup
  | .val (.kl _) => some .lst
  | .val (.ref l) => match S.cell l with
    | some (.lst _) => some .lst
    | some (.cst _) => some .lst
    | some (.dct _) => some .dct
    | some (.cdt _) => some .dct
    | _ => none
  | .lst _ => some .lst
  | .cst _ => some .lst
  | _ => none
/-- methods that are served -/
def mtS : RT → Mt → Bool
  | .lst, .append => true | .lst, .clear => true | .lst, .reverse => true | .lst, .pop0 => true | .lst, .pop1 => true | .lst, .count => true | .lst, .index => true
  | .dct, .get1 => true | .dct, .get2 => true | .dct, .pop2 => true
  | _, _ => false
/-- the list at a label, to be changed -/
def atLst (Q : Nat → List D → Prop) (S : Store) : Rz → Prop
  | .val (.ref l) => match S.cell l with
    | some (.lst xs) => Q l xs
    | _ => False
  | _ => False
def atDct (Q : Nat → List (D × D) → Prop) (S : Store) : Rz → Prop
  | .val (.ref l) => match S.cell l with
    | some (.dct kvs) => Q l kvs
    | _ => False
  | _ => False
/-- .. to be read -/
def asDct (Q : List (D × D) → Prop) (S : Store) : Rz → Prop
  | .val (.ref l) => match S.cell l with
    | some (.dct kvs) => Q kvs
    | some (.cdt kvs) => Q kvs
    | _ => False
  | _ => False
/-- what a method does -/
def lstM (m : Mt) (o : Rz) (ds : List D) (S : Store) (Q : Rz → Store → Prop) : Prop :=
  match m with
  | .append => match ds with
    | [d] => atLst (fun l xs => xs.length < Lim ∧ Q (.val .non) (S.put l (.lst (xs ++ [d])))) S o
    | _ => False
  | .clear => match ds with
    | [] => atLst (fun l _ => Q (.val .non) (S.put l (.lst []))) S o
    | _ => False
  | .reverse => match ds with
    | [] => atLst (fun l xs => Q (.val .non) (S.put l (.lst xs.reverse))) S o
    | _ => False
  | .pop0 => match ds with
    | [] => atLst (fun l xs => ∃ d, xs[xs.length - 1]? = some d ∧ Q (.val d) (S.put l (.lst xs.dropLast))) S o
    | _ => False
  | .pop1 => match ds with
    | [.int i] => atLst (fun l xs => (-(2 ^ 62) ≤ i ∧ i < 2 ^ 62) ∧ ∃ j d, place xs.length i = some j ∧ xs[j]? = some d ∧ Q (.val d) (S.put l (.lst (xs.eraseIdx j)))) S o
    | _ => False
  | .count => match ds with
    | [d] => asL (fun xs => ∃ ps p, Rdds S ps xs ∧ Rdd S p d ∧ PyData.plainAll ps = true ∧ p.plain = true ∧ p.depth ≤ 60 ∧ Q (.val (.int (ps.countP fun q => PyData.eqv q p))) S) S o
    | _ => False
  | .index => match ds with
    | [d] => asL (fun xs => ∃ ps p j z, Rdds S ps xs ∧ Rdd S p d ∧ SeqAt.shaped (.list ps) = true ∧ SeqAt.shaped p = true ∧ ps[j]? = some z ∧ PyData.eqv z p = true ∧ (∀ (m : Nat) (z' : PyData), m < j → ps[m]? = some z' → PyData.eqv z' p = false) ∧ Q (.val (.int (j : Nat))) S) S o
    | _ => False
  | _ => False
def dctM (m : Mt) (o : Rz) (ds : List D) (S : Store) (Q : Rz → Store → Prop) : Prop :=
  match m with
  | .get1 => match ds with
    | [k] => asDct (fun kvs => keyFit kvs k = true ∧ Q (.val ((dget k kvs).getD .non)) S) S o
    | _ => False
  | .get2 => match ds with
    | [k, d] => asDct (fun kvs => keyFit kvs k = true ∧ Q (.val ((dget k kvs).getD d)) S) S o
    | _ => False
  | .pop2 => match ds with
    | [k, d] => atDct (fun l kvs => keyFit kvs k = true ∧ match dget k kvs with
      | none => Q (.val d) S
      | some v => Q (.val v) (S.put l (.dct (ddrop k kvs)))) S o
    | _ => False
  | _ => False
def mtZ (T : RT) (m : Mt) (o : Rz) (ds : List D) (S : Store) (Q : Rz → Store → Prop) : Prop :=
  match T with
  | .lst => lstM m o ds S Q
  | .dct => dctM m o ds S Q
  | _ => False

/-! ### slices -/
def cutAt (n d : Nat) : Option Int → Nat
  | none => d
  | some v => if v < 0 then (v + (n : Int)).toNat else min v.toNat n
def cutL {α : Type} (lo hi : Option Int) (xs : List α) : List α := (xs.drop (cutAt xs.length 0 lo)).take (cutAt xs.length xs.length hi - cutAt xs.length 0 lo)
def slcZ (z : Rz) (lo hi : Option Int) (S : Store) (Q : Rz → Store → Prop) : Prop :=
  match z with
  | .val (.tup ds) => Q (.val (.tup (cutL lo hi ds))) S
  | .val (.kl ds) => Q (.lst (cutL lo hi ds)) S
  | .val (.str s) => s.length ≤ Lim ∧ Q (.val (.str ⟨(cutL lo hi s.cps.toList).toArray⟩)) S
  | .lst ds => Q (.lst (cutL lo hi ds)) S
  | .cst ds => Q (.lst (cutL lo hi ds)) S
  | .val (.ref l) => match S.cell l with
    | some (.lst xs) => Q (.lst (cutL lo hi xs)) S
    | some (.cst xs) => Q (.lst (cutL lo hi xs)) S
    | _ => False
  | _ => False
/-! ### targets -/
mutual
def tgW : Tg → D → Env → Option Env
  | .v i, d, σ => if i < σ.length then some (σ.set i (some d)) else none
  | .t ts, .tup ds, σ => tgWs ts ds σ
  | .t _, _, _ => none
def tgWs : List Tg → List D → Env → Option Env
  | [], [], σ => some σ
  | t :: ts, d :: ds, σ => (tgW t d σ).bind (tgWs ts ds)
  | _, _, _ => none
end
def wipeD (own : List Nat) (σ : Env) : Env := match own with
  | [] => σ
  | v :: vs => (wipeD vs σ).set v none

/-! ### walks -/
def compW (step : D → Store → (Option D → Store → Prop) → Prop) (g : Store → Prop) (Q : List D → Store → Prop) : List D → List D → Store → Prop
  | [], acc, S => g S ∧ Q acc S
  | x :: xs, acc, S => g S ∧ step x S fun r S1 => match r with
    | none => compW step g Q xs acc S1
    | some d => acc.length < Lim ∧ compW step g Q xs (acc ++ [d]) S1
structure Ends where
  nx : Env → Store → Prop
  rt : D → Store → Prop
  bk : Env → Store → Prop
  ct : Env → Store → Prop
def forW (step : D → Env → Store → (Env → Store → Prop) → Prop) (g : Store → Prop) (nx : Env → Store → Prop) : List D → Env → Store → Prop
  | [], σ, S => g S ∧ nx σ S
  | x :: xs, σ, S => g S ∧ step x σ S (fun σ' S' => forW step g nx xs σ' S')
def whlW (test : Env → Store → (Bool → Store → Prop) → Prop) (body : Env → Store → (Env → Store → Prop) → Prop) (nx : Env → Store → Prop) : Nat → Env → Store → Prop
  | 0, _, _ => False
  | m + 1, σ, S => test σ S fun b S1 => match b with
    | true => body σ S1 (fun σ' S' => whlW test body nx m σ' S')
    | false => nx σ S1

/-- what is walked: its things, and what must stand at each turn -/
def walkZ (z : Rz) (S : Store) (R : List D → (Store → Prop) → Store → Prop) : Prop :=
  match z with
  | .lst xs => R xs (fun _ => True) S
  | .cst xs => R xs (fun _ => True) S
  | .val (.tup xs) => R xs (fun _ => True) S
  | .val (.kl xs) => R xs (fun _ => True) S
  | .val (.ref l) => match S.cell l with
    | some (.lst xs) => R xs (fun S' => S'.cell l = some (.lst xs)) S
    | some (.cst xs) => R xs (fun S' => S'.cell l = some (.cst xs)) S
    | _ => False
  | _ => False
/-- whole numbers from lo on, by step, so many -/
def iotaD (lo st : Int) (n : Nat) : List D := (List.range n).map fun (i : Nat) => .int (lo + (i : Int) * st)
def rngW (zs : List Rz) (S : Store) (R : List D → (Store → Prop) → Store → Prop) : Prop :=
  match zs with
  | [.val (.int j)] => (-(2 ^ 62) ≤ j ∧ j < 2 ^ 62) ∧ R (iotaD 0 1 j.toNat) (fun _ => True) S
  | [.val (.int i), .val (.int j)] => (-(2 ^ 62) ≤ i ∧ i < 2 ^ 62 ∧ -(2 ^ 62) ≤ j ∧ j < 2 ^ 62) ∧ R (iotaD i 1 (j - i).toNat) (fun _ => True) S
  | _ => False

abbrev Oracle := Nat → List D → Store → (D → Store → Prop) → (Nat → Store → Prop) → Prop
section
variable (cl : Oracle)
mutual
/-- an expression's weakest precondition; E: what is wanted of an exception (its class, the names, the store) -/
def wpE (E : Nat → Env → Store → Prop) : CE → Env → Store → (Rz → Store → Prop) → Prop
  | .var i, σ, S, Q => match σ[i]? with
    | some (some d) => Q (.val d) S
    | _ => False
  | .lit d, _, S, Q => Q (.val d) S
  | .cl xs, _, S, Q => Q (.val (.kl xs)) S
  | .tup es, σ, S, Q => wpEs E es σ S fun ds S1 => Q (.val (.tup ds)) S1
  | .lst es, σ, S, Q => wpEs E es σ S fun ds S1 => Q (.lst ds) S1
  | .dct kvs, σ, S, Q => wpKV E kvs σ S [] fun kvs S1 => Q (.dct kvs) S1
  | .bin op a b, σ, S, Q => wpE E a σ S fun x S1 => wpE E b σ S1 fun y S2 => binZ op x y S2 Q
  | .neg a, σ, S, Q => wpE E a σ S fun x S1 => match x with
    | .val (.int i) => Q (.val (.int (-i))) S1
    | _ => False
  | .not a, σ, S, Q => wpE E a σ S fun x S1 => truth (fun k S2 => Q (.val (.bl (!k))) S2) x S1
  | .cmp op a b, σ, S, Q => wpE E a σ S fun x S1 => wpE E b σ S1 fun y S2 => cmpZ op x y S2 Q
  | .cmp2 o1 o2 a b c, σ, S, Q => wpE E a σ S fun x S1 => wpE E b σ S1 fun y S2 => cmpZ o1 x y S2 fun z S3 => match z with
    | .val (.bl true) => wpE E c σ S3 fun w S4 => cmpZ o2 y w S4 Q
    | .val (.bl false) => Q (.val (.bl false)) S3
    | _ => False
  | .and a b, σ, S, Q => wpE E a σ S fun x S1 => truth (fun k S2 => match k with
    | true => wpE E b σ S2 Q
    | false => Q x S2) x S1
  | .or a b, σ, S, Q => wpE E a σ S fun x S1 => truth (fun k S2 => match k with
    | true => Q x S2
    | false => wpE E b σ S2 Q) x S1
  | .ife c a b, σ, S, Q => wpE E c σ S fun x S1 => truth (fun k S2 => match k with
    | true => wpE E a σ S2 Q
    | false => wpE E b σ S2 Q) x S1
  | .idx a i, σ, S, Q => wpE E a σ S fun x S1 => wpE E i σ S1 fun y S2 => idxZ x y S2 Q
  | .slc a lo hi, σ, S, Q => wpE E a σ S fun x S1 => wpO E lo σ S1 fun i S2 => wpO E hi σ S2 fun j S3 => slcZ x i j S3 Q
  | .call f as, σ, S, Q => wpEs E as σ S fun ds S1 => cl f ds S1 (fun d S2 => Q (.val d) S2) (fun x S2 => E x σ S2)
  | .bi b as, σ, S, Q => wpZs E as σ S fun zs S1 => biZ b zs S1 Q
  | .bii b it, σ, S, Q => wpI E it σ S fun items _ S1 => match b with
    | .list => Q (.lst items) S1
    | .tuple => Q (.val (.tup items)) S1
    | .sorted => sortW items S1 Q
    | .dict => dictW items S1 Q
    | .sum => ∃ is : List Int, items = is.map .int ∧ Q (.val (.int is.sum)) S1
    | _ => False
  | .isi a ts, σ, S, Q => wpE E a σ S fun x S1 => isiZ ts x S1 Q
  | .mth m o as, σ, S, Q => wpE E o σ S fun x S1 => ∃ T, (rcv S1 x = some T ∧ mtS T m = true) ∧ wpEs E as σ S1 fun ds S2 => mtZ T m x ds S2 Q
  | .cmpr elt tg it fs own, σ, S, Q => wpI E it σ S fun items g S1 =>
      compW (fun d S2 R => match tgW tg d (wipeD own σ) with
        | some σ' => wpIfs fs σ' S2 fun k S3 => match k with
          | true => wpE (fun _ _ _ => False) elt σ' S3 (cv fun d' S4 => R (some d') S4)
          | false => R none S3
        | none => False) g (fun ds S2 => Q (.lst ds) S2) items [] S1
def wpEs (E : Nat → Env → Store → Prop) : List CE → Env → Store → (List D → Store → Prop) → Prop
  | [], _, S, Q => Q [] S
  | e :: es, σ, S, Q => wpE E e σ S (cv fun d S1 => wpEs E es σ S1 fun ds S2 => Q (d :: ds) S2)
def wpZs (E : Nat → Env → Store → Prop) : List CE → Env → Store → (List Rz → Store → Prop) → Prop
  | [], _, S, Q => Q [] S
  | e :: es, σ, S, Q => wpE E e σ S fun z S1 => wpZs E es σ S1 fun zs S2 => Q (z :: zs) S2
def wpKV (E : Nat → Env → Store → Prop) : List CE → Env → Store → List (D × D) → (List (D × D) → Store → Prop) → Prop
  | [], _, S, acc, Q => Q acc S
  | [_], _, _, _, _ => False
  | k :: v :: r, σ, S, acc, Q => wpE E k σ S fun x S1 => wpE E v σ S1 (cv fun d S2 => match x with
    | .val (.str s) => wpKV E r σ S2 (dput (.str s) d acc) Q
    | _ => False)
def wpO (E : Nat → Env → Store → Prop) : Option CE → Env → Store → (Option Int → Store → Prop) → Prop
  | none, _, S, Q => Q none S
  | some e, σ, S, Q => wpE E e σ S fun z S1 => match z with
    | .val (.int i) => Q (some i) S1
    | _ => False
/-- a clause's tests (one at most is served) -/
def wpIfs : List CE → Env → Store → (Bool → Store → Prop) → Prop
  | [], _, S, Q => Q true S
  | e :: es, σ, S, Q => wpE (fun _ _ _ => False) e σ S (truth fun k S1 => match k with
    | true => wpIfs es σ S1 Q
    | false => Q false S1)
def wpI (E : Nat → Env → Store → Prop) : CI → Env → Store → (List D → (Store → Prop) → Store → Prop) → Prop
  | .e c, σ, S, R => wpE E c σ S fun z S1 => walkZ z S1 R
  | .range as, σ, S, R => wpZs E as σ S fun zs S1 => rngW zs S1 R
  | .zip a b, σ, S, R => wpE E a σ S fun x S1 => wpE E b σ S1 fun y S2 => walkZ x S2 fun xs g S3 => walkZ y S3 fun ys g' S4 => R ((xs.zip ys).map fun p => .tup [p.1, p.2]) (fun S' => g S' ∧ g' S') S4
  | .enum a, σ, S, R => wpE E a σ S fun x S1 => walkZ x S1 fun xs g S2 => R (xs.zipIdx.map fun p => .tup [.int p.2, p.1]) g S2
  | .items a, σ, S, R => wpE E a σ S fun x S1 => match x with
    | .val (.ref l) => match S1.cell l with
      | some (.dct kvs) => R (kvs.map fun p => .tup [p.1, p.2]) (fun S' => S'.cell l = some (.dct kvs)) S1
      | some (.cdt kvs) => R (kvs.map fun p => .tup [p.1, p.2]) (fun S' => S'.cell l = some (.cdt kvs)) S1
      | _ => False
    | _ => False
  | .values a, σ, S, R => wpE E a σ S fun x S1 => match x with
    | .val (.ref l) => match S1.cell l with
      | some (.dct kvs) => R (kvs.map fun p => p.2) (fun S' => S'.cell l = some (.dct kvs)) S1
      | some (.cdt kvs) => R (kvs.map fun p => p.2) (fun S' => S'.cell l = some (.cdt kvs)) S1
      | _ => False
    | _ => False
  | .rev a, σ, S, R => wpE E a σ S fun x S1 => walkZ x S1 fun xs g S2 => R xs.reverse g S2
end

/-- o[i] = d -/
def setZ (o : Rz) (i : Rz) (d : D) (S : Store) (Q : Store → Prop) : Prop :=
  match o, i with
  | .val (.ref l), .val k => match S.cell l with
    | some (.dct kvs) => keyFit kvs k = true ∧ kvs.length < Lim ∧ Q (S.put l (.dct (dput k d kvs)))
    | some (.lst xs) => ∃ i j, k = .int i ∧ place xs.length i = some j ∧ Q (S.put l (.lst (xs.set j d)))
    | _ => False
  | _, _ => False

/-- a list that may be handed on: new, or at a label -/
def asM (Q : List D → Prop) (S : Store) : Rz → Prop
  | .lst xs => Q xs
  | .val (.ref l) => match S.cell l with
    | some (.lst xs) => Q xs
    | _ => False
  | _ => False
/-- x op= y -/
def augZ (op : BOp) (x : D) (y : Rz) (S : Store) (Q : Rz → Store → Prop) : Prop :=
  match op, x, y with
  | .add, .int i, .val (.int j) => Q (.val (.int (i + j))) S
  | .sub, .int i, .val (.int j) => Q (.val (.int (i - j))) S
  | .add, .str s, .val (.str t) => s.length + t.length ≤ Lim ∧ Q (.val (.str (s ++ t))) S
  | .add, .ref l, y => match S.cell l with
    | some (.lst xs) => asM (fun ys => xs.length + ys.length ≤ Lim ∧ Q (.val (.ref l)) (S.put l (.lst (xs ++ ys)))) S y
    | _ => False
  | _, _, _ => False
mutual
def wpS (E : Nat → Env → Store → Prop) : CS → Env → Store → Ends → Prop
  | .expr e, σ, S, K => wpE cl E e σ S fun _ S1 => K.nx σ S1
  | .asg t e, σ, S, K => wpE cl E e σ S (cv fun d S1 => match tgW t d σ with
    | some σ' => K.nx σ' S1
    | none => False)
  | .aug i op e, σ, S, K => match σ[i]? with
    | some (some x) => wpE cl E e σ S fun y S1 => augZ op x y S1 (cv fun d S2 => K.nx (σ.set i (some d)) S2)
    | _ => False
  | .seti o i e, σ, S, K => wpE cl E e σ S (cv fun d S1 => wpE cl E o σ S1 fun x S2 => wpE cl E i σ S2 fun y S3 => setZ x y d S3 fun S4 => K.nx σ S4)
  | .ifs c a b, σ, S, K => wpE cl E c σ S (truth fun k S1 => match k with
    | true => wpSs E a σ S1 K
    | false => wpSs E b σ S1 K)
  | .whl c b, σ, S, K => ∃ m, whlW (fun σ' S' Q => wpE cl E c σ' S' (truth Q)) (fun σ' S' N => wpSs E b σ' S' { nx := N, rt := K.rt, bk := K.nx, ct := N }) K.nx m σ S
  | .for t it b, σ, S, K => wpI cl E it σ S fun items g S1 =>
      forW (fun d σ' S' N => match tgW t d σ' with
        | some σ2 => wpSs E b σ2 S' { nx := N, rt := K.rt, bk := K.nx, ct := N }
        | none => False) g K.nx items σ S1
  | .ret e, σ, S, K => wpE cl E e σ S (cv fun d S1 => K.rt d S1)
  | .retn, _, S, K => K.rt .non S
  | .brk, σ, S, K => K.bk σ S
  | .cnt, σ, S, K => K.ct σ S
  | .pass, σ, S, K => K.nx σ S
def wpSs (E : Nat → Env → Store → Prop) : List CS → Env → Store → Ends → Prop
  | [], σ, S, K => K.nx σ S
  | s :: ss, σ, S, K => wpS E s σ S { K with nx := fun σ' S' => wpSs E ss σ' S' K }
end
end

/-! ### calls -/
mutual
def refsIn (n : Nat) : D → Bool
  | .tup ds => refsIns n ds
  | .kl ds => refsIns n ds
  | .ref l => decide (l < n)
  | _ => true
def refsIns (n : Nat) : List D → Bool
  | [] => true
  | d :: ds => refsIn n d && refsIns n ds
end
mutual
def ren (ρ : Nat → Nat) : D → D
  | .tup ds => .tup (rens ρ ds)
  | .kl ds => .kl (rens ρ ds)
  | .ref l => .ref (ρ l)
  | d => d
def rens (ρ : Nat → Nat) : List D → List D
  | [] => []
  | d :: ds => ren ρ d :: rens ρ ds
end
def renKV (ρ : Nat → Nat) (kvs : List (D × D)) : List (D × D) := kvs.map fun p => (ren ρ p.1, ren ρ p.2)
def Cell.ren (ρ : Nat → Nat) : Cell → Cell
  | .lst xs => .lst (rens ρ xs)
  | .cst xs => .cst (rens ρ xs)
  | .dct kvs => .dct (renKV ρ kvs)
  | .cdt kvs => .cdt (renKV ρ kvs)
  | .set xs => .set (rens ρ xs)
  | .ins c fs => .ins c (fs.map fun p => (p.1, M3.ren ρ p.2))
  | .exn c => .exn c
def Cell.refs (n : Nat) : Cell → Bool
  | .lst xs => refsIns n xs
  | .cst xs => refsIns n xs
  | .dct kvs => kvs.all fun p => refsIn n p.1 && refsIn n p.2
  | .cdt kvs => kvs.all fun p => refsIn n p.1 && refsIn n p.2
  | .set xs => refsIns n xs
  | .ins _ fs => fs.all fun p => refsIn n p.2
  | .exn _ => true
/-- every label that is held is one of the store's -/
def Store.Ok (S : Store) : Prop := ∀ l c, S.cell l = some c → l < S.nx ∧ c.refs S.nx = true
/-- S' tells some of what S tells, its labels named anew behind the first k -/
structure ViewG (k : Nat) (S S' : Store) (d d' : D) : Prop where
  ex : ∃ ρ : Nat → Nat, (∀ l, l < k → ρ l = l) ∧ (∀ l, l < S'.nx → ρ l < S.nx) ∧ (∀ i j, i < S'.nx → j < S'.nx → ρ i = ρ j → i = j) ∧
    (∀ l c, S'.cell l = some c → S.cell (ρ l) = some (c.ren ρ)) ∧ d = ren ρ d'
  le : k ≤ S'.nx
  ok : S'.Ok
  dk : refsIn S'.nx d' = true

/-- .. or the store as it is -/
def View (k : Nat) (S S' : Store) (d d' : D) : Prop := (S' = S ∧ d' = d) ∨ ViewG k S S' d d'
structure Prg where
  fns : List Fn
def startD (nl : Nat) (ds : List D) : Env := ds.map some ++ List.replicate (nl - ds.length) none
def callD (P : Prg) : Nat → Oracle
  | 0, _, _, _, _, _ => False
  | n + 1, f, ds, S, Q, E => match P.fns[f]? with
    | none => False
    | some F => F.ar = ds.length ∧ (S.Ok → refsIns S.nx ds = true →
        wpSs (callD P n) (fun x _ S1 => ∃ S', View S.nx S1 S' .non .non ∧ E x S') F.body (startD F.nl ds) S
          { nx := fun _ S1 => ∃ S' d', View S.nx S1 S' .non d' ∧ Q d' S', rt := fun d S1 => ∃ S' d', View S.nx S1 S' d d' ∧ Q d' S', bk := fun _ _ => False, ct := fun _ _ => False })
end M3
end

section
set_option autoImplicit false
set_option linter.all false
set_option maxHeartbeats 1000000
/-! M3: consequence. -/
namespace M3
open PySem
/-- a test's answer -/
def tru (S : Store) : Rz → Option Bool
  | .val .non => some false
  | .val (.bl b) => some b
  | .val (.int i) => some (i != 0)
  | .val (.str s) => if s.length ≤ Lim then some (s.length != 0) else none
  | .val (.tup ds) => some (!ds.isEmpty)
  | .val (.kl ds) => some (!ds.isEmpty)
  | .val (.ref l) => match S.cell l with
    | some (.lst xs) => some (!xs.isEmpty)
    | some (.cst xs) => some (!xs.isEmpty)
    | _ => none
  | .lst xs => some (!xs.isEmpty)
  | .cst xs => some (!xs.isEmpty)
  | _ => none
theorem truth_iff {Q : Bool → Store → Prop} {z : Rz} {S : Store} : truth Q z S ↔ ∃ k, tru S z = some k ∧ Q k S := by
  cases z with
  | val d =>
    cases d with
    | str s =>
      show (s.length ≤ Lim ∧ Q (s.length != 0) S) ↔ ∃ k, (if s.length ≤ Lim then some (s.length != 0) else none) = some k ∧ Q k S
      by_cases h : s.length ≤ Lim
      · rw [if_pos h]; simp [h]
      · rw [if_neg h]; simp [h]
    | ref l =>
      show (match S.cell l with | some (.lst xs) => Q (!xs.isEmpty) S | some (.cst xs) => Q (!xs.isEmpty) S | _ => False) ↔ ∃ k, (match S.cell l with | some (.lst xs) => some (!xs.isEmpty) | some (.cst xs) => some (!xs.isEmpty) | _ => none) = some k ∧ Q k S
      cases S.cell l with
      | none => exact ⟨fun h => h.elim, fun ⟨k, e, h⟩ => nomatch e⟩
      | some c => cases c <;> first | exact ⟨fun h => ⟨_, rfl, h⟩, fun ⟨k, e, h⟩ => by cases e; exact h⟩ | exact ⟨fun h => h.elim, fun ⟨k, e, h⟩ => nomatch e⟩
    | _ => exact ⟨fun h => ⟨_, rfl, h⟩, fun ⟨k, e, h⟩ => by cases e; exact h⟩
  | lst _ => exact ⟨fun h => ⟨_, rfl, h⟩, fun ⟨k, e, h⟩ => by cases e; exact h⟩
  | cst _ => exact ⟨fun h => ⟨_, rfl, h⟩, fun ⟨k, e, h⟩ => by cases e; exact h⟩
  | dct _ => exact ⟨fun h => h.elim, fun ⟨k, e, h⟩ => nomatch e⟩
  | set _ => exact ⟨fun h => h.elim, fun ⟨k, e, h⟩ => nomatch e⟩
theorem truth_mono {Q Q' : Bool → Store → Prop} (i : ∀ k S, Q k S → Q' k S) {z : Rz} {S : Store} (h : truth Q z S) : truth Q' z S := by
  obtain ⟨k, e, h⟩ := truth_iff.mp h
  exact truth_iff.mpr ⟨k, e, i _ _ h⟩
theorem truth_and {Q : Bool → Store → Prop} {A : Store → Prop} {x : Rz} {S : Store} (h : truth (fun k S2 => match k with | true => A S2 | false => truth Q x S2) x S) : truth (fun k S2 => match k with | true => A S2 | false => Q false S2) x S := by
  obtain ⟨k, e, h⟩ := truth_iff.mp h
  refine truth_iff.mpr ⟨k, e, ?_⟩
  cases k with
  | true => exact h
  | false =>
    obtain ⟨k', e', h⟩ := truth_iff.mp h
    rw [e] at e'; cases e'; exact h
theorem truth_or {Q : Bool → Store → Prop} {A : Store → Prop} {x : Rz} {S : Store} (h : truth (fun k S2 => match k with | true => truth Q x S2 | false => A S2) x S) : truth (fun k S2 => match k with | true => Q true S2 | false => A S2) x S := by
  obtain ⟨k, e, h⟩ := truth_iff.mp h
  refine truth_iff.mpr ⟨k, e, ?_⟩
  cases k with
  | false => exact h
  | true =>
    obtain ⟨k', e', h⟩ := truth_iff.mp h
    rw [e] at e'; cases e'; exact h
theorem cv_mono {Q Q' : D → Store → Prop} (i : ∀ k S, Q k S → Q' k S) {z : Rz} {S : Store} (h : cv Q z S) : cv Q' z S := by
  cases z <;> first | exact i _ _ h | exact h
theorem cq_mono {Q Q' : List D → Store → Prop} (i : ∀ k S, Q k S → Q' k S) {z : Rz} {S : Store} (h : cq Q z S) : cq Q' z S := by
  cases z with
  | val d =>
    cases d with
    | ref l =>
      have h' : (match S.cell l with | some (.lst xs) => Q xs S | some (.cst xs) => Q xs S | _ => False) := h
      show (match S.cell l with | some (.lst xs) => Q' xs S | some (.cst xs) => Q' xs S | _ => False)
      split at h' <;> first | exact i _ _ h' | exact h'
    | tup ds => exact i _ _ h
    | kl ds => exact i _ _ h
    | _ => exact h
  | lst xs => exact i _ _ h
  | cst xs => exact i _ _ h
  | _ => exact h
theorem asL_mono {Q Q' : List D → Prop} (i : ∀ k, Q k → Q' k) {z : Rz} {S : Store} (h : asL Q S z) : asL Q' S z := by
  cases z with
  | val d =>
    cases d with
    | ref l =>
      have h' : (match S.cell l with | some (.lst xs) => Q xs | some (.cst xs) => Q xs | _ => False) := h
      show (match S.cell l with | some (.lst xs) => Q' xs | some (.cst xs) => Q' xs | _ => False)
      split at h' <;> first | exact i _ h' | exact h'
    | kl xs => exact i _ h
    | _ => exact h
  | lst xs => exact i _ h
  | cst xs => exact i _ h
  | _ => exact h
section
variable {Q Q' : Rz → Store → Prop} (i : ∀ z S, Q z S → Q' z S) {x y z : Rz} {S : Store}
include i
theorem binZ_mono {op : BOp} (h : binZ op x y S Q) : binZ op x y S Q' := by
  unfold binZ at h ⊢
  split at h <;> first
    | exact i _ _ h
    | exact ⟨h.1, i _ _ h.2⟩
    | exact asL_mono (fun _ h => asL_mono (fun _ h => ⟨h.1, i _ _ h.2⟩) h) h
    | exact h
theorem inZ_mono {R R' : Bool → Prop} (j : ∀ b, R b → R' b) (h : inZ x y S R) : inZ x y S R' := by
  unfold inZ at h ⊢
  split at h
  · split at h <;> first | exact j _ h | exact h
  · obtain ⟨p, ps, h1, h2, h3, h4, h5⟩ := h; exact ⟨p, ps, h1, h2, h3, h4, j _ h5⟩
  · obtain ⟨p, ps, h1, h2, h3, h4, h5⟩ := h; exact ⟨p, ps, h1, h2, h3, h4, j _ h5⟩
  · obtain ⟨p, ps, h1, h2, h3, h4, h5⟩ := h; exact ⟨p, ps, h1, h2, h3, h4, j _ h5⟩
  · obtain ⟨p, ps, h1, h2, h3, h4, h5⟩ := h; exact ⟨p, ps, h1, h2, h3, h4, j _ h5⟩
  · split at h
    · obtain ⟨p, ps, h1, h2, h3, h4, h5⟩ := h; exact ⟨p, ps, h1, h2, h3, h4, j _ h5⟩
    · obtain ⟨p, ps, h1, h2, h3, h4, h5⟩ := h; exact ⟨p, ps, h1, h2, h3, h4, j _ h5⟩
    · split at h <;> first | exact ⟨h.1, j _ h.2⟩ | exact h
    · split at h <;> first | exact ⟨h.1, j _ h.2⟩ | exact h
    · exact h
  · exact h
theorem cmpZ_mono {op : COp} (h : cmpZ op x y S Q) : cmpZ op x y S Q' := by
  unfold cmpZ at h ⊢
  split at h <;> first
    | exact i _ _ h
    | exact inZ_mono (Q := Q) (Q' := Q') i (fun _ h => i _ _ h) h
    | (obtain ⟨p, q, h1, h2, h3, h4, h5⟩ := h; exact ⟨p, q, h1, h2, h3, h4, i _ _ h5⟩)
    | exact h
theorem idxZ_mono (h : idxZ x y S Q) : idxZ x y S Q' := by
  unfold idxZ at h ⊢
  split at h
  · split at h
    · obtain ⟨h1, v, h2, h3⟩ := h; exact ⟨h1, v, h2, i _ _ h3⟩
    · obtain ⟨h1, v, h2, h3⟩ := h; exact ⟨h1, v, h2, i _ _ h3⟩
    · obtain ⟨a, b, c, h1, h2, h3, h4⟩ := h; exact ⟨a, b, c, h1, h2, h3, i _ _ h4⟩
    · obtain ⟨a, b, c, h1, h2, h3, h4⟩ := h; exact ⟨a, b, c, h1, h2, h3, i _ _ h4⟩
    · exact h
  · obtain ⟨a, b, h1, h2, h3⟩ := h; exact ⟨a, b, h1, h2, i _ _ h3⟩
  · obtain ⟨a, b, h1, h2, h3⟩ := h; exact ⟨a, b, h1, h2, i _ _ h3⟩
  · obtain ⟨a, b, h1, h2, h3⟩ := h; exact ⟨a, b, h1, h2, i _ _ h3⟩
  · obtain ⟨a, b, h1, h2, h3⟩ := h; exact ⟨a, b, h1, h2, i _ _ h3⟩
  · obtain ⟨a, b, h0, h1, h2, h3⟩ := h; exact ⟨a, b, h0, h1, h2, i _ _ h3⟩
  · exact h
theorem slcZ_mono {lo hi : Option Int} (h : slcZ z lo hi S Q) : slcZ z lo hi S Q' := by
  unfold slcZ at h ⊢
  split at h
  · exact i _ _ h
  · exact i _ _ h
  · exact ⟨h.1, i _ _ h.2⟩
  · exact i _ _ h
  · exact i _ _ h
  · split at h <;> first | exact i _ _ h | exact h
  · exact h
theorem isiZ_mono {ts : List Ty} (h : isiZ ts z S Q) : isiZ ts z S Q' := by
  unfold isiZ at h ⊢
  split at h
  · exact i _ _ h
  · split at h <;> first | exact i _ _ h | exact h
theorem sortW_mono {xs : List D} (h : sortW xs S Q) : sortW xs S Q' := by
  obtain ⟨β, bs, dec, enc, h1, h2, h3, h4, h5, h6, h7⟩ := h
  exact ⟨β, bs, dec, enc, h1, h2, h3, h4, h5, h6, i _ _ h7⟩
theorem dictW_mono {xs : List D} (h : dictW xs S Q) : dictW xs S Q' := by
  obtain ⟨a, h1, h2, h3⟩ := h
  exact ⟨a, h1, h2, i _ _ h3⟩
theorem lenZ_mono (h : lenZ z S Q) : lenZ z S Q' := by
  unfold lenZ at h ⊢
  split at h <;> first
    | exact i _ _ h
    | exact ⟨h.1, i _ _ h.2⟩
    | (split at h <;> first | exact i _ _ h | exact h)
    | exact h
theorem biZ_mono {b : Bi} {zs : List Rz} (h : biZ b zs S Q) : biZ b zs S Q' := by
  unfold biZ at h ⊢
  split at h <;> first | exact h | (split at h <;> first
    | exact h
    | exact lenZ_mono i h
    | exact i _ _ h
    | exact ⟨h.1, i _ _ h.2⟩
    | exact truth_mono (fun _ _ h => i _ _ h) h
    | (refine asL_mono (fun _ h => ?_) h; exact sortW_mono i h)
    | (refine asL_mono (fun _ h => ?_) h; exact dictW_mono i h)
    | (refine asL_mono (fun _ h => ?_) h; obtain ⟨a, h1, h2⟩ := h; exact ⟨a, h1, i _ _ h2⟩)
    | (refine asL_mono (fun _ h => ?_) h; obtain ⟨a, b, h1, h2, h3, h4⟩ := h; exact ⟨a, b, h1, h2, h3, i _ _ h4⟩)
    | exact cq_mono (fun _ _ h => i _ _ h) h)
theorem atLst_mono {R R' : Nat → List D → Prop} (j : ∀ l xs, R l xs → R' l xs) (h : atLst R S z) : atLst R' S z := by
  unfold atLst at h ⊢
  split at h
  · split at h <;> first | exact j _ _ h | exact h
  · exact h
theorem atDct_mono {R R' : Nat → List (D × D) → Prop} (j : ∀ l xs, R l xs → R' l xs) (h : atDct R S z) : atDct R' S z := by
  unfold atDct at h ⊢
  split at h
  · split at h <;> first | exact j _ _ h | exact h
  · exact h
theorem asDct_mono {R R' : List (D × D) → Prop} (j : ∀ xs, R xs → R' xs) (h : asDct R S z) : asDct R' S z := by
  unfold asDct at h ⊢
  split at h
  · split at h <;> first | exact j _ h | exact h
  · exact h
theorem mtZ_mono {T : RT} {m : Mt} {ds : List D} (h : mtZ T m z ds S Q) : mtZ T m z ds S Q' := by
  unfold mtZ at h ⊢
  split at h
  · unfold lstM at h ⊢
    split at h <;> first | exact h | (split at h <;> first
      | exact h
      | exact atLst_mono i (fun _ _ h => i _ _ h) h
      | exact atLst_mono i (fun _ _ h => ⟨h.1, i _ _ h.2⟩) h
      | (refine atLst_mono i (fun _ _ h => ?_) h; obtain ⟨a, h1, h2⟩ := h; exact ⟨a, h1, i _ _ h2⟩)
      | (refine atLst_mono i (fun _ _ h => ?_) h; obtain ⟨h0, a, b, h1, h2, h3⟩ := h; exact ⟨h0, a, b, h1, h2, i _ _ h3⟩)
      | (refine asL_mono (fun _ h => ?_) h; obtain ⟨a, b, h1, h2, h3, h4, h5, h6⟩ := h; exact ⟨a, b, h1, h2, h3, h4, h5, i _ _ h6⟩)
      | (refine asL_mono (fun _ h => ?_) h; obtain ⟨a, b, c, d, h1, h2, h3, h4, h5, h6, h7, h8⟩ := h; exact ⟨a, b, c, d, h1, h2, h3, h4, h5, h6, h7, i _ _ h8⟩))
  · unfold dctM at h ⊢
    split at h <;> first | exact h | (split at h <;> first
      | exact h
      | exact asDct_mono i (fun _ h => ⟨h.1, i _ _ h.2⟩) h
      | (refine atDct_mono i (fun l xs h => ?_) h
         refine ⟨h.1, ?_⟩
         have h2 := h.2
         split at h2 <;> exact i _ _ h2))
  · exact h
end
theorem walkZ_mono {R R' : List D → (Store → Prop) → Store → Prop} (j : ∀ xs g S, R xs g S → R' xs g S) {z : Rz} {S : Store} (h : walkZ z S R) : walkZ z S R' := by
  unfold walkZ at h ⊢
  split at h <;> first | exact j _ _ _ h | (split at h <;> first | exact j _ _ _ h | exact h) | exact h
theorem rngW_mono {R R' : List D → (Store → Prop) → Store → Prop} (j : ∀ xs g S, R xs g S → R' xs g S) {zs : List Rz} {S : Store} (h : rngW zs S R) : rngW zs S R' := by
  unfold rngW at h ⊢
  split at h <;> first | exact ⟨h.1, j _ _ _ h.2⟩ | exact h
theorem compW_mono {step : D → Store → (Option D → Store → Prop) → Prop} {g : Store → Prop} {Q Q' : List D → Store → Prop} (hs : ∀ d S R R', (∀ o S, R o S → R' o S) → step d S R → step d S R') (i : ∀ ds S, Q ds S → Q' ds S) :
    ∀ (xs acc : List D) (S : Store), compW step g Q xs acc S → compW step g Q' xs acc S
  | [], acc, S, h => ⟨h.1, i _ _ h.2⟩
  | x :: xs, acc, S, h => ⟨h.1, hs _ _ _ _ (fun o S1 h => by
      cases o with
      | none => exact compW_mono hs i xs acc S1 h
      | some d => exact ⟨h.1, compW_mono hs i xs _ S1 h.2⟩) h.2⟩
/-- an oracle's consequence -/
def OrMono (cl : Oracle) : Prop := ∀ f ds S (Q Q' : D → Store → Prop) (E E' : Nat → Store → Prop), (∀ d S, Q d S → Q' d S) → (∀ x S, E x S → E' x S) → cl f ds S Q E → cl f ds S Q' E'
section
variable {cl : Oracle} (hcl : OrMono cl)
include hcl
mutual
theorem wpE_mono {E E' : Nat → Env → Store → Prop} (je : ∀ x σ S, E x σ S → E' x σ S) : ∀ (c : CE) (σ : Env) (S : Store) (Q Q' : Rz → Store → Prop), (∀ z S, Q z S → Q' z S) → wpE cl E c σ S Q → wpE cl E' c σ S Q'
  | .var j, σ, S, Q, Q', i, h => by
    simp only [wpE] at h ⊢
    split at h <;> first | exact i _ _ h | exact h
  | .lit d, σ, S, Q, Q', i, h => by simp only [wpE] at h ⊢; exact i _ _ h
  | .cl xs, σ, S, Q, Q', i, h => by simp only [wpE] at h ⊢; exact i _ _ h
  | .tup es, σ, S, Q, Q', i, h => by simp only [wpE] at h ⊢; exact wpEs_mono je es σ S _ _ (fun _ _ h => i _ _ h) h
  | .lst es, σ, S, Q, Q', i, h => by simp only [wpE] at h ⊢; exact wpEs_mono je es σ S _ _ (fun _ _ h => i _ _ h) h
  | .dct es, σ, S, Q, Q', i, h => by simp only [wpE] at h ⊢; exact wpKV_mono je es σ S _ _ _ (fun _ _ h => i _ _ h) h
  | .bin op a b, σ, S, Q, Q', i, h => by simp only [wpE] at h ⊢; exact wpE_mono je a σ S _ _ (fun _ _ h => wpE_mono je b σ _ _ _ (fun _ _ h => binZ_mono i h) h) h
  | .neg a, σ, S, Q, Q', i, h => by
    simp only [wpE] at h ⊢
    exact wpE_mono je a σ S _ _ (fun _ _ h => by split at h <;> first | exact i _ _ h | exact h) h
  | .not a, σ, S, Q, Q', i, h => by simp only [wpE] at h ⊢; exact wpE_mono je a σ S _ _ (fun _ _ h => truth_mono (fun _ _ h => i _ _ h) h) h
  | .cmp op a b, σ, S, Q, Q', i, h => by simp only [wpE] at h ⊢; exact wpE_mono je a σ S _ _ (fun _ _ h => wpE_mono je b σ _ _ _ (fun _ _ h => cmpZ_mono i h) h) h
  | .cmp2 o1 o2 a b c, σ, S, Q, Q', i, h => by
    simp only [wpE] at h ⊢
    exact wpE_mono je a σ S _ _ (fun _ _ h => wpE_mono je b σ _ _ _ (fun _ _ h => cmpZ_mono (fun _ _ h => by
      split at h
      · exact wpE_mono je c σ _ _ _ (fun _ _ h => cmpZ_mono i h) h
      · exact i _ _ h
      · exact h) h) h) h
  | .and a b, σ, S, Q, Q', i, h => by
    simp only [wpE] at h ⊢
    exact wpE_mono je a σ S _ _ (fun _ _ h => truth_mono (fun k _ h => by
      cases k with
      | true => exact wpE_mono je b σ _ _ _ i h
      | false => exact i _ _ h) h) h
  | .or a b, σ, S, Q, Q', i, h => by
    simp only [wpE] at h ⊢
    exact wpE_mono je a σ S _ _ (fun _ _ h => truth_mono (fun k _ h => by
      cases k with
      | false => exact wpE_mono je b σ _ _ _ i h
      | true => exact i _ _ h) h) h
  | .ife c a b, σ, S, Q, Q', i, h => by
    simp only [wpE] at h ⊢
    exact wpE_mono je c σ S _ _ (fun _ _ h => truth_mono (fun k _ h => by
      cases k with
      | false => exact wpE_mono je b σ _ _ _ i h
      | true => exact wpE_mono je a σ _ _ _ i h) h) h
  | .idx a b, σ, S, Q, Q', i, h => by simp only [wpE] at h ⊢; exact wpE_mono je a σ S _ _ (fun _ _ h => wpE_mono je b σ _ _ _ (fun _ _ h => idxZ_mono i h) h) h
  | .slc a lo hi, σ, S, Q, Q', i, h => by simp only [wpE] at h ⊢; exact wpE_mono je a σ S _ _ (fun _ _ h => wpO_mono je lo σ _ _ _ (fun _ _ h => wpO_mono je hi σ _ _ _ (fun _ _ h => slcZ_mono i h) h) h) h
  | .call f as, σ, S, Q, Q', i, h => by simp only [wpE] at h ⊢; exact wpEs_mono je as σ S _ _ (fun _ _ h => hcl _ _ _ _ _ _ _ (fun _ _ h => i _ _ h) (fun _ _ h => je _ _ _ h) h) h
  | .bi b as, σ, S, Q, Q', i, h => by simp only [wpE] at h ⊢; exact wpZs_mono je as σ S _ _ (fun _ _ h => biZ_mono i h) h
  | .bii b it, σ, S, Q, Q', i, h => by
    simp only [wpE] at h ⊢
    exact wpI_mono je it σ S _ _ (fun _ _ _ h => by
      split at h <;> first
        | exact i _ _ h
        | exact sortW_mono i h
        | exact dictW_mono i h
        | (obtain ⟨a, h1, h2⟩ := h; exact ⟨a, h1, i _ _ h2⟩)
        | exact h) h
  | .isi a ts, σ, S, Q, Q', i, h => by simp only [wpE] at h ⊢; exact wpE_mono je a σ S _ _ (fun _ _ h => isiZ_mono i h) h
  | .mth m o as, σ, S, Q, Q', i, h => by
    simp only [wpE] at h ⊢
    exact wpE_mono je o σ S _ _ (fun _ _ h => by
      obtain ⟨T, h1, h2⟩ := h
      exact ⟨T, h1, wpEs_mono je as σ _ _ _ (fun _ _ h => mtZ_mono i h) h2⟩) h
  | .cmpr elt tg it fs own, σ, S, Q, Q', i, h => by
    simp only [wpE] at h ⊢
    exact wpI_mono je it σ S _ _ (fun _ _ _ h => compW_mono (fun d S2 R R' j h => by
      split at h
      · exact wpIfs_mono fs _ _ _ _ (fun k _ h => by
          cases k with
          | true => exact wpE_mono (fun _ _ _ h => h) elt _ _ _ _ (fun _ _ h => cv_mono (fun _ _ h => j _ _ h) h) h
          | false => exact j _ _ h) h
      · exact h) (fun _ _ h => i _ _ h) _ _ _ h) h
theorem wpEs_mono {E E' : Nat → Env → Store → Prop} (je : ∀ x σ S, E x σ S → E' x σ S) : ∀ (c : List CE) (σ : Env) (S : Store) (Q Q' : List D → Store → Prop), (∀ z S, Q z S → Q' z S) → wpEs cl E c σ S Q → wpEs cl E' c σ S Q'
  | [], σ, S, Q, Q', i, h => by simp only [wpEs] at h ⊢; exact i _ _ h
  | c :: cs, σ, S, Q, Q', i, h => by simp only [wpEs] at h ⊢; exact wpE_mono je c σ S _ _ (fun _ _ h => cv_mono (fun _ _ h => wpEs_mono je cs σ _ _ _ (fun _ _ h => i _ _ h) h) h) h
theorem wpZs_mono {E E' : Nat → Env → Store → Prop} (je : ∀ x σ S, E x σ S → E' x σ S) : ∀ (c : List CE) (σ : Env) (S : Store) (Q Q' : List Rz → Store → Prop), (∀ z S, Q z S → Q' z S) → wpZs cl E c σ S Q → wpZs cl E' c σ S Q'
  | [], σ, S, Q, Q', i, h => by simp only [wpZs] at h ⊢; exact i _ _ h
  | c :: cs, σ, S, Q, Q', i, h => by simp only [wpZs] at h ⊢; exact wpE_mono je c σ S _ _ (fun _ _ h => wpZs_mono je cs σ _ _ _ (fun _ _ h => i _ _ h) h) h
theorem wpKV_mono {E E' : Nat → Env → Store → Prop} (je : ∀ x σ S, E x σ S → E' x σ S) : ∀ (c : List CE) (σ : Env) (S : Store) (acc : List (D × D)) (Q Q' : List (D × D) → Store → Prop), (∀ z S, Q z S → Q' z S) → wpKV cl E c σ S acc Q → wpKV cl E' c σ S acc Q'
  | [], σ, S, acc, Q, Q', i, h => by simp only [wpKV] at h ⊢; exact i _ _ h
  | [_], σ, S, acc, Q, Q', i, h => by simp only [wpKV] at h
  | k :: v :: cs, σ, S, acc, Q, Q', i, h => by
    simp only [wpKV] at h ⊢
    exact wpE_mono je k σ S _ _ (fun _ _ h => wpE_mono je v σ _ _ _ (fun _ _ h => cv_mono (fun _ _ h => by
      split at h
      · exact wpKV_mono je cs σ _ _ _ _ i h
      · exact h) h) h) h
theorem wpO_mono {E E' : Nat → Env → Store → Prop} (je : ∀ x σ S, E x σ S → E' x σ S) : ∀ (c : Option CE) (σ : Env) (S : Store) (Q Q' : Option Int → Store → Prop), (∀ z S, Q z S → Q' z S) → wpO cl E c σ S Q → wpO cl E' c σ S Q'
  | none, σ, S, Q, Q', i, h => by simp only [wpO] at h ⊢; exact i _ _ h
  | some c, σ, S, Q, Q', i, h => by
    simp only [wpO] at h ⊢
    exact wpE_mono je c σ S _ _ (fun _ _ h => by split at h <;> first | exact i _ _ h | exact h) h
theorem wpIfs_mono : ∀ (c : List CE) (σ : Env) (S : Store) (Q Q' : Bool → Store → Prop), (∀ z S, Q z S → Q' z S) → wpIfs cl c σ S Q → wpIfs cl c σ S Q'
  | [], σ, S, Q, Q', i, h => by simp only [wpIfs] at h ⊢; exact i _ _ h
  | c :: cs, σ, S, Q, Q', i, h => by
    simp only [wpIfs] at h ⊢
    exact wpE_mono (fun _ _ _ h => h) c σ S _ _ (fun _ _ h => truth_mono (fun k _ h => by
      cases k with
      | true => exact wpIfs_mono cs σ _ _ _ i h
      | false => exact i _ _ h) h) h
theorem wpI_mono {E E' : Nat → Env → Store → Prop} (je : ∀ x σ S, E x σ S → E' x σ S) : ∀ (c : CI) (σ : Env) (S : Store) (R R' : List D → (Store → Prop) → Store → Prop), (∀ xs g S, R xs g S → R' xs g S) → wpI cl E c σ S R → wpI cl E' c σ S R'
  | .e c, σ, S, R, R', i, h => by simp only [wpI] at h ⊢; exact wpE_mono je c σ S _ _ (fun _ _ h => walkZ_mono i h) h
  | .range as, σ, S, R, R', i, h => by simp only [wpI] at h ⊢; exact wpZs_mono je as σ S _ _ (fun _ _ h => rngW_mono i h) h
  | .zip a b, σ, S, R, R', i, h => by simp only [wpI] at h ⊢; exact wpE_mono je a σ S _ _ (fun _ _ h => wpE_mono je b σ _ _ _ (fun _ _ h => walkZ_mono (fun _ _ _ h => walkZ_mono (fun _ _ _ h => i _ _ _ h) h) h) h) h
  | .enum a, σ, S, R, R', i, h => by simp only [wpI] at h ⊢; exact wpE_mono je a σ S _ _ (fun _ _ h => walkZ_mono (fun _ _ _ h => i _ _ _ h) h) h
  | .items a, σ, S, R, R', i, h => by
    simp only [wpI] at h ⊢
    exact wpE_mono je a σ S _ _ (fun _ _ h => by
      split at h
      · split at h <;> first | exact i _ _ _ h | exact h
      · exact h) h
  | .values a, σ, S, R, R', i, h => by
    simp only [wpI] at h ⊢
    exact wpE_mono je a σ S _ _ (fun _ _ h => by
      split at h
      · split at h <;> first | exact i _ _ _ h | exact h
      · exact h) h
  | .rev a, σ, S, R, R', i, h => by simp only [wpI] at h ⊢; exact wpE_mono je a σ S _ _ (fun _ _ h => walkZ_mono (fun _ _ _ h => i _ _ _ h) h) h
end
end
end M3
end

section
set_option autoImplicit false
set_option linter.all false
set_option maxHeartbeats 1000000
/-! M3: consequence, statements and calls. -/
namespace M3
open PySem
structure Ends.Le (K K' : Ends) : Prop where
  nx : ∀ σ S, K.nx σ S → K'.nx σ S
  rt : ∀ d S, K.rt d S → K'.rt d S
  bk : ∀ σ S, K.bk σ S → K'.bk σ S
  ct : ∀ σ S, K.ct σ S → K'.ct σ S
theorem setZ_mono {Q Q' : Store → Prop} (i : ∀ S, Q S → Q' S) {o k : Rz} {d : D} {S : Store} (h : setZ o k d S Q) : setZ o k d S Q' := by
  unfold setZ at h ⊢
  split at h
  · split at h
    · exact ⟨h.1, h.2.1, i _ h.2.2⟩
    · obtain ⟨a, b, h1, h2, h3⟩ := h; exact ⟨a, b, h1, h2, i _ h3⟩
    · exact h
  · exact h
theorem asM_mono {Q Q' : List D → Prop} (i : ∀ k, Q k → Q' k) {z : Rz} {S : Store} (h : asM Q S z) : asM Q' S z := by
  cases z with
  | val d =>
    cases d with
    | ref l =>
      have h' : (match S.cell l with | some (.lst xs) => Q xs | _ => False) := h
      show (match S.cell l with | some (.lst xs) => Q' xs | _ => False)
      split at h' <;> first | exact i _ h' | exact h'
    | _ => exact h
  | lst xs => exact i _ h
  | _ => exact h
theorem augZ_mono {Q Q' : Rz → Store → Prop} (i : ∀ z S, Q z S → Q' z S) {op : BOp} {x : D} {y : Rz} {S : Store} (h : augZ op x y S Q) : augZ op x y S Q' := by
  unfold augZ at h ⊢
  split at h
  · exact i _ _ h
  · exact i _ _ h
  · exact ⟨h.1, i _ _ h.2⟩
  · split at h
    · exact asM_mono (fun _ h => ⟨h.1, i _ _ h.2⟩) h
    · exact h
  · exact h
theorem forW_mono {step : D → Env → Store → (Env → Store → Prop) → Prop} {step' : D → Env → Store → (Env → Store → Prop) → Prop} {g : Store → Prop} {nx nx' : Env → Store → Prop} (hs : ∀ d σ S R R', (∀ σ S, R σ S → R' σ S) → step d σ S R → step' d σ S R') (i : ∀ σ S, nx σ S → nx' σ S) :
    ∀ (xs : List D) (σ : Env) (S : Store), forW step g nx xs σ S → forW step' g nx' xs σ S
  | [], σ, S, h => ⟨h.1, i _ _ h.2⟩
  | x :: xs, σ, S, h => ⟨h.1, hs _ _ _ _ _ (fun σ S1 h => forW_mono hs i xs σ S1 h) h.2⟩
theorem whlW_mono {test test' : Env → Store → (Bool → Store → Prop) → Prop} {body body' : Env → Store → (Env → Store → Prop) → Prop} {nx nx' : Env → Store → Prop} (ht : ∀ σ S R R', (∀ k S, R k S → R' k S) → test σ S R → test' σ S R') (hb : ∀ σ S R R', (∀ σ S, R σ S → R' σ S) → body σ S R → body' σ S R') (i : ∀ σ S, nx σ S → nx' σ S) :
    ∀ (m : Nat) (σ : Env) (S : Store), whlW test body nx m σ S → whlW test' body' nx' m σ S
  | 0, σ, S, h => h
  | m + 1, σ, S, h => ht _ _ _ _ (fun k S1 h => by
      cases k with
      | true => exact hb _ _ _ _ (fun σ S h => whlW_mono ht hb i m σ S h) h
      | false => exact i _ _ h) h
section
variable {cl : Oracle} (hcl : OrMono cl)
include hcl
mutual
theorem wpS_mono {E E' : Nat → Env → Store → Prop} (je : ∀ x σ S, E x σ S → E' x σ S) : ∀ (c : CS) (σ : Env) (S : Store) (K K' : Ends), K.Le K' → wpS cl E c σ S K → wpS cl E' c σ S K'
  | .expr e, σ, S, K, K', i, h => by simp only [wpS] at h ⊢; exact wpE_mono hcl je e σ S _ _ (fun _ _ h => i.nx _ _ h) h
  | .asg t e, σ, S, K, K', i, h => by
    simp only [wpS] at h ⊢
    exact wpE_mono hcl je e σ S _ _ (fun _ _ h => cv_mono (fun _ _ h => by split at h <;> first | exact i.nx _ _ h | exact h) h) h
  | .aug j op e, σ, S, K, K', i, h => by
    simp only [wpS] at h ⊢
    split at h
    · exact wpE_mono hcl je e σ S _ _ (fun _ _ h => augZ_mono (fun _ _ h => cv_mono (fun _ _ h => i.nx _ _ h) h) h) h
    · exact h
  | .seti o j e, σ, S, K, K', i, h => by
    simp only [wpS] at h ⊢
    exact wpE_mono hcl je e σ S _ _ (fun _ _ h => cv_mono (fun _ _ h => wpE_mono hcl je o σ _ _ _ (fun _ _ h => wpE_mono hcl je j σ _ _ _ (fun _ _ h => setZ_mono (fun _ h => i.nx _ _ h) h) h) h) h) h
  | .ifs c a b, σ, S, K, K', i, h => by
    simp only [wpS] at h ⊢
    exact wpE_mono hcl je c σ S _ _ (fun _ _ h => truth_mono (fun k _ h => by
      cases k with
      | true => exact wpSs_mono je a σ _ _ _ i h
      | false => exact wpSs_mono je b σ _ _ _ i h) h) h
  | .whl c b, σ, S, K, K', i, h => by
    simp only [wpS] at h ⊢
    obtain ⟨m, h⟩ := h
    exact ⟨m, whlW_mono (fun σ S R R' j h => wpE_mono hcl je c σ S _ _ (fun _ _ h => truth_mono (fun k S h => j k S h) h) h) (fun σ S R R' j h => wpSs_mono je b σ S { nx := R, rt := K.rt, bk := K.nx, ct := R } { nx := R', rt := K'.rt, bk := K'.nx, ct := R' } ⟨j, i.rt, i.nx, j⟩ h) i.nx m σ S h⟩
  | .for t it b, σ, S, K, K', i, h => by
    simp only [wpS] at h ⊢
    exact wpI_mono hcl je it σ S _ _ (fun _ _ _ h => forW_mono (fun d σ S R R' j h => by
      split at h
      · exact wpSs_mono je b _ S { nx := R, rt := K.rt, bk := K.nx, ct := R } { nx := R', rt := K'.rt, bk := K'.nx, ct := R' } ⟨j, i.rt, i.nx, j⟩ h
      · exact h) i.nx _ _ _ h) h
  | .ret e, σ, S, K, K', i, h => by simp only [wpS] at h ⊢; exact wpE_mono hcl je e σ S _ _ (fun _ _ h => cv_mono (fun _ _ h => i.rt _ _ h) h) h
  | .retn, σ, S, K, K', i, h => by simp only [wpS] at h ⊢; exact i.rt _ _ h
  | .brk, σ, S, K, K', i, h => by simp only [wpS] at h ⊢; exact i.bk _ _ h
  | .cnt, σ, S, K, K', i, h => by simp only [wpS] at h ⊢; exact i.ct _ _ h
  | .pass, σ, S, K, K', i, h => by simp only [wpS] at h ⊢; exact i.nx _ _ h
theorem wpSs_mono {E E' : Nat → Env → Store → Prop} (je : ∀ x σ S, E x σ S → E' x σ S) : ∀ (c : List CS) (σ : Env) (S : Store) (K K' : Ends), K.Le K' → wpSs cl E c σ S K → wpSs cl E' c σ S K'
  | [], σ, S, K, K', i, h => by simp only [wpSs] at h ⊢; exact i.nx _ _ h
  | s :: ss, σ, S, K, K', i, h => by
    simp only [wpSs] at h ⊢
    exact wpS_mono je s σ S { K with nx := fun σ' S' => wpSs cl E ss σ' S' K } { K' with nx := fun σ' S' => wpSs cl E' ss σ' S' K' } ⟨fun σ S h => wpSs_mono je ss σ S _ _ i h, i.rt, i.bk, i.ct⟩ h
end
end
theorem callD_mono (P : Prg) : ∀ n, OrMono (callD P n)
  | 0 => fun f ds S Q Q' E E' i j h => h
  | n + 1 => fun f ds S Q Q' E E' i j h => by
    have h' : (match P.fns[f]? with
      | none => False
      | some F => F.ar = ds.length ∧ (S.Ok → refsIns S.nx ds = true →
        wpSs (callD P n) (fun x _ S1 => ∃ S', View S.nx S1 S' .non .non ∧ E x S') F.body (startD F.nl ds) S
          { nx := fun _ S1 => ∃ S' d', View S.nx S1 S' .non d' ∧ Q d' S', rt := fun d S1 => ∃ S' d', View S.nx S1 S' d d' ∧ Q d' S', bk := fun _ _ => False, ct := fun _ _ => False })) := h
    show (match P.fns[f]? with
      | none => False
      | some F => F.ar = ds.length ∧ (S.Ok → refsIns S.nx ds = true →
        wpSs (callD P n) (fun x _ S1 => ∃ S', View S.nx S1 S' .non .non ∧ E' x S') F.body (startD F.nl ds) S
          { nx := fun _ S1 => ∃ S' d', View S.nx S1 S' .non d' ∧ Q' d' S', rt := fun d S1 => ∃ S' d', View S.nx S1 S' d d' ∧ Q' d' S', bk := fun _ _ => False, ct := fun _ _ => False }))
    cases hf : P.fns[f]? with
    | none => rw [hf] at h'; exact h'
    | some F =>
      rw [hf] at h'
      refine ⟨h'.1, fun o r => wpSs_mono (callD_mono P n) ?_ _ _ _ { nx := fun _ S1 => ∃ S' d', View S.nx S1 S' .non d' ∧ Q d' S', rt := fun d S1 => ∃ S' d', View S.nx S1 S' d d' ∧ Q d' S', bk := fun _ _ => False, ct := fun _ _ => False } _ ⟨?_, ?_, fun _ _ h => h, fun _ _ h => h⟩ (h'.2 o r)⟩
      · rintro x _ S ⟨S', v, e⟩; exact ⟨S', v, j _ _ e⟩
      · rintro _ S ⟨S', d', v, q⟩; exact ⟨S', d', v, i _ _ q⟩
      · rintro _ S ⟨S', d', v, q⟩; exact ⟨S', d', v, i _ _ q⟩
end M3
end

section
set_option autoImplicit false
set_option linter.all false
/-! M3: from the text of a def to its core. -/
namespace M3
open PySem
inductive Gb where
  | fn (i : Nat) | lit (d : D) | cl (xs : List D) | bi
structure Cn where
  N : List Str
  sc : Scope
  gl : List (Str × Gb)

def ixOf (x : Str) : List Str → Option Nat
  | [] => none
  | y :: r => if y = x then some 0 else (ixOf x r).map (· + 1)
def visB : Option NameKind → Bool
  | some .local => true
  | some .cell => true
  | some .free => true
  | _ => false
def locB : Option NameKind → Bool
  | some .local => true
  | some .cell => true
  | _ => false
def plainB (x : Str) : Bool := !(x == ("__debug__" : Str)) && !(x == ("__classdict__" : Str)) && !(x == ("__name__" : Str))
/-- a name of the def's own -/
def ownV (G : Cn) (x : Str) : Option Nat := if visB (G.sc.names.lookup x) && plainB x then ixOf x G.N else none
/-- a name of the module's, or a built-in -/
def glV (G : Cn) (x : Str) : Option Gb := if G.sc.names.lookup x = some .globalImplicit ∧ plainB x = true then G.gl.lookup x else none
def isBi (G : Cn) (x : Str) : Bool := match glV G x with
  | some .bi => true
  | _ => false
def noStar : Expr → Bool
  | .Starred _ _ => false
  | _ => true
def notSlice : Expr → Bool
  | .Slice _ _ _ _ => false
  | _ => true
def notSet : Expr → Bool
  | .Set _ _ _ => false
  | _ => true
def notComp : Expr → Bool
  | .ListComp _ _ _ _ => false
  | .SetComp _ _ _ _ => false
  | .DictComp _ _ _ _ _ => false
  | _ => true
def notIfExp : Expr → Bool
  | .IfExp _ _ _ _ => false
  | _ => true
def notBare : Expr → Bool
  | .Call _ [] [] _ => false
  | _ => true
def notTuple : Expr → Bool
  | .Tuple _ _ _ => false
  | _ => true
def bopE : Operator → Option BOp
  | .Add => some .add | .Sub => some .sub | .Mult => some .mul | .FloorDiv => some .fdiv | .Mod => some .mod | .Pow => some .pow
  | _ => none
def copE : CmpOp → COp
  | .Lt => .lt | .LtE => .le | .Gt => .gt | .GtE => .ge | .Eq => .eq | .NotEq => .ne | .Is => .is | .IsNot => .isn | .In => .inn | .NotIn => .nin
def constE : Const → Option D
  | .none => some .non
  | .bool b => some (.bl b)
  | .int i => some (.int i)
  | .str s => some (.str s)
  | _ => none
def tyE (x : Str) : Option Ty :=
  if x = ("int" : Str) then some .int else if x = ("bool" : Str) then some .bool else if x = ("str" : Str) then some .str else if x = ("tuple" : Str) then some .tuple else if x = ("list" : Str) then some .list else if x = ("dict" : Str) then some .dict else none
def tyN (G : Cn) : Expr → Option Ty
  | .Name x _ => if isBi G x then tyE x else none
  | _ => none
def biTab : List (Str × Nat × Bi) := [("len", 1, .len), ("abs", 1, .abs), ("int", 1, .int), ("str", 1, .str), ("all", 1, .all), ("any", 1, .any), ("sum", 1, .sum), ("min", 1, .min), ("max", 1, .max), ("sorted", 1, .sorted), ("tuple", 1, .tuple), ("list", 1, .list), ("dict", 1, .dict), ("min", 2, .min2), ("max", 2, .max2)]
def biE (x : Str) (m : Nat) : Option Bi := (biTab.find? fun t => decide (t.1 = x) && t.2.1 == m).map (·.2.2)
def mName : Mt → Str
  | .append => "append" | .get1 => "get" | .get2 => "get" | .pop0 => "pop" | .pop1 => "pop" | .pop2 => "pop" | .items => "items" | .keys => "keys" | .values => "values" | .copy => "copy" | .extend => "extend" | .clear => "clear"
  | .count => "count" | .index => "index" | .setdefault => "setdefault" | .update => "update" | .remove => "remove" | .reverse => "reverse" | .join => "join" | .split => "split" | .startswith => "startswith" | .startswith2 => "startswith"
  | .find => "find" | .partition => "partition" | .replace => "replace"
def mtTab : List (Nat × Mt) := [(0, .clear), (0, .reverse), (0, .pop0), (1, .append), (1, .pop1), (1, .count), (1, .index), (1, .get1), (2, .get2), (2, .pop2)]
def mtE (x : Str) (m : Nat) : Option Mt := (mtTab.find? fun t => decide (mName t.2 = x) && t.1 == m).map (·.2)
def mapO {α β : Type} (f : α → Option β) : List α → Option (List β)
  | [] => some []
  | a :: r => match f a, mapO f r with
    | some b, some bs => some (b :: bs)
    | _, _ => none
def chainB (mk : CE → CE → CE) : List CE → Option CE
  | [] => none
  | [c] => some c
  | c :: d :: r => (chainB mk (d :: r)).map (mk c)
/-- keys and values, one after another -/
def weave : List CE → List CE → List CE
  | k :: ks, v :: vs => k :: v :: weave ks vs
  | _, _ => []
def optO (f : Expr → Option CE) : Option Expr → Option (Option CE)
  | none => some none
  | some e => (f e).map some
/-- a target -/
def cG : Nat → Cn → Expr → Option Tg
  | 0, _, _ => none
  | k + 1, G, e => match e with
    | .Name x _ => if locB (G.sc.names.lookup x) && plainB x then (ixOf x G.N).map .v else none
    | .Tuple es _ _ => if es.all noStar then (mapO (cG k G) es).map .t else none
    | _ => none
/-- names of a block that are its own -/
def ownOf (N : List Str) (scope : Scope) : List (Str × Nat) := scope.names.filterMap fun y => match y.2 with
  | .local => (ixOf y.1 N).map fun i => (y.1, i)
  | .cell => (ixOf y.1 N).map fun i => (y.1, i)
  | _ => none
def blkB (G : Cn) (scope : Scope) : Bool := (scope.kind == .function) && scope.names.all (fun y => scope.names.lookup y.1 == some y.2) && scope.names.all fun y => if y.2 = .free then (G.sc.names.lookup y.1 == some .cell || G.sc.names.lookup y.1 == some .free) else true
mutual
def tgSlots : Tg → List Nat
  | .v i => [i]
  | .t ts => tgSlotss ts
def tgSlotss : List Tg → List Nat
  | [] => []
  | t :: ts => tgSlots t ++ tgSlotss ts
end
/-- what is walked -/
def cI (f : Expr → Option CE) (G : Cn) (e : Expr) : Option CI :=
  match e with
  | .Call (.Name x _) args [] _ =>
    if isBi G x && decide (x = ("range" : Str)) then
      (if args.all noStar then match args with
        | [a] => (f a).map fun c => .range [c]
        | [a, b] => match f a, f b with
          | some c, some d => some (.range [c, d])
          | _, _ => none
        | _ => none
      else none)
    else (f e).map .e
  | _ => if notSet e then (f e).map .e else none
/-- a call of a built-in by its name -/
def cB (f : Expr → Option CE) (G : Cn) (x : Str) (args : List Expr) : Option CE :=
  if x = ("isinstance" : Str) then
    match args with
    | [a, .Tuple es _ _] => if noStar a && decide (es.length ≤ 1000) then match f a, mapO (tyN G) es with
      | some c, some ts => some (.isi c ts)
      | _, _ => none
      else none
    | [a, e] => if noStar a then match f a, tyN G e with
      | some c, some t => some (.isi c [t])
      | _, _ => none
      else none
    | _ => none
  else match args with
    | [.Call (.Attribute a nm apos) [] [] cpos] =>
      if x = ("sorted" : Str) ∧ nm = ("items" : Str) then (if notBare a && apos.endLine == cpos.line then (f a).map fun c => .bii .sorted (.items c) else none)
      else match biE x 1, f (.Call (.Attribute a nm apos) [] [] cpos) with
        | some b, some c => some (.bi b [c])
        | _, _ => none
    | args => if args.all noStar then match biE x args.length, mapO f args with
      | some b, some cs => some (.bi b cs)
      | _, _ => none
      else none
/-- an expression -/
def cE : Nat → Cn → Expr → Option CE
  | 0, _, _ => none
  | k + 1, G, e => match e with
    | .Constant c _ _ => (constE c).map .lit
    | .Name x _ => match ownV G x with
      | some i => some (.var i)
      | none => match glV G x with
        | some (.lit d) => some (.lit d)
        | some (.cl xs) => some (.cl xs)
        | _ => none
    | .Tuple es _ _ => if es.all noStar && decide (es.length ≤ 1000) then (mapO (cE k G) es).map .tup else none
    | .List es _ => if es.all noStar && decide (es.length ≤ 1000) then (mapO (cE k G) es).map .lst else none
    | .Dict [] [] _ => some (.dct [])
    | .Dict keys vals _ => if keys.all (·.isSome) && decide (keys.length = vals.length) && decide (keys.length ≤ 15) then match mapO (fun o => match o with
        | some e => cE k G e
        | none => none) keys, mapO (cE k G) vals with
      | some ks, some vs => some (.dct (weave ks vs))
      | _, _ => none
      else none
    | .BinOp a op b _ => match bopE op, cE k G a, cE k G b with
      | some o, some c, some d => some (.bin o c d)
      | _, _, _ => none
    | .UnaryOp .USub a _ => (cE k G a).map .neg
    | .UnaryOp .Not a _ => if notIfExp a then (cE k G a).map .not else none
    | .BoolOp .And es _ => if es.all notIfExp then (mapO (cE k G) es).bind (chainB .and) else none
    | .BoolOp .Or es _ => if es.all notIfExp then (mapO (cE k G) es).bind (chainB .or) else none
    | .Compare a [op] [b] _ => if behindInMarks op b then none else match cE k G a, cE k G b with
      | some c, some d => some (.cmp (copE op) c d)
      | _, _ => none
    | .Compare a [op, op'] [b, b'] _ => if lastMarks [op, op'] [b, b'] then none else match cE k G a, cE k G b, cE k G b' with
      | some c, some d, some d' => some (.cmp2 (copE op) (copE op') c d d')
      | _, _, _ => none
    | .IfExp c a b _ => if notIfExp c then match cE k G c, cE k G a, cE k G b with
      | some c, some d, some d' => some (.ife c d d')
      | _, _, _ => none
      else none
    | .Subscript a (.Slice lo hi none _) _ => match cE k G a, optO (cE k G) lo, optO (cE k G) hi with
      | some c, some l, some h => some (.slc c l h)
      | _, _, _ => none
    | .Subscript a b _ => if notSlice b then match cE k G a, cE k G b with
      | some c, some d => some (.idx c d)
      | _, _ => none
      else none
    | .Call (.Name x _) args [] _ => match ownV G x with
      | some _ => none
      | none => match glV G x with
        | some (.fn i) => if args.all noStar then (mapO (cE k G) args).map (.call i) else none
        | some .bi => cB (cE k G) G x args
        | _ => none
    | .Call (.Attribute o nm apos) args [] cpos =>
      if notBare o && apos.endLine == cpos.line && args.all noStar && decide (args.length < 20) then match mtE nm args.length, cE k G o, mapO (cE k G) args with
        | some m, some c, some cs => some (.mth m c cs)
        | _, _, _ => none
      else none
    | .ListComp elt [⟨tg, iter, ifs, 0⟩] scope _ =>
      if blkB G scope && decide (ifs.length ≤ 1) && ifs.all notIfExp then
        match cG k { G with sc := scope } tg, cI (cE k G) G iter, mapO (cE k { G with sc := scope }) ifs, cE k { G with sc := scope } elt with
        | some t, some it, some cs, some c => if (tgSlots t).all fun i => decide (i ∈ (ownOf G.N scope).map (·.2)) then some (.cmpr c t it cs ((ownOf G.N scope).map (·.2))) else none
        | _, _, _, _ => none
      else none
    | _ => none
/-- a statement -/
def cS : Nat → Cn → Stmt → Option CS
  | 0, _, _ => none
  | k + 1, G, s => match s with
    | .Pass _ => some .pass
    | .Break _ => some .brk
    | .Continue _ => some .cnt
    | .Return none _ => some .retn
    | .Return (some e) _ => (cE k G e).map .ret
    | .Expr (.Constant (.str _) _ _) _ => some .pass
    | .Expr e _ => if notComp e then (cE k G e).map .expr else none
    | .Assign [.Subscript o i _] e _ => if notSlice i then match cE k G o, cE k G i, cE k G e with
      | some co, some ci, some ce => some (.seti co ci ce)
      | _, _, _ => none
      else none
    | .Assign [.Name x p] e _ => match cG k G (.Name x p), cE k G e with
      | some t, some ce => some (.asg t ce)
      | _, _ => none
    | .Assign [.Tuple es j p] e _ => if notTuple e then match cG k G (.Tuple es j p), cE k G e with
      | some t, some ce => some (.asg t ce)
      | _, _ => none
      else none
    | .AugAssign (.Name x p) op e _ => match cG k G (.Name x p), bopE op, cE k G e with
      | some (.v i), some o, some ce => some (.aug i o ce)
      | _, _, _ => none
    | .If c a b _ => if notIfExp c then match cE k G c, mapO (cS k G) a, mapO (cS k G) b with
      | some cc, some ca, some cb => some (.ifs cc ca cb)
      | _, _, _ => none
      else none
    | .While c b [] _ => if notIfExp c then match cE k G c, mapO (cS k G) b with
      | some cc, some cb => some (.whl cc cb)
      | _, _ => none
      else none
    | .For tg iter b [] _ => match cG k G tg, cI (cE k G) G iter, mapO (cS k G) b with
      | some t, some it, some cb => some (.for t it cb)
      | _, _, _ => none
    | _ => none
end M3
end

section
set_option autoImplicit false
set_option linter.all false
set_option maxRecDepth 100000
set_option maxHeartbeats 1000000
/-! M3: how plain data lies in the abstract heap. -/
namespace M3
open PySem PySem.Spec PyProof.Rows L2

/-- a list that nothing changes: known to the object, or of the module -/
def SqK (K : PySem.W.Frag) (H : Hp) (a : Addr) (xs : List V) : Prop := (∃ ob, H a = some (.frz ob (.lst xs))) ∨ ∀ H', SqL K H' a xs
theorem SqK.sq {K : PySem.W.Frag} {H : Hp} {a : Addr} {xs : List V} (h : SqK K H a xs) : SqL K H a xs := by
  rcases h with ⟨ob, h⟩ | h
  · exact .inl (.inr ⟨ob, h⟩)
  · exact h H
section
variable (K : PySem.W.Frag) (H : Hp) (φ : Nat → Addr) (n : Nat)
mutual
/-- the data d is the value v -/
def Rep : D → V → Prop
  | .non, v => v = .non
  | .bl b, v => v = .bl b
  | .int i, v => v = .int i
  | .str s, v => v = .str s
  | .ref l, v => l < n ∧ v = .ref (φ l)
  | .tup ds, v => ∃ a vs, v = .ref a ∧ SqT K H a vs ∧ Reps ds vs
  | .kl ds, v => ∃ a vs, v = .ref a ∧ SqK K H a vs ∧ Reps ds vs
def Reps : List D → List V → Prop
  | [], vs => vs = []
  | d :: ds, vs => ∃ v r, vs = v :: r ∧ Rep d v ∧ Reps ds r
end
end
/-- what has no label and cannot change stays -/
structure Kp (K : PySem.W.Frag) (H H' : Hp) : Prop where
  t : ∀ a xs, SqT K H a xs → SqT K H' a xs
  k : ∀ a xs, SqK K H a xs → SqK K H' a xs
section
variable {K : PySem.W.Frag} {H H' : Hp} {φ φ' : Nat → Addr} {n n' : Nat}
theorem Reps.length : ∀ {ds : List D} {vs : List V}, Reps K H φ n ds vs → vs.length = ds.length
  | [], _, h => by rw [show _ = _ from h]; rfl
  | d :: ds, vs, h => by
    obtain ⟨v, r, rfl, _, t⟩ := h
    rw [List.length_cons, List.length_cons, Reps.length t]
theorem Reps.get : ∀ {ds : List D} {vs : List V} {i : Nat} {d : D}, Reps K H φ n ds vs → ds[i]? = some d → ∃ v, vs[i]? = some v ∧ Rep K H φ n d v
  | [], _, _, _, _, e => by simp at e
  | d :: ds, vs, 0, _, h, e => by
    obtain ⟨v, r, rfl, q, t⟩ := h
    simp at e; subst e; exact ⟨v, rfl, q⟩
  | d :: ds, vs, i + 1, _, h, e => by
    obtain ⟨v, r, rfl, q, t⟩ := h
    simpa using Reps.get (i := i) t (by simpa using e)
theorem Reps.append : ∀ {ds es : List D} {vs us : List V}, Reps K H φ n ds vs → Reps K H φ n es us → Reps K H φ n (ds ++ es) (vs ++ us)
  | [], _, _, _, h, k => by rw [show _ = [] from h]; exact k
  | d :: ds, _, vs, _, h, k => by
    obtain ⟨v, r, rfl, q, t⟩ := h
    exact ⟨v, _, rfl, q, Reps.append t k⟩
theorem Reps.one {d : D} {v : V} (h : Rep K H φ n d v) : Reps K H φ n [d] [v] := ⟨v, [], rfl, h, rfl⟩
theorem Reps.drop : ∀ {ds : List D} {vs : List V} (i : Nat), Reps K H φ n ds vs → Reps K H φ n (ds.drop i) (vs.drop i)
  | _, _, 0, h => h
  | [], _, i + 1, h => by rw [show _ = [] from h]; rfl
  | d :: ds, _, i + 1, h => by
    obtain ⟨v, r, rfl, q, t⟩ := h
    exact Reps.drop i t
theorem Reps.take : ∀ {ds : List D} {vs : List V} (i : Nat), Reps K H φ n ds vs → Reps K H φ n (ds.take i) (vs.take i)
  | _, _, 0, h => by simp [Reps]
  | [], _, i + 1, h => by rw [show _ = [] from h]; rfl
  | d :: ds, _, i + 1, h => by
    obtain ⟨v, r, rfl, q, t⟩ := h
    exact ⟨v, _, rfl, q, Reps.take i t⟩
theorem Reps.set : ∀ {ds : List D} {vs : List V} {d : D} {v : V} (i : Nat), Reps K H φ n ds vs → Rep K H φ n d v → Reps K H φ n (ds.set i d) (vs.set i v)
  | [], _, _, _, _, h, _ => by rw [show _ = [] from h]; rfl
  | _ :: ds, _, _, _, 0, h, k => by
    obtain ⟨v, r, rfl, q, t⟩ := h
    exact ⟨_, _, rfl, k, t⟩
  | _ :: ds, _, _, _, i + 1, h, k => by
    obtain ⟨v, r, rfl, q, t⟩ := h
    exact ⟨_, _, rfl, q, Reps.set i t k⟩
theorem Reps.reverse : ∀ {ds : List D} {vs : List V}, Reps K H φ n ds vs → Reps K H φ n ds.reverse vs.reverse
  | [], _, h => by rw [show _ = [] from h]; rfl
  | d :: ds, _, h => by
    obtain ⟨v, r, rfl, q, t⟩ := h
    rw [List.reverse_cons, List.reverse_cons]
    exact Reps.append (Reps.reverse t) (Reps.one q)
theorem Reps.isEmpty {ds : List D} {vs : List V} (h : Reps K H φ n ds vs) : vs.isEmpty = ds.isEmpty := by
  have := h.length
  cases ds <;> cases vs <;> simp_all
mutual
theorem Rep.mono (ht : Kp K H H') (hp : ∀ l, l < n → φ' l = φ l) (hn : n ≤ n') : ∀ (d : D) (v : V), Rep K H φ n d v → Rep K H' φ' n' d v
  | .non, _, h => h
  | .bl _, _, h => h
  | .int _, _, h => h
  | .str _, _, h => h
  | .ref l, _, h => ⟨Nat.lt_of_lt_of_le h.1 hn, by rw [hp l h.1]; exact h.2⟩
  | .tup ds, _, h => by
    obtain ⟨a, vs, e, q, r⟩ := h
    exact ⟨a, vs, e, ht.t _ _ q, Reps.mono ht hp hn ds vs r⟩
  | .kl ds, _, h => by
    obtain ⟨a, vs, e, q, r⟩ := h
    exact ⟨a, vs, e, ht.k _ _ q, Reps.mono ht hp hn ds vs r⟩
theorem Reps.mono (ht : Kp K H H') (hp : ∀ l, l < n → φ' l = φ l) (hn : n ≤ n') : ∀ (ds : List D) (vs : List V), Reps K H φ n ds vs → Reps K H' φ' n' ds vs
  | [], _, h => h
  | d :: ds, _, h => by
    obtain ⟨v, r, e, q, t⟩ := h
    exact ⟨v, r, e, Rep.mono ht hp hn d v q, Reps.mono ht hp hn ds r t⟩
end
end

/-! ### keys -/
mutual
/-- the library's key -/
def toKey : D → Option NestedKey
  | .non => some .none
  | .int i => some (.num i)
  | .str s => some (.text s)
  | .tup ds => (toKeys ds).map .tup
  | _ => none
def toKeys : List D → Option (List NestedKey)
  | [] => some []
  | d :: ds => match toKey d, toKeys ds with
    | some k, some ks => some (k :: ks)
    | _, _ => none
end
mutual
theorem toKey_inj : ∀ (d e : D) (k : NestedKey), toKey d = some k → toKey e = some k → d = e
  | .non, e, k, h1, h2 => by
    cases e <;> simp_all [toKey]
    all_goals (subst h1; simp_all)
  | .int i, e, k, h1, h2 => by
    cases e <;> simp_all [toKey]
    all_goals (subst h1; simp_all)
  | .str i, e, k, h1, h2 => by
    cases e <;> simp_all [toKey]
    all_goals (subst h1; simp_all)
  | .bl i, e, k, h1, h2 => by simp [toKey] at h1
  | .ref i, e, k, h1, h2 => by simp [toKey] at h1
  | .kl i, e, k, h1, h2 => by simp [toKey] at h1
  | .tup ds, e, k, h1, h2 => by
    cases e with
    | tup es =>
      simp only [toKey, Option.map_eq_some_iff] at h1 h2
      obtain ⟨ks, a1, rfl⟩ := h1
      obtain ⟨ks', a2, a3⟩ := h2
      injection a3 with a3
      subst a3
      rw [toKeys_inj ds es ks' a1 a2]
    | _ =>
      simp only [toKey, Option.map_eq_some_iff] at h1
      obtain ⟨ks, _, rfl⟩ := h1
      simp [toKey] at h2
theorem toKeys_inj : ∀ (ds es : List D) (ks : List NestedKey), toKeys ds = some ks → toKeys es = some ks → ds = es
  | [], es, ks, h1, h2 => by
    cases es with
    | nil => rfl
    | cons e es =>
      simp only [toKeys] at h1 h2
      cases h1
      split at h2 <;> simp_all
  | d :: ds, es, ks, h1, h2 => by
    cases es with
    | nil =>
      simp only [toKeys] at h1 h2
      cases h2
      split at h1 <;> simp_all
    | cons e es =>
      simp only [toKeys] at h1 h2
      split at h1
      · rename_i k ks' a1 a2
        cases h1
        split at h2
        · rename_i k2 ks2 b1 b2
          injection h2 with h2
          injection h2 with c1 c2
          subst c1; subst c2
          rw [toKey_inj d e _ a1 b1, toKeys_inj ds es _ a2 b2]
        · cases h2
      · cases h1
end
mutual
theorem toKey_of : ∀ d : D, keyOk d = true → ∃ k, toKey d = some k
  | .non, _ => ⟨_, rfl⟩
  | .int _, _ => ⟨_, rfl⟩
  | .str _, _ => ⟨_, rfl⟩
  | .bl _, h => by simp [keyOk] at h
  | .ref _, h => by simp [keyOk] at h
  | .kl _, h => by simp [keyOk] at h
  | .tup ds, h => by
    obtain ⟨ks, e⟩ := toKeys_of ds (by simpa [keyOk] using h)
    exact ⟨.tup ks, by simp [toKey, e]⟩
theorem toKeys_of : ∀ ds : List D, keyOks ds = true → ∃ k, toKeys ds = some k
  | [], _ => ⟨_, rfl⟩
  | d :: ds, h => by
    simp only [keyOks, Bool.and_eq_true] at h
    obtain ⟨k, e⟩ := toKey_of d h.1
    obtain ⟨ks, e2⟩ := toKeys_of ds h.2
    exact ⟨k :: ks, by simp [toKeys, e, e2]⟩
end

/-! ### what stands at a label -/
/-- entries of a dict whose keys are tuples -/
abbrev KEnt := NestedKey × Addr × V
def DX (P : Program) (w : World) (a : Addr) (xs : List KEnt) : HO :=
  .ext fun h => (a == sysModules) = false ∧ xs.length ≤ sizeLine ∧ ∃ ys : List (NestedKey × Addr × Value), PySem.Paired (fun (p : KEnt) (q : NestedKey × Addr × Value) => p.1 = q.1 ∧ p.2.1 = q.2.1 ∧ RelV p.2.2 q.2.2) xs ys ∧
    ∃ o es ep, h.get? a = some o ∧ o.ExactDict ∧ o.data = .dict es ep ∧ es.toList = ys.map (entryOfKey (nestedKind P w)) ∧ (ys.map (·.1)).Nodup
def flatKey : D → Option Key
  | .str s => some (Sum.inr s)
  | .int i => some (Sum.inl i)
  | _ => none
/-- a dict's data, its keys texts and numbers -/
def PairS (K : PySem.W.Frag) (H : Hp) (φ : Nat → Addr) (n : Nat) : List (D × D) → List (Key × V) → Prop := PySem.Paired fun p q => flatKey p.1 = some q.1 ∧ Rep K H φ n p.2 q.2
/-- .. tuples -/
def PairX (K : PySem.W.Frag) (H : Hp) (φ : Nat → Addr) (n : Nat) : List (D × D) → List KEnt → Prop := PySem.Paired fun p q => toKey p.1 = some q.1 ∧ q.1.depth ≤ 8 ∧ isTupK p.1 = true ∧ Rep K H φ n p.1 (.ref q.2.1) ∧ Rep K H φ n p.2 q.2.2
def DctAt (K : PySem.W.Frag) (P : Program) (w : World) (H : Hp) (φ : Nat → Addr) (n : Nat) (a : Addr) (kvs : List (D × D)) (o : HO) : Prop :=
  (∃ ks, o = .dK ks ∧ PairS K H φ n kvs ks) ∨ (kvs ≠ [] ∧ ∃ xs, o = DX P w a xs ∧ PairX K H φ n kvs xs)

structure Wd where
  S : Store
  H : Hp
  φ : Nat → Addr
section
variable (K : PySem.W.Frag) (P : Program) (w : World)
abbrev Wd.rep (W : Wd) : D → V → Prop := Rep K W.H W.φ W.S.nx
abbrev Wd.reps (W : Wd) : List D → List V → Prop := Reps K W.H W.φ W.S.nx
def CellAt (W : Wd) (a : Addr) : Cell → Prop
  | .lst xs => ∃ vs, W.H a = some (.lst vs) ∧ W.reps K xs vs
  | .cst xs => ∃ vs, SqL K W.H a vs ∧ W.reps K xs vs
  | .dct kvs => ∃ o, W.H a = some o ∧ DctAt K P w W.H W.φ W.S.nx a kvs o
  | .cdt kvs => ∃ od o, W.H a = some (.frz od o) ∧ DctAt K P w W.H W.φ W.S.nx a kvs o
  | .set _ => False
  | .ins _ _ => False
  | .exn _ => False
structure Sim (W : Wd) : Prop where
  liv : ∀ l, l < W.S.nx → W.H (W.φ l) ≠ none
  inj : ∀ i j, i < W.S.nx → j < W.S.nx → W.φ i = W.φ j → i = j
  cells : ∀ l c, W.S.cell l = some c → l < W.S.nx ∧ CellAt K P w W (W.φ l) c
structure Ext (W W' : Wd) : Prop where
  nx : W.S.nx ≤ W'.S.nx
  agree : ∀ l, l < W.S.nx → W'.φ l = W.φ l
  tups : Kp K W.H W'.H
  frame : ∀ a o, W.H a = some o → (∀ l, l < W.S.nx → W.φ l ≠ a) → W'.H a = some o
  fresh : ∀ l, W.S.nx ≤ l → l < W'.S.nx → W.H (W'.φ l) = none
  live : ∀ a, W'.H a = none → W.H a = none
end
section
variable {K : PySem.W.Frag} {P : Program} {w : World} {W W' W'' : Wd}
theorem Ext.refl : Ext K W W := ⟨Nat.le_refl _, fun _ _ => rfl, ⟨fun _ _ h => h, fun _ _ h => h⟩, fun _ _ h _ => h, fun l h1 h2 => absurd h2 (Nat.not_lt.mpr h1), fun _ h => h⟩
theorem Ext.unlab (e : Ext K W W') {a : Addr} {o : HO} (h : W.H a = some o) (n : ∀ l, l < W.S.nx → W.φ l ≠ a) : ∀ l, l < W'.S.nx → W'.φ l ≠ a := fun l hl q => by
  by_cases z : l < W.S.nx
  · exact n l z (by rw [← e.agree l z]; exact q)
  · have := e.fresh l (Nat.not_lt.mp z) hl
    rw [q, h] at this; cases this
theorem Ext.trans (a : Ext K W W') (b : Ext K W' W'') : Ext K W W'' where
  nx := Nat.le_trans a.nx b.nx
  agree := fun l h => (b.agree l (Nat.lt_of_lt_of_le h a.nx)).trans (a.agree l h)
  tups := ⟨fun x xs h => b.tups.t x xs (a.tups.t x xs h), fun x xs h => b.tups.k x xs (a.tups.k x xs h)⟩
  frame := fun x o h n => b.frame x o (a.frame x o h n) (a.unlab h n)
  fresh := fun l h1 h2 => by
    by_cases z : l < W'.S.nx
    · rw [b.agree l z]; exact a.fresh l h1 z
    · exact a.live _ (b.fresh l (Nat.not_lt.mp z) h2)
  live := fun x h => a.live x (b.live x h)
theorem Ext.rep (e : Ext K W W') {d : D} {v : V} (h : W.rep K d v) : W'.rep K d v := Rep.mono e.tups e.agree e.nx d v h
theorem Ext.reps (e : Ext K W W') {ds : List D} {vs : List V} (h : W.reps K ds vs) : W'.reps K ds vs := Reps.mono e.tups e.agree e.nx ds vs h

/-- what may be written -/
def Wrt (o : Option HO) : Prop := (∀ ys, o ≠ some (.tup ys)) ∧ (∀ b ys, o ≠ some (.frz b (.tup ys))) ∧ ∀ b ys, o ≠ some (.frz b (.lst ys))
theorem Kp.upd {K : PySem.W.Frag} {H : Hp} {p : Addr} {o : HO} (hw : Wrt (H p)) : Kp K H (L2.upd H p o) := by
  refine ⟨fun a xs h => ?_, fun a xs h => ?_⟩
  · rcases h with h | h
    · rcases h with h | ⟨ob, h⟩
      · exact .inl (.inl (by rw [upd_ne (fun e => hw.1 _ (by rw [← e]; exact h))]; exact h))
      · exact .inl (.inr ⟨ob, by rw [upd_ne (fun e => hw.2.1 _ _ (by rw [← e]; exact h))]; exact h⟩)
    · exact .inr h
  · rcases h with ⟨ob, h⟩ | h
    · exact .inl ⟨ob, by rw [upd_ne (fun e => hw.2.2 _ _ (by rw [← e]; exact h))]; exact h⟩
    · exact .inr h
theorem Kp.new {K : PySem.W.Frag} {H : Hp} {p : Addr} {o : HO} (hp : H p = none) : Kp K H (L2.upd H p o) := Kp.upd (by rw [hp]; exact ⟨fun _ e => (by cases e), fun _ _ e => (by cases e), fun _ _ e => (by cases e)⟩)
theorem Kp.grow {K : PySem.W.Frag} {H H2 : Hp} (g : ∀ b o, H b = some o → H2 b = some o) : Kp K H H2 := by
  refine ⟨fun a xs h => ?_, fun a xs h => ?_⟩
  · rcases h with (h | ⟨ob, h⟩) | h
    · exact .inl (.inl (g _ _ h))
    · exact .inl (.inr ⟨ob, g _ _ h⟩)
    · exact .inr h
  · rcases h with ⟨ob, h⟩ | h
    · exact .inl ⟨ob, g _ _ h⟩
    · exact .inr h
theorem Kp.trans {K : PySem.W.Frag} {H H2 H3 : Hp} (a : Kp K H H2) (b : Kp K H2 H3) : Kp K H H3 := ⟨fun x xs h => b.t x xs (a.t x xs h), fun x xs h => b.k x xs (a.k x xs h)⟩

theorem SqL.upd {H : Hp} {p a : Addr} {o : HO} {xs : List V} (hp : a ≠ p) (h : SqL K H a xs) : SqL K (L2.upd H p o) a xs := by
  rcases h with h | h
  · rcases h with h | ⟨ob, h⟩
    · exact .inl (.inl (by rw [upd_ne hp]; exact h))
    · exact .inl (.inr ⟨ob, by rw [upd_ne hp]; exact h⟩)
  · exact .inr h
theorem SqL.updNew {H : Hp} {p a : Addr} {o : HO} {xs : List V} (hp : H p = none) (h : SqL K H a xs) : SqL K (L2.upd H p o) a xs := by
  rcases h with h | h
  · rcases h with h | ⟨ob, h⟩
    · exact .inl (.inl (by rw [upd_ne (ne_of_none h hp)]; exact h))
    · exact .inl (.inr ⟨ob, by rw [upd_ne (ne_of_none h hp)]; exact h⟩)
  · exact .inr h

theorem PySem_Paired_mono {α β : Type} {F G : α → β → Prop} {l : List α} {m : List β} (h : PySem.Paired F l m) (i : ∀ a b, F a b → G a b) : PySem.Paired G l m := by
  induction h with
  | nil => exact .nil
  | cons r _ ih => exact .cons (i _ _ r) ih
theorem DctAt.mono {H H' : Hp} {φ φ' : Nat → Addr} {n n' : Nat} {a : Addr} {kvs : List (D × D)} {o : HO} (ht : Kp K H H') (hp : ∀ l, l < n → φ' l = φ l) (hn : n ≤ n') (h : DctAt K P w H φ n a kvs o) : DctAt K P w H' φ' n' a kvs o := by
  rcases h with ⟨ks, e, h⟩ | ⟨ne, xs, e, h⟩
  · exact .inl ⟨ks, e, PySem_Paired_mono h fun p q r => ⟨r.1, Rep.mono ht hp hn _ _ r.2⟩⟩
  · exact .inr ⟨ne, xs, e, PySem_Paired_mono h fun p q r => ⟨r.1, r.2.1, r.2.2.1, Rep.mono ht hp hn _ _ r.2.2.2.1, Rep.mono ht hp hn _ _ r.2.2.2.2⟩⟩
/-- a cell's description stays: its own object stays, the tuples stay, the labels stay -/
theorem CellAt.mono {a : Addr} {c : Cell} (ht : Kp K W.H W'.H) (hp : ∀ l, l < W.S.nx → W'.φ l = W.φ l) (hn : W.S.nx ≤ W'.S.nx) (ha : ∀ o, W.H a = some o → W'.H a = some o) (h : CellAt K P w W a c) : CellAt K P w W' a c := by
  cases c with
  | lst xs => obtain ⟨vs, e, r⟩ := h; exact ⟨vs, ha _ e, Reps.mono ht hp hn _ _ r⟩
  | cst xs =>
    obtain ⟨vs, e, r⟩ := h
    refine ⟨vs, ?_, Reps.mono ht hp hn _ _ r⟩
    rcases e with (e | ⟨ob, e⟩) | e
    · exact .inl (.inl (ha _ e))
    · exact .inl (.inr ⟨ob, ha _ e⟩)
    · exact .inr e
  | dct kvs => obtain ⟨o, e, r⟩ := h; exact ⟨o, ha _ e, r.mono ht hp hn⟩
  | cdt kvs => obtain ⟨od, o, e, r⟩ := h; exact ⟨od, o, ha _ e, r.mono ht hp hn⟩
  | _ => exact h

/-- an object made that has no label -/
theorem Ext.new {p : Addr} {o : HO} (hp : W.H p = none) : Ext K W { W with H := upd W.H p o } where
  nx := Nat.le_refl _
  agree := fun _ _ => rfl
  tups := Kp.new hp
  frame := fun a o' h _ => by show upd W.H p o a = _; rw [upd_ne (ne_of_none h hp)]; exact h
  fresh := fun l h1 h2 => absurd h2 (Nat.not_lt.mpr h1)
  live := fun a h => by
    have h' : upd W.H p o a = none := h
    by_cases e : a = p
    · rw [e]; exact hp
    · rw [upd_ne e] at h'; exact h'
theorem Sim.new {p : Addr} {o : HO} (s : Sim K P w W) (hp : W.H p = none) : Sim K P w { W with H := upd W.H p o } := by
  have e : Ext K W { W with H := upd W.H p o } := Ext.new hp
  refine ⟨fun l hl z => s.liv l hl (e.live _ z), s.inj, fun l c h => ⟨(s.cells l c h).1, (s.cells l c h).2.mono e.tups e.agree e.nx fun o' h' => ?_⟩⟩
  show upd W.H p o _ = _
  rw [upd_ne (ne_of_none h' hp)]; exact h'
/-- what has no label gets one -/
def Wd.lab (W : Wd) (p : Addr) (c : Cell) : Wd := ⟨W.S.push c, W.H, fun l => if l = W.S.nx then p else W.φ l⟩
theorem Ext.lab {W0 : Wd} {p : Addr} {c : Cell} (e : Ext K W0 W) (hp : W0.H p = none) : Ext K W0 (W.lab p c) where
  nx := Nat.le_trans e.nx (Nat.le_succ _)
  agree := fun l h => by
    show (if l = W.S.nx then p else W.φ l) = _
    rw [if_neg (Nat.ne_of_lt (Nat.lt_of_lt_of_le h e.nx))]; exact e.agree l h
  tups := e.tups
  frame := e.frame
  fresh := fun l h1 h2 => by
    show W0.H (if l = W.S.nx then p else W.φ l) = none
    by_cases z : l = W.S.nx
    · rw [if_pos z]; exact hp
    · rw [if_neg z]
      refine e.fresh l h1 ?_
      have h2' : l < W.S.nx + 1 := h2
      omega
  live := e.live
theorem Sim.lab {p : Addr} {c : Cell} (s : Sim K P w W) (un : ∀ l, l < W.S.nx → W.φ l ≠ p) (hn : W.H p ≠ none) (hc : CellAt K P w W p c) : Sim K P w (W.lab p c) := by
  have ag : ∀ l, l < W.S.nx → (W.lab p c).φ l = W.φ l := fun l h => by
    show (if l = W.S.nx then p else W.φ l) = _
    rw [if_neg (Nat.ne_of_lt h)]
  refine ⟨fun l hl => ?_, fun i j hi hj e => ?_, fun l c' h => ?_⟩
  · show W.H (if l = W.S.nx then p else W.φ l) ≠ none
    have hl' : l < W.S.nx + 1 := hl
    by_cases z : l = W.S.nx
    · rw [if_pos z]; exact hn
    · rw [if_neg z]; exact s.liv l (by omega)
  · have hi' : i < W.S.nx + 1 := hi
    have hj' : j < W.S.nx + 1 := hj
    have e' : (if i = W.S.nx then p else W.φ i) = (if j = W.S.nx then p else W.φ j) := e
    by_cases z : i = W.S.nx <;> by_cases y : j = W.S.nx
    · omega
    · rw [if_pos z, if_neg y] at e'; exact absurd e'.symm (un j (by omega))
    · rw [if_neg z, if_pos y] at e'; exact absurd e' (un i (by omega))
    · rw [if_neg z, if_neg y] at e'; exact s.inj i j (by omega) (by omega) e'
  · have h' : (if l = W.S.nx then some c else W.S.cell l) = some c' := h
    have mo : ∀ {a : Addr} {x : Cell}, CellAt K P w W a x → CellAt K P w (W.lab p c) a x := fun {a x} q => CellAt.mono (W := W) (W' := W.lab p c) ⟨fun _ _ q => q, fun _ _ q => q⟩ ag (Nat.le_succ _) (fun _ q => q) q
    by_cases z : l = W.S.nx
    · rw [if_pos z] at h'; cases h'
      refine ⟨by rw [z]; exact Nat.lt_succ_self _, ?_⟩
      show CellAt K P w (W.lab p c) (if l = W.S.nx then p else W.φ l) c
      rw [if_pos z]; exact mo hc
    · rw [if_neg z] at h'
      obtain ⟨q1, q2⟩ := s.cells l c' h'
      refine ⟨Nat.lt_succ_of_lt q1, ?_⟩
      show CellAt K P w (W.lab p c) (if l = W.S.nx then p else W.φ l) c'
      rw [if_neg z]; exact mo q2

def Wd.put (W : Wd) (l : Nat) (c : Cell) (o : HO) : Wd := ⟨W.S.put l c, upd W.H (W.φ l) o, W.φ⟩
theorem Ext.put {l : Nat} {c : Cell} {o : HO} (hl : l < W.S.nx) (hw : Wrt (W.H (W.φ l))) (hn : W.H (W.φ l) ≠ none) : Ext K W (W.put l c o) where
  nx := Nat.le_refl _
  agree := fun _ _ => rfl
  tups := Kp.upd hw
  frame := fun a o' h n => by
    show upd W.H (W.φ l) o a = _
    rw [upd_ne (fun e => n l hl e.symm)]; exact h
  fresh := fun l h1 h2 => absurd h2 (Nat.not_lt.mpr h1)
  live := fun a h => by
    have h' : upd W.H (W.φ l) o a = none := h
    by_cases e : a = W.φ l
    · subst e; rw [upd_same] at h'; cases h'
    · rw [upd_ne e] at h'; exact h'
theorem Sim.put {l : Nat} {c : Cell} {o : HO} (s : Sim K P w W) (hl : l < W.S.nx) (hw : Wrt (W.H (W.φ l))) (hn : W.H (W.φ l) ≠ none) (hc : CellAt K P w (W.put l c o) (W.φ l) c) : Sim K P w (W.put l c o) := by
  have e : Ext K W (W.put l c o) := Ext.put hl hw hn
  refine ⟨fun m hm z => s.liv m hm (e.live _ z), s.inj, fun m c' h => ?_⟩
  have h' : (if m = l then some c else W.S.cell m) = some c' := h
  by_cases z : m = l
  · rw [if_pos z] at h'; cases h'
    rw [z]; exact ⟨hl, hc⟩
  · rw [if_neg z] at h'
    obtain ⟨q1, q2⟩ := s.cells m c' h'
    refine ⟨q1, q2.mono e.tups e.agree e.nx fun o' h'' => ?_⟩
    show upd W.H (W.φ l) o (W.φ m) = _
    rw [upd_ne fun y => z (s.inj m l q1 hl y)]; exact h''
end
end M3
end

section
set_option autoImplicit false
set_option linter.all false
set_option maxRecDepth 100000
set_option maxHeartbeats 1000000
/-! M3: the readings of the core language are readings of the layer HandS: expressions. -/
namespace M3
open PySem PySem.Spec L2

section
variable (K : PySem.W.Frag) (P : Program) (w : World)
/-- a raw result is the value v; what is new was not there in H0 -/
def RepZ (H0 : Hp) (W : Wd) : Rz → V → Prop
  | .val d, v => W.rep K d v
  | .lst xs, v => ∃ p vs, v = .ref p ∧ H0 p = none ∧ (∀ l, l < W.S.nx → W.φ l ≠ p) ∧ W.H p = some (.lst vs) ∧ W.reps K xs vs
  | .cst xs, v => ∃ p vs, v = .ref p ∧ (∀ H, SqL K H p vs) ∧ W.reps K xs vs
  | .dct kvs, v => ∃ p o, v = .ref p ∧ H0 p = none ∧ (∀ l, l < W.S.nx → W.φ l ≠ p) ∧ W.H p = some o ∧ DctAt K P w W.H W.φ W.S.nx p kvs o
  | .set _, _ => False
/-- the names' values -/
structure EnvRep (W : Wd) (σd : Env) (σ : St) : Prop where
  len : σd.length = σ.length
  get : ∀ (i : Nat) (d : D), σd[i]? = some (some d) → ∃ v : V, σ[i]? = some (some v) ∧ W.rep K d v
end
section
variable {K : PySem.W.Frag} {P : Program} {w : World} {W W' W0 W1 : Wd} {H0 H0' : Hp} {z : Rz} {v : V}
theorem RepZ.ext (r : RepZ K P w H0 W z v) (e : Ext K W W') : RepZ K P w H0 W' z v := by
  cases z with
  | val d => exact e.rep r
  | lst xs =>
    obtain ⟨p, vs, e1, h0, un, h, q⟩ := r
    exact ⟨p, vs, e1, h0, e.unlab h un, e.frame p _ h un, e.reps q⟩
  | cst xs => obtain ⟨p, vs, e1, h, q⟩ := r; exact ⟨p, vs, e1, h, e.reps q⟩
  | dct kvs =>
    obtain ⟨p, o, e1, h0, un, h, q⟩ := r
    exact ⟨p, o, e1, h0, e.unlab h un, e.frame p _ h un, q.mono e.tups e.agree e.nx⟩
  | set _ => exact r
theorem RepZ.base (r : RepZ K P w H0 W z v) (h : ∀ a, H0 a = none → H0' a = none) : RepZ K P w H0' W z v := by
  cases z with
  | lst xs => obtain ⟨p, vs, e1, h0, q⟩ := r; exact ⟨p, vs, e1, h _ h0, q⟩
  | dct kvs => obtain ⟨p, o, e1, h0, q⟩ := r; exact ⟨p, o, e1, h _ h0, q⟩
  | _ => exact r
theorem EnvRep.ext {σd : Env} {σ : St} (r : EnvRep K W σd σ) (e : Ext K W W') : EnvRep K W' σd σ := ⟨r.len, fun i d h => let ⟨v, a, b⟩ := r.get i d h; ⟨v, a, e.rep b⟩⟩

/-- a raw result as a value -/
theorem cv_go {Q : D → Store → Prop} (s : Sim K P w W) (e : Ext K W0 W) (r : RepZ K P w W0.H W z v) (h : cv Q z W.S) :
    ∃ W' d, Q d W'.S ∧ Sim K P w W' ∧ Ext K W0 W' ∧ W'.rep K d v ∧ W'.H = W.H := by
  cases z with
  | val d => exact ⟨W, d, h, s, e, r, rfl⟩
  | lst xs =>
    obtain ⟨p, vs, rfl, h0, un, hp, q⟩ := r
    refine ⟨W.lab p (.lst xs), .ref W.S.nx, h, s.lab un (by rw [hp]; exact fun z => by cases z) ⟨vs, hp, q⟩, e.lab h0, ⟨Nat.lt_succ_self _, ?_⟩, rfl⟩
    show _ = V.ref (if W.S.nx = W.S.nx then p else _)
    rw [if_pos rfl]
  | cst xs => exact h.elim
  | dct kvs =>
    obtain ⟨p, o, rfl, h0, un, hp, q⟩ := r
    refine ⟨W.lab p (.dct kvs), .ref W.S.nx, h, s.lab un (by rw [hp]; exact fun z => by cases z) ⟨o, hp, q⟩, e.lab h0, ⟨Nat.lt_succ_self _, ?_⟩, rfl⟩
    show _ = V.ref (if W.S.nx = W.S.nx then p else _)
    rw [if_pos rfl]
  | set _ => exact r.elim
/-- a raw result as things in a row -/
theorem cq_go {Q : List D → Store → Prop} (s : Sim K P w W) (r : RepZ K P w H0 W z v) (h : cq Q z W.S) :
    ∃ p vs xs, v = .ref p ∧ (SqL K W.H p vs ∨ SqT K W.H p vs) ∧ W.reps K xs vs ∧ Q xs W.S := by
  cases z with
  | val d =>
    cases d with
    | tup ds => obtain ⟨a, vs, e, q, t⟩ := r; exact ⟨a, vs, ds, e, .inr q, t, h⟩
    | kl ds => obtain ⟨a, vs, e, q, t⟩ := r; exact ⟨a, vs, ds, e, .inl q.sq, t, h⟩
    | ref l =>
      obtain ⟨hl, e⟩ := r
      have h' : (match W.S.cell l with | some (.lst xs) => Q xs W.S | some (.cst xs) => Q xs W.S | _ => False) := h
      cases hc : W.S.cell l with
      | none => rw [hc] at h'; exact h'.elim
      | some c =>
        rw [hc] at h'
        have q := (s.cells l c hc).2
        cases c with
        | lst xs => obtain ⟨vs, q1, q2⟩ := q; exact ⟨_, vs, xs, e, .inl (SqL.of q1), q2, h'⟩
        | cst xs => obtain ⟨vs, q1, q2⟩ := q; exact ⟨_, vs, xs, e, .inl q1, q2, h'⟩
        | _ => exact h'.elim
    | _ => exact h.elim
  | lst xs => obtain ⟨p, vs, e, _, _, hp, q⟩ := r; exact ⟨p, vs, xs, e, .inl (SqL.of hp), q, h⟩
  | cst xs => obtain ⟨p, vs, e, hp, q⟩ := r; exact ⟨p, vs, xs, e, .inl (hp _), q, h⟩
  | _ => exact h.elim
theorem line_eq : Lim = sizeLine := sizeLine_eq.symm
/-- truth -/
theorem truth_go {Q : Bool → Store → Prop} (s : Sim K P w W) (r : RepZ K P w H0 W z v) (h : truth Q z W.S) : ∃ k, TruV K v W.H k ∧ Q k W.S := by
  cases z with
  | val d =>
    cases d with
    | non => cases (show v = .non from r); exact ⟨false, rfl, h⟩
    | bl b => cases (show v = .bl b from r); exact ⟨b, rfl, h⟩
    | int i => cases (show v = .int i from r); exact ⟨_, rfl, h⟩
    | str x =>
      cases (show v = .str x from r)
      refine ⟨_, ⟨line_eq ▸ h.1, rfl⟩, ?_⟩
      have e : ((x.length : Int) != 0) = (x.length != 0) := by
        rw [Bool.eq_iff_iff]; simp
      rw [e]; exact h.2
    | tup ds => obtain ⟨a, vs, rfl, q, t⟩ := r; exact ⟨_, .inr (.inl ⟨vs, q, rfl⟩), by rw [t.isEmpty]; exact h⟩
    | kl ds => obtain ⟨a, vs, rfl, q, t⟩ := r; exact ⟨_, .inl ⟨vs, q.sq, rfl⟩, by rw [t.isEmpty]; exact h⟩
    | ref l =>
      obtain ⟨hl, rfl⟩ := r
      have h' : (match W.S.cell l with | some (.lst xs) => Q (!xs.isEmpty) W.S | some (.cst xs) => Q (!xs.isEmpty) W.S | _ => False) := h
      cases hc : W.S.cell l with
      | none => rw [hc] at h'; exact h'.elim
      | some c =>
        rw [hc] at h'
        have q := (s.cells l c hc).2
        cases c with
        | lst xs => obtain ⟨vs, q1, q2⟩ := q; exact ⟨_, .inl ⟨vs, SqL.of q1, rfl⟩, by rw [q2.isEmpty]; exact h'⟩
        | cst xs => obtain ⟨vs, q1, q2⟩ := q; exact ⟨_, .inl ⟨vs, q1, rfl⟩, by rw [q2.isEmpty]; exact h'⟩
        | _ => exact h'.elim
  | lst xs => obtain ⟨p, vs, rfl, _, _, hp, q⟩ := r; exact ⟨_, .inl ⟨vs, SqL.of hp, rfl⟩, by rw [q.isEmpty]; exact h⟩
  | cst xs => obtain ⟨p, vs, rfl, hp, q⟩ := r; exact ⟨_, .inl ⟨vs, hp _, rfl⟩, by rw [q.isEmpty]; exact h⟩
  | _ => exact h.elim
end

/-! ### what the text of a program says of its names -/
/-- an exception's class -/
abbrev XC := Nat → Value → Prop
/-- a def's promise, by its core -/
def spD (prg : Prg) (xc : XC) (K : PySem.W.Frag) (P : Program) (w : World) (n f : Nat) : Sp := fun vs H Q Ex =>
  ∃ (W : Wd) (ds : List D) (Qd : D → Store → Prop) (Ed : Nat → Store → Prop), W.H = H ∧ Sim K P w W ∧ W.reps K ds vs ∧ (∃ F, prg.fns[f]? = some F ∧ F.ar = ds.length) ∧ callD prg n f ds W.S Qd Ed ∧
    (∀ d W1 v, Qd d W1.S → Sim K P w W1 → Ext K W W1 → W1.rep K d v → Q v W1.H) ∧ ∀ x W1 cls, Ed x W1.S → Sim K P w W1 → Ext K W W1 → xc x cls → Ex cls none W1.H
/-- what is wanted of an exception, with the names -/
def WxD (xc : XC) (K : PySem.W.Frag) (P : Program) (w : World) (W00 : Wd) (E : Nat → Env → Store → Prop) : WX := fun cls od σ H =>
  ∃ (W1 : Wd) (σd : Env) (x : Nat), W1.H = H ∧ Sim K P w W1 ∧ EnvRep K W1 σd σ ∧ Ext K W00 W1 ∧ E x σd W1.S ∧ xc x cls ∧ od = none

structure Good (X : Cx) (G : Cn) (prg : Prg) (xc : XC) (n : Nat) (W00 : Wd) (E : Nat → Env → Store → Prop) : Prop where
  N : X.N = G.N
  nd : X.N.Nodup
  kind : X.env.scope.kind = .function
  vis : ∀ x, visB (G.sc.names.lookup x) = true → Vis X.env.scope x
  loc : ∀ x, G.sc.names.lookup x = some .local → X.env.scope.names.lookup x = some .local
  cel : ∀ x, G.sc.names.lookup x = some .cell → X.env.scope.names.lookup x = some .cell ∧ X.fn x = true
  fre : ∀ x, G.sc.names.lookup x = some .free → X.env.scope.names.lookup x = some .cell ∨ X.env.scope.names.lookup x = some .free
  glb : ∀ x, G.sc.names.lookup x = some .globalImplicit → L2.Gl X x
  units : X.A.units + 65 < cLine
  calm : X.calm = true
  room : Room n X.A
  tk : Takes X (WxD xc X.K X.prog X.w W00 E)
  lit : ∀ x d, G.gl.lookup x = some (.lit d) → ∃ u v, X.mg x = some u ∧ RelV v u ∧ ∀ H φ m, Rep X.K H φ m d v
  cl : ∀ x xs, G.gl.lookup x = some (.cl xs) → ∃ a vs, X.mg x = some (.ref a) ∧ (∀ H, SqL X.K H a vs) ∧ ∀ H φ m, Reps X.K H φ m xs vs
  bi : ∀ x, G.gl.lookup x = some .bi → X.mg x = none
  call : ∀ x f, G.gl.lookup x = some (.fn f) → ∃ a fd ps, X.mg x = some (.ref a) ∧ PySem.W.keepIn X.K (.ref a) = true ∧ Binds X.K fd ps [] ∧
    FnOk X.prog X.w X.K X.mg X.base (CX X.prog X.w) n a fd ps (spD prg xc X.K X.prog X.w n f)

section
variable (X : Cx) (prg : Prg) (n : Nat) (W00 : Wd) (E : Nat → Env → Store → Prop)
/-- the reading of a core expression -/
def tE (c : CE) : TE := fun σ H Q => ∃ (W : Wd) (σd : Env) (Qd : Rz → Store → Prop), W.H = H ∧ Sim X.K X.prog X.w W ∧ EnvRep X.K W σd σ ∧ Ext X.K W00 W ∧ wpE (callD prg n) E c σd W.S Qd ∧
  ∀ z W1 v, Qd z W1.S → Sim X.K X.prog X.w W1 → Ext X.K W W1 → RepZ X.K X.prog X.w W.H W1 z v → Q v W1.H
/-- .. of a row of them, as values -/
def tEs (cs : List CE) : TA := fun σ H Q => ∃ (W : Wd) (σd : Env) (Qd : List D → Store → Prop), W.H = H ∧ Sim X.K X.prog X.w W ∧ EnvRep X.K W σd σ ∧ Ext X.K W00 W ∧ wpEs (callD prg n) E cs σd W.S Qd ∧
  ∀ ds W1 vs, ds.length = cs.length → Qd ds W1.S → Sim X.K X.prog X.w W1 → Ext X.K W W1 → W1.reps X.K ds vs → Q vs W1.H
/-- .. of a test -/
def tT (c : CE) : TT := fun σ H Q => ∃ (W : Wd) (σd : Env) (Qd : Bool → Store → Prop), W.H = H ∧ Sim X.K X.prog X.w W ∧ EnvRep X.K W σd σ ∧ Ext X.K W00 W ∧ wpE (callD prg n) E c σd W.S (truth Qd) ∧
  ∀ k W1, Qd k W1.S → Sim X.K X.prog X.w W1 → Ext X.K W W1 → Q k W1.H
end
theorem PE.imp {X : Cx} {e : Expr} {t t' : TE} (h : PE X e t) (i : ∀ σ H Q, t' σ H Q → t σ H Q) : PE X e t' := ⟨fun pins s σ H Q I q => h.run pins s σ H Q I (i _ _ _ q)⟩
theorem PT.imp {X : Cx} {e : Expr} {t t' : TT} (h : PT X e t) (i : ∀ σ H Q, t' σ H Q → t σ H Q) : PT X e t' := ⟨fun pins s σ H Q I q => h.run pins s σ H Q I (i _ _ _ q)⟩
theorem PA.imp {X : Cx} {e : List Expr} {t t' : TA} (h : PA X e t) (i : ∀ σ H Q, t' σ H Q → t σ H Q) : PA X e t' := ⟨fun pos pins s σ H Q I q => h.run pos pins s σ H Q I (i _ _ _ q)⟩
theorem PS.imp {X : Cx} {e : Stmt} {t t' : TS} (h : PS X e t) (i : ∀ D σ H, t' D σ H → t D σ H) : PS X e t' := ⟨fun pins s σ H D I q => h.run pins s σ H D I (i _ _ _ q)⟩
theorem PSs.imp {X : Cx} {e : List Stmt} {t t' : TS} (h : PSs X e t) (i : ∀ D σ H, t' D σ H → t D σ H) : PSs X e t' := ⟨fun pins s σ H D I q => h.run pins s σ H D I (i _ _ _ q)⟩

section
variable {X : Cx} {G : Cn} {prg : Prg} {xc : XC} {n : Nat} {W00 : Wd} {E : Nat → Env → Store → Prop} {a b e : Expr} {ca cb c : CE} {pos : Pos}
abbrev DE (X : Cx) (prg : Prg) (n : Nat) (W00 : Wd) (E : Nat → Env → Store → Prop) (e : Expr) (c : CE) : Prop := PE X e (tE X prg n W00 E c)
abbrev DT (X : Cx) (prg : Prg) (n : Nat) (W00 : Wd) (E : Nat → Env → Store → Prop) (e : Expr) (c : CE) : Prop := PT X e (tT X prg n W00 E c)
abbrev DA (X : Cx) (prg : Prg) (n : Nat) (W00 : Wd) (E : Nat → Env → Store → Prop) (e : List Expr) (c : List CE) : Prop := PA X e (tEs X prg n W00 E c)

theorem de_lit {d : D} {v : V} (h : PE X e (tC v)) (r : ∀ W : Wd, W.rep X.K d v) : DE X prg n W00 E e (.lit d) := by
  refine PE.imp h fun σ H Q ⟨W, σd, Qd, e1, s, ev, ex, h, k⟩ => ?_
  subst e1
  exact k (.val d) W v (by simpa [wpE] using h) s Ext.refl (r W)
theorem de_var {i : Nat} (h : PE X e (tVar i)) : DE X prg n W00 E e (.var i) := by
  refine PE.imp h fun σ H Q ⟨W, σd, Qd, e1, s, ev, ex, h, k⟩ => ?_
  subst e1
  simp only [wpE] at h
  split at h
  · rename_i d hd
    obtain ⟨v, h1, h2⟩ := ev.get i d hd
    exact ⟨v, h1, k _ W v h s Ext.refl h2⟩
  · exact h.elim
theorem de_cl {xs : List D} {v : V} (h : PE X e (tC v)) (r : ∃ p vs, v = .ref p ∧ (∀ H, SqL X.K H p vs) ∧ ∀ W : Wd, W.reps X.K xs vs) : DE X prg n W00 E e (.cl xs) := by
  refine PE.imp h fun σ H Q ⟨W, σd, Qd, e1, s, ev, ex, h, k⟩ => ?_
  subst e1
  obtain ⟨p, vs, e2, h1, h2⟩ := r
  exact k (.val (.kl xs)) W v (by simpa [wpE] using h) s Ext.refl ⟨p, vs, e2, .inr h1, h2 W⟩

theorem da_nil : DA X prg n W00 E [] [] := by
  refine PA.imp pa_nil fun σ H Q ⟨W, σd, Qd, e1, s, ev, ex, h, k⟩ => ?_
  subst e1
  exact k [] W [] rfl (by simpa [wpEs] using h) s Ext.refl rfl
theorem da_cons {es : List Expr} {cs : List CE} (ha : DE X prg n W00 E e c) (hr : DA X prg n W00 E es cs) (hs : starEach (e :: es) X.env = (false, eval e X.env) :: starEach es X.env) : DA X prg n W00 E (e :: es) (c :: cs) := by
  refine PA.imp (pa_cons ha hr hs) fun σ H Q ⟨W, σd, Qd, e1, s, ev, ex, h, k⟩ => ?_
  subst e1
  simp only [wpEs] at h
  refine ⟨W, σd, _, rfl, s, ev, ex, h, fun z W1 v hz s1 x1 r1 => ?_⟩
  obtain ⟨W2, d, h2, s2, x2, r2, e2⟩ := cv_go s1 x1 r1 hz
  refine ⟨W2, σd, _, e2, s2, ev.ext x2, ex.trans x2, h2, fun ds W3 vs hl h3 s3 x3 r3 => ?_⟩
  exact k (d :: ds) W3 (v :: vs) (by rw [List.length_cons, hl, List.length_cons]) h3 s3 (x2.trans x3) ⟨v, vs, rfl, x3.rep r2, r3⟩
theorem de_tup {es : List Expr} {cs : List CE} {x1 : Nat} (h : DA X prg n W00 E es cs) (hz : cs.length ≤ 1000) : DE X prg n W00 E (.Tuple es x1 pos) (.tup cs) := by
  refine PE.imp (pe_tup h) fun σ H Q ⟨W, σd, Qd, e1, s, ev, ex, h, k⟩ => ?_
  subst e1
  simp only [wpE] at h
  refine ⟨W, σd, _, rfl, s, ev, ex, h, fun ds W1 vs hl hd s1 x1 r1 => ⟨by rw [r1.length, hl, sizeLine_eq]; omega, fun p hp => ?_⟩⟩
  have x2 : Ext X.K W1 { W1 with H := upd W1.H p (.tup vs) } := Ext.new hp
  exact k (.val (.tup ds)) { W1 with H := upd W1.H p (.tup vs) } (.ref p) hd (s1.new hp) (x1.trans x2) ⟨p, vs, rfl, SqT.of upd_same, x2.reps r1⟩
theorem Sim.noLab {K : PySem.W.Frag} {P : Program} {w : World} {W : Wd} {p : Addr} (s : Sim K P w W) (hp : W.H p = none) : ∀ l, l < W.S.nx → W.φ l ≠ p := fun l hl e => s.liv l hl (by rw [e]; exact hp)
theorem de_lst {es : List Expr} {cs : List CE} (h : DA X prg n W00 E es cs) (hz : cs.length ≤ 1000) : DE X prg n W00 E (.List es pos) (.lst cs) := by
  refine PE.imp (pe_lst h) fun σ H Q ⟨W, σd, Qd, e1, s, ev, ex, h, k⟩ => ?_
  subst e1
  simp only [wpE] at h
  refine ⟨W, σd, _, rfl, s, ev, ex, h, fun ds W1 vs hl hd s1 x1 r1 => ⟨by rw [r1.length, hl, sizeLine_eq]; omega, fun p hp => ?_⟩⟩
  have x2 : Ext X.K W1 { W1 with H := upd W1.H p (.lst vs) } := Ext.new hp
  exact k (.lst ds) { W1 with H := upd W1.H p (.lst vs) } (.ref p) hd (s1.new hp) (x1.trans x2) ⟨p, vs, rfl, x1.live _ hp, s1.noLab hp, upd_same, x2.reps r1⟩
end
end M3
end

section
set_option autoImplicit false
set_option linter.all false
set_option maxRecDepth 100000
set_option maxHeartbeats 1000000
/-! M3: further rules by values. -/
namespace M3
open PySem PySem.Spec L2
section
variable {X : Cx}
/-- two lists, of whatever keep, put together -/
theorem op_catL : OpR X (binaryOp .Add) (fun x y H Q => ∃ a b xs ys, x = .ref a ∧ y = .ref b ∧ SqL X.K H a xs ∧ SqL X.K H b ys ∧ xs.length + ys.length ≤ sizeLine ∧ ∀ p, H p = none → Q (.ref p) (upd H p (.lst (xs ++ ys)))) := by
  intro pins s σ H x y v u Q I rx ry h
  obtain ⟨a, b, xs, ys, rfl, rfl, ha, hb, hz, q⟩ := h
  cases rx
  cases ry
  obtain ⟨us, r1, p1, _⟩ := I.list ha
  obtain ⟨ws, r2, p2, _⟩ := I.list hb
  obtain ⟨⟨c1, f1, t1, g1⟩, o1, k1, m1, j1⟩ := p1.isList
  obtain ⟨⟨c2, f2, t2, g2⟩, o2, k2, m2, j2⟩ := p2.isList
  dsimp only at k1 j1 k2 j2
  subst k1 j1 k2 j2
  refine concat_meets ⟨_, o1, rfl⟩ ⟨_, o2, rfl⟩ noFill_list_add seq_list_add PySem.F.slot_list_add PySem.F.entry_list_add (PySem.F.args_list_add_2 _ _)
    (PyProof.Rows.list_addW a b us.toArray ws.toArray m1 m2 f1 f2 g1 g2 (by rw [List.size_toArray, List.size_toArray, ← r1.length, ← r2.length]; exact hz)) ⟨o1, o2, ?_⟩
  have hp : H s.heap.objs.size = none := I.hok.fresh (Nat.le_refl _)
  have ok : ObjOk X.prog X.w (upd H s.heap.objs.size (.lst (xs ++ ys))) (s.heap.push { cls := .type "list", data := .seq (us.toArray ++ ws.toArray) }) s.heap.objs.size (.lst (xs ++ ys)) := by
    refine ⟨by rw [List.length_append]; exact hz, us ++ ws, 0, r1.append r2, ?_⟩
    rw [show us.toArray ++ ws.toArray = (us ++ ws).toArray by simp]
    exact Heap.get?_push_size _ rfl
  exact ⟨.ref s.heap.objs.size, _, I.laid (t' := s.toks) (fun b o e => Heap.get?_push_of_some _ e) (Nat.le_refl _) ok, rfl, q _ hp⟩
/-- () + t is t -/
theorem op_catT0 : OpR X (binaryOp .Add) (fun x y H Q => ∃ a b ys, x = .ref a ∧ y = .ref b ∧ SqT X.K H a [] ∧ SqT X.K H b ys ∧ Q (.ref b) H) := by
  intro pins s σ H x y v u Q I rx ry h
  obtain ⟨a, b, ys, rfl, rfl, ha, hb, q⟩ := h
  cases rx
  cases ry
  obtain ⟨us, r1, p1, _⟩ := I.tuple ha
  obtain ⟨ws, r2, p2, _⟩ := I.tuple hb
  cases r1
  obtain ⟨⟨c1, f1, t1, g1⟩, o1, k1, m1, j1⟩ := id p1
  obtain ⟨⟨c2, f2, t2, g2⟩, o2, k2, m2, j2⟩ := id p2
  dsimp only at k1 j1 k2 j2
  subst k1 j1 k2 j2
  exact concat_meets ⟨_, o1, rfl⟩ ⟨_, o2, rfl⟩ noFill_tuple_add seq_tuple_add PySem.F.slot_tuple_add PySem.F.entry_tuple_add (PySem.F.args_tuple_add_2 _ _)
    (PyProof.Rows.tuple_addW0 a b _ _ m1 m2 f1 f2 g1 g2 (by simp)) ⟨o1, o2, ⟨.ref b, H, I, rfl, q⟩⟩
theorem op_catTT : OpR X (binaryOp .Add) (fun x y H Q => ∃ a b xs ys, x = .ref a ∧ y = .ref b ∧ SqT X.K H a xs ∧ SqT X.K H b ys ∧ xs.length + ys.length ≤ sizeLine ∧
    (xs = [] → Q (.ref b) H) ∧ (ys = [] → Q (.ref a) H) ∧ ∀ p, H p = none → Q (.ref p) (upd H p (.tup (xs ++ ys)))) := by
  intro pins s σ H x y v u Q I rx ry h
  obtain ⟨a, b, xs, ys, rfl, rfl, ha, hb, hz, q1, q2, q3⟩ := h
  by_cases e : xs = []
  · subst e; exact op_catT0 pins s σ H _ _ v u Q I rx ry ⟨a, b, ys, rfl, rfl, ha, hb, q1 rfl⟩
  · exact op_catT pins s σ H _ _ v u Q I rx ry ⟨a, b, xs, ys, rfl, rfl, ha, hb, e, hz, q2, fun _ => q3⟩
end
end M3
end

section
set_option autoImplicit false
set_option linter.all false
set_option maxRecDepth 100000
set_option maxHeartbeats 1000000
/-! M3: operators. -/
namespace M3
open PySem PySem.Spec L2
section
variable {K : PySem.W.Frag} {P : Program} {w : World} {W W' W0 W1 : Wd} {H0 H0' : Hp} {z : Rz} {v : V}
theorem asL_go {Q : List D → Prop} (s : Sim K P w W) (r : RepZ K P w H0 W z v) (h : asL Q W.S z) : ∃ p vs xs, v = .ref p ∧ SqL K W.H p vs ∧ W.reps K xs vs ∧ Q xs := by
  cases z with
  | val d =>
    cases d with
    | ref l =>
      obtain ⟨hl, e⟩ := r
      have h' : (match W.S.cell l with | some (.lst xs) => Q xs | some (.cst xs) => Q xs | _ => False) := h
      cases hc : W.S.cell l with
      | none => rw [hc] at h'; exact h'.elim
      | some c =>
        rw [hc] at h'
        have q := (s.cells l c hc).2
        cases c with
        | lst xs => obtain ⟨vs, q1, q2⟩ := q; exact ⟨_, vs, xs, e, SqL.of q1, q2, h'⟩
        | cst xs => obtain ⟨vs, q1, q2⟩ := q; exact ⟨_, vs, xs, e, q1, q2, h'⟩
        | _ => exact h'.elim
    | kl xs => obtain ⟨a, vs, e, q, t⟩ := r; exact ⟨a, vs, xs, e, q.sq, t, h⟩
    | _ => exact h.elim
  | lst xs => obtain ⟨p, vs, e, _, _, hp, q⟩ := r; exact ⟨p, vs, xs, e, SqL.of hp, q, h⟩
  | cst xs => obtain ⟨p, vs, e, hp, q⟩ := r; exact ⟨p, vs, xs, e, hp _, q, h⟩
  | _ => exact h.elim
end
section
variable {X : Cx} {prg : Prg} {n : Nat} {W00 : Wd} {E : Nat → Env → Store → Prop} {a b e : Expr} {ca cb c : CE} {pos : Pos}
/-- what a two-place operation on data asks is what its rule on values asks -/
def OpD (X : Cx) (r : R2) (R : Rz → Rz → Store → (Rz → Store → Prop) → Prop) : Prop :=
  ∀ (W0 W : Wd) (x y : Rz) (v u : V) (Qd : Rz → Store → Prop) (Q : VK), Sim X.K X.prog X.w W → RepZ X.K X.prog X.w W0.H W x v → RepZ X.K X.prog X.w W0.H W y u → R x y W.S Qd →
    (∀ z W1 v', Qd z W1.S → Sim X.K X.prog X.w W1 → Ext X.K W W1 → RepZ X.K X.prog X.w W.H W1 z v' → Q v' W1.H) → r v u W.H Q
theorem de_two {mk : CE} {r : R2} {R : Rz → Rz → Store → (Rz → Store → Prop) → Prop} (h : PE X e (tOp r (tE X prg n W00 E ca) (tE X prg n W00 E cb)))
    (hw : ∀ σ S Q, wpE (callD prg n) E mk σ S Q → wpE (callD prg n) E ca σ S fun x S1 => wpE (callD prg n) E cb σ S1 fun y S2 => R x y S2 Q) (hr : OpD X r R) : DE X prg n W00 E e mk := by
  refine PE.imp h fun σ H Q ⟨W, σd, Qd, e1, s, ev, ex, h, k⟩ => ?_
  subst e1
  refine ⟨W, σd, _, rfl, s, ev, ex, hw _ _ _ h, fun x W1 v h1 s1 x1 r1 => ?_⟩
  refine ⟨W1, σd, _, rfl, s1, ev.ext x1, ex.trans x1, h1, fun y W2 u h2 s2 x2 r2 => ?_⟩
  refine hr W W2 x y v u Qd Q s2 (r1.ext x2) (r2.base x1.live) h2 fun z W3 v' h3 s3 x3 r3 => ?_
  exact k z W3 v' h3 s3 ((x1.trans x2).trans x3) (r3.base (x1.trans x2).live)
/-- the answer is data, the heap stays -/
theorem fin_val {W : Wd} {Qd : Rz → Store → Prop} {Q : VK} {d : D} {v : V} (s : Sim X.K X.prog X.w W) (h : Qd (.val d) W.S) (r : W.rep X.K d v)
    (k : ∀ z W1 v', Qd z W1.S → Sim X.K X.prog X.w W1 → Ext X.K W W1 → RepZ X.K X.prog X.w W.H W1 z v' → Q v' W1.H) : Q v W.H := k _ W v h s Ext.refl r
/-- the answer is a new list -/
theorem fin_lst {W : Wd} {Qd : Rz → Store → Prop} {Q : VK} {xs : List D} {vs : List V} {p : Addr} (s : Sim X.K X.prog X.w W) (hp : W.H p = none) (h : Qd (.lst xs) W.S) (r : W.reps X.K xs vs)
    (k : ∀ z W1 v', Qd z W1.S → Sim X.K X.prog X.w W1 → Ext X.K W W1 → RepZ X.K X.prog X.w W.H W1 z v' → Q v' W1.H) : Q (.ref p) (upd W.H p (.lst vs)) :=
  have x2 : Ext X.K W { W with H := upd W.H p (.lst vs) } := Ext.new hp
  k (.lst xs) { W with H := upd W.H p (.lst vs) } (.ref p) h (s.new hp) x2 ⟨p, vs, rfl, hp, s.noLab hp, upd_same, x2.reps r⟩
/-- .. a new tuple -/
theorem fin_tup {W : Wd} {Qd : Rz → Store → Prop} {Q : VK} {xs : List D} {vs : List V} {p : Addr} (s : Sim X.K X.prog X.w W) (hp : W.H p = none) (h : Qd (.val (.tup xs)) W.S) (r : W.reps X.K xs vs)
    (k : ∀ z W1 v', Qd z W1.S → Sim X.K X.prog X.w W1 → Ext X.K W W1 → RepZ X.K X.prog X.w W.H W1 z v' → Q v' W1.H) : Q (.ref p) (upd W.H p (.tup vs)) :=
  have x2 : Ext X.K W { W with H := upd W.H p (.tup vs) } := Ext.new hp
  k (.val (.tup xs)) { W with H := upd W.H p (.tup vs) } (.ref p) h (s.new hp) x2 ⟨p, vs, rfl, SqT.of upd_same, x2.reps r⟩

def rBin (X : Cx) : BOp → R2
  | .add => fun x y H Q => rI0 (fun i j => .int (i + j)) x y H Q ∨ (∃ i j, x = .str i ∧ y = .str j ∧ i.length + j.length ≤ sizeLine ∧ Q (.str (i ++ j)) H) ∨
      (∃ a b xs ys, x = .ref a ∧ y = .ref b ∧ SqL X.K H a xs ∧ SqL X.K H b ys ∧ xs.length + ys.length ≤ sizeLine ∧ ∀ p, H p = none → Q (.ref p) (upd H p (.lst (xs ++ ys)))) ∨
      ∃ a b xs ys, x = .ref a ∧ y = .ref b ∧ SqT X.K H a xs ∧ SqT X.K H b ys ∧ xs.length + ys.length ≤ sizeLine ∧ (xs = [] → Q (.ref b) H) ∧ (ys = [] → Q (.ref a) H) ∧ ∀ p, H p = none → Q (.ref p) (upd H p (.tup (xs ++ ys)))
  | .sub => rI0 fun i j => .int (i - j)
  | .mul => rI CMul fun i j => .int (i * j)
  | .fdiv => rI CDiv fun i j => .int (i / j)
  | .mod => rI (fun _ j => 0 < j) fun i j => .int (i % j)
  | .pow => rI CPow fun i j => .int (i ^ j.toNat)
def opOf : BOp → Operator
  | .add => .Add | .sub => .Sub | .mul => .Mult | .fdiv => .FloorDiv | .mod => .Mod | .pow => .Pow
theorem op_bin (o : BOp) : OpR X (binaryOp (opOf o)) (rBin X o) := by
  cases o with
  | add => exact op_add.or (op_add_str.or (op_catL.or op_catTT))
  | sub => exact op_sub
  | mul => exact op_mul
  | fdiv => exact op_fdiv
  | mod => exact op_mod
  | pow => exact op_pow
theorem opd_bin (o : BOp) : OpD X (rBin X o) (binZ o) := by
  intro W0 W x y v u Qd Q s rx ry h k
  unfold binZ at h
  split at h
  · cases (show v = .int _ from rx); cases (show u = .int _ from ry)
    exact .inl ⟨_, _, rfl, rfl, fin_val s h rfl k⟩
  · cases (show v = .int _ from rx); cases (show u = .int _ from ry)
    exact ⟨_, _, rfl, rfl, fin_val s h rfl k⟩
  · cases (show v = .int _ from rx); cases (show u = .int _ from ry)
    exact ⟨_, _, rfl, rfl, h.1, fin_val s h.2 rfl k⟩
  · cases (show v = .int _ from rx); cases (show u = .int _ from ry)
    exact ⟨_, _, rfl, rfl, h.1, fin_val s h.2 rfl k⟩
  · cases (show v = .int _ from rx); cases (show u = .int _ from ry)
    exact ⟨_, _, rfl, rfl, h.1, fin_val s h.2 rfl k⟩
  · cases (show v = .int _ from rx); cases (show u = .int _ from ry)
    exact ⟨_, _, rfl, rfl, h.1, fin_val s h.2 rfl k⟩
  · cases (show v = .str _ from rx); cases (show u = .str _ from ry)
    exact .inr (.inl ⟨_, _, rfl, rfl, line_eq ▸ h.1, fin_val s h.2 rfl k⟩)
  · obtain ⟨a, vs, rfl, ha, ra⟩ := (show W.rep X.K (.tup _) v from rx)
    obtain ⟨b, us, rfl, hb, rb⟩ := (show W.rep X.K (.tup _) u from ry)
    refine .inr (.inr (.inr ⟨a, b, vs, us, rfl, rfl, ha, hb, by rw [ra.length, rb.length, ← line_eq]; exact h.1, fun e => ?_, fun e => ?_, fun p hp => fin_tup s hp h.2 (ra.append rb) k⟩))
    · have := ra.length
      rw [e] at this
      rw [List.eq_nil_of_length_eq_zero this.symm, List.nil_append] at h
      exact fin_val s h.2 ⟨b, us, rfl, hb, rb⟩ k
    · have := rb.length
      rw [e] at this
      rw [List.eq_nil_of_length_eq_zero this.symm, List.append_nil] at h
      exact fin_val s h.2 ⟨a, vs, rfl, ha, ra⟩ k
  · obtain ⟨p, vs, xs, rfl, hp, rp, h⟩ := asL_go s rx h
    obtain ⟨q, us, ys, rfl, hq, rq, h⟩ := asL_go s ry h
    exact .inr (.inr (.inl ⟨p, q, vs, us, rfl, rfl, hp, hq, by rw [rp.length, rq.length, ← line_eq]; exact h.1, fun p hp => fin_lst s hp h.2 (rp.append rq) k⟩))
  · exact h.elim
theorem de_bin {o : BOp} (ha : DE X prg n W00 E a ca) (hb : DE X prg n W00 E b cb) : DE X prg n W00 E (.BinOp a (opOf o) b pos) (.bin o ca cb) :=
  de_two (R := binZ o) (pe_op (op_bin o) ha hb) (fun σ S Q h => by simpa only [wpE] using h) (opd_bin o)
theorem de_neg (ha : DE X prg n W00 E a ca) : DE X prg n W00 E (.UnaryOp .USub a pos) (.neg ca) := by
  refine PE.imp (pe_un un_neg ha) fun σ H Q ⟨W, σd, Qd, e1, s, ev, ex, h, k⟩ => ?_
  subst e1
  simp only [wpE] at h
  refine ⟨W, σd, _, rfl, s, ev, ex, h, fun x W1 v h1 s1 x1 r1 => ?_⟩
  split at h1
  · cases (show v = .int _ from r1)
    exact ⟨_, rfl, k _ W1 _ h1 s1 x1 rfl⟩
  · exact h1.elim
theorem de_not (ha : DE X prg n W00 E a ca) : DE X prg n W00 E (.UnaryOp .Not a pos) (.not ca) := by
  refine PE.imp (pe_notT ha) fun σ H Q ⟨W, σd, Qd, e1, s, ev, ex, h, k⟩ => ?_
  subst e1
  simp only [wpE] at h
  refine ⟨W, σd, _, rfl, s, ev, ex, h, fun x W1 v h1 s1 x1 r1 => ?_⟩
  obtain ⟨t, q1, q2⟩ := truth_go s1 r1 h1
  exact ⟨t, q1, k _ W1 _ q2 s1 x1 rfl⟩
theorem de_and {rest : List Expr} (ha : DE X prg n W00 E a ca) (hb : DE X prg n W00 E (.BoolOp .And (b :: rest) pos) cb) : DE X prg n W00 E (.BoolOp .And (a :: b :: rest) pos) (.and ca cb) := by
  refine PE.imp (pe_andT ha hb) fun σ H Q ⟨W, σd, Qd, e1, s, ev, ex, h, k⟩ => ?_
  subst e1
  simp only [wpE] at h
  refine ⟨W, σd, _, rfl, s, ev, ex, h, fun x W1 v h1 s1 x1 r1 => ?_⟩
  obtain ⟨t, q1, q2⟩ := truth_go s1 r1 h1
  refine ⟨t, q1, ?_⟩
  cases t with
  | true =>
    rw [if_pos rfl]
    exact ⟨W1, σd, _, rfl, s1, ev.ext x1, ex.trans x1, q2, fun z W2 u h2 s2 x2 r2 => k z W2 u h2 s2 (x1.trans x2) (r2.base x1.live)⟩
  | false =>
    rw [if_neg Bool.false_ne_true]
    exact k x W1 v q2 s1 x1 r1
theorem de_or {rest : List Expr} (ha : DE X prg n W00 E a ca) (hb : DE X prg n W00 E (.BoolOp .Or (b :: rest) pos) cb) : DE X prg n W00 E (.BoolOp .Or (a :: b :: rest) pos) (.or ca cb) := by
  refine PE.imp (pe_orT ha hb) fun σ H Q ⟨W, σd, Qd, e1, s, ev, ex, h, k⟩ => ?_
  subst e1
  simp only [wpE] at h
  refine ⟨W, σd, _, rfl, s, ev, ex, h, fun x W1 v h1 s1 x1 r1 => ?_⟩
  obtain ⟨t, q1, q2⟩ := truth_go s1 r1 h1
  refine ⟨t, q1, ?_⟩
  cases t with
  | true =>
    rw [if_pos rfl]
    exact k x W1 v q2 s1 x1 r1
  | false =>
    rw [if_neg Bool.false_ne_true]
    exact ⟨W1, σd, _, rfl, s1, ev.ext x1, ex.trans x1, q2, fun z W2 u h2 s2 x2 r2 => k z W2 u h2 s2 (x1.trans x2) (r2.base x1.live)⟩
theorem de_one {op : PySem.BoolOp} (ha : DE X prg n W00 E a c) : DE X prg n W00 E (.BoolOp op [a] pos) c := pe_one ha
/-- a test of any expression whose test is its value's truth -/
theorem dt_of (ha : DE X prg n W00 E a c) (he : ∀ whole, isTrue a X.env whole = (do let v ← whole; standAt a.pos; holding [v] (truthy v))) : DT X prg n W00 E a c := by
  refine PT.imp (pt_truth ha he) fun σ H Q ⟨W, σd, Qd, e1, s, ev, ex, h, k⟩ => ?_
  subst e1
  refine ⟨W, σd, _, rfl, s, ev, ex, h, fun x W1 v h1 s1 x1 r1 => ?_⟩
  obtain ⟨t, q1, q2⟩ := truth_go s1 r1 h1
  exact ⟨t, q1, k t W1 q2 s1 x1⟩
end
end M3
end

section
set_option autoImplicit false
set_option linter.all false
set_option maxRecDepth 100000
set_option maxHeartbeats 1000000
/-! M3: dicts. -/
namespace M3
open PySem PySem.Spec L2

mutual
theorem toKey_depth : ∀ (d : D) (k : NestedKey), toKey d = some k → k.depth = kdep d
  | .non, k, h => by cases h; rfl
  | .int _, k, h => by cases h; rfl
  | .str _, k, h => by cases h; rfl
  | .bl _, k, h => by cases h
  | .ref _, k, h => by cases h
  | .kl _, k, h => by cases h
  | .tup ds, k, h => by
    simp only [toKey, Option.map_eq_some_iff] at h
    obtain ⟨ks, h1, rfl⟩ := h
    simp only [NestedKey.depth, kdep, toKeys_depth ds ks h1]
theorem toKeys_depth : ∀ (ds : List D) (ks : List NestedKey), toKeys ds = some ks → NestedKey.depthAll ks = kdeps ds
  | [], ks, h => by cases h; rfl
  | d :: ds, ks, h => by
    simp only [toKeys] at h
    split at h
    · rename_i k ks' h1 h2
      cases h
      simp only [NestedKey.depthAll, kdeps, toKey_depth d k h1, toKeys_depth ds ks' h2]
    · cases h
end
section
variable {X : Cx} {pins : List (Addr × Obj)} {σ : St} {H : Hp} {s : Shared} {φ : Nat → Addr} {n : Nat}
mutual
theorem nested_of (I : Inv X pins σ H s) : ∀ (d : D) (v : V) (u : Value) (k : NestedKey), Rep X.K H φ n d v → RelV v u → toKey d = some k → NestedIs s.heap k u
  | .non, v, u, k, h, r, t => by
    cases (show v = .non from h); cases r; cases t; exact .none
  | .int i, v, u, k, h, r, t => by
    cases (show v = .int i from h); obtain ⟨tk, rfl⟩ := r; cases t; exact .int _ _
  | .str x, v, u, k, h, r, t => by
    cases (show v = .str x from h); obtain ⟨tk, rfl⟩ := r; cases t; exact .text _ _
  | .bl _, v, u, k, h, r, t => by cases t
  | .ref _, v, u, k, h, r, t => by cases t
  | .kl _, v, u, k, h, r, t => by cases t
  | .tup ds, v, u, k, h, r, t => by
    obtain ⟨a, vs, rfl, q, rs⟩ := h
    cases r
    simp only [toKey, Option.map_eq_some_iff] at t
    obtain ⟨ks, t1, rfl⟩ := t
    obtain ⟨us, rv, ⟨o, h1, h2, m, h3⟩, _⟩ := I.tuple q
    exact .tup h1 h2 h3 (nesteds_of I ds vs us ks rs rv t1)
theorem nesteds_of (I : Inv X pins σ H s) : ∀ (ds : List D) (vs : List V) (us : List Value) (ks : List NestedKey), Reps X.K H φ n ds vs → Vals vs us → toKeys ds = some ks → NestedAll s.heap ks us
  | [], vs, us, ks, h, r, t => by
    cases (show vs = [] from h); cases r; cases t; exact .nil
  | d :: ds, vs, us, ks, h, r, t => by
    obtain ⟨v, vr, rfl, h1, h2⟩ := h
    simp only [toKeys] at t
    split at t
    · rename_i k ks' t1 t2
      cases t
      cases r with
      | cons r1 r2 => exact .cons (nested_of I d v _ k h1 r1 t1) (nesteds_of I ds vr _ ks' h2 r2 t2)
    · cases t
end
end

/-- entries of a dict with tuples as keys, and what they are as data -/
def PairY (K : PySem.W.Frag) (H : Hp) (φ : Nat → Addr) (n : Nat) : List (D × D) → List (NestedKey × Addr × Value) → Prop :=
  PySem.Paired fun p q => toKey p.1 = some q.1 ∧ q.1.depth ≤ 8 ∧ isTupK p.1 = true ∧ Rep K H φ n p.1 (.ref q.2.1) ∧ ∃ v, RelV v q.2.2 ∧ Rep K H φ n p.2 v
section
variable {K : PySem.W.Frag} {P : Program} {w : World} {H : Hp} {φ : Nat → Addr} {n : Nat}
theorem PairY.split {kvs : List (D × D)} {ys : List (NestedKey × Addr × Value)} (h : PairY K H φ n kvs ys) :
    ∃ xs : List KEnt, PairX K H φ n kvs xs ∧ PySem.Paired (fun (p : KEnt) (q : NestedKey × Addr × Value) => p.1 = q.1 ∧ p.2.1 = q.2.1 ∧ RelV p.2.2 q.2.2) xs ys := by
  induction h with
  | nil => exact ⟨[], .nil, .nil⟩
  | cons r _ ih =>
    obtain ⟨xs, h1, h2⟩ := ih
    obtain ⟨r1, r2, r3, r4, v, r5, r6⟩ := r
    exact ⟨(_, _, v) :: xs, .cons ⟨r1, r2, r3, r4, r6⟩ h1, .cons ⟨rfl, rfl, r5⟩ h2⟩
theorem PairY.of {kvs : List (D × D)} {xs : List KEnt} (h : PairX K H φ n kvs xs) : ∀ {ys : List (NestedKey × Addr × Value)}, PySem.Paired (fun (p : KEnt) (q : NestedKey × Addr × Value) => p.1 = q.1 ∧ p.2.1 = q.2.1 ∧ RelV p.2.2 q.2.2) xs ys → PairY K H φ n kvs ys := by
  induction h with
  | nil => intro ys q; cases q; exact .nil
  | cons r _ ih =>
    intro ys q
    cases q with
    | cons q1 q2 =>
      obtain ⟨r1, r2, r3, r4, r5⟩ := r
      obtain ⟨e1, e2, e3⟩ := q1
      exact .cons ⟨by rw [← e1]; exact r1, by rw [← e1]; exact r2, r3, by rw [← e2]; exact r4, _, e3, r5⟩ (ih q2)
theorem PairY.at {k : D} {kk : NestedKey} (hk : toKey k = some kk) {kvs : List (D × D)} {ys : List (NestedKey × Addr × Value)} (h : PairY K H φ n kvs ys) :
    (dget k kvs = none ∧ atKey ys kk = none) ∨ ∃ d p v, dget k kvs = some d ∧ atKey ys kk = some p ∧ RelV v p.2 ∧ Rep K H φ n d v := by
  induction h with
  | nil => exact .inl ⟨rfl, rfl⟩
  | @cons p q l1 l2 r _ ih =>
    obtain ⟨r1, r2, r3, r4, v, r5, r6⟩ := r
    unfold dget atKey at *
    by_cases e : p.1 = k
    · have e2 : q.1 = kk := by rw [e, hk] at r1; exact (Option.some.inj r1).symm
      exact .inr ⟨p.2, q.2, v, by simp [List.find?_cons, e], by simp [List.find?_cons, e2], r5, r6⟩
    · have e2 : ¬ q.1 = kk := fun z => e (toKey_inj _ _ kk (by rw [r1, z]) hk)
      simpa [List.find?_cons, e, e2] using ih
theorem PairY.map {k : D} {kk : NestedKey} (hk : toKey k = some kk) {d : D} {v : V} {u : Value} (rv : RelV v u) (rd : Rep K H φ n d v) {kvs : List (D × D)} {ys : List (NestedKey × Addr × Value)} (h : PairY K H φ n kvs ys) :
    PairY K H φ n (kvs.map fun p => if p.1 = k then (p.1, d) else p) (ys.map (putAt kk u)) := by
  induction h with
  | nil => exact .nil
  | @cons p q l1 l2 r _ ih =>
    refine .cons ?_ ih
    obtain ⟨r1, r2, r3, r4, r5⟩ := r
    by_cases e : p.1 = k
    · have e2 : q.1 = kk := by rw [e, hk] at r1; exact (Option.some.inj r1).symm
      simp only [e, if_true, putAt, e2]
      exact ⟨hk, by rw [← e2]; exact r2, by rw [← e]; exact r3, by rw [← e]; exact r4, v, rv, rd⟩
    · have e2 : ¬ q.1 = kk := fun z => e (toKey_inj _ _ kk (by rw [r1, z]) hk)
      simp only [e, if_false, putAt, e2]
      exact ⟨r1, r2, r3, r4, r5⟩
theorem Paired_snoc {α β : Type} {F : α → β → Prop} {l : List α} {m : List β} {a : α} {b : β} (h : PySem.Paired F l m) (r : F a b) : PySem.Paired F (l ++ [a]) (m ++ [b]) := PySem.Paired.snoc h r
theorem PairY.put {k : D} {kk : NestedKey} {b : Addr} (hk : toKey k = some kk) (hd : kk.depth ≤ 8) (ht : isTupK k = true) (hb : Rep K H φ n k (.ref b)) {d : D} {v : V} {u : Value} (rv : RelV v u) (rd : Rep K H φ n d v) {kvs : List (D × D)} {ys : List (NestedKey × Addr × Value)}
    (h : PairY K H φ n kvs ys) : PairY K H φ n (dput k d kvs) (storedH ys kk b u) := by
  rcases h.at hk with ⟨h1, h2⟩ | ⟨d', p, v', h1, h2, _, _⟩
  · rw [storedH_new h2]
    unfold dput
    rw [h1, if_neg (by simp)]
    exact Paired_snoc h ⟨hk, hd, ht, hb, v, rv, rd⟩
  · rw [storedH_old h2]
    unfold dput
    rw [h1, if_pos (by simp)]
    exact h.map hk rv rd
theorem PairY.drop {k : D} {kk : NestedKey} (hk : toKey k = some kk) {kvs : List (D × D)} {ys : List (NestedKey × Addr × Value)} (h : PairY K H φ n kvs ys) : PairY K H φ n (ddrop k kvs) (withoutH ys kk) := by
  induction h with
  | nil => exact .nil
  | @cons p q l1 l2 r _ ih =>
    unfold ddrop withoutH at *
    have r1 := r.1
    by_cases e : p.1 = k
    · have e2 : q.1 = kk := by rw [e, hk] at r1; exact (Option.some.inj r1).symm
      simpa [List.filter_cons, e, e2] using ih
    · have e2 : ¬ q.1 = kk := fun z => e (toKey_inj _ _ kk (by rw [r1, z]) hk)
      rw [List.filter_cons, List.filter_cons, if_pos (by simp [e]), if_pos (by simp [e2])]
      exact .cons r ih
/-- the flat ones -/
theorem flatKey_inj {a b : D} {k : Key} (h1 : flatKey a = some k) (h2 : flatKey b = some k) : a = b := by
  cases a <;> simp [flatKey] at h1 <;> cases b <;> simp [flatKey] at h2 <;> subst h1 <;> first | (injection h2 with h2; rw [h2]) | simp_all | (cases h2)
theorem PairS.at {k : D} {kk : Key} (hk : flatKey k = some kk) {kvs : List (D × D)} {ks : List (Key × V)} (h : PairS K H φ n kvs ks) :
    (dget k kvs = none ∧ valV ks kk = none) ∨ ∃ d v, dget k kvs = some d ∧ valV ks kk = some v ∧ Rep K H φ n d v := by
  induction h with
  | nil => exact .inl ⟨rfl, rfl⟩
  | @cons p q l1 l2 r _ ih =>
    obtain ⟨r1, r2⟩ := r
    unfold dget valV at *
    by_cases e : p.1 = k
    · have e2 : q.1 = kk := by rw [e, hk] at r1; exact (Option.some.inj r1).symm
      exact .inr ⟨p.2, q.2, by simp [List.find?_cons, e], by simp [List.find?_cons, e2], r2⟩
    · have e2 : ¬ q.1 = kk := fun z => e (flatKey_inj (by rw [r1, z]) hk)
      simpa [List.find?_cons, e, e2] using ih
theorem PairS.put {k : D} {kk : Key} (hk : flatKey k = some kk) {d : D} {v : V} (rd : Rep K H φ n d v) {kvs : List (D × D)} {ks : List (Key × V)} (h : PairS K H φ n kvs ks) : PairS K H φ n (dput k d kvs) (putK ks kk v) := by
  have any : (ks.any fun kv => decide (kv.1 = kk)) = (valV ks kk).isSome := valV_any kk ks
  have mp : PairS K H φ n (kvs.map fun p => if p.1 = k then (p.1, d) else p) (ks.map fun kv => if kv.1 = kk then (kv.1, v) else kv) := by
    clear any
    induction h with
    | nil => exact .nil
    | @cons p q l1 l2 r _ ih =>
      refine .cons ?_ ih
      obtain ⟨r1, r2⟩ := r
      by_cases e : p.1 = k
      · have e2 : q.1 = kk := by rw [e, hk] at r1; exact (Option.some.inj r1).symm
        simp only [e, if_true, e2]
        exact ⟨hk, rd⟩
      · have e2 : ¬ q.1 = kk := fun z => e (flatKey_inj (by rw [r1, z]) hk)
        simp only [e, if_false, e2]
        exact ⟨r1, r2⟩
  unfold dput putK
  rw [any]
  rcases h.at hk with ⟨h1, h2⟩ | ⟨d', v', h1, h2, _⟩
  · rw [h1, h2]
    exact Paired_snoc h ⟨hk, rd⟩
  · rw [h1, h2]
    exact mp
theorem PairS.drop {k : D} {kk : Key} (hk : flatKey k = some kk) {kvs : List (D × D)} {ks : List (Key × V)} (h : PairS K H φ n kvs ks) : PairS K H φ n (ddrop k kvs) (dropK ks kk) := by
  induction h with
  | nil => exact .nil
  | @cons p q l1 l2 r _ ih =>
    unfold ddrop dropK at *
    have r1 := r.1
    by_cases e : p.1 = k
    · have e2 : q.1 = kk := by rw [e, hk] at r1; exact (Option.some.inj r1).symm
      simpa [List.filter_cons, e, e2] using ih
    · have e2 : ¬ q.1 = kk := fun z => e (flatKey_inj (by rw [r1, z]) hk)
      rw [List.filter_cons, List.filter_cons, if_pos (by simp [e]), if_pos (by simp [e2])]
      exact .cons r ih
theorem isFlat_iff {k : D} : isFlatK k = true ↔ ∃ kk, flatKey k = some kk := by cases k <;> simp [isFlatK, flatKey]
theorem PairS.allFlat {kvs : List (D × D)} {ks : List (Key × V)} (h : PairS K H φ n kvs ks) : (kvs.all fun p => isFlatK p.1) = true := by
  induction h with
  | nil => rfl
  | cons r _ ih => simp only [List.all_cons, ih, Bool.and_true]; exact isFlat_iff.mpr ⟨_, r.1⟩
theorem PairX.allTup {kvs : List (D × D)} {xs : List KEnt} (h : PairX K H φ n kvs xs) : (kvs.all fun p => isTupK p.1) = true := by
  induction h with
  | nil => rfl
  | cons r _ ih => simp only [List.all_cons, ih, Bool.and_true]; exact r.2.2.1
theorem flat_not_tup {k : D} (h : isFlatK k = true) (q : isTupK k = true) : False := by cases k <;> simp_all [isFlatK, isTupK]
theorem PairS.empty {ks : List (Key × V)} (h : PairS K H φ n [] ks) : ks = [] := by cases h; rfl
end
end M3
end

section
set_option autoImplicit false
set_option linter.all false
set_option maxRecDepth 100000
set_option maxHeartbeats 1000000
/-! M3: what is done with a dict. -/
namespace M3
open PySem PySem.Spec L2
section
variable {X : Cx} {pins : List (Addr × Obj)} {σ : St} {H : Hp} {s : Shared} {φ : Nat → Addr} {n : Nat} {a : Addr} {kvs : List (D × D)} {o : HO} {A : Around} {E : Value → Shared → Prop}
abbrev nk (X : Cx) : HeapKind X.prog X.w NestedKey := nestedKind X.prog X.w

theorem keys_are (I : Inv X pins σ H s) {ys : List (NestedKey × Addr × Value)} (h : PairY X.K H φ n kvs ys) : ∀ y ∈ ys, (nk X).is s.heap y.1 y.2.1 := by
  induction h with
  | nil => intro y hy; simp at hy
  | cons r _ ih =>
    intro y hy
    rcases List.mem_cons.mp hy with rfl | hy
    · exact ⟨nested_of I _ _ (.ref y.2.1) _ r.2.2.2.1 rfl r.1, r.2.1⟩
    · exact ih y hy
/-- the dict of tuples at a, empty ones too -/
theorem dctT (I : Inv X pins σ H s) (h : Rd H a o) (d : DctAt X.K X.prog X.w H φ n a kvs o) (ht : (kvs.all fun p => isTupK p.1) = true) :
    (a == sysModules) = false ∧ kvs.length ≤ sizeLine ∧ ∃ ys, PairY X.K H φ n kvs ys ∧ s.heap.DictOfH (nk X) a ys := by
  rcases d with ⟨ks, rfl, r⟩ | ⟨ne, xs, rfl, r⟩
  · cases kvs with
    | nil =>
      cases r
      obtain ⟨z, hs, vs, kv, ob, es, ep, h1, h2, h3, h4, h5, h6⟩ : (0 : Nat) ≤ sizeLine ∧ (a == sysModules) = false ∧ ∃ vs, KV [] vs ∧ s.heap.DictOf (mixKind X.prog X.w) a vs := h.ok I.hok
      cases kv
      refine ⟨hs, Nat.zero_le _, [], .nil, ob, es, ep, h1, h2, h3, ?_, fun x hx => by simp at hx, List.nodup_nil⟩
      have e : es.toList = [] := by
        cases q : es.toList with
        | nil => rfl
        | cons x l => rw [q] at h5; cases h5
      rw [e]; rfl
    | cons p l =>
      exfalso
      have q1 := r.allFlat
      simp only [List.all_cons, Bool.and_eq_true] at q1 ht
      exact flat_not_tup q1.1 ht.1
  · obtain ⟨⟨hs, z, ys, q, ob, es, ep, h1, h2, h3, h4, h5⟩, _, _⟩ := h.ok I.hok
    have y := PairY.of r q
    refine ⟨hs, ?_, ys, y, ob, es, ep, h1, h2, h3, h4, keys_are I y, h5⟩
    have e1 := PySem.Paired.length r
    rw [e1]; exact z
/-- .. of flat keys -/
theorem dctF (h : Rd H a o) (d : DctAt X.K X.prog X.w H φ n a kvs o) (ht : (kvs.all fun p => isFlatK p.1) = true) : ∃ ks, Rd H a (.dK ks) ∧ PairS X.K H φ n kvs ks := by
  rcases d with ⟨ks, rfl, r⟩ | ⟨ne, xs, rfl, r⟩
  · exact ⟨ks, h, r⟩
  · cases kvs with
    | nil => exact absurd rfl ne
    | cons p l =>
      exfalso
      have q1 := r.allTup
      simp only [List.all_cons, Bool.and_eq_true] at q1 ht
      exact flat_not_tup ht.1 q1.1
theorem dct_len (I : Inv X pins σ H s) (h : Rd H a o) (d : DctAt X.K X.prog X.w H φ n a kvs o) : kvs.length ≤ sizeLine := by
  rcases id d with ⟨ks, rfl, r⟩ | ⟨ne, xs, rfl, r⟩
  · obtain ⟨z, _⟩ : ks.length ≤ sizeLine ∧ _ := h.ok I.hok
    rw [PySem.Paired.length r]; exact z
  · exact (dctT I h d r.allTup).2.1
theorem key_tup {ds : List D} (h : (keyOks ds && decide (kdeps ds ≤ 7)) = true) : ∃ kk, toKey (.tup ds) = some kk ∧ kk.depth ≤ 8 := by
  simp only [Bool.and_eq_true, decide_eq_true_eq] at h
  obtain ⟨kk, e⟩ := toKey_of (.tup ds) (by simpa [keyOk] using h.1)
  exact ⟨kk, e, by rw [toKey_depth _ _ e]; show kdeps ds + 1 ≤ 8; omega⟩
/-- a key that fits -/
theorem fit_cases {k : D} (h : keyFit kvs k = true) : (∃ kk, flatKey k = some kk ∧ (kvs.all fun p => isFlatK p.1) = true) ∨ ∃ kk, toKey k = some kk ∧ kk.depth ≤ 8 ∧ isTupK k = true ∧ (kvs.all fun p => isTupK p.1) = true := by
  cases k with
  | str x => exact .inl ⟨_, rfl, h⟩
  | int i => exact .inl ⟨_, rfl, h⟩
  | tup ds =>
    simp only [keyFit, Bool.and_eq_true] at h
    obtain ⟨kk, e1, e2⟩ := key_tup (ds := ds) (by simp only [Bool.and_eq_true]; exact h.1)
    exact .inr ⟨kk, e1, e2, rfl, h.2⟩
  | _ => cases h
theorem flat_rep {k : D} {kk : Key} (e : flatKey k = some kk) {y : V} (r : Rep X.K H φ n k y) : y = kV kk := by
  cases k with
  | str x => cases e; exact r
  | int i => cases e; exact r
  | _ => cases e
theorem tup_rep {k : D} (h : isTupK k = true) {y : V} (r : Rep X.K H φ n k y) : ∃ b, y = .ref b := by
  cases k with
  | tup ds => obtain ⟨b, vs, e, _⟩ := r; exact ⟨b, e⟩
  | _ => cases h
theorem nk_is (I : Inv X pins σ H s) {k : D} {kk : NestedKey} {b : Addr} (e : toKey k = some kk) (hd : kk.depth ≤ 8) (r : Rep X.K H φ n k (.ref b)) : (nk X).is s.heap kk b := ⟨nested_of I k _ (.ref b) kk r rfl e, hd⟩

/-- d[k], k there -/
theorem dct_get {k d : D} {y : V} {u : Value} {Q : Value → Shared → Prop} (hu : A.units + 64 < cLine) (I : Inv X pins σ H s) (h : Rd H a o) (dc : DctAt X.K X.prog X.w H φ n a kvs o) (hf : keyFit kvs k = true) (hg : dget k kvs = some d)
    (ry : Rep X.K H φ n k y) (rv : RelV y u) (q : ∀ w s' v, Inv X pins σ H s' → RelV v w → Rep X.K H φ n d v → Q w s') : wpAny (model X.prog X.w) A (getItem (.ref a) u) Q E s := by
  rcases fit_cases hf with ⟨kk, e, al⟩ | ⟨kk, e, ed, et, al⟩
  · obtain ⟨ks, h2, ps⟩ := dctF h dc al
    rcases ps.at e with ⟨h3, _⟩ | ⟨d', v, h3, h4, r⟩
    · rw [hg] at h3; cases h3
    · rw [hg] at h3; cases h3
      have ey := flat_rep e ry
      subst ey
      exact d_getItem (by omega) I (.inl ⟨ks, kk, h2, rfl, h4.symm⟩) rv fun w s' I' rw' => q w s' v I' rw' r
  · obtain ⟨_, _, ys, py, dd⟩ := dctT I h dc al
    obtain ⟨b, rfl⟩ := tup_rep et ry
    cases (show u = .ref b from rv)
    rcases py.at e with ⟨h3, _⟩ | ⟨d', p, v, h3, h4, r1, r2⟩
    · rw [hg] at h3; cases h3
    · rw [hg] at h3; cases h3
      exact wpAny_getItem_heap (show A.units + 1 + 8 < cLine by omega) (nk_is I e ed ry) dd h4 (q _ _ v (I.tok _) r1 r2)
/-- k in d -/
theorem dct_in {k : D} {y : V} {u : Value} {Q : Value → Shared → Prop} (hu : A.units + 64 < cLine) (I : Inv X pins σ H s) (h : Rd H a o) (dc : DctAt X.K X.prog X.w H φ n a kvs o) (hf : keyFit kvs k = true)
    (ry : Rep X.K H φ n k y) (rv : RelV y u) (q : ∀ s', Inv X pins σ H s' → Q (.bool (dget k kvs).isSome) s') : wpAny (model X.prog X.w) A (compareOp .In u (.ref a)) Q E s := by
  rcases fit_cases hf with ⟨kk, e, al⟩ | ⟨kk, e, ed, et, al⟩
  · obtain ⟨ks, h2, ps⟩ := dctF h dc al
    have ey := flat_rep e ry
    subst ey
    refine d_in (by omega) I (.inl ⟨ks, kk, h2, rfl, rfl⟩) rv fun s' I' => ?_
    rcases ps.at e with ⟨h3, h4⟩ | ⟨d', v, h3, h4, r⟩ <;> (rw [h4]; have := q s' I'; rw [h3] at this; exact this)
  · obtain ⟨hs, _, ys, py, dd⟩ := dctT I h dc al
    obtain ⟨b, rfl⟩ := tup_rep et ry
    cases (show u = .ref b from rv)
    refine wpAny_in_heap (show A.units + 1 + 8 < cLine by omega) (nk_is I e ed ry) hs dd ?_
    rcases py.at e with ⟨h3, h4⟩ | ⟨d', p, v, h3, h4, r⟩ <;> (rw [h4]; have := q { s with toks := s.toks + (nk X).draws kk } (I.tok _); rw [h3] at this; exact this)
theorem dct_notIn {k : D} {y : V} {u : Value} {Q : Value → Shared → Prop} (hu : A.units + 64 < cLine) (I : Inv X pins σ H s) (h : Rd H a o) (dc : DctAt X.K X.prog X.w H φ n a kvs o) (hf : keyFit kvs k = true)
    (ry : Rep X.K H φ n k y) (rv : RelV y u) (q : ∀ s', Inv X pins σ H s' → Q (.bool (!(dget k kvs).isSome)) s') : wpAny (model X.prog X.w) A (compareOp .NotIn u (.ref a)) Q E s := by
  rcases fit_cases hf with ⟨kk, e, al⟩ | ⟨kk, e, ed, et, al⟩
  · obtain ⟨ks, h2, ps⟩ := dctF h dc al
    have ey := flat_rep e ry
    subst ey
    refine d_notIn (by omega) I (.inl ⟨ks, kk, h2, rfl, rfl⟩) rv fun s' I' => ?_
    rcases ps.at e with ⟨h3, h4⟩ | ⟨d', v, h3, h4, r⟩ <;> (rw [h4]; have := q s' I'; rw [h3] at this; exact this)
  · obtain ⟨hs, _, ys, py, dd⟩ := dctT I h dc al
    obtain ⟨b, rfl⟩ := tup_rep et ry
    cases (show u = .ref b from rv)
    refine notIn_keyed (knd := nk X) (show A.units + 1 + 8 < cLine by omega) (nk_is I e ed ry) hs ⟨ys, dd, rfl⟩ ?_
    have e3 : (valueAt (pairsH ys) kk) = (atKey ys kk).map (·.2) := valueAt_pairsH ys kk
    rcases py.at e with ⟨h3, h4⟩ | ⟨d', p, v, h3, h4, r⟩ <;> (rw [e3, h4]; have := q { s with toks := s.toks + (nk X).draws kk } (I.tok _); rw [h3] at this; exact this)
/-- d.get(k) -/
theorem dct_get1 {k : D} {y : V} {u : Value} {Q : Value → Shared → Prop} (hu : A.units + 64 < cLine) (I : Inv X pins σ H s) (h : Rd H a o) (dc : DctAt X.K X.prog X.w H φ n a kvs o) (hf : keyFit kvs k = true)
    (ry : Rep X.K H φ n k y) (rv : RelV y u) (q : ∀ w s' v, Inv X pins σ H s' → RelV v w → Rep X.K H φ n ((dget k kvs).getD .non) v → Q w s') : wpAny (model X.prog X.w) A (call (.builtin "dict.get") [.ref a, u]) Q E s := by
  rcases fit_cases hf with ⟨kk, e, al⟩ | ⟨kk, e, ed, et, al⟩
  · obtain ⟨ks, h2, ps⟩ := dctF h dc al
    have ey := flat_rep e ry
    subst ey
    refine d_get1 (by omega) I (.inl ⟨ks, kk, h2, rfl, rfl⟩) rv fun w s' I' rw' => ?_
    rcases ps.at e with ⟨h3, h4⟩ | ⟨d', v, h3, h4, r⟩ <;> rw [h4] at rw' <;> rw [h3] at q
    · exact q w s' .non I' rw' rfl
    · exact q w s' v I' rw' r
  · obtain ⟨hs, _, ys, py, dd⟩ := dctT I h dc al
    obtain ⟨b, rfl⟩ := tup_rep et ry
    cases (show u = .ref b from rv)
    refine get_keyed (knd := nk X) (show A.units + 1 + 8 < cLine by omega) (nk_is I e ed ry) hs ⟨ys, dd, rfl⟩ ?_
    have e3 : (valueAt (pairsH ys) kk) = (atKey ys kk).map (·.2) := valueAt_pairsH ys kk
    rcases py.at e with ⟨h3, h4⟩ | ⟨d', p, v, h3, h4, r1, r2⟩ <;> rw [e3, h4] <;> rw [h3] at q
    · exact q _ _ .non (I.tok _) rfl rfl
    · exact q _ _ v (I.tok _) r1 r2
/-- d.get(k, x) -/
theorem dct_get2 {k x : D} {y z : V} {u r : Value} {Q : Value → Shared → Prop} (hu : A.units + 64 < cLine) (I : Inv X pins σ H s) (h : Rd H a o) (dc : DctAt X.K X.prog X.w H φ n a kvs o) (hf : keyFit kvs k = true)
    (ry : Rep X.K H φ n k y) (rv : RelV y u) (rz : Rep X.K H φ n x z) (rr : RelV z r) (q : ∀ w s' v, Inv X pins σ H s' → RelV v w → Rep X.K H φ n ((dget k kvs).getD x) v → Q w s') :
    wpAny (model X.prog X.w) A (call (.builtin "dict.get") [.ref a, u, r]) Q E s := by
  rcases fit_cases hf with ⟨kk, e, al⟩ | ⟨kk, e, ed, et, al⟩
  · obtain ⟨ks, h2, ps⟩ := dctF h dc al
    have ey := flat_rep e ry
    subst ey
    refine d_get2 (d := z) (by omega) I (.inl ⟨ks, kk, h2, rfl, rfl⟩) rv rr fun w s' I' rw' => ?_
    rcases ps.at e with ⟨h3, h4⟩ | ⟨d', v, h3, h4, r'⟩ <;> rw [h4] at rw' <;> rw [h3] at q
    · exact q w s' z I' rw' rz
    · exact q w s' v I' rw' r'
  · obtain ⟨hs, _, ys, py, dd⟩ := dctT I h dc al
    obtain ⟨b, rfl⟩ := tup_rep et ry
    cases (show u = .ref b from rv)
    refine getOr_keyed (knd := nk X) (show A.units + 1 + 8 < cLine by omega) (nk_is I e ed ry) hs ⟨ys, dd, rfl⟩ ?_
    have e3 : (valueAt (pairsH ys) kk) = (atKey ys kk).map (·.2) := valueAt_pairsH ys kk
    rcases py.at e with ⟨h3, h4⟩ | ⟨d', p, v, h3, h4, r1, r2⟩ <;> rw [e3, h4] <;> rw [h3] at q
    · exact q _ _ z (I.tok _) rr rz
    · exact q _ _ v (I.tok _) r1 r2

/-! ### what changes a dict -/
theorem dct_wrt (d : DctAt X.K X.prog X.w H φ n a kvs o) (h : H a = some o) : Wrt (H a) ∧ Mut (H a) := by
  rcases d with ⟨ks, rfl, r⟩ | ⟨ne, xs, rfl, r⟩
  · rw [h]; exact ⟨⟨fun ys => by simp, fun b ys => by simp, fun b ys => by simp⟩, trivial⟩
  · rw [h]; exact ⟨⟨fun ys => by simp [DX], fun b ys => by simp [DX], fun b ys => by simp [DX]⟩, trivial⟩
theorem rep_upd {o' : HO} (hw : Wrt (H a)) {d : D} {v : V} (r : Rep X.K H φ n d v) : Rep X.K (upd H a o') φ n d v := Rep.mono (Kp.upd hw) (fun _ _ => rfl) (Nat.le_refl _) d v r
theorem pairY_upd {o' : HO} (hw : Wrt (H a)) {ys : List (NestedKey × Addr × Value)} (h : PairY X.K H φ n kvs ys) : PairY X.K (upd H a o') φ n kvs ys :=
  PySem_Paired_mono h fun p q ⟨r1, r2, r3, r4, v, r5, r6⟩ => ⟨r1, r2, r3, rep_upd hw r4, v, r5, rep_upd hw r6⟩
theorem pairS_upd {o' : HO} (hw : Wrt (H a)) {ks : List (Key × V)} (h : PairS X.K H φ n kvs ks) : PairS X.K (upd H a o') φ n kvs ks := PySem_Paired_mono h fun p q ⟨r1, r2⟩ => ⟨r1, rep_upd hw r2⟩
theorem paired_len_xs {xs : List KEnt} {ys : List (NestedKey × Addr × Value)} (h : PySem.Paired (fun (p : KEnt) (q : NestedKey × Addr × Value) => p.1 = q.1 ∧ p.2.1 = q.2.1 ∧ RelV p.2.2 q.2.2) xs ys) : xs.length = ys.length := PySem.Paired.length h
/-- the heap behind a write of a dict of tuples -/
theorem dx_put {h' : Heap} {t' : Nat} {ys : List (NestedKey × Addr × Value)} (I : Inv X pins σ H s) (d : DctAt X.K X.prog X.w H φ n a kvs o) (h : H a = some o) (hs : (a == sysModules) = false) {kvs' : List (D × D)} (hl : kvs'.length ≤ sizeLine) (ne : kvs' ≠ [])
    (sb : Heap.SameBut a s.heap h') (dd : h'.DictOfH (nk X) a ys) (py : PairY X.K H φ n kvs' ys) :
    ∃ o', Inv X pins σ (upd H a o') { s with heap := h', toks := t' } ∧ DctAt X.K X.prog X.w (upd H a o') φ n a kvs' o' := by
  obtain ⟨hw, hm⟩ := dct_wrt d h
  obtain ⟨xs, h1, h2⟩ := py.split
  obtain ⟨ob, es, ep, e1, e2, e3, e4, e5, e6⟩ := dd
  refine ⟨DX X.prog X.w a xs, d_write I hm sb ⟨ob, e1⟩ ⟨⟨hs, ?_, ys, h2, ob, es, ep, e1, e2, e3, e4, e6⟩, ⟨ob, e1⟩, fun g1 g2 ⟨k1, k2, zs, k3, o2, es2, ep2, k4, k5⟩ st => ⟨k1, k2, zs, k3, o2, es2, ep2, st _ k4, k5⟩⟩, .inr ⟨ne, xs, rfl, ?_⟩⟩
  · rw [← PySem.Paired.length h1]; exact hl
  · exact PySem_Paired_mono h1 fun p q ⟨r1, r2, r3, r4, r5⟩ => ⟨r1, r2, r3, rep_upd hw r4, rep_upd hw r5⟩
theorem dput_ne (k v : D) (kvs : List (D × D)) : dput k v kvs ≠ [] := by
  unfold dput
  cases kvs with
  | nil => simp [dget]
  | cons p l => split <;> simp
theorem dput_len (k v : D) (kvs : List (D × D)) : (dput k v kvs).length ≤ kvs.length + 1 := by
  unfold dput
  split <;> simp
/-- d[k] = x -/
theorem dct_set {k x : D} {y z : V} {u r : Value} {Q : Unit → Shared → Prop} (hu : A.units + 64 < cLine) (I : Inv X pins σ H s) (h : H a = some o) (dc : DctAt X.K X.prog X.w H φ n a kvs o) (hf : keyFit kvs k = true) (hl : kvs.length < sizeLine)
    (ry : Rep X.K H φ n k y) (rv : RelV y u) (rz : Rep X.K H φ n x z) (rr : RelV z r) (q : ∀ s' o', Inv X pins σ (upd H a o') s' → DctAt X.K X.prog X.w (upd H a o') φ n a (dput k x kvs) o' → Q () s') :
    wpAny (model X.prog X.w) A (setItem (.ref a) u r) Q E s := by
  obtain ⟨hw, hm⟩ := dct_wrt dc h
  rcases fit_cases hf with ⟨kk, e, al⟩ | ⟨kk, e, ed, et, al⟩
  · obtain ⟨ks, h2, ps⟩ := dctF (.inl h) dc al
    have ey := flat_rep e ry
    subst ey
    have h3 : H a = some (.dK ks) := by
      rcases dc with ⟨ks', rfl, r⟩ | ⟨ne, xs, rfl, r⟩
      · rcases h2 with h2 | ⟨ob, h2⟩
        · exact h2
        · rw [h] at h2; cases h2
      · rcases h2 with h2 | ⟨ob, h2⟩ <;> rw [h] at h2 <;> cases h2
    exact d_setItem (by omega) I (.inl ⟨ks, kk, h3, rfl, by rw [← PySem.Paired.length ps]; exact hl, rfl⟩) rv rr fun s' I' => q s' _ I' (.inl ⟨_, rfl, pairS_upd hw (ps.put e rz)⟩)
  · obtain ⟨hs, _, ys, py, dd⟩ := dctT I (.inl h) dc al
    obtain ⟨b, rfl⟩ := tup_rep et ry
    cases (show u = .ref b from rv)
    refine wpAny_setItem_heap (hsz := by rw [← PySem.Paired.length py]; omega) (show A.units + 1 + 8 < cLine by omega) (nk_is I e ed ry) dd fun h' dd' sb => ?_
    obtain ⟨o', I', d'⟩ := dx_put (t' := s.toks + (nk X).draws kk) I dc h hs (by have := dput_len k x kvs; omega) (dput_ne k x kvs) sb dd' (py.put e ed et ry rr rz)
    exact q _ o' I' d'
end
end M3
end

section
set_option autoImplicit false
set_option linter.all false
set_option maxRecDepth 100000
set_option maxHeartbeats 1000000
/-! M3: comparisons, items, classes. -/
namespace M3
open PySem PySem.Spec L2
section
variable {K : PySem.W.Frag} {P : Program} {w : World} {W : Wd} {H0 : Hp}
mutual
theorem rdd_dp (s : Sim K P w W) : ∀ (p : PyData) (d : D) (v : V), Rdd W.S p d → W.rep K d v → Dp K W.H v p
  | .none, d, v, h, r => by cases (show d = .non from h); cases (show v = .non from r); exact .non
  | .bool b, d, v, h, r => by cases (show d = .bl b from h); cases (show v = .bl b from r); exact .bl b
  | .int i, d, v, h, r => by cases (show d = .int i from h); cases (show v = .int i from r); exact .int i
  | .str x, d, v, h, r => by cases (show d = .str x from h); cases (show v = .str x from r); exact .str x
  | .tuple xs, d, v, h, r => by
    obtain ⟨ds, rfl, h⟩ := h
    obtain ⟨a, vs, rfl, q, r⟩ := (show W.rep K (.tup ds) v from r)
    exact .tup q (rdds_dp s xs ds vs h r)
  | .list xs, d, v, h, r => by
    obtain ⟨ds, hc, h⟩ := h
    rcases hc with rfl | ⟨l, rfl, hc⟩
    · obtain ⟨a, vs, rfl, q, r⟩ := (show W.rep K (.kl ds) v from r)
      exact .lst q.sq (rdds_dp s xs ds vs h r)
    obtain ⟨hl, rfl⟩ := (show W.rep K (.ref l) v from r)
    rcases hc with hc | hc
    · obtain ⟨vs, q, r⟩ := (s.cells l _ hc).2
      exact .lst (SqL.of q) (rdds_dp s xs ds vs h r)
    · obtain ⟨vs, q, r⟩ := (s.cells l _ hc).2
      exact .lst q (rdds_dp s xs ds vs h r)
  | .dict _, d, v, h, r => h.elim
theorem rdds_dp (s : Sim K P w W) : ∀ (ps : List PyData) (ds : List D) (vs : List V), Rdds W.S ps ds → W.reps K ds vs → DpAll K W.H vs ps
  | [], ds, vs, h, r => by cases (show ds = [] from h); cases (show vs = [] from r); exact .nil
  | p :: ps, ds, vs, h, r => by
    obtain ⟨d, t, rfl, h1, h2⟩ := h
    obtain ⟨v, vr, rfl, r1, r2⟩ := (show W.reps K (d :: t) vs from r)
    exact .cons (rdd_dp s p d v h1 r1) (rdds_dp s ps t vr h2 r2)
end
theorem rddZ_dp (s : Sim K P w W) {p : PyData} {z : Rz} {v : V} (h : RdZ W.S p z) (r : RepZ K P w H0 W z v) : Dp K W.H v p := by
  cases z with
  | val d => exact rdd_dp s p d v h r
  | lst ds =>
    obtain ⟨xs, rfl, h⟩ := h
    obtain ⟨a, vs, rfl, _, _, q, r⟩ := r
    exact .lst (SqL.of q) (rdds_dp s xs ds vs h r)
  | cst ds =>
    obtain ⟨xs, rfl, h⟩ := h
    obtain ⟨a, vs, rfl, q, r⟩ := r
    exact .lst (q _) (rdds_dp s xs ds vs h r)
  | _ => exact h.elim
end
section
variable {X : Cx} {prg : Prg} {n : Nat} {W00 : Wd} {E : Nat → Env → Store → Prop} {a b e : Expr} {ca cb c : CE} {pos : Pos}
/-- x in a tuple, by data -/
theorem op_inTup (hu : X.A.units + 65 < cLine) : OpR X (compareOp .In) (fun x y H Q => ∃ d ds, Dp X.K H x d ∧ Dp X.K H y (.tuple ds) ∧ SeqAt.shaped d = true ∧ SeqAt.shaped (.tuple ds) = true ∧ Q (.bl (ds.any fun z => PyData.eqv z d)) H) := by
  rintro pins s σ H x y v u Q I rx ry ⟨d, ds, hd, he, sd, se, q⟩
  obtain ⟨l1, r1⟩ := Dp.reads I d x v hd rx
  obtain ⟨l2, r2⟩ := Dp.reads I (.tuple ds) y u he ry
  exact SeqAt.in_tuple_reads r2 r1 (SeqAt.canLay_of_shaped se) (SeqAt.canLay_of_shaped sd) (PyProof.Rows.room_in_shaped sd hu) ⟨.bl _, H, I, rfl, q⟩
theorem op_ninTup (hu : X.A.units + 65 < cLine) : OpR X (compareOp .NotIn) (fun x y H Q => ∃ d ds, Dp X.K H x d ∧ Dp X.K H y (.tuple ds) ∧ SeqAt.shaped d = true ∧ SeqAt.shaped (.tuple ds) = true ∧ Q (.bl (!ds.any fun z => PyData.eqv z d)) H) := by
  rintro pins s σ H x y v u Q I rx ry ⟨d, ds, hd, he, sd, se, q⟩
  obtain ⟨l1, r1⟩ := Dp.reads I d x v hd rx
  obtain ⟨l2, r2⟩ := Dp.reads I (.tuple ds) y u he ry
  exact SeqAt.notIn_tuple_reads r2 r1 (SeqAt.canLay_of_shaped se) (SeqAt.canLay_of_shaped sd) (PyProof.Rows.room_in_shaped sd hu) ⟨.bl _, H, I, rfl, q⟩
def rInX (X : Cx) : R2 := fun x y H Q => ∃ a o kvs k φ m, y = .ref a ∧ L2.Rd H a o ∧ DctAt X.K X.prog X.w H φ m a kvs o ∧ keyFit kvs k = true ∧ Rep X.K H φ m k x ∧ Q (.bl (dget k kvs).isSome) H
def rNinX (X : Cx) : R2 := fun x y H Q => ∃ a o kvs k φ m, y = .ref a ∧ L2.Rd H a o ∧ DctAt X.K X.prog X.w H φ m a kvs o ∧ keyFit kvs k = true ∧ Rep X.K H φ m k x ∧ Q (.bl (!(dget k kvs).isSome)) H
theorem op_inX (hu : X.A.units + 65 < cLine) : OpR X (compareOp .In) (rInX X) := by
  rintro pins s σ H x y v u Q I rx ry ⟨a, o, kvs, k, φ, m, rfl, h, d, f, r, q⟩
  cases (show u = .ref a from ry)
  exact dct_in (by omega) I h d f r rx fun s' I' => ⟨.bl _, H, I', rfl, q⟩
theorem op_ninX (hu : X.A.units + 65 < cLine) : OpR X (compareOp .NotIn) (rNinX X) := by
  rintro pins s σ H x y v u Q I rx ry ⟨a, o, kvs, k, φ, m, rfl, h, d, f, r, q⟩
  cases (show u = .ref a from ry)
  exact dct_notIn (by omega) I h d f r rx fun s' I' => ⟨.bl _, H, I', rfl, q⟩
def rCmp (X : Cx) : COp → R2
  | .lt => rI0 fun i j => .bl (decide (i < j))
  | .le => rI0 fun i j => .bl (decide (i ≤ j))
  | .gt => rI0 fun i j => .bl (decide (j < i))
  | .ge => rI0 fun i j => .bl (decide (j ≤ i))
  | .eq => fun x y H Q => rEq x y H Q ∨ rEqD X.K x y H Q
  | .ne => fun x y H Q => rNe x y H Q ∨ rNeD X.K x y H Q
  | .is => fun x y H Q => (y = .non ∧ Q (.bl (decide (x = .non))) H) ∨ ∃ a b, x = .bl a ∧ y = .bl b ∧ Q (.bl (decide (a = b))) H
  | .isn => fun x y H Q => (y = .non ∧ Q (.bl (!decide (x = .non))) H) ∨ ∃ a b, x = .bl a ∧ y = .bl b ∧ Q (.bl (!decide (a = b))) H
  | .inn => fun x y H Q => (∃ i j, x = .str i ∧ y = .str j ∧ Q (.bl (!(Builtin.Str.occurrences j i 0 j.length 1).isEmpty)) H) ∨ rInD X.K x y H Q ∨
      (∃ d ds, Dp X.K H x d ∧ Dp X.K H y (.tuple ds) ∧ SeqAt.shaped d = true ∧ SeqAt.shaped (.tuple ds) = true ∧ Q (.bl (ds.any fun z => PyData.eqv z d)) H) ∨ rInX X x y H Q
  | .nin => fun x y H Q => (∃ i j, x = .str i ∧ y = .str j ∧ Q (.bl (!(!(Builtin.Str.occurrences j i 0 j.length 1).isEmpty))) H) ∨ rNotInD X.K x y H Q ∨
      (∃ d ds, Dp X.K H x d ∧ Dp X.K H y (.tuple ds) ∧ SeqAt.shaped d = true ∧ SeqAt.shaped (.tuple ds) = true ∧ Q (.bl (!ds.any fun z => PyData.eqv z d)) H) ∨ rNinX X x y H Q
def cmpOf : COp → CmpOp
  | .lt => .Lt | .le => .LtE | .gt => .Gt | .ge => .GtE | .eq => .Eq | .ne => .NotEq | .is => .Is | .isn => .IsNot | .inn => .In | .nin => .NotIn
theorem op_cmp (hu : X.A.units + 65 < cLine) (o : COp) : OpR X (compareOp (cmpOf o)) (rCmp X o) := by
  cases o with
  | lt => exact op_lt
  | le => exact op_le
  | gt => exact op_gt
  | ge => exact op_ge
  | eq => exact op_eq.or (op_eqD (by omega))
  | ne => exact op_ne.or (op_neD (by omega))
  | is => exact op_isN.or op_is_bl
  | isn => exact op_notN.or op_isnot_bl
  | inn => exact op_in_str.or ((op_inD hu).or ((op_inTup hu).or (op_inX hu)))
  | nin => exact op_notin_str.or ((op_notInD hu).or ((op_ninTup hu).or (op_ninX hu)))
theorem not_non {W W0 : Wd} {z : Rz} {v : V} (r : RepZ X.K X.prog X.w W0.H W z v) : decide (v = .non) = isNon z := by
  cases z with
  | val d =>
    cases d with
    | non => cases (show v = .non from r); rfl
    | bl _ => cases (show v = .bl _ from r); rfl
    | int _ => cases (show v = .int _ from r); rfl
    | str _ => cases (show v = .str _ from r); rfl
    | ref _ => obtain ⟨_, rfl⟩ := (show W.rep X.K (.ref _) v from r); rfl
    | tup _ => obtain ⟨_, _, rfl, _⟩ := (show W.rep X.K (.tup _) v from r); rfl
    | kl _ => obtain ⟨_, _, rfl, _⟩ := (show W.rep X.K (.kl _) v from r); rfl
  | lst _ => obtain ⟨_, _, rfl, _⟩ := r; rfl
  | cst _ => obtain ⟨_, _, rfl, _⟩ := r; rfl
  | dct _ => obtain ⟨_, _, rfl, _⟩ := r; rfl
  | set _ => exact r.elim
theorem inZ_go {W W0 : Wd} {x y : Rz} {v u : V} {R : Bool → Prop} (s : Sim X.K X.prog X.w W) (rx : RepZ X.K X.prog X.w W0.H W x v) (ry : RepZ X.K X.prog X.w W0.H W y u) (h : inZ x y W.S R) :
    (∃ i j, v = .str i ∧ u = .str j ∧ R (!(Builtin.Str.occurrences j i 0 j.length 1).isEmpty)) ∨ (∃ d ds, Dp X.K W.H v d ∧ Dp X.K W.H u (.list ds) ∧ SeqAt.shaped d = true ∧ SeqAt.shaped (.list ds) = true ∧ R (ds.any fun z => PyData.eqv z d)) ∨
      (∃ d ds, Dp X.K W.H v d ∧ Dp X.K W.H u (.tuple ds) ∧ SeqAt.shaped d = true ∧ SeqAt.shaped (.tuple ds) = true ∧ R (ds.any fun z => PyData.eqv z d)) ∨
      ∃ a o kvs k φ m, u = .ref a ∧ L2.Rd W.H a o ∧ DctAt X.K X.prog X.w W.H φ m a kvs o ∧ keyFit kvs k = true ∧ Rep X.K W.H φ m k v ∧ R (dget k kvs).isSome := by
  have lst : ∀ {xs : List D} {q : Addr} {vs : List V}, u = .ref q → SqL X.K W.H q vs → W.reps X.K xs vs → (∃ p ps, RdZ W.S p x ∧ Rdds W.S ps xs ∧ SeqAt.shaped p = true ∧ SeqAt.shaped (.list ps) = true ∧ R (ps.any fun q => PyData.eqv q p)) →
      ∃ d ds, Dp X.K W.H v d ∧ Dp X.K W.H u (.list ds) ∧ SeqAt.shaped d = true ∧ SeqAt.shaped (.list ds) = true ∧ R (ds.any fun z => PyData.eqv z d) := by
    rintro xs q vs rfl hq hr ⟨p, ps, h1, h2, h3, h4, h5⟩
    exact ⟨p, ps, rddZ_dp s h1 rx, .lst hq (rdds_dp s ps xs vs h2 hr), h3, h4, h5⟩
  unfold inZ at h
  split at h
  · split at h
    · cases (show v = .str _ from rx); cases (show u = .str _ from ry)
      exact .inl ⟨_, _, rfl, rfl, h⟩
    · exact h.elim
  · obtain ⟨p, ps, h1, h2, h3, h4, h5⟩ := h
    obtain ⟨q, vs, rfl, hq, hr⟩ := (show W.rep X.K (.tup _) u from ry)
    exact .inr (.inr (.inl ⟨p, ps, rddZ_dp s h1 rx, .tup hq (rdds_dp s ps _ vs h2 hr), h3, h4, h5⟩))
  · obtain ⟨q, vs, e, _, _, hq, hr⟩ := ry
    exact .inr (.inl (lst e (SqL.of hq) hr h))
  · obtain ⟨q, vs, e, hq, hr⟩ := (show W.rep X.K (.kl _) u from ry)
    exact .inr (.inl (lst e hq.sq hr h))
  · obtain ⟨q, vs, e, hq, hr⟩ := ry
    exact .inr (.inl (lst e (hq _) hr h))
  · rename_i l
    obtain ⟨hl, e⟩ := (show W.rep X.K (.ref l) u from ry)
    split at h
    · rename_i xs hc
      obtain ⟨vs, hq, hr⟩ := (s.cells l _ hc).2
      exact .inr (.inl (lst e (SqL.of hq) hr h))
    · rename_i xs hc
      obtain ⟨vs, hq, hr⟩ := (s.cells l _ hc).2
      exact .inr (.inl (lst e hq hr h))
    · rename_i kvs hc
      obtain ⟨o, hq, hd⟩ := (s.cells l _ hc).2
      split at h
      · exact .inr (.inr (.inr ⟨_, o, kvs, _, W.φ, W.S.nx, e, .inl hq, hd, h.1, rx, h.2⟩))
      · exact h.elim
    · rename_i kvs hc
      obtain ⟨od, o, hq, hd⟩ := (s.cells l _ hc).2
      split at h
      · exact .inr (.inr (.inr ⟨_, o, kvs, _, W.φ, W.S.nx, e, .inr ⟨od, hq⟩, hd, h.1, rx, h.2⟩))
      · exact h.elim
    · exact h.elim
  · exact h.elim
theorem cmp_go (o : COp) (W0 W : Wd) (x y : Rz) (v u : V) (Qd : Rz → Store → Prop) (Q : VK) (s : Sim X.K X.prog X.w W) (rx : RepZ X.K X.prog X.w W0.H W x v) (ry : RepZ X.K X.prog X.w W0.H W y u) (h : cmpZ o x y W.S Qd)
    (fin : ∀ (b : Bool), Qd (.val (.bl b)) W.S → Q (.bl b) W.H) : rCmp X o v u W.H Q := by
  unfold cmpZ at h
  split at h
  · cases (show v = .int _ from rx); cases (show u = .int _ from ry); exact ⟨_, _, rfl, rfl, fin _ h⟩
  · cases (show v = .int _ from rx); cases (show u = .int _ from ry); exact ⟨_, _, rfl, rfl, fin _ h⟩
  · cases (show v = .int _ from rx); cases (show u = .int _ from ry); exact ⟨_, _, rfl, rfl, fin _ h⟩
  · cases (show v = .int _ from rx); cases (show u = .int _ from ry); exact ⟨_, _, rfl, rfl, fin _ h⟩
  · cases (show u = .non from ry)
    exact .inl ⟨rfl, by rw [not_non rx]; exact fin _ h⟩
  · cases (show u = .non from ry)
    exact .inl ⟨rfl, by rw [not_non rx]; exact fin _ h⟩
  · cases (show v = .bl _ from rx); cases (show u = .bl _ from ry)
    exact .inr ⟨_, _, rfl, rfl, by rw [← Bool.beq_eq_decide_eq]; exact fin _ h⟩
  · cases (show v = .bl _ from rx); cases (show u = .bl _ from ry)
    exact .inr ⟨_, _, rfl, rfl, by rw [← Bool.beq_eq_decide_eq]; exact fin _ h⟩
  · cases (show v = .int _ from rx); cases (show u = .int _ from ry)
    exact .inl ⟨rfl, by simpa using fin _ h⟩
  · cases (show v = .int _ from rx); cases (show u = .int _ from ry)
    exact .inl ⟨rfl, by simpa using fin _ h⟩
  · cases (show v = .bl _ from rx); cases (show u = .bl _ from ry)
    exact .inl ⟨rfl, by simpa using fin _ h⟩
  · cases (show v = .bl _ from rx); cases (show u = .bl _ from ry)
    exact .inl ⟨rfl, by simpa using fin _ h⟩
  · cases (show v = .str _ from rx); cases (show u = .str _ from ry)
    exact .inl ⟨rfl, by simpa using fin _ h⟩
  · cases (show v = .str _ from rx); cases (show u = .str _ from ry)
    exact .inl ⟨rfl, by simpa using fin _ h⟩
  · obtain ⟨p, q, h1, h2, h3, h4, h5⟩ := h
    exact .inr ⟨p, q, rddZ_dp s h1 rx, rddZ_dp s h2 ry, h3, h4, fin _ h5⟩
  · obtain ⟨p, q, h1, h2, h3, h4, h5⟩ := h
    exact .inr ⟨p, q, rddZ_dp s h1 rx, rddZ_dp s h2 ry, h3, h4, fin _ h5⟩
  · rcases inZ_go s rx ry h with ⟨i, j, e1, e2, q⟩ | ⟨d, ds, q1, q2, q3, q4, q⟩ | ⟨d, ds, q1, q2, q3, q4, q⟩ | ⟨a, o, kvs, kk, φ, m, e, q1, q2, q3, q4, q⟩
    · exact .inl ⟨i, j, e1, e2, fin _ q⟩
    · exact .inr (.inl ⟨d, ds, q1, q2, q3, q4, fin _ q⟩)
    · exact .inr (.inr (.inl ⟨d, ds, q1, q2, q3, q4, fin _ q⟩))
    · exact .inr (.inr (.inr ⟨a, o, kvs, kk, φ, m, e, q1, q2, q3, q4, fin _ q⟩))
  · rcases inZ_go s rx ry h with ⟨i, j, e1, e2, q⟩ | ⟨d, ds, q1, q2, q3, q4, q⟩ | ⟨d, ds, q1, q2, q3, q4, q⟩ | ⟨a, o, kvs, kk, φ, m, e, q1, q2, q3, q4, q⟩
    · exact .inl ⟨i, j, e1, e2, fin _ q⟩
    · exact .inr (.inl ⟨d, ds, q1, q2, q3, q4, fin _ q⟩)
    · exact .inr (.inr (.inl ⟨d, ds, q1, q2, q3, q4, fin _ q⟩))
    · exact .inr (.inr (.inr ⟨a, o, kvs, kk, φ, m, e, q1, q2, q3, q4, fin _ q⟩))
  · exact h.elim
theorem opd_cmp (o : COp) : OpD X (rCmp X o) (cmpZ o) := fun W0 W x y v u Qd Q s rx ry h k => cmp_go o W0 W x y v u Qd Q s rx ry h fun b q => fin_val (d := .bl b) s q rfl k
theorem de_cmp {o : COp} (hu : X.A.units + 65 < cLine) (ha : DE X prg n W00 E a ca) (hb : DE X prg n W00 E b cb) (hm : behindInMarks (cmpOf o) b = false) : DE X prg n W00 E (.Compare a [cmpOf o] [b] pos) (.cmp o ca cb) :=
  de_two (R := cmpZ o) (pe_cmpR (op_cmp hu o) ha hb hm) (fun σ S Q h => by simpa only [wpE] using h) (opd_cmp o)
end
end M3
end

section
set_option autoImplicit false
set_option linter.all false
set_option maxRecDepth 100000
set_option maxHeartbeats 1000000
/-! M3: chains, choices, items, slices, classes. -/
namespace M3
open PySem PySem.Spec PyProof.Rows L2
section
variable {X : Cx} {prg : Prg} {n : Nat} {W00 : Wd} {E : Nat → Env → Store → Prop} {a b c e : Expr} {ca cb cc : CE} {pos p2 : Pos}
theorem de_cmp2 {o1 o2 : COp} (hu : X.A.units + 65 < cLine) (ha : DE X prg n W00 E a ca) (hb : DE X prg n W00 E b cb) (hc : DE X prg n W00 E c cc) (hm : lastMarks [cmpOf o1, cmpOf o2] [b, c] = false) :
    DE X prg n W00 E (.Compare a [cmpOf o1, cmpOf o2] [b, c] pos) (.cmp2 o1 o2 ca cb cc) := by
  refine PE.imp (pe_chain (op_cmp hu o1) (op_cmp hu o2) ha hb hc hm) fun σ H Q ⟨W, σd, Qd, e1, s, ev, ex, h, k⟩ => ?_
  subst e1
  simp only [wpE] at h
  refine ⟨W, σd, _, rfl, s, ev, ex, h, fun x W1 v h1 s1 x1 r1 => ?_⟩
  refine ⟨W1, σd, _, rfl, s1, ev.ext x1, ex.trans x1, h1, fun y W2 u h2 s2 x2 r2 => ?_⟩
  refine opd_cmp o1 W W2 x y v u _ _ s2 (r1.ext x2) (r2.base x1.live) h2 fun z W3 v' h3 s3 x3 r3 => ?_
  split at h3
  · cases (show v' = .bl true from r3)
    refine ⟨true, rfl, ?_⟩
    rw [if_pos rfl]
    refine ⟨W3, σd, _, rfl, s3, ((ev.ext x1).ext x2).ext x3, ((ex.trans x1).trans x2).trans x3, h3, fun w W4 u' h4 s4 x4 r4 => ?_⟩
    refine opd_cmp o2 W1 W4 y w u u' _ _ s4 ((r2.ext x3).ext x4) (r4.base fun a h => x2.live _ (x3.live _ h)) h4 fun z' W5 v5 h5 s5 x5 r5 => ?_
    exact k z' W5 v5 h5 s5 ((((x1.trans x2).trans x3).trans x4).trans x5) (r5.base (((x1.trans x2).trans x3).trans x4).live)
  · cases (show v' = .bl false from r3)
    refine ⟨false, rfl, ?_⟩
    rw [if_neg Bool.false_ne_true]
    exact k _ W3 _ h3 s3 ((x1.trans x2).trans x3) rfl
  · exact h3.elim
theorem de_ife (hc : DT X prg n W00 E c cc) (ha : DE X prg n W00 E a ca) (hb : DE X prg n W00 E b cb) : DE X prg n W00 E (.IfExp c a b pos) (.ife cc ca cb) := by
  refine PE.imp (pe_ifExp hc ha hb) fun σ H Q ⟨W, σd, Qd, e1, s, ev, ex, h, k⟩ => ?_
  subst e1
  simp only [wpE] at h
  refine ⟨W, σd, _, rfl, s, ev, ex, h, fun t W1 h1 s1 x1 => ?_⟩
  cases t with
  | true => exact ⟨W1, σd, _, rfl, s1, ev.ext x1, ex.trans x1, h1, fun z W2 u h2 s2 x2 r2 => k z W2 u h2 s2 (x1.trans x2) (r2.base x1.live)⟩
  | false => exact ⟨W1, σd, _, rfl, s1, ev.ext x1, ex.trans x1, h1, fun z W2 u h2 s2 x2 r2 => k z W2 u h2 s2 (x1.trans x2) (r2.base x1.live)⟩

/-! ### items -/
theorem ixN_place (m : Nat) (i : Int) : ixN m i = place m i := by
  unfold ixN place
  by_cases h : 0 ≤ i
  · rw [if_pos h, if_pos h]
  · rw [if_neg h, if_neg h]
    by_cases z : -(m : Int) ≤ i
    · rw [if_pos z, if_pos (by omega)]
    · rw [if_neg z, if_neg (by omega)]
theorem atI_of {K : PySem.W.Frag} {H : Hp} {φ : Nat → Addr} {m : Nat} {xs : List D} {vs : List V} {i : Int} {j : Nat} {d : D} (r : Reps K H φ m xs vs) (h : place xs.length i = some j) (e : xs[j]? = some d) : ∃ v, atI vs i = some v ∧ Rep K H φ m d v := by
  obtain ⟨v, h1, h2⟩ := r.get e
  exact ⟨v, by unfold atI; rw [r.length, ixN_place, h]; exact h1, h2⟩
/-- d[k], any dict -/
def rIxDct (X : Cx) : R2 := fun x y H Q => ∃ a o kvs k d φ m, x = .ref a ∧ L2.Rd H a o ∧ DctAt X.K X.prog X.w H φ m a kvs o ∧ keyFit kvs k = true ∧ dget k kvs = some d ∧ Rep X.K H φ m k y ∧ ∀ z, Rep X.K H φ m d z → Q z H
theorem dct_ty {pins : List (Addr × Obj)} {σ : L2.St} {H : Hp} {s : Shared} {φ : Nat → Addr} {m : Nat} {a : Addr} {kvs : List (D × D)} {o : HO} (I : L2.Inv X pins σ H s) (h : L2.Rd H a o) (d : DctAt X.K X.prog X.w H φ m a kvs o) :
    ∃ ob : Obj, s.heap.get? a = some ob ∧ ob.cls = .type "dict" := by
  rcases id d with ⟨ks, rfl, r⟩ | ⟨ne, xs, rfl, r⟩
  · obtain ⟨z, hs, vs, kv, ob, es, ep, h1, h2, _⟩ : ks.length ≤ sizeLine ∧ (a == sysModules) = false ∧ ∃ vs, KV ks vs ∧ s.heap.DictOf (mixKind X.prog X.w) a vs := h.ok I.hok
    exact ⟨ob, h1, h2.1⟩
  · obtain ⟨_, _, ys, py, ob, es, ep, h1, h2, _⟩ := dctT I h d r.allTup
    exact ⟨ob, h1, h2.1⟩
theorem ix_dct (hu : X.A.units + 64 < cLine) : IxR X (rIxDct X) := by
  rintro value slice pins s σ H x y v u Q I rx ry ⟨a, o, kvs, k, d, φ, m, rfl, h, dc, hf, hg, r, q⟩ hs
  cases (show v = .ref a from rx)
  obtain ⟨ob, h1, h2⟩ := dct_ty I h dc
  exact tail_any (show s.TypeIs (.ref a) "dict" from ⟨ob, h1, h2⟩) slot_dict_getitem.lookup (dct_get hu I h dc hf hg r ry fun w s' v I' rw' rd => ⟨v, H, I', rw', q v rd⟩) hs
def rIdx (X : Cx) : R2 := fun x y H Q => rIxDct X x y H Q ∨ rIx X.K x y H Q
theorem opd_idx : OpD X (rIdx X) idxZ := by
  intro W0 W x y v u Qd Q s rx ry h k
  have lst : ∀ {xs : List D} {i : Int} {j : Nat} {d : D} {q : Addr} {vs : List V}, v = .ref q → u = .int i → SqL X.K W.H q vs → W.reps X.K xs vs → place xs.length i = some j → xs[j]? = some d → Qd (.val d) W.S → rIdx X v u W.H Q := by
    rintro xs i j d q vs rfl rfl hq hr hp hx hQ
    obtain ⟨z, h1, h2⟩ := atI_of hr hp hx
    exact .inr (.inl ⟨q, vs, i, z, rfl, rfl, hq, h1, fin_val s hQ h2 k⟩)
  unfold idxZ at h
  split at h
  · rename_i l kk
    obtain ⟨hl, e⟩ := (show W.rep X.K (.ref l) v from rx)
    split at h
    · rename_i kvs hc
      obtain ⟨o, hq, hd⟩ := (s.cells l _ hc).2
      obtain ⟨h1, d, h2, h3⟩ := h
      exact .inl ⟨_, o, kvs, kk, d, W.φ, W.S.nx, e, .inl hq, hd, h1, h2, ry, fun z rz => fin_val s h3 rz k⟩
    · rename_i kvs hc
      obtain ⟨od, o, hq, hd⟩ := (s.cells l _ hc).2
      obtain ⟨h1, d, h2, h3⟩ := h
      exact .inl ⟨_, o, kvs, kk, d, W.φ, W.S.nx, e, .inr ⟨od, hq⟩, hd, h1, h2, ry, fun z rz => fin_val s h3 rz k⟩
    · rename_i xs hc
      obtain ⟨vs, hq, hr⟩ := (s.cells l _ hc).2
      obtain ⟨i, j, d, rfl, h1, h2, h3⟩ := h
      exact lst e ry (SqL.of hq) hr h1 h2 h3
    · rename_i xs hc
      obtain ⟨vs, hq, hr⟩ := (s.cells l _ hc).2
      obtain ⟨i, j, d, rfl, h1, h2, h3⟩ := h
      exact lst e ry hq hr h1 h2 h3
    · exact h.elim
  · obtain ⟨j, d, h1, h2, h3⟩ := h
    obtain ⟨a, vs, rfl, hq, hr⟩ := (show W.rep X.K (.tup _) v from rx)
    cases (show u = .int _ from ry)
    obtain ⟨z, e1, e2⟩ := atI_of hr h1 h2
    exact .inr (.inr (.inl ⟨a, vs, _, z, rfl, rfl, hq, e1, fin_val s h3 e2 k⟩))
  · obtain ⟨j, d, h1, h2, h3⟩ := h
    obtain ⟨q, vs, e, hq, hr⟩ := (show W.rep X.K (.kl _) v from rx)
    exact lst e ry hq.sq hr h1 h2 h3
  · obtain ⟨j, d, h1, h2, h3⟩ := h
    obtain ⟨q, vs, e, hq, hr⟩ := rx
    exact lst e ry (hq _) hr h1 h2 h3
  · obtain ⟨j, d, h1, h2, h3⟩ := h
    obtain ⟨q, vs, e, _, _, hq, hr⟩ := rx
    exact lst e ry (SqL.of hq) hr h1 h2 h3
  · obtain ⟨j, c, h0, h1, h2, h3⟩ := h
    cases (show v = .str _ from rx); cases (show u = .int _ from ry)
    exact .inr (.inr (.inr ⟨_, _, c, rfl, rfl, line_eq ▸ h0, by unfold atI; rw [ixN_place, h1]; exact h2, fin_val s h3 rfl k⟩))
  · exact h.elim
theorem de_idx (hu : X.A.units + 65 < cLine) (ha : DE X prg n W00 E a ca) (hb : DE X prg n W00 E b cb) (hs : PlainIx b) : DE X prg n W00 E (.Subscript a b pos) (.idx ca cb) :=
  de_two (R := idxZ) (pe_ix ((ix_dct (by omega)).or ix_seq) ha hb hs) (fun σ S Q h => by simpa only [wpE] using h) opd_idx

/-! ### slices -/
def rSlc (X : Cx) : V → Option Int → Option Int → Hp → VK → Prop := fun x lo hi H Q => rSlL X.K x lo hi H Q ∨ rSlA X.K x lo hi H Q ∨ rSlS x lo hi H Q
theorem cutAt_eq (m d : Nat) (o : Option Int) : cutAt m d o = HT.sIx m d o := rfl
theorem cut_reps {K : PySem.W.Frag} {H : Hp} {φ : Nat → Addr} {m : Nat} {xs : List D} {vs : List V} (lo hi : Option Int) (r : Reps K H φ m xs vs) : Reps K H φ m (cutL lo hi xs) (cutV vs lo hi) := by
  unfold cutL cutV
  rw [r.length]
  exact (r.drop _).take _
theorem slc_go {W W0 : Wd} {z : Rz} {v : V} {lo hi : Option Int} {Qd : Rz → Store → Prop} {Q : VK} (s : Sim X.K X.prog X.w W) (r : RepZ X.K X.prog X.w W0.H W z v) (h : slcZ z lo hi W.S Qd)
    (k : ∀ z W1 v', Qd z W1.S → Sim X.K X.prog X.w W1 → Ext X.K W W1 → RepZ X.K X.prog X.w W.H W1 z v' → Q v' W1.H) : rSlc X v lo hi W.H Q := by
  have lst : ∀ {xs : List D} {q : Addr} {vs : List V}, v = .ref q → SqL X.K W.H q vs → W.reps X.K xs vs → Qd (.lst (cutL lo hi xs)) W.S → rSlc X v lo hi W.H Q := by
    rintro xs q vs rfl hq hr hQ
    exact .inl ⟨q, vs, rfl, hq, fun p hp => fin_lst s hp hQ (cut_reps lo hi hr) k⟩
  unfold slcZ at h
  split at h
  · obtain ⟨a, vs, rfl, hq, hr⟩ := (show W.rep X.K (.tup _) v from r)
    rename_i ds
    refine .inr (.inl ⟨a, vs, rfl, hq, fun hw => ?_, fun _ p hp => fin_tup s hp h (cut_reps lo hi hr) k⟩)
    have e : cutL lo hi ds = ds := by
      unfold cutL
      rw [hr.length] at hw
      rw [cutAt_eq, cutAt_eq, hw.1, hw.2]
      simp
    rw [e] at h
    exact fin_val s h ⟨a, vs, rfl, hq, hr⟩ k
  · obtain ⟨q, vs, e, hq, hr⟩ := (show W.rep X.K (.kl _) v from r)
    exact lst e hq.sq hr h
  · cases (show v = .str _ from r)
    exact .inr (.inr ⟨_, rfl, line_eq ▸ h.1, fin_val s h.2 rfl k⟩)
  · obtain ⟨q, vs, e, _, _, hq, hr⟩ := r
    exact lst e (SqL.of hq) hr h
  · obtain ⟨q, vs, e, hq, hr⟩ := r
    exact lst e (hq _) hr h
  · rename_i l
    obtain ⟨hl, e⟩ := (show W.rep X.K (.ref l) v from r)
    split at h
    · rename_i xs hc
      obtain ⟨vs, hq, hr⟩ := (s.cells l _ hc).2
      exact lst e (SqL.of hq) hr h
    · rename_i xs hc
      obtain ⟨vs, hq, hr⟩ := (s.cells l _ hc).2
      exact lst e hq hr h
    · exact h.elim
  · exact h.elim
/-- the reading of a slice's part -/
def tO (X : Cx) (prg : Prg) (n : Nat) (W00 : Wd) (E : Nat → Env → Store → Prop) (c : Option CE) : TO := fun σ H Q => ∃ (W : Wd) (σd : Env) (Qd : Option Int → Store → Prop), W.H = H ∧ Sim X.K X.prog X.w W ∧ EnvRep X.K W σd σ ∧ Ext X.K W00 W ∧ wpO (callD prg n) E c σd W.S Qd ∧
  ∀ z W1, Qd z W1.S → Sim X.K X.prog X.w W1 → Ext X.K W W1 → Q z W1.H
abbrev DO (X : Cx) (prg : Prg) (n : Nat) (W00 : Wd) (E : Nat → Env → Store → Prop) (e : Option Expr) (c : Option CE) : Prop := PO X e (tO X prg n W00 E c)
theorem PO.imp {e : Option Expr} {t t' : TO} (h : PO X e t) (i : ∀ σ H Q, t' σ H Q → t σ H Q) : PO X e t' := ⟨fun pins s σ H Q I q => h.run pins s σ H Q I (i _ _ _ q)⟩
theorem do_none : DO X prg n W00 E none none := by
  refine PO.imp po_none fun σ H Q ⟨W, σd, Qd, e1, s, ev, ex, h, k⟩ => ?_
  subst e1
  exact k none W (by simpa [wpO] using h) s Ext.refl
theorem do_some (ha : DE X prg n W00 E a ca) : DO X prg n W00 E (some a) (some ca) := by
  refine PO.imp (po_some ha) fun σ H Q ⟨W, σd, Qd, e1, s, ev, ex, h, k⟩ => ?_
  subst e1
  simp only [wpO] at h
  refine ⟨W, σd, _, rfl, s, ev, ex, h, fun z W1 v h1 s1 x1 r1 => ?_⟩
  split at h1
  · cases (show v = .int _ from r1)
    exact ⟨_, rfl, k _ W1 h1 s1 x1⟩
  · exact h1.elim
theorem de_slc {lo hi : Option Expr} {cl ch : Option CE} (ha : DE X prg n W00 E a ca) (hl : DO X prg n W00 E lo cl) (hh : DO X prg n W00 E hi ch) : DE X prg n W00 E (.Subscript a (.Slice lo hi none p2) pos) (.slc ca cl ch) := by
  refine PE.imp (pe_slice (sl_list.or (sl_tupA.or sl_str)) ha hl hh) fun σ H Q ⟨W, σd, Qd, e1, s, ev, ex, h, k⟩ => ?_
  subst e1
  simp only [wpE] at h
  refine ⟨W, σd, _, rfl, s, ev, ex, h, fun x W1 v h1 s1 x1 r1 => ?_⟩
  refine ⟨W1, σd, _, rfl, s1, ev.ext x1, ex.trans x1, h1, fun y W2 h2 s2 x2 => ?_⟩
  refine ⟨W2, σd, _, rfl, s2, (ev.ext x1).ext x2, (ex.trans x1).trans x2, h2, fun w W3 h3 s3 x3 => ?_⟩
  refine slc_go (W0 := W) s3 ((r1.ext x2).ext x3) h3 fun z W4 v' h4 s4 x4 r4 => ?_
  exact k z W4 v' h4 s4 (((x1.trans x2).trans x3).trans x4) (r4.base ((x1.trans x2).trans x3).live)

/-! ### isinstance -/
/-- a value's class by name -/
inductive TyM (X : Cx) (H : Hp) : V → String → Prop
  | of {x : V} {T : String} (h : TyX X.K H x (.type T)) : TyM X H x T
  | dct {a : Addr} {o : HO} {kvs : List (D × D)} {φ : Nat → Addr} {m : Nat} (h : L2.Rd H a o) (d : DctAt X.K X.prog X.w H φ m a kvs o) : TyM X H (.ref a) "dict"
theorem kit_M {pins : List (Addr × Obj)} {σ : L2.St} {H : Hp} {s : Shared} {x : V} {u : Value} {T : String} (I : L2.Inv X pins σ H s) (rx : RelV x u) (ty : TyM X H x T) : ∃ P : Heap → Prop, PySem.W.KitX X.K u (.type T) P ∧ P s.heap ∧ u ≠ .builtin "__main__.__loader__#opaque" := by
  cases ty with
  | of h => exact kit_of I rx h
  | @dct a o kvs φ m h d =>
    cases (show u = Value.ref a from rx)
    obtain ⟨ob, h1, h2⟩ := dct_ty I h d
    exact ⟨_, PySem.W.kitx_dict, ⟨ob, h1, h2⟩, fun z => nomatch z⟩
def rIsM (X : Cx) : List V → Hp → VK → Prop := fun xs H Q => ∃ (x : V) (C T : String) (b : Bool), xs = [x, .ty C] ∧ TyM X H x T ∧ kitB T C = some b ∧ Q (.bl b) H
def rIsMT (X : Cx) : List V → Hp → VK → Prop := fun xs H Q => ∃ (x : V) (tp : Addr) (cs : List String) (T : String) (b : Bool), xs = [x, .ref tp] ∧ H tp = some (.tup (cs.map V.ty)) ∧ TyM X H x T ∧ PySem.W.kitAny X.K (.type T) (cs.map Value.type) = some b ∧ Q (.bl b) H
theorem call_isM : CallR X (.builtin "isinstance") (rIsM X) := by
  intro pins s σ H xs us Q I r h
  obtain ⟨x, C, T, b, rfl, ty, e, q⟩ := h
  obtain ⟨u1, u2, rfl, r1, r2⟩ := vals2 r
  cases (show u2 = Value.type C from r2)
  obtain ⟨P, Z, p, hx⟩ := kit_M I r1 ty
  exact PySem.W.kia_one Z I.kIn p (kit_ty e) hx fun tk => ⟨.bl b, H, I.tok tk, rfl, q⟩
theorem vals_ty : ∀ {cs : List String} {us : List Value}, Vals (cs.map V.ty) us → us = cs.map Value.type
  | [], _, h => by cases h; rfl
  | c :: cs, _, h => by
    rw [List.map_cons] at h
    cases h with
    | cons h1 h2 => rw [show _ = Value.type c from h1, vals_ty h2]; rfl
theorem call_isMT : CallR X (.builtin "isinstance") (rIsMT X) := by
  intro pins s σ H xs us Q I r h
  obtain ⟨x, tp, cs, T, b, rfl, hT, ty, e, q⟩ := h
  obtain ⟨u1, u2, rfl, r1, r2⟩ := vals2 r
  cases (show u2 = Value.ref tp from r2)
  obtain ⟨P, Z, p, hx⟩ := kit_M I r1 ty
  obtain ⟨_, its, rv, o, h1, h2, m, h3⟩ := (show ObjOk X.prog X.w H s.heap tp (.tup (cs.map V.ty)) from I.hok tp _ hT)
  cases vals_ty rv
  obtain ⟨oc, od, dt, sl⟩ := o
  simp only at h2 h3
  subst h2 h3
  exact PySem.W.kia_tup Z I.kIn p h1 e hx fun tk => ⟨.bl b, H, I.tok tk, rfl, q⟩
def Ty.nm : Ty → String
  | .int => "int" | .bool => "bool" | .str => "str" | .tuple => "tuple" | .list => "list" | .dict => "dict" | .own _ => ""
def Ty.bi : Ty → Bool
  | .own _ => false
  | _ => true
theorem kit_is (t T : Ty) (h : t.bi = true) (k : T.bi = true) : kitB t.nm T.nm = some (isTy t T) := by
  cases t <;> first | (cases h; done) | (cases T <;> first | (cases k; done) | decide +kernel)
theorem kit_non (T : Ty) (k : T.bi = true) : kitB "NoneType" T.nm = some false := by
  cases T <;> first | (cases k; done) | decide +kernel
theorem kit_any {K : PySem.W.Frag} {T : String} {f : Ty → Bool} : ∀ ts : List Ty, (∀ t ∈ ts, kitB T t.nm = some (f t)) → PySem.W.kitAny K (.type T) ((ts.map Ty.nm).map Value.type) = some (ts.any f)
  | [], _ => kitAny_nil
  | t :: ts, h => by
    refine kitAny_cons (kit_ty (h t List.mem_cons_self)) (fun e => ?_) (fun e => ?_)
    · rw [List.any_cons, e, Bool.false_or]
      exact kit_any ts fun t' h' => h t' (List.mem_cons_of_mem _ h')
    · rw [List.any_cons, e, Bool.true_or]
/-- a raw result's class -/
theorem ty_go {W W0 : Wd} {z : Rz} {v : V} {t : Ty} (s : Sim X.K X.prog X.w W) (r : RepZ X.K X.prog X.w W0.H W z v) (h : tyZ W.S z = some t) : t.bi = true ∧ TyM X W.H v t.nm := by
  have sl : ∀ {q : Addr} {vs : List V}, SqL X.K W.H q vs → TyM X W.H (.ref q) "list" := by
    rintro q vs ((e | ⟨ob, e⟩) | ⟨o, its, m, e, hc, _⟩)
    · exact .of (.base (.lst e))
    · exact .of (.base (.frz e))
    · exact .of (.kList e hc)
  unfold tyZ at h
  split at h
  · cases h; cases (show v = .bl _ from r); exact ⟨rfl, .of (.base (.bl _))⟩
  · cases h; cases (show v = .int _ from r); exact ⟨rfl, .of (.base (.int _))⟩
  · cases h; cases (show v = .str _ from r); exact ⟨rfl, .of (.base (.str _))⟩
  · cases h
    obtain ⟨a, vs, rfl, hq, hr⟩ := (show W.rep X.K (.tup _) v from r)
    refine ⟨rfl, ?_⟩
    rcases hq with (e | ⟨ob, e⟩) | ⟨o, its, m, e, hc, _⟩
    · exact .of (.base (.tup e))
    · exact .of (.fTuple e)
    · exact .of (.kTuple e hc)
  · cases h
    obtain ⟨a, vs, rfl, hq, hr⟩ := (show W.rep X.K (.kl _) v from r)
    exact ⟨rfl, sl hq.sq⟩
  · rename_i l
    obtain ⟨hl, rfl⟩ := (show W.rep X.K (.ref l) v from r)
    split at h
    · rename_i xs hc
      cases h
      obtain ⟨vs, hq, hr⟩ := (s.cells l _ hc).2
      exact ⟨rfl, sl (SqL.of hq)⟩
    · rename_i xs hc
      cases h
      obtain ⟨vs, hq, hr⟩ := (s.cells l _ hc).2
      exact ⟨rfl, sl hq⟩
    · rename_i kvs hc
      cases h
      obtain ⟨o, hq, hd⟩ := (s.cells l _ hc).2
      exact ⟨rfl, .dct (.inl hq) hd⟩
    · rename_i kvs hc
      cases h
      obtain ⟨od, o, hq, hd⟩ := (s.cells l _ hc).2
      exact ⟨rfl, .dct (.inr ⟨od, hq⟩) hd⟩
    · rename_i hc
      exact ((s.cells l _ hc).2).elim
    · cases h
  · cases h
    obtain ⟨q, vs, rfl, _, _, hq, hr⟩ := r
    exact ⟨rfl, sl (SqL.of hq)⟩
  · cases h
    obtain ⟨q, vs, rfl, hq, hr⟩ := r
    exact ⟨rfl, sl (hq _)⟩
  · cases h
    obtain ⟨q, o, rfl, _, _, hq, hd⟩ := r
    exact ⟨rfl, .dct (.inl hq) hd⟩
  · cases h
theorem isi_go {W W0 : Wd} {z : Rz} {v : V} {ts : List Ty} {Qd : Rz → Store → Prop} (s : Sim X.K X.prog X.w W) (r : RepZ X.K X.prog X.w W0.H W z v) (h : isiZ ts z W.S Qd) (k : ∀ t ∈ ts, t.bi = true) :
    ∃ (T : String) (f : Ty → Bool), TyM X W.H v T ∧ (∀ t ∈ ts, kitB T t.nm = some (f t)) ∧ Qd (.val (.bl (ts.any f))) W.S := by
  unfold isiZ at h
  split at h
  · cases (show v = .non from r)
    refine ⟨"NoneType", fun _ => false, .of (.base .non), fun t ht => kit_non t (k t ht), ?_⟩
    rw [show (ts.any fun _ => false) = false by simp]; exact h
  · split at h
    · rename_i t ht
      obtain ⟨h1, h2⟩ := ty_go s r ht
      exact ⟨t.nm, isTy t, h2, fun T hT => kit_is t T h1 (k T hT), h⟩
    · exact h.elim
end
end M3
end

section
set_option autoImplicit false
set_option linter.all false
set_option maxRecDepth 100000
set_option maxHeartbeats 1000000
/-! M3: built-ins. -/
namespace M3
open PySem PySem.Spec PyProof.Rows L2
def RepZs (K : PySem.W.Frag) (P : Program) (w : World) (H0 : Hp) (W : Wd) : List Rz → List V → Prop
  | [], vs => vs = []
  | z :: zs, vs => ∃ v r, vs = v :: r ∧ RepZ K P w H0 W z v ∧ RepZs K P w H0 W zs r
section
variable {K : PySem.W.Frag} {P : Program} {w : World} {W W' : Wd} {H0 H0' : Hp}
theorem RepZs.ext (e : Ext K W W') : ∀ {zs : List Rz} {vs : List V}, RepZs K P w H0 W zs vs → RepZs K P w H0 W' zs vs
  | [], _, h => h
  | _ :: _, _, ⟨v, r, e1, h1, h2⟩ => ⟨v, r, e1, h1.ext e, RepZs.ext e h2⟩
theorem RepZs.base (e : ∀ a, H0 a = none → H0' a = none) : ∀ {zs : List Rz} {vs : List V}, RepZs K P w H0 W zs vs → RepZs K P w H0' W zs vs
  | [], _, h => h
  | _ :: _, _, ⟨v, r, e1, h1, h2⟩ => ⟨v, r, e1, h1.base e, RepZs.base e h2⟩
end
section
variable {X : Cx} {G : Cn} {prg : Prg} {xc : XC} {n : Nat} {W00 : Wd} {E : Nat → Env → Store → Prop} {a b c e : Expr} {ca cb cc : CE} {pos p p2 : Pos}
/-- the reading of arguments, raw -/
def tZs (X : Cx) (prg : Prg) (n : Nat) (W00 : Wd) (E : Nat → Env → Store → Prop) (cs : List CE) : TA := fun σ H Q => ∃ (W : Wd) (σd : Env) (Qd : List Rz → Store → Prop), W.H = H ∧ Sim X.K X.prog X.w W ∧ EnvRep X.K W σd σ ∧ Ext X.K W00 W ∧ wpZs (callD prg n) E cs σd W.S Qd ∧
  ∀ zs W1 vs, zs.length = cs.length → Qd zs W1.S → Sim X.K X.prog X.w W1 → Ext X.K W W1 → RepZs X.K X.prog X.w W.H W1 zs vs → Q vs W1.H
abbrev DZ (X : Cx) (prg : Prg) (n : Nat) (W00 : Wd) (E : Nat → Env → Store → Prop) (e : List Expr) (c : List CE) : Prop := PA X e (tZs X prg n W00 E c)
theorem dz_nil : DZ X prg n W00 E [] [] := by
  refine PA.imp pa_nil fun σ H Q ⟨W, σd, Qd, e1, s, ev, ex, h, k⟩ => ?_
  subst e1
  exact k [] W [] rfl (by simpa [wpZs] using h) s Ext.refl rfl
theorem dz_cons {es : List Expr} {cs : List CE} (ha : DE X prg n W00 E e cc) (hr : DZ X prg n W00 E es cs) (hs : starEach (e :: es) X.env = (false, eval e X.env) :: starEach es X.env) : DZ X prg n W00 E (e :: es) (cc :: cs) := by
  refine PA.imp (pa_cons ha hr hs) fun σ H Q ⟨W, σd, Qd, e1, s, ev, ex, h, k⟩ => ?_
  subst e1
  simp only [wpZs] at h
  refine ⟨W, σd, _, rfl, s, ev, ex, h, fun z W1 v hz s1 x1 r1 => ?_⟩
  refine ⟨W1, σd, _, rfl, s1, ev.ext x1, ex.trans x1, hz, fun zs W3 vs hl h3 s3 x3 r3 => ?_⟩
  exact k (z :: zs) W3 (v :: vs) (by rw [List.length_cons, hl, List.length_cons]) h3 s3 (x1.trans x3) ⟨v, vs, rfl, r1.ext x3, r3.base x1.live⟩

abbrev Fin (X : Cx) (W : Wd) (Qd : Rz → Store → Prop) (Q : VK) : Prop := ∀ z W1 v', Qd z W1.S → Sim X.K X.prog X.w W1 → Ext X.K W W1 → RepZ X.K X.prog X.w W.H W1 z v' → Q v' W1.H
/-- a built-in on raw results -/
def CallD (X : Cx) (f : Value) (R : List Rz → Store → (Rz → Store → Prop) → Prop) : Prop :=
  ∃ r, CallR X f r ∧ ∀ (W0 W : Wd) (zs : List Rz) (vs : List V) (Qd : Rz → Store → Prop) (Q : VK), Sim X.K X.prog X.w W → RepZs X.K X.prog X.w W0.H W zs vs → R zs W.S Qd → Fin X W Qd Q → r vs W.H Q
theorem pe_callAny {x : Str} {f : Value} {es : List Expr} {r : List V → Hp → VK → Prop} {t : TA} (hc : CallR X f r) (hf : (∃ id, f = .builtin id) ∨ ∃ T, f = .type T) (hg : Gl X x) (hm : X.mg x = none) (hv : bootBuiltins x = some f) (ha : PA X (e :: es) t) (hn : x ≠ "__name__") (hdb : (x == ("__debug__" : Str)) = false)
    (he : starEach (e :: es) X.env = (false, eval e X.env) :: starEach es X.env) (hpl : (backTo pos (starEach es X.env)).any (·.1) = false) : PE X (.Call (.Name x p) (e :: es) [] pos) (tCB r t) := by
  rcases hf with ⟨id, rfl⟩ | ⟨T, rfl⟩
  · exact pe_callB hc hg hm hv ha hn hdb he hpl
  · exact pe_callTy hc hg hm hv ha hn hdb he hpl
theorem de_callB {x : Str} {f : Value} {es : List Expr} {cs : List CE} {mk : CE} {R : List Rz → Store → (Rz → Store → Prop) → Prop} (hc : CallD X f R) (hf : (∃ id, f = .builtin id) ∨ ∃ T, f = .type T) (hg : Gl X x) (hm : X.mg x = none) (hv : bootBuiltins x = some f) (ha : DZ X prg n W00 E (e :: es) cs) (hn : x ≠ "__name__") (hdb : (x == ("__debug__" : Str)) = false)
    (he : starEach (e :: es) X.env = (false, eval e X.env) :: starEach es X.env) (hpl : (backTo pos (starEach es X.env)).any (·.1) = false)
    (hw : ∀ σ S Q, wpE (callD prg n) E mk σ S Q → wpZs (callD prg n) E cs σ S fun zs S1 => R zs S1 Q) : DE X prg n W00 E (.Call (.Name x p) (e :: es) [] pos) mk := by
  obtain ⟨r, hc, hr⟩ := hc
  refine PE.imp (pe_callAny hc hf hg hm hv ha hn hdb he hpl) fun σ H Q ⟨W, σd, Qd, e1, s, ev, ex, h, k⟩ => ?_
  subst e1
  refine ⟨W, σd, _, rfl, s, ev, ex, hw _ _ _ h, fun zs W1 vs hl h1 s1 x1 r1 => ?_⟩
  exact hr W W1 zs vs Qd Q s1 r1 h1 fun z W2 v' h2 s2 x2 r2 => k z W2 v' h2 s2 (x1.trans x2) (r2.base x1.live)
theorem repZs1 {K : PySem.W.Frag} {P : Program} {w : World} {H0 : Hp} {W : Wd} {z : Rz} {vs : List V} (h : RepZs K P w H0 W [z] vs) : ∃ v, vs = [v] ∧ RepZ K P w H0 W z v := by
  obtain ⟨v, r, rfl, h1, h2⟩ := h
  cases (show r = [] from h2)
  exact ⟨v, rfl, h1⟩
theorem repZs2 {K : PySem.W.Frag} {P : Program} {w : World} {H0 : Hp} {W : Wd} {z y : Rz} {vs : List V} (h : RepZs K P w H0 W [z, y] vs) : ∃ v u, vs = [v, u] ∧ RepZ K P w H0 W z v ∧ RepZ K P w H0 W y u := by
  obtain ⟨v, r, rfl, h1, h2⟩ := h
  obtain ⟨u, rfl, h3⟩ := repZs1 h2
  exact ⟨v, u, rfl, h1, h3⟩

/-! ### len -/
def rLenX (X : Cx) : List V → Hp → VK → Prop := fun xs H Q => ∃ a o kvs φ m, xs = [V.ref a] ∧ L2.Rd H a o ∧ DctAt X.K X.prog X.w H φ m a kvs o ∧ Q (.int kvs.length) H
theorem call_lenX : CallR X (.builtin "len") (rLenX X) := by
  rintro pins s σ H xs us Q I r ⟨a, o, kvs, φ, m, rfl, h, d, q⟩
  obtain ⟨u, rfl, ru⟩ := vals1 r
  cases (show u = .ref a from ru)
  have z := dct_len I h d
  rcases id d with ⟨ks, rfl, ps⟩ | ⟨ne, xs, rfl, ps⟩
  · exact d_len I h fun t s' I' => ⟨.int kvs.length, H, I', ⟨t, by rw [PySem.Paired.length ps]⟩, q⟩
  · obtain ⟨hs, _, ys, py, dd⟩ := dctT I h d ps.allTup
    have e : kvs.length = ys.length := PySem.Paired.length py
    refine call_len_dictH hs dd (by rw [← e]; rw [sizeLine_eq] at z; omega) ?_
    exact ⟨.int kvs.length, H, I.tok _, ⟨_, by rw [e]⟩, q⟩
/-- a list's V's as known things -/
theorem reps_bl {K : PySem.W.Frag} {H : Hp} {φ : Nat → Addr} {m : Nat} : ∀ {bs : List Bool} {vs : List V}, Reps K H φ m (bs.map .bl) vs → vs = bs.map V.bl
  | [], _, h => h
  | b :: bs, _, ⟨v, r, e, h1, h2⟩ => by rw [e, show v = V.bl b from h1, reps_bl h2]; rfl
theorem reps_int {K : PySem.W.Frag} {H : Hp} {φ : Nat → Addr} {m : Nat} : ∀ {bs : List Int} {vs : List V}, Reps K H φ m (bs.map .int) vs → vs = bs.map V.int
  | [], _, h => h
  | b :: bs, _, ⟨v, r, e, h1, h2⟩ => by rw [e, show v = V.int b from h1, reps_int h2]; rfl
def BiOk (X : Cx) (f : Value) (b : Bi) : Prop := CallD X f (biZ b)
theorem CallD.mk {X : Cx} {f : Value} {R : List Rz → Store → (Rz → Store → Prop) → Prop} {r : List V → Hp → VK → Prop} (h : CallR X f r)
    (k : ∀ (W0 W : Wd) (zs : List Rz) (vs : List V) (Qd : Rz → Store → Prop) (Q : VK), Sim X.K X.prog X.w W → RepZs X.K X.prog X.w W0.H W zs vs → R zs W.S Qd → Fin X W Qd Q → r vs W.H Q) : CallD X f R := ⟨r, h, k⟩
theorem biZ_len {S : Store} {Q : Rz → Store → Prop} : ∀ {zs : List Rz}, biZ .len zs S Q → ∃ z, zs = [z] ∧ lenZ z S Q
  | [z], h => ⟨z, rfl, h⟩
  | [], h => h.elim
  | _ :: _ :: _, h => h.elim
theorem bi_len : BiOk X (.builtin "len") .len := by
  refine CallD.mk (call_len.or call_lenX) fun W0 W zs vs Qd Q s r h k => ?_
  have lst : ∀ {xs : List D} {q : Addr} {us : List V}, vs = [.ref q] → SqL X.K W.H q us → W.reps X.K xs us → Qd (.val (.int xs.length)) W.S → (∃ x m, vs = [x] ∧ LenV X.K x W.H m ∧ Q (.int m) W.H) ∨ rLenX X vs W.H Q := by
    rintro xs q us rfl hq hr hQ
    exact .inl ⟨_, us.length, rfl, .inl ⟨us, hq, rfl⟩, fin_val (d := .int xs.length) s hQ (by show V.int _ = _; rw [hr.length]) k⟩
  obtain ⟨z, rfl, h⟩ := biZ_len h
  obtain ⟨v, rfl, r0⟩ := repZs1 r
  clear r
  replace h : lenZ z W.S Qd := h
  unfold lenZ at h
  split at h
  · cases (show v = .str _ from r0)
    exact .inl ⟨_, _, rfl, ⟨line_eq ▸ h.1, rfl⟩, fin_val s h.2 rfl k⟩
  · obtain ⟨q, us, rfl, hq, hr⟩ := (show W.rep X.K (.tup _) v from r0)
    exact .inl ⟨_, us.length, rfl, .inr ⟨us, hq, rfl⟩, fin_val s h (by show V.int _ = _; rw [hr.length]) k⟩
  · obtain ⟨q, us, rfl, hq, hr⟩ := (show W.rep X.K (.kl _) v from r0)
    exact lst rfl hq.sq hr h
  · obtain ⟨q, us, rfl, _, _, hq, hr⟩ := r0; exact lst rfl (SqL.of hq) hr h
  · obtain ⟨q, us, rfl, hq, hr⟩ := r0; exact lst rfl (hq _) hr h
  · exact r0.elim
  · rename_i l _
    obtain ⟨hl, rfl⟩ := (show W.rep X.K (.ref l) v from r0)
    split at h
    · rename_i xs hc
      obtain ⟨us, hq, hr⟩ := (s.cells l _ hc).2
      exact lst rfl (SqL.of hq) hr h
    · rename_i xs hc
      obtain ⟨us, hq, hr⟩ := (s.cells l _ hc).2
      exact lst rfl hq hr h
    · rename_i kvs hc
      obtain ⟨o, hq, hd⟩ := (s.cells l _ hc).2
      exact .inr ⟨_, o, kvs, W.φ, W.S.nx, rfl, .inl hq, hd, fin_val s h rfl k⟩
    · rename_i kvs hc
      obtain ⟨od, o, hq, hd⟩ := (s.cells l _ hc).2
      exact .inr ⟨_, o, kvs, W.φ, W.S.nx, rfl, .inr ⟨od, hq⟩, hd, fin_val s h rfl k⟩
    · exact h.elim
  · exact h.elim
theorem bi_abs : BiOk X (.builtin "abs") .abs := by
  refine CallD.mk call_abs fun W0 W zs vs Qd Q s r h k => ?_
  dsimp only [biZ] at h
  split at h <;> try exact h.elim
  obtain ⟨v, rfl, r0⟩ := repZs1 r
  cases (show v = .int _ from r0)
  exact ⟨_, rfl, fin_val s h rfl k⟩
theorem bi_int : BiOk X (.type "int") .int := by
  refine CallD.mk call_int1 fun W0 W zs vs Qd Q s r h k => ?_
  dsimp only [biZ] at h
  split at h <;> try exact h.elim
  · obtain ⟨v, rfl, r0⟩ := repZs1 r
    cases (show v = .int _ from r0)
    exact .inl ⟨_, rfl, fin_val s h rfl k⟩
  · obtain ⟨v, rfl, r0⟩ := repZs1 r
    cases (show v = .bl _ from r0)
    exact .inr ⟨_, rfl, fin_val s h rfl k⟩
theorem bi_str : BiOk X (.type "str") .str := by
  refine CallD.mk call_str_int fun W0 W zs vs Qd Q s r h k => ?_
  dsimp only [biZ] at h
  split at h <;> try exact h.elim
  obtain ⟨v, rfl, r0⟩ := repZs1 r
  cases (show v = .int _ from r0)
  exact ⟨_, rfl, h.1, fin_val s h.2 rfl k⟩
theorem bi_min2 (hc : X.calm = true) : BiOk X (.builtin "min") .min2 := by
  refine CallD.mk (call_min2 hc) fun W0 W zs vs Qd Q s r h k => ?_
  dsimp only [biZ] at h
  split at h <;> try exact h.elim
  obtain ⟨v, u, rfl, r0, r2⟩ := repZs2 r
  cases (show v = .int _ from r0); cases (show u = .int _ from r2)
  exact ⟨_, _, rfl, fin_val s h rfl k⟩
theorem bi_max2 (hc : X.calm = true) : BiOk X (.builtin "max") .max2 := by
  refine CallD.mk (call_max2 hc) fun W0 W zs vs Qd Q s r h k => ?_
  dsimp only [biZ] at h
  split at h <;> try exact h.elim
  obtain ⟨v, u, rfl, r0, r2⟩ := repZs2 r
  cases (show v = .int _ from r0); cases (show u = .int _ from r2)
  exact ⟨_, _, rfl, fin_val s h rfl k⟩
theorem bi_all (hc : X.calm = true) : BiOk X (.builtin "all") .all := by
  refine CallD.mk (cr_all hc) fun W0 W zs vs Qd Q s r h k => ?_
  dsimp only [biZ] at h
  split at h <;> try exact h.elim
  obtain ⟨v, rfl, r0⟩ := repZs1 r
  obtain ⟨p, us, xs, rfl, hp, hr, bs, rfl, h⟩ := asL_go s r0 h
  rw [reps_bl hr] at hp
  exact ⟨p, bs, rfl, hp, fin_val s h rfl k⟩
theorem bi_any (hc : X.calm = true) : BiOk X (.builtin "any") .any := by
  refine CallD.mk (cr_any hc) fun W0 W zs vs Qd Q s r h k => ?_
  dsimp only [biZ] at h
  split at h <;> try exact h.elim
  obtain ⟨v, rfl, r0⟩ := repZs1 r
  obtain ⟨p, us, xs, rfl, hp, hr, bs, rfl, h⟩ := asL_go s r0 h
  rw [reps_bl hr] at hp
  exact ⟨p, bs, rfl, hp, fin_val s h rfl k⟩
theorem bi_sum (hc : X.calm = true) : BiOk X (.builtin "sum") .sum := by
  refine CallD.mk (cr_sum hc) fun W0 W zs vs Qd Q s r h k => ?_
  dsimp only [biZ] at h
  split at h <;> try exact h.elim
  obtain ⟨v, rfl, r0⟩ := repZs1 r
  obtain ⟨p, us, xs, rfl, hp, hr, bs, rfl, h⟩ := asL_go s r0 h
  rw [reps_int hr] at hp
  exact ⟨p, bs, rfl, hp, fin_val s h rfl k⟩
theorem bi_min (hc : X.calm = true) : BiOk X (.builtin "min") .min := by
  refine CallD.mk (cr_min hc) fun W0 W zs vs Qd Q s r h k => ?_
  dsimp only [biZ] at h
  split at h <;> try exact h.elim
  obtain ⟨v, rfl, r0⟩ := repZs1 r
  obtain ⟨p, us, xs, rfl, hp, hr, m, bs, rfl, hm, hl, h⟩ := asL_go s r0 h
  rw [reps_int hr] at hp
  refine ⟨p, bs, rfl, hp, List.length_pos_of_mem hm, fun m' h1 h2 => ?_⟩
  have e : m' = m := by have := hl _ h1; have := h2 _ hm; omega
  rw [e]
  exact fin_val (d := .int m) s h rfl k
theorem bi_max (hc : X.calm = true) : BiOk X (.builtin "max") .max := by
  refine CallD.mk (cr_max hc) fun W0 W zs vs Qd Q s r h k => ?_
  dsimp only [biZ] at h
  split at h <;> try exact h.elim
  obtain ⟨v, rfl, r0⟩ := repZs1 r
  obtain ⟨p, us, xs, rfl, hp, hr, m, bs, rfl, hm, hl, h⟩ := asL_go s r0 h
  rw [reps_int hr] at hp
  refine ⟨p, bs, rfl, hp, List.length_pos_of_mem hm, fun m' h1 h2 => ?_⟩
  have e : m' = m := by have := hl _ h1; have := h2 _ hm; omega
  rw [e]
  exact fin_val (d := .int m) s h rfl k
theorem bi_list : BiOk X (.type "list") .list := by
  refine CallD.mk call_list_of fun W0 W zs vs Qd Q s r h k => ?_
  dsimp only [biZ] at h
  split at h <;> try exact h.elim
  obtain ⟨v, rfl, r0⟩ := repZs1 r
  obtain ⟨p, us, xs, rfl, hp, hr, h⟩ := cq_go s r0 h
  exact ⟨p, us, rfl, hp, fun l hl => fin_lst s hl h hr k⟩
/-- a tuple itself, or a new one of a list's things -/
theorem tup_go {W W0 : Wd} {z : Rz} {v : V} {Qd : List D → Store → Prop} (s : Sim X.K X.prog X.w W) (r : RepZ X.K X.prog X.w W0.H W z v) (h : cq Qd z W.S) :
    ∃ p vs xs, v = .ref p ∧ W.reps X.K xs vs ∧ Qd xs W.S ∧ (SqL X.K W.H p vs ∨ SqT X.K W.H p vs) := by
  obtain ⟨p, us, xs, e, hp, hr, h⟩ := cq_go s r h
  exact ⟨p, us, xs, e, hr, h, hp⟩
theorem bi_tuple : BiOk X (.type "tuple") .tuple := by
  refine CallD.mk call_tuple_of fun W0 W zs vs Qd Q s r h k => ?_
  dsimp only [biZ] at h
  split at h <;> try exact h.elim
  obtain ⟨v, rfl, r0⟩ := repZs1 r
  obtain ⟨p, us, xs, rfl, hr, h, hp⟩ := tup_go s r0 h
  rcases hp with hp | hp
  · exact ⟨p, us, rfl, .inl ⟨hp, fun l hl => fin_tup s hl h hr k⟩⟩
  · exact ⟨p, us, rfl, .inr ⟨hp, fin_val s h ⟨p, us, rfl, hp, hr⟩ k⟩⟩
end
end M3
end

section
set_option autoImplicit false
set_option linter.all false
set_option maxRecDepth 100000
set_option maxHeartbeats 1000000
/-! M3: sorted, dict. -/
namespace M3
open PySem PySem.Spec PyProof.Rows L2
section
variable {X : Cx} {pins : List (Addr × Obj)} {σ : L2.St} {H : Hp} {s : Shared} {φ : Nat → Addr} {m : Nat}
/-- what is known of the things that are sorted -/
theorem each_of {β : Type} {dec : β → D} {enc : β → PyData} (I : L2.Inv X pins σ H s) {W : Wd} (sm : Sim X.K X.prog X.w W) (eh : W.H = H) : ∀ (bs : List β) (vs : List V) (us : List Value), (∀ b ∈ bs, Rdd W.S (enc b) (dec b)) → W.reps X.K (bs.map dec) vs → Vals vs us →
    PySem.W.EachIs (fun u b => ∃ x, RelV x u ∧ W.rep X.K (dec b) x) us bs ∧ PySem.W.EachIs (fun v b => ∃ as, Reads s.heap v (enc b) as) us bs
  | [], vs, us, _, h, r => by
    cases (show vs = [] from h)
    cases r
    exact ⟨.nil, .nil⟩
  | b :: bs, vs, us, hr, h, r => by
    obtain ⟨v, t, rfl, h1, h2⟩ := (show W.reps X.K (dec b :: bs.map dec) vs from h)
    cases r with
    | cons r1 r2 =>
      obtain ⟨q1, q2⟩ := each_of I sm eh bs t _ (fun b' h' => hr b' (List.mem_cons_of_mem _ h')) h2 r2
      have d := rdd_dp sm (enc b) (dec b) v (hr b List.mem_cons_self) h1
      rw [eh] at d
      exact ⟨.cons ⟨v, r1, h1⟩ q1, .cons (Dp.reads I _ v _ d r1) q2⟩
theorem out_of {β : Type} {dec : β → D} {W : Wd} : ∀ {bs : List β} {us : List Value}, PySem.W.EachIs (fun u b => ∃ x, RelV x u ∧ W.rep X.K (dec b) x) us bs → ∃ vs, Vals vs us ∧ W.reps X.K (bs.map dec) vs
  | [], _, .nil => ⟨[], .nil, rfl⟩
  | _ :: _, _, .cons ⟨x, h1, h2⟩ t => by
    obtain ⟨vs, q1, q2⟩ := out_of t
    exact ⟨x :: vs, .cons h1 q1, x, vs, rfl, h2, q2⟩
def rSortX (X : Cx) : List V → Hp → VK → Prop := fun vs H Q => ∃ (p : Addr) (us : List V) (W : Wd) (Qd : Rz → Store → Prop) (items : List D), vs = [.ref p] ∧ SqL X.K H p us ∧ W.H = H ∧ Sim X.K X.prog X.w W ∧ W.reps X.K items us ∧ sortW items W.S Qd ∧ Fin X W Qd Q
theorem call_sortX (hu : X.A.units + 65 < cLine) : CallR X (.builtin "sorted") (rSortX X) := by
  rintro pins s σ H xs us Q I r ⟨p, vs, W, Qd, items, rfl, hp, eh, sm, hr, ⟨β, bs, dec, enc, rfl, hd, al, so, hl, dp, q⟩, k⟩
  obtain ⟨u, rfl, ru⟩ := vals1 r
  cases (show u = .ref p from ru)
  obtain ⟨its, rv, pl, hz⟩ := I.list hp
  obtain ⟨e1, e2⟩ := each_of I sm eh bs vs its hd hr rv
  refine PySem.W.sorted_data (vs := its) pl.isList e1 e2 al so (line_eq ▸ hl) (fun b hb => by have := dp b hb; omega) fun out ho e3 => ?_
  obtain ⟨ws, q1, q2⟩ := out_of e3
  obtain ⟨ep, he'⟩ := PyProof.Rows.sortedAll_at s.heap its out.toArray
  have hf := I.hok.fresh (Nat.le_succ s.heap.objs.size)
  have hlen : ws.length ≤ sizeLine := by
    rw [q2.length, List.length_map, List.length_mergeSort, ← line_eq]; exact hl
  subst eh
  refine ⟨.ref _, upd W.H (s.heap.objs.size + 1) (.lst ws), I.laid (t' := s.toks) (fun _ _ => PyProof.Rows.sortedAll_old) (Nat.le_succ _) ⟨hlen, out, ep, q1, he'⟩, rfl, ?_⟩
  exact fin_lst sm hf q q2 k
theorem bi_sorted (hu : X.A.units + 65 < cLine) : BiOk X (.builtin "sorted") .sorted := by
  refine CallD.mk (call_sortX hu) fun W0 W zs vs Qd Q s r h k => ?_
  dsimp only [biZ] at h
  split at h <;> try exact h.elim
  obtain ⟨v, rfl, r0⟩ := repZs1 r
  obtain ⟨p, us, xs, rfl, hp, hr, h⟩ := asL_go s r0 h
  exact ⟨p, us, W, Qd, xs, rfl, hp, rfl, s, hr, h, k⟩

end
end M3
end

section
set_option autoImplicit false
set_option linter.all false
set_option maxRecDepth 100000
set_option maxHeartbeats 1000000
/-! M3: methods. -/
namespace M3
open PySem PySem.Spec PyProof.Rows L2
section
variable {X : Cx} {G : Cn} {prg : Prg} {xc : XC} {n : Nat} {W00 : Wd} {E : Nat → Env → Store → Prop} {a b c e o : Expr} {ca cb cc co : CE} {pos p p2 apos cpos : Pos}
def RT.nm : RT → String
  | .lst => "list" | .dct => "dict" | .str => "str" | .tup => "tuple"
/-- a value that is of a built-in class, without fields -/
def TyR (X : Cx) (T : String) (x : V) (H : Hp) : Prop :=
  ∀ (pins : List (Addr × Obj)) (s : Shared) (σ : L2.St) (v : Value), L2.Inv X pins σ H s → RelV x v → s.TypeIs v T ∧ ∀ a, v = .ref a → ∃ ob, s.heap.get? a = some ob ∧ ob.dict = none
theorem TyR.of {T : String} {x : V} {H : Hp} (h : tyV X.K T x H) : TyR X T x H := fun pins s σ v I r => tyV_is I r h
theorem dct_tyR {H : Hp} {a : Addr} {o : HO} {kvs : List (D × D)} {φ : Nat → Addr} {m : Nat} (h : L2.Rd H a o) (d : DctAt X.K X.prog X.w H φ m a kvs o) : TyR X "dict" (.ref a) H := by
  intro pins s σ v I r
  cases (show v = .ref a from r)
  rcases id d with ⟨ks, rfl, r⟩ | ⟨ne, xs, rfl, r⟩
  · obtain ⟨z, hs, vs, kv, ob, es, ep, h1, h2, _⟩ : ks.length ≤ sizeLine ∧ (a == sysModules) = false ∧ ∃ vs, KV ks vs ∧ s.heap.DictOf (mixKind X.prog X.w) a vs := h.ok I.hok
    exact ⟨⟨ob, h1, h2.1⟩, fun b e => by cases e; exact ⟨ob, h1, h2.2.1⟩⟩
  · obtain ⟨_, _, ys, py, ob, es, ep, h1, h2, _⟩ := dctT I h d r.allTup
    exact ⟨⟨ob, h1, h2.1⟩, fun b e => by cases e; exact ⟨ob, h1, h2.2.1⟩⟩
theorem rcv_ty {W0 W : Wd} {z : Rz} {v : V} {T : RT} (s : Sim X.K X.prog X.w W) (r : RepZ X.K X.prog X.w W0.H W z v) (h : rcv W.S z = some T) (ht : T ≠ .tup) : TyR X T.nm v W.H := by
  unfold rcv at h
  split at h
  · cases h; cases (show v = .str _ from r); exact .of rfl
  · cases h; exact absurd rfl ht
  · cases h
    obtain ⟨q, vs, rfl, hq, hr⟩ := (show W.rep X.K (.kl _) v from r)
    exact .of (.inl ⟨rfl, vs, hq.sq⟩)
  · rename_i l
    obtain ⟨hl, rfl⟩ := (show W.rep X.K (.ref l) v from r)
    split at h
    · rename_i xs hc
      cases h
      obtain ⟨vs, hq, hr⟩ := (s.cells l _ hc).2
      exact .of (.inl ⟨rfl, vs, SqL.of hq⟩)
    · rename_i xs hc
      cases h
      obtain ⟨vs, hq, hr⟩ := (s.cells l _ hc).2
      exact .of (.inl ⟨rfl, vs, hq⟩)
    · rename_i kvs hc
      cases h
      obtain ⟨o, hq, hd⟩ := (s.cells l _ hc).2
      exact dct_tyR (.inl hq) hd
    · rename_i kvs hc
      cases h
      obtain ⟨od, o, hq, hd⟩ := (s.cells l _ hc).2
      exact dct_tyR (.inr ⟨od, hq⟩) hd
    · cases h
  · cases h
    obtain ⟨q, vs, rfl, _, _, hq, hr⟩ := r
    exact .of (.inl ⟨rfl, vs, SqL.of hq⟩)
  · cases h
    obtain ⟨q, vs, rfl, hq, hr⟩ := r
    exact .of (.inl ⟨rfl, vs, hq _⟩)
  · cases h
/-- how a method is found -/
structure MSlot (X : Cx) (T : String) (name : Str) (r : V → List V → Hp → VK → Prop) : Prop where
  ex : ∃ id, Slot T name id ∧ typeOf (.builtin id) = pure (.type "method_descriptor") ∧ MtR X id r
  pa : PlainAttrs T
def tMX (X : Cx) (name : Str) (to : TE) (t : TA) : TE := fun σ H Q => to σ H fun x H1 => ∃ T r, MSlot X T name r ∧ TyR X T x H1 ∧ t σ H1 fun xs H2 => r x xs H2 Q
theorem pe_mX0 {to : TE} {name : Str} (ho : PE X o to) (hbase : attributeBase o name X.env (eval o X.env) = eval o X.env) (hline : (apos.endLine == cpos.line) = true) : PE X (.Call (.Attribute o name apos) [] [] cpos) (tMX X name to (fun _ H Q => Q [] H)) := by
  refine ⟨fun pins s σ H Q I h => ?_⟩
  refine wpAny_Call_method0_late hbase hline (thn (ho.run pins s σ H _ I h) fun v s1 ⟨x, H1, I1, r1, T, r, ⟨⟨id, slot, hty, hm⟩, pa⟩, ty, q1⟩ => ?_)
  obtain ⟨h1, h2⟩ := ty pins s1 σ v I1 r1
  exact ⟨T, id, pa, slot, hty, h1, h2, Calls.callWith_builtin rfl (PySem.evalArgs_none (hm pins s1 σ H1 x [] v [] Q I1 r1 .nil q1))⟩
theorem pe_mX {to : TE} {t : TA} {name : Str} {es : List Expr} (ho : PE X o to) (ha : PA X (e :: es) t)
    (hbase : attributeBase o name X.env (eval o X.env) = eval o X.env)
    (hfew : ((backTo cpos (starEach (e :: es) X.env)).all (fun x => !x.1) && (backToKw cpos (keywordEach [] X.env)).all (fun x => x.1.isSome)
      && decide ((e :: es).length + ([] : List Keyword).length + (if ([] : List Keyword).isEmpty then 0 else 1) < 30)) = true)
    (hline : (apos.endLine == cpos.line) = true) (hs : starEach (e :: es) X.env = (false, eval e X.env) :: starEach es X.env) (hplain : (backTo cpos (starEach es X.env)).any (·.1) = false) :
    PE X (.Call (.Attribute o name apos) (e :: es) [] cpos) (tMX X name to t) := by
  refine ⟨fun pins s σ H Q I h => ?_⟩
  refine wpAny_Call_method_late hbase hfew hline rfl (thn (ho.run pins s σ H _ I h) fun v s1 ⟨x, H1, I1, r1, T, r, ⟨⟨id, slot, hty, hm⟩, pa⟩, ty, q1⟩ => ?_)
  obtain ⟨h1, h2⟩ := ty pins s1 σ v I1 r1
  refine ⟨T, id, pa, slot, hty, h1, h2, ?_⟩
  have hA := ha.run cpos pins s1 σ H1 _ I1 q1
  rw [hs] at hA ⊢
  refine Calls.callWith_builtin (by show (false || (backTo cpos (starEach es X.env)).any (·.1)) = false; rw [hplain] <;> rfl) (Calls.evalArgs_plain ?_)
  exact thn hA fun us s2 ⟨vs, H2, I2, r2, q2⟩ => hm pins s2 σ H2 x vs v us Q I2 r1 r2 q2
/-- a method on data -/
def MtOk (X : Cx) (T : RT) (m : Mt) : Prop :=
  T ≠ .tup ∧ ∃ r, MSlot X T.nm (mName m) r ∧ ∀ (W0 W : Wd) (z : Rz) (v : V) (ds : List D) (vs : List V) (Qd : Rz → Store → Prop) (Q : VK), Sim X.K X.prog X.w W → RepZ X.K X.prog X.w W0.H W z v → W.reps X.K ds vs → mtZ T m z ds W.S Qd → Fin X W Qd Q → r v vs W.H Q
theorem MtOk.mk {T : RT} {m : Mt} {id : String} {r : V → List V → Hp → VK → Prop} (ht : T ≠ .tup) (pa : PlainAttrs T.nm) (sl : Slot T.nm (mName m) id) (ty : typeOf (.builtin id) = pure (.type "method_descriptor")) (h : MtR X id r)
    (k : ∀ (W0 W : Wd) (z : Rz) (v : V) (ds : List D) (vs : List V) (Qd : Rz → Store → Prop) (Q : VK), Sim X.K X.prog X.w W → RepZ X.K X.prog X.w W0.H W z v → W.reps X.K ds vs → mtZ T m z ds W.S Qd → Fin X W Qd Q → r v vs W.H Q) : MtOk X T m :=
  ⟨ht, r, ⟨⟨id, sl, ty, h⟩, pa⟩, k⟩

/-! ### lists -/
theorem reps1 {K : PySem.W.Frag} {H : Hp} {φ : Nat → Addr} {m : Nat} {d : D} {vs : List V} (h : Reps K H φ m [d] vs) : ∃ v, vs = [v] ∧ Rep K H φ m d v := by
  obtain ⟨v, r, rfl, h1, h2⟩ := h
  cases (show r = [] from h2)
  exact ⟨v, rfl, h1⟩
theorem reps2 {K : PySem.W.Frag} {H : Hp} {φ : Nat → Addr} {m : Nat} {d e : D} {vs : List V} (h : Reps K H φ m [d, e] vs) : ∃ v u, vs = [v, u] ∧ Rep K H φ m d v ∧ Rep K H φ m e u := by
  obtain ⟨v, r, rfl, h1, h2⟩ := h
  obtain ⟨u, rfl, h3⟩ := reps1 h2
  exact ⟨v, u, rfl, h1, h3⟩
theorem wrt_lst {vs : List V} {x : Option HO} (h : x = some (.lst vs)) : Wrt x := by rw [h]; exact ⟨fun ys => by simp, fun b ys => by simp, fun b ys => by simp⟩
/-- a list is changed in its place -/
theorem fin_put {W : Wd} {l : Nat} {vs ws : List V} {xs : List D} {d : D} {v : V} {Qd : Rz → Store → Prop} {Q : VK} (s : Sim X.K X.prog X.w W) (hl : l < W.S.nx) (h : W.H (W.φ l) = some (.lst vs)) (r : W.reps X.K xs ws) (rd : W.rep X.K d v)
    (hq : Qd (.val d) (W.S.put l (.lst xs))) (k : Fin X W Qd Q) : Q v (upd W.H (W.φ l) (.lst ws)) := by
  have x : Ext X.K W (W.put l (.lst xs) (.lst ws)) := Ext.put hl (wrt_lst h) (by rw [h]; simp)
  exact k _ (W.put l (.lst xs) (.lst ws)) v hq (s.put hl (wrt_lst h) (by rw [h]; simp) ⟨ws, upd_same, x.reps r⟩) x (x.rep rd)
theorem atLst_go {W0 W : Wd} {z : Rz} {v : V} {Q : Nat → List D → Prop} (s : Sim X.K X.prog X.w W) (r : RepZ X.K X.prog X.w W0.H W z v) (h : atLst Q W.S z) : ∃ l xs vs, v = .ref (W.φ l) ∧ l < W.S.nx ∧ W.H (W.φ l) = some (.lst vs) ∧ W.reps X.K xs vs ∧ Q l xs := by
  unfold atLst at h
  split at h
  · rename_i l
    obtain ⟨hl, rfl⟩ := (show W.rep X.K (.ref l) v from r)
    split at h
    · rename_i xs hc
      obtain ⟨vs, hq, hr⟩ := (s.cells l _ hc).2
      exact ⟨l, xs, vs, rfl, hl, hq, hr, h⟩
    · exact h.elim
  · exact h.elim
theorem mo_append : MtOk X .lst .append := by
  refine MtOk.mk (fun z => by cases z) F.plainAttrs_list F.slot_list_append F.type_list_append mt_append fun W0 W z v ds vs Qd Q s r rs h k => ?_
  dsimp only [mtZ, lstM] at h
  split at h <;> try exact h.elim
  obtain ⟨l, xs, us, rfl, hl, hq, hr, h1, h2⟩ := atLst_go s r h
  obtain ⟨y, rfl, ry⟩ := reps1 rs
  exact ⟨_, us, y, rfl, rfl, hq, by rw [hr.length, ← line_eq]; exact h1, fin_put (d := .non) s hl hq (hr.append (Reps.one ry)) rfl h2 k⟩
theorem mo_clear : MtOk X .lst .clear := by
  refine MtOk.mk (fun z => by cases z) F.plainAttrs_list F.slot_list_clear F.type_list_clear mt_clear fun W0 W z v ds vs Qd Q s r rs h k => ?_
  dsimp only [mtZ, lstM] at h
  split at h <;> try exact h.elim
  obtain ⟨l, xs, us, rfl, hl, hq, hr, h2⟩ := atLst_go s r h
  cases (show vs = [] from rs)
  exact ⟨_, us, rfl, rfl, hq, fin_put (d := .non) s hl hq (xs := []) rfl rfl h2 k⟩
theorem mo_reverse : MtOk X .lst .reverse := by
  refine MtOk.mk (fun z => by cases z) F.plainAttrs_list F.slot_list_reverse F.type_list_reverse mt_reverse fun W0 W z v ds vs Qd Q s r rs h k => ?_
  dsimp only [mtZ, lstM] at h
  split at h <;> try exact h.elim
  obtain ⟨l, xs, us, rfl, hl, hq, hr, h2⟩ := atLst_go s r h
  cases (show vs = [] from rs)
  exact ⟨_, us, rfl, rfl, hq, fin_put (d := .non) s hl hq hr.reverse rfl h2 k⟩
theorem Reps.eraseIdx {K : PySem.W.Frag} {H : Hp} {φ : Nat → Addr} {m : Nat} : ∀ {ds : List D} {vs : List V} (i : Nat), Reps K H φ m ds vs → Reps K H φ m (ds.eraseIdx i) (vs.eraseIdx i)
  | [], _, _, h => by rw [show _ = [] from h]; rfl
  | _ :: _, _, 0, ⟨v, r, e, h1, h2⟩ => by rw [e]; exact h2
  | _ :: _, _, i + 1, ⟨v, r, e, h1, h2⟩ => by rw [e]; exact ⟨v, _, rfl, h1, Reps.eraseIdx i h2⟩
theorem mo_pop0 : MtOk X .lst .pop0 := by
  refine MtOk.mk (fun z => by cases z) F.plainAttrs_list F.slot_list_pop F.type_list_pop mt_pop fun W0 W z v ds vs Qd Q s r rs h k => ?_
  dsimp only [mtZ, lstM] at h
  split at h <;> try exact h.elim
  obtain ⟨l, xs, us, rfl, hl, hq, hr, d, h1, h2⟩ := atLst_go s r h
  cases (show vs = [] from rs)
  obtain ⟨y, e1, e2⟩ := hr.get h1
  refine ⟨_, us, y, rfl, rfl, hq, by rw [hr.length]; exact e1, fin_put s hl hq ?_ e2 h2 k⟩
  rw [List.dropLast_eq_take, List.dropLast_eq_take, hr.length]
  exact hr.take _
theorem mo_pop1 : MtOk X .lst .pop1 := by
  refine MtOk.mk (fun z => by cases z) F.plainAttrs_list F.slot_list_pop F.type_list_pop mt_popAt fun W0 W z v ds vs Qd Q s r rs h k => ?_
  dsimp only [mtZ, lstM] at h
  split at h <;> try exact h.elim
  obtain ⟨l, xs, us, rfl, hl, hq, hr, hi, j, d, h0, h1, h2⟩ := atLst_go s r h
  obtain ⟨y, rfl, ry⟩ := reps1 rs
  cases (show y = .int _ from ry)
  obtain ⟨y, e1, e2⟩ := hr.get h1
  obtain ⟨s1, s2, s3, s4⟩ := ixN_seq (by rw [ixN_place]; exact h0)
  refine ⟨_, us, _, j, y, rfl, rfl, hq, by omega, by omega, by rw [hr.length]; exact s1, e1, fin_put s hl hq (hr.eraseIdx j) e2 h2 k⟩
/-- count, by data -/
def rCntX (X : Cx) : V → List V → Hp → VK → Prop := fun x xs H Q => ∃ a us y ps p, x = V.ref a ∧ xs = [y] ∧ SqL X.K H a us ∧ DpAll X.K H us ps ∧ Dp X.K H y p ∧ PyData.plainAll ps = true ∧ p.plain = true ∧ p.depth ≤ 60 ∧ Q (.int ((ps.countP fun q => PyData.eqv q p : Nat) : Int)) H
theorem mt_cntX (hu : X.A.units + 65 < cLine) : MtR X "list.count" (rCntX X) := by
  rintro pins s σ H x xs v us Q I rx rxs ⟨a, ws, y, ps, p, rfl, rfl, hl, hd, hy, h1, h2, h3, q⟩
  cases (show v = .ref a from rx)
  obtain ⟨uy, rfl, ry⟩ := rxs.one
  obtain ⟨its, rv, pl, hz⟩ := I.list hl
  obtain ⟨as, r1⟩ := Dp.readsAll I ps _ its hd rv
  obtain ⟨bs, r2⟩ := Dp.reads I p y uy hy ry
  exact PySem.SeqAt.count_list_data pl.isList (by simpa using r1) r2 h1 h2 (by omega) ⟨.int _, H, I.tok _, ⟨_, rfl⟩, q⟩
theorem mo_count (hu : X.A.units + 65 < cLine) : MtOk X .lst .count := by
  refine MtOk.mk (fun z => by cases z) F.plainAttrs_list F.slot_list_count F.type_list_count (mt_cntX hu) fun W0 W z v ds vs Qd Q s r rs h k => ?_
  dsimp only [mtZ, lstM] at h
  split at h <;> try exact h.elim
  obtain ⟨p, us, xs, rfl, hp, hr, ps, q, h1, h2, h3, h4, h5, h6⟩ := asL_go s r h
  obtain ⟨y, rfl, ry⟩ := reps1 rs
  exact ⟨p, us, y, ps, q, rfl, rfl, hp, rdds_dp s ps _ us h1 hr, rdd_dp s q _ y h2 ry, h3, h4, h5, fin_val s h6 rfl k⟩
theorem mo_index (hu : X.A.units + 65 < cLine) : MtOk X .lst .index := by
  refine MtOk.mk (fun z => by cases z) F.plainAttrs_list F.slot_list_index F.type_list_index (mt_indexD hu) fun W0 W z v ds vs Qd Q s r rs h k => ?_
  dsimp only [mtZ, lstM] at h
  split at h <;> try exact h.elim
  obtain ⟨p, us, xs, rfl, hp, hr, ps, q, j, t, h1, h2, h3, h4, h5, h6, h7, h8⟩ := asL_go s r h
  obtain ⟨y, rfl, ry⟩ := reps1 rs
  exact ⟨p, y, q, ps, j, t, rfl, rfl, .lst hp (rdds_dp s ps _ us h1 hr), rdd_dp s q _ y h2 ry, h3, h4, h5, h6, h7, fin_val s h8 rfl k⟩

/-! ### dicts -/
theorem dx_emp {pins : List (Addr × Obj)} {σ : L2.St} {H : Hp} {s : Shared} {φ : Nat → Addr} {m : Nat} {a : Addr} {kvs : List (D × D)} {o : HO} {h' : Heap} {t' : Nat} (I : L2.Inv X pins σ H s) (d : DctAt X.K X.prog X.w H φ m a kvs o) (h : H a = some o) (hs : (a == sysModules) = false)
    (sb : Heap.SameBut a s.heap h') (dd : h'.DictOfH (nk X) a []) : ∃ o', L2.Inv X pins σ (upd H a o') { s with heap := h', toks := t' } ∧ DctAt X.K X.prog X.w (upd H a o') φ m a [] o' := by
  obtain ⟨hw, hm⟩ := dct_wrt d h
  obtain ⟨ob, es, ep, e1, e2, e3, e4, e5, e6⟩ := dd
  have e7 : es.toList = [] := e4
  refine ⟨.dK [], d_write I hm sb ⟨ob, e1⟩ ⟨Nat.zero_le _, hs, [], .nil, ob, es, ep, e1, e2, e3, ?_, ?_, ?_⟩, .inl ⟨[], rfl, .nil⟩⟩
  · exact fun x hx => by have := Array.mem_toList_iff.mpr hx; rw [e7] at this; cases this
  · rw [e7]; exact .nil
  · exact List.nodup_nil
def rGetX1 (X : Cx) : V → List V → Hp → VK → Prop := fun x xs H Q => ∃ a o kvs k y φ m, x = .ref a ∧ xs = [y] ∧ L2.Rd H a o ∧ DctAt X.K X.prog X.w H φ m a kvs o ∧ keyFit kvs k = true ∧ Rep X.K H φ m k y ∧ ∀ v, Rep X.K H φ m ((dget k kvs).getD .non) v → Q v H
def rGetX2 (X : Cx) : V → List V → Hp → VK → Prop := fun x xs H Q => ∃ a o kvs k d y z φ m, x = .ref a ∧ xs = [y, z] ∧ L2.Rd H a o ∧ DctAt X.K X.prog X.w H φ m a kvs o ∧ keyFit kvs k = true ∧ Rep X.K H φ m k y ∧ Rep X.K H φ m d z ∧ ∀ v, Rep X.K H φ m ((dget k kvs).getD d) v → Q v H
def rPopX2 (X : Cx) : V → List V → Hp → VK → Prop := fun x xs H Q => ∃ a o kvs k d y z φ m, x = .ref a ∧ xs = [y, z] ∧ H a = some o ∧ DctAt X.K X.prog X.w H φ m a kvs o ∧ keyFit kvs k = true ∧ Rep X.K H φ m k y ∧ Rep X.K H φ m d z ∧
  (dget k kvs = none → Q z H) ∧ ∀ d' v o', dget k kvs = some d' → Rep X.K H φ m d' v → DctAt X.K X.prog X.w (upd H a o') φ m a (ddrop k kvs) o' → Q v (upd H a o')
theorem mt_getX1 (hu : X.A.units + 65 < cLine) : MtR X "dict.get" (rGetX1 X) := by
  rintro pins s σ H x xs v us Q I rx rxs ⟨a, o, kvs, k, y, φ, m, rfl, rfl, h, dc, hf, r, q⟩
  cases (show v = .ref a from rx)
  obtain ⟨uy, rfl, ry⟩ := rxs.one
  exact dct_get1 (by omega) I h dc hf r ry fun w s' v I' rw' rd => ⟨v, H, I', rw', q v rd⟩
theorem mt_getX2 (hu : X.A.units + 65 < cLine) : MtR X "dict.get" (rGetX2 X) := by
  rintro pins s σ H x xs v us Q I rx rxs ⟨a, o, kvs, k, d, y, z, φ, m, rfl, rfl, h, dc, hf, r, r2, q⟩
  cases (show v = .ref a from rx)
  obtain ⟨uy, uz, rfl, ry, rz⟩ := rxs.two
  exact dct_get2 (by omega) I h dc hf r ry r2 rz fun w s' v I' rw' rd => ⟨v, H, I', rw', q v rd⟩
theorem mt_popX2 (hu : X.A.units + 65 < cLine) : MtR X "dict.pop" (rPopX2 X) := by
  rintro pins s σ H x xs v us Q I rx rxs ⟨a, o, kvs, k, d, y, z, φ, m, rfl, rfl, h, dc, hf, r, r2, q1, q2⟩
  cases (show v = .ref a from rx)
  obtain ⟨uy, uz, rfl, ry, rz⟩ := rxs.two
  obtain ⟨hw, hm⟩ := dct_wrt dc h
  have hz := dct_len I (.inl h) dc
  rcases fit_cases hf with ⟨kk, e, al⟩ | ⟨kk, e, ed, et, al⟩
  · obtain ⟨ks, h2, ps⟩ := dctF (.inl h) dc al
    have ey := flat_rep e r
    subst ey
    have h3 : H a = some (.dK ks) := by
      rcases dc with ⟨ks', rfl, r⟩ | ⟨ne, xs, rfl, r⟩
      · rcases h2 with h2 | ⟨ob, h2⟩
        · exact h2
        · rw [h] at h2; cases h2
      · rcases h2 with h2 | ⟨ob, h2⟩ <;> rw [h] at h2 <;> cases h2
    rcases ps.at e with ⟨g1, g2⟩ | ⟨d', v, g1, g2, g3⟩
    · exact d_popD I h3 ry g2 fun s' I' => ⟨z, H, I', rz, q1 g1⟩
    · exact d_pop I h3 ry g2 (.inr ⟨uz, rfl⟩) fun w' s' I' rw' => ⟨v, _, I', rw', q2 d' v _ g1 g3 (.inl ⟨_, rfl, pairS_upd hw (ps.drop e)⟩)⟩
  · obtain ⟨hs, hl, ys, py, dd⟩ := dctT I (.inl h) dc al
    obtain ⟨b, rfl⟩ := tup_rep et r
    cases (show uy = .ref b from ry)
    have hl' : ys.length ≤ sizeLine := by rw [← PySem.Paired.length py]; exact hz
    rcases py.at e with ⟨g1, g2⟩ | ⟨d', p, v, g1, g2, g3, g4⟩
    · exact call_pop_default_heap (knd := nk X) (hsz := hl') (show X.A.units + 1 + 8 < cLine by omega) (nk_is I e ed r) hs dd g2 fun tk => ⟨z, H, I.tok tk, rz, q1 g1⟩
    · refine call_pop_heap (knd := nk X) (hsz := hl') (.inr ⟨uz, rfl⟩) (PySem.F.args_dict_pop_3 _ _ _) (show X.A.units + 1 + 8 < cLine by omega) (nk_is I e ed r) hs dd g2 fun h' dd' sb => ?_
      have py' := py.drop (k := k) e
      cases hk : ddrop k kvs with
      | nil =>
        rw [hk] at py'
        have en : withoutH ys kk = [] := by cases hy : withoutH ys kk with
          | nil => rfl
          | cons x l => rw [hy] at py'; cases py'
        rw [en] at dd'
        obtain ⟨o', I', d1⟩ := dx_emp (t' := s.toks + (nk X).draws kk) I dc h hs sb dd'
        exact ⟨v, _, I', g3, q2 d' v o' g1 g4 (by rw [hk]; exact d1)⟩
      | cons p0 l0 =>
        obtain ⟨o', I', d1⟩ := dx_put (t' := s.toks + (nk X).draws kk) I dc h hs (kvs' := ddrop k kvs) (Nat.le_trans (by unfold ddrop; exact List.length_filter_le _ _) hz) (by rw [hk]; simp) sb dd' py'
        exact ⟨v, _, I', g3, q2 d' v o' g1 g4 d1⟩
theorem asDct_go {W0 W : Wd} {z : Rz} {v : V} {Q : List (D × D) → Prop} (s : Sim X.K X.prog X.w W) (r : RepZ X.K X.prog X.w W0.H W z v) (h : asDct Q W.S z) : ∃ a o kvs, v = .ref a ∧ L2.Rd W.H a o ∧ DctAt X.K X.prog X.w W.H W.φ W.S.nx a kvs o ∧ Q kvs := by
  unfold asDct at h
  split at h
  · rename_i l
    obtain ⟨hl, rfl⟩ := (show W.rep X.K (.ref l) v from r)
    split at h
    · rename_i kvs hc
      obtain ⟨o, hq, hd⟩ := (s.cells l _ hc).2
      exact ⟨_, o, kvs, rfl, .inl hq, hd, h⟩
    · rename_i kvs hc
      obtain ⟨od, o, hq, hd⟩ := (s.cells l _ hc).2
      exact ⟨_, o, kvs, rfl, .inr ⟨od, hq⟩, hd, h⟩
    · exact h.elim
  · exact h.elim
theorem atDct_go {W0 W : Wd} {z : Rz} {v : V} {Q : Nat → List (D × D) → Prop} (s : Sim X.K X.prog X.w W) (r : RepZ X.K X.prog X.w W0.H W z v) (h : atDct Q W.S z) : ∃ l o kvs, v = .ref (W.φ l) ∧ l < W.S.nx ∧ W.H (W.φ l) = some o ∧ DctAt X.K X.prog X.w W.H W.φ W.S.nx (W.φ l) kvs o ∧ Q l kvs := by
  unfold atDct at h
  split at h
  · rename_i l
    obtain ⟨hl, rfl⟩ := (show W.rep X.K (.ref l) v from r)
    split at h
    · rename_i kvs hc
      obtain ⟨o, hq, hd⟩ := (s.cells l _ hc).2
      exact ⟨l, o, kvs, rfl, hl, hq, hd, h⟩
    · exact h.elim
  · exact h.elim
/-- a dict is changed in its place -/
theorem put_dct {W : Wd} {l : Nat} {kvs kvs' : List (D × D)} {o o' : HO} (s : Sim X.K X.prog X.w W) (hl : l < W.S.nx) (h : W.H (W.φ l) = some o) (d : DctAt X.K X.prog X.w W.H W.φ W.S.nx (W.φ l) kvs o) (d' : DctAt X.K X.prog X.w (upd W.H (W.φ l) o') W.φ W.S.nx (W.φ l) kvs' o') :
    Sim X.K X.prog X.w (W.put l (.dct kvs') o') ∧ Ext X.K W (W.put l (.dct kvs') o') := by
  obtain ⟨hw, _⟩ := dct_wrt d h
  have x : Ext X.K W (W.put l (.dct kvs') o') := Ext.put hl hw (by rw [h]; simp)
  exact ⟨s.put hl hw (by rw [h]; simp) ⟨o', upd_same, d'⟩, x⟩
theorem mo_get1 (hu : X.A.units + 65 < cLine) : MtOk X .dct .get1 := by
  refine MtOk.mk (fun z => by cases z) F.plainAttrs_dict F.slot_dict_get F.type_dict_get (mt_getX1 hu) fun W0 W z v ds vs Qd Q s r rs h k => ?_
  dsimp only [mtZ, dctM] at h
  split at h <;> try exact h.elim
  obtain ⟨a, o, kvs, rfl, hq, hd, h1, h2⟩ := asDct_go s r h
  obtain ⟨y, rfl, ry⟩ := reps1 rs
  exact ⟨a, o, kvs, _, y, W.φ, W.S.nx, rfl, rfl, hq, hd, h1, ry, fun v rv => fin_val s h2 rv k⟩
theorem mo_get2 (hu : X.A.units + 65 < cLine) : MtOk X .dct .get2 := by
  refine MtOk.mk (fun z => by cases z) F.plainAttrs_dict F.slot_dict_get F.type_dict_get (mt_getX2 hu) fun W0 W z v ds vs Qd Q s r rs h k => ?_
  dsimp only [mtZ, dctM] at h
  split at h <;> try exact h.elim
  obtain ⟨a, o, kvs, rfl, hq, hd, h1, h2⟩ := asDct_go s r h
  obtain ⟨y, u, rfl, ry, ru⟩ := reps2 rs
  exact ⟨a, o, kvs, _, _, y, u, W.φ, W.S.nx, rfl, rfl, hq, hd, h1, ry, ru, fun v rv => fin_val s h2 rv k⟩
theorem mo_pop2 (hu : X.A.units + 65 < cLine) : MtOk X .dct .pop2 := by
  refine MtOk.mk (fun z => by cases z) F.plainAttrs_dict F.slot_dict_pop F.type_dict_pop (mt_popX2 hu) fun W0 W z v ds vs Qd Q s r rs h k => ?_
  dsimp only [mtZ, dctM] at h
  split at h <;> try exact h.elim
  obtain ⟨l, o, kvs, rfl, hl, hq, hd, h1, h2⟩ := atDct_go s r h
  obtain ⟨y, u, rfl, ry, ru⟩ := reps2 rs
  refine ⟨_, o, kvs, _, _, y, u, W.φ, W.S.nx, rfl, rfl, hq, hd, h1, ry, ru, fun hn => ?_, fun d' v o' hs rv hd' => ?_⟩
  · rw [hn] at h2
    exact fin_val s h2 ru k
  · rw [hs] at h2
    obtain ⟨s1, x1⟩ := put_dct s hl hq hd hd'
    exact k _ (W.put l (.dct (ddrop _ kvs)) o') v h2 s1 x1 (x1.rep rv)
end
end M3
end

section
set_option autoImplicit false
set_option linter.all false
set_option maxRecDepth 100000
set_option maxHeartbeats 1000000
/-! M3: dict(pairs). -/
namespace M3
open PySem PySem.Spec PyProof.Rows L2
section
variable {X : Cx} {pins : List (Addr × Obj)} {σ : L2.St} {H : Hp} {s : Shared} {φ : Nat → Addr} {m : Nat}
/-- the pairs, flat keys -/
theorem pairs_flat : ∀ (items : List D) (us : List V) (acc kvs : List (D × D)) (ks : List (Key × V)), Reps X.K H φ m items us → pairKeys isFlatK items = true → ofPairs items acc = some kvs → PairS X.K H φ m acc ks →
    ∃ (ps : List Addr) (more : List (Key × V)), us = ps.map V.ref ∧ Paired (fun p kv => SqT X.K H p [kV kv.1, kv.2]) ps more ∧ PairS X.K H φ m kvs (mergeK ks more)
  | [], us, acc, kvs, ks, r, _, ho, pa => by
    cases (show us = [] from r)
    cases (show some acc = some kvs from ho)
    exact ⟨[], [], rfl, .nil, pa⟩
  | d :: r, us, acc, kvs, ks, hr, hk, ho, pa => by
    obtain ⟨v, t, rfl, h1, h2⟩ := hr
    unfold pairKeys at hk
    split at hk <;> try cases hk
    · rename_i q; cases q
    · rename_i k x r' q
      cases q
      rw [Bool.and_eq_true] at hk
      obtain ⟨a, vs, rfl, hq, hv⟩ := h1
      obtain ⟨y, z, rfl, r1, r2⟩ := reps2 hv
      obtain ⟨kk, ek⟩ := isFlat_iff.mp hk.1
      have ey := flat_rep (X := X) ek r1
      subst ey
      obtain ⟨ps, more, e1, e2, e3⟩ := pairs_flat r t (dput k x acc) kvs (putK ks kk z) h2 hk.2 (by simpa [ofPairs] using ho) (pa.put ek r2)
      exact ⟨a :: ps, (kk, z) :: more, by rw [e1]; rfl, .cons hq e2, e3⟩
def rDictF (X : Cx) : List V → Hp → VK → Prop := fun xs H Q => ∃ (a : Addr) (us : List V) (items : List D) (kvs : List (D × D)) (φ : Nat → Addr) (m : Nat), xs = [.ref a] ∧ SqL X.K H a us ∧ Reps X.K H φ m items us ∧ ofPairs items [] = some kvs ∧
  (pairKeys (fun k => isTupK k && keyOk k && decide (kdep k ≤ 8)) items || pairKeys isFlatK items) = true ∧ ∀ p o, H p = none → DctAt X.K X.prog X.w (upd H p o) φ m p kvs o → Q (.ref p) (upd H p o)
structure PRow where
  T : Addr
  kk : NestedKey
  b : Addr
  u : Value
theorem pairs_tup (I : L2.Inv X pins σ H s) : ∀ (items : List D) (us : List V) (its : List Value) (acc kvs : List (D × D)) (ys : List (NestedKey × Addr × Value)), Reps X.K H φ m items us → Vals us its → pairKeys (fun k => isTupK k && keyOk k && decide (kdep k ≤ 8)) items = true → ofPairs items acc = some kvs → PairY X.K H φ m acc ys →
    ∃ rows : List PRow, its = rows.map (fun r => Value.ref r.T) ∧ (∀ r ∈ rows, s.heap.IsTuple r.T #[.ref r.b, r.u] ∧ (nk X).is s.heap r.kk r.b) ∧ PairY X.K H φ m kvs (storedAllH ys (rows.map fun r => (r.kk, r.b, r.u)))
  | [], us, its, acc, kvs, ys, r, rv, _, ho, pa => by
    cases (show us = [] from r)
    cases rv
    cases (show some acc = some kvs from ho)
    exact ⟨[], rfl, (fun r h => by cases h), pa⟩
  | d :: r, us, its, acc, kvs, ys, hr, rv, hk, ho, pa => by
    obtain ⟨v, t, rfl, h1, h2⟩ := hr
    cases rv with
    | cons rv1 rv2 =>
    rename_i u0 its'
    unfold pairKeys at hk
    split at hk <;> try cases hk
    · rename_i q; cases q
    · rename_i k x r' q
      cases q
      simp only [Bool.and_eq_true, decide_eq_true_eq] at hk
      obtain ⟨⟨⟨k1, k2⟩, k3⟩, k4⟩ := hk
      obtain ⟨a, vs, rfl, hq, hv⟩ := h1
      obtain ⟨y, z, rfl, r1, r2⟩ := reps2 hv
      obtain ⟨kk, ek⟩ := toKey_of k k2
      have dk : kk.depth ≤ 8 := by rw [toKey_depth _ _ ek]; exact k3
      obtain ⟨b, rfl⟩ := tup_rep k1 r1
      obtain ⟨ob, rob, ht, _⟩ := I.tuple hq
      obtain ⟨ub, uz, e0, e1, e2⟩ := vals2 rob
      subst e0
      cases (show ub = .ref b from e1)
      cases (show u0 = .ref a from rv1)
      obtain ⟨rows, g1, g2, g3⟩ := pairs_tup I r t its' (dput k x acc) kvs (storedH ys kk b uz) h2 rv2 k4 (by simpa [ofPairs] using ho) (pa.put ek dk k1 r1 e2 r2)
      refine ⟨⟨a, kk, b, uz⟩ :: rows, by rw [g1]; rfl, fun r hr => ?_, g3⟩
      rcases List.mem_cons.mp hr with rfl | hr
      · exact ⟨ht, nk_is I ek dk r1⟩
      · exact g2 r hr
theorem rep_new {H : Hp} {p : Addr} {o : HO} (hp : H p = none) {d : D} {v : V} (r : Rep X.K H φ m d v) : Rep X.K (upd H p o) φ m d v := Rep.mono (Kp.new hp) (fun _ _ => rfl) (Nat.le_refl _) d v r
theorem pairS_new {H : Hp} {p : Addr} {o : HO} (hp : H p = none) {kvs : List (D × D)} {ks : List (Key × V)} (h : PairS X.K H φ m kvs ks) : PairS X.K (upd H p o) φ m kvs ks := PySem_Paired_mono h fun p q ⟨r1, r2⟩ => ⟨r1, rep_new hp r2⟩
theorem ofPairs_inv {d : D} {r : List D} {acc kvs : List (D × D)} (h : ofPairs (d :: r) acc = some kvs) : ∃ k v, d = .tup [k, v] ∧ ofPairs r (dput k v acc) = some kvs := by
  match d, h with
  | .tup [k, v], h => exact ⟨k, v, rfl, h⟩
  | .tup [], h => cases h
  | .tup [_], h => cases h
  | .tup (_ :: _ :: _ :: _), h => cases h
  | .non, h => cases h
  | .bl _, h => cases h
  | .int _, h => cases h
  | .str _, h => cases h
  | .ref _, h => cases h
theorem ofPairs_len : ∀ (items : List D) (acc kvs : List (D × D)), ofPairs items acc = some kvs → kvs.length ≤ acc.length + items.length
  | [], acc, kvs, h => by cases (show some acc = some kvs from h); simp
  | d :: r, acc, kvs, h => by
    obtain ⟨k, x, rfl, h⟩ := ofPairs_inv h
    have h1 := ofPairs_len r _ _ h
    have h2 := dput_len k x acc
    rw [List.length_cons]; omega
theorem ofPairs_ne : ∀ (items : List D) (acc kvs : List (D × D)), acc ≠ [] → ofPairs items acc = some kvs → kvs ≠ []
  | [], acc, kvs, ne, h => by cases (show some acc = some kvs from h); exact ne
  | d :: r, acc, kvs, ne, h => by
    obtain ⟨k, x, rfl, h⟩ := ofPairs_inv h
    exact ofPairs_ne r _ _ (dput_ne _ _ _) h
theorem call_dictF (hc : X.calm = true) (hu : X.A.units + 65 < cLine) : CallR X (.type "dict") (rDictF X) := by
  rintro pins s σ H xs us Q I r ⟨a, vs, items, kvs, φ, m, rfl, hq, hr, ho, hk, q⟩
  cases Bool.or_eq_true_iff.mp hk with
  | inr hk =>
    obtain ⟨ps, more, e1, e2, e3⟩ := pairs_flat items vs [] kvs [] hr hk ho .nil
    subst e1
    exact call_dictP hc pins s σ H _ us Q I r ⟨a, ps, more, rfl, hq, e2, fun p hp => q p _ hp (.inl ⟨_, rfl, pairS_new hp e3⟩)⟩
  | inl hk =>
    cases items with
    | nil =>
      cases (show vs = [] from hr)
      cases (show some [] = some kvs from ho)
      exact call_dictP hc pins s σ H _ us Q I r ⟨a, [], [], rfl, hq, .nil, fun p hp => q p _ hp (.inl ⟨_, rfl, .nil⟩)⟩
    | cons d0 items0 =>
    obtain ⟨u, rfl, ru⟩ := vals1 r
    cases (show u = .ref a from ru)
    obtain ⟨its, rv, pl, hz⟩ := I.list hq
    obtain ⟨rows, g1, g2, g3⟩ := pairs_tup I _ vs its [] kvs [] hr rv hk ho .nil
    subst g1
    obtain ⟨o, c, po, pc, pd, pdat⟩ := pl
    have hlen : vs.length = rows.length := by rw [rv.length, List.length_map]
    have hP := PairArg.list (prog := X.prog) (w := X.w) a (rows.map fun r => Value.ref r.T).toArray (fun j => (rows[j]?.map (·.T)).getD 0) (rows.map fun r => (Value.ref r.b, r.u))
    have hit : ∀ r ∈ (rows.map fun r => (r.kk, r.b, r.u)), (nk X).is s.heap r.1 r.2.1 := fun r hr => by
      obtain ⟨r0, h0, rfl⟩ := List.mem_map.mp hr
      exact (g2 r0 h0).2
    have kn : kvs ≠ [] := by
      obtain ⟨k, x, rfl, h⟩ := ofPairs_inv ho
      exact ofPairs_ne _ _ _ (dput_ne _ _ _) h
    refine call_dict_pairsH (knd := nk X) (ps := rows.map fun r => (r.kk, r.b, r.u)) hP (I.ok.hd hc) (show X.A.units + 1 + 1 + 8 < cLine by omega) ⟨⟨o, c, po, pc, pd, pdat⟩, by simp, fun j k v hj => ?_⟩ ⟨by simp, fun i key v hi => ?_⟩ (fun h' hk' x hx => ?_) (by rw [List.length_map]; omega) fun h' tk hd' hk' => ?_
    · rw [List.getElem?_map] at hj
      obtain ⟨r, hr, e⟩ := Option.map_eq_some_iff.mp hj
      cases e
      refine ⟨by simp [hr], ?_⟩
      show PairAt s.heap ((rows[j]?.map (·.T)).getD 0) _ _
      rw [hr]
      exact .inl (g2 r (List.mem_of_getElem? hr)).1
    · have hi' : (rows.map fun r => (Value.ref r.b, r.u))[i]? = some (key, v) := hi
      rw [List.getElem?_map] at hi'
      obtain ⟨r, hr, e⟩ := Option.map_eq_some_iff.mp hi'
      cases e
      exact ⟨r.kk, r.b, by simp [hr], rfl⟩
    · have := hit x hx
      exact nestedKind_stays.stays (fun b o' _ _ e _ => hk' b o' (Nat.ne_of_lt (Heap.lt_size e)) (by simp) e) this
    · obtain ⟨xs, h1, h2⟩ := g3.split
      obtain ⟨ob, es, ep, e1, e2, e3, e4, e5, e6⟩ := hd'
      have hf := I.hok.fresh (Nat.le_refl s.heap.objs.size)
      have hs : (s.heap.objs.size == sysModules) = false := beq_eq_false_iff_ne.mpr (Nat.ne_of_gt I.big)
      have hl : xs.length ≤ sizeLine := by
        rw [← PySem.Paired.length h1]
        have := ofPairs_len _ _ _ ho
        have := hr.length
        simp only [List.length_nil] at *
        omega
      refine ⟨.ref s.heap.objs.size, upd H s.heap.objs.size (DX X.prog X.w s.heap.objs.size xs), I.laid (t' := tk) (fun b o e => hk' b o (by simp) e) (Nat.le_refl _) ⟨⟨hs, hl, _, h2, ob, es, ep, e1, e2, e3, e4, e6⟩, ⟨ob, e1⟩, fun g1 g2 ⟨k1, k2, zs, k3, o2, es2, ep2, k4, k5⟩ st => ⟨k1, k2, zs, k3, o2, es2, ep2, st _ k4, k5⟩⟩, rfl, q _ _ hf (.inr ⟨kn, xs, rfl, PySem_Paired_mono h1 fun p q ⟨r1, r2, r3, r4, r5⟩ => ⟨r1, r2, r3, rep_new hf r4, rep_new hf r5⟩⟩)⟩
/-- a new dict as an answer -/
theorem fin_dct {W : Wd} {Qd : Rz → Store → Prop} {Q : VK} {kvs : List (D × D)} {p : Addr} {o : HO} (s : Sim X.K X.prog X.w W) (hp : W.H p = none) (h : Qd (.dct kvs) W.S) (r : DctAt X.K X.prog X.w (upd W.H p o) W.φ W.S.nx p kvs o) (k : Fin X W Qd Q) : Q (.ref p) (upd W.H p o) :=
  have x2 : Ext X.K W { W with H := upd W.H p o } := Ext.new hp
  k (.dct kvs) { W with H := upd W.H p o } (.ref p) h (s.new hp) x2 ⟨p, o, rfl, hp, s.noLab hp, upd_same, r⟩
end
section
variable {X : Cx}
theorem bi_dict (hc : X.calm = true) (hu : X.A.units + 65 < cLine) : BiOk X (.type "dict") .dict := by
  refine CallD.mk (call_dictF hc hu) fun W0 W zs vs Qd Q s r h k => ?_
  dsimp only [biZ] at h
  split at h <;> try exact h.elim
  · obtain ⟨v, rfl, r0⟩ := repZs1 r
    obtain ⟨p, us, xs, rfl, hp, hr, kvs, h1, h2, h3⟩ := asL_go s r0 h
    exact ⟨p, us, xs, kvs, W.φ, W.S.nx, rfl, hp, hr, h1, h2, fun p o hn hd => fin_dct s hn h3 hd k⟩
end
end M3
end

section
set_option autoImplicit false
set_option linter.all false
set_option maxRecDepth 100000
set_option maxHeartbeats 1000000
/-! M3: sorted(d.items()). -/
namespace M3
open PySem PySem.Spec PyProof.Rows L2
section
variable {K : PySem.W.Frag} {P : Program} {w : World} {W : Wd} {H2 : Hp}
theorem Ext.grow (g : ∀ b o, W.H b = some o → H2 b = some o) : Ext K W { W with H := H2 } where
  nx := Nat.le_refl _
  agree := fun _ _ => rfl
  tups := Kp.grow g
  frame := fun a o h _ => g a o h
  fresh := fun l h1 h2 => absurd h2 (Nat.not_lt.mpr h1)
  live := fun a h => by
    cases e : W.H a with
    | none => rfl
    | some o => have h' : H2 a = none := h; rw [g a o e] at h'; cases h'
theorem Sim.grow (s : Sim K P w W) (g : ∀ b o, W.H b = some o → H2 b = some o) : Sim K P w { W with H := H2 } := by
  have e : Ext K W { W with H := H2 } := Ext.grow g
  exact ⟨fun l hl z => s.liv l hl (e.live _ z), s.inj, fun l c h => ⟨(s.cells l c h).1, (s.cells l c h).2.mono e.tups e.agree e.nx fun o' h' => g _ _ h'⟩⟩
end
section
variable {X : Cx} {pins : List (Addr × Obj)} {σ : L2.St} {H : Hp} {s : Shared} {φ : Nat → Addr} {m : Nat}
/-- the entries of any dict that is read -/
theorem dct_raw {a : Addr} {o : HO} {kvs : List (D × D)} (I : L2.Inv X pins σ H s) (h : L2.Rd H a o) (d : DctAt X.K X.prog X.w H φ m a kvs o) :
    ∃ es ep, DT.Raw s.heap a es ep ∧ es.size = kvs.length ∧ (a == sysModules) = false ∧ ∀ (j : Nat) (p : D × D), kvs[j]? = some p → ∃ (e : DictEntry) (v u : V), es[j]? = some e ∧ RelV v e.key ∧ Rep X.K H φ m p.1 v ∧ RelV u e.val ∧ Rep X.K H φ m p.2 u := by
  rcases id d with ⟨ks, rfl, r⟩ | ⟨ne, xs, rfl, r⟩
  · obtain ⟨z, hs, vs, kv, dd⟩ : ks.length ≤ sizeLine ∧ (a == sysModules) = false ∧ ∃ vs, KV ks vs ∧ s.heap.DictOf (mixKind X.prog X.w) a vs := h.ok I.hok
    obtain ⟨es, ep, hr, he, hx⟩ := dd.raw
    have l1 : kvs.length = ks.length := PySem.Paired.length r
    have l2 : ks.length = vs.length := PySem.Paired.length kv
    refine ⟨es, ep, hr, by omega, hs, fun j p hp => ?_⟩
    obtain ⟨q, g1, g2, g3⟩ := LiI.paired_get r hp
    obtain ⟨q2, g4, g5, g6⟩ := LiI.paired_get kv g1
    have hj : j < es.size := by rw [he]; exact (List.getElem?_eq_some_iff.mp g4).1
    obtain ⟨g7, g8⟩ := hx j hj q2.1 q2.2 g4
    refine ⟨es[j], kV q.1, q.2, Array.getElem?_eq_getElem hj, ?_, ?_, ?_, g3⟩
    · rw [g5]; exact relV_key (show keyIs q2.1 es[j].key = true from g7)
    · cases hq : p.1 with
      | str x => rw [hq] at g2; rw [← Option.some.inj g2]; rfl
      | int x => rw [hq] at g2; rw [← Option.some.inj g2]; rfl
      | _ => rw [hq] at g2; cases g2
    · rw [g8]; exact g6
  · obtain ⟨hs, hl, ys, py, ob, es, ep, h1, h2, h3, h4, h5, h6⟩ := dctT I h d r.allTup
    have l1 : kvs.length = ys.length := PySem.Paired.length py
    refine ⟨es, ep, ⟨ob, h1, h2, h3⟩, by rw [size_of_entries h4]; omega, hs, fun j p hp => ?_⟩
    obtain ⟨q, g1, g2, g3, g4, g5, v, g6, g7⟩ := LiI.paired_get py hp
    refine ⟨entryOfKey (nk X) q, .ref q.2.1, v, by rw [entry_at h4, g1]; rfl, rfl, g5, g6, g7⟩

theorem reps_get : ∀ {ds : List D} {vs : List V}, vs.length = ds.length → (∀ (j : Nat) (d : D) (v : V), ds[j]? = some d → vs[j]? = some v → Rep X.K H φ m d v) → Reps X.K H φ m ds vs
  | [], vs, hl, _ => List.eq_nil_of_length_eq_zero hl
  | d :: ds, [], hl, _ => by cases hl
  | d :: ds, v :: vs, hl, h => ⟨v, vs, rfl, h 0 d v rfl rfl, reps_get (by simpa using hl) fun j d' v' h1 h2 => h (j + 1) d' v' (by simpa using h1) (by simpa using h2)⟩
/-- tuples just laid, tracked -/
theorem tupsTaken (I0 : L2.Inv X pins σ H s) {h' : Heap} {tk : Nat} {es : Array DictEntry} {kvs : List (D × D)} {as : List Addr} (I1 : L2.Inv X pins σ H { s with heap := h', toks := tk }) (hs : es.size = kvs.length) (hl : as.length = es.size) (nd : as.Nodup) (above : ∀ a ∈ as, s.heap.objs.size ≤ a)
    (pr : ∀ (j : Nat) (a : Addr), as[j]? = some a → ∃ e, es[j]? = some e ∧ h'.get? a = some { cls := .type "tuple", data := .seq #[e.key, e.val] })
    (hx : ∀ (j : Nat) (p : D × D), kvs[j]? = some p → ∃ (e : DictEntry) (v u : V), es[j]? = some e ∧ RelV v e.key ∧ Rep X.K H φ m p.1 v ∧ RelV u e.val ∧ Rep X.K H φ m p.2 u) :
    ∃ H2, L2.Inv X pins σ H2 { s with heap := h', toks := tk } ∧ (∀ b o, H b = some o → H2 b = some o) ∧ Reps X.K H2 φ m (kvs.map fun p => .tup [p.1, p.2]) (as.map V.ref) := by
  obtain ⟨H2, I2, g, q⟩ := L2.DX.takeT (P := fun a vs => ∃ (j : Nat) (p : D × D), as[j]? = some a ∧ kvs[j]? = some p ∧ Reps X.K H φ m [p.1, p.2] vs) I0 as H I1 nd fun a ha => by
    obtain ⟨j, hj⟩ := List.mem_iff_getElem?.mp ha
    obtain ⟨e, he, ho⟩ := pr j a hj
    have hlt : j < kvs.length := by rw [← hs, ← hl]; exact (List.getElem?_eq_some_iff.mp hj).1
    obtain ⟨e', v, u, g1, g2, g3, g4, g5⟩ := hx j kvs[j] (List.getElem?_eq_getElem hlt)
    rw [he] at g1; cases g1
    refine ⟨above a ha, I0.hok.fresh (above a ha), [v, u], ⟨j, kvs[j], hj, List.getElem?_eq_getElem hlt, v, [u], rfl, g3, u, [], rfl, g5, rfl⟩, fun H2 => ?_⟩
    exact ⟨by show 2 ≤ sizeLine; decide, [e.key, e.val], .cons g2 (.cons g4 .nil), ⟨_, ho, rfl, _, rfl⟩⟩
  refine ⟨H2, I2, g, reps_get (by rw [List.length_map, List.length_map, hl, hs]) fun j d v h1 h2 => ?_⟩
  rw [List.getElem?_map] at h1 h2
  obtain ⟨p, hp, rfl⟩ := Option.map_eq_some_iff.mp h1
  obtain ⟨a, ha, rfl⟩ := Option.map_eq_some_iff.mp h2
  obtain ⟨vs, ⟨j', p', e1, e2, e3⟩, e4⟩ := q a (List.mem_of_getElem? ha)
  have ej : j' = j := (List.getElem?_inj (List.getElem?_eq_some_iff.mp e1).1 nd).mp (e1.trans ha.symm)
  rw [ej, hp] at e2
  cases e2
  exact ⟨a, vs, rfl, SqT.of e4, Reps.mono (Kp.grow g) (fun _ _ => rfl) (Nat.le_refl _) _ _ e3⟩
def rSortIX (X : Cx) : List V → Hp → VK → Prop := fun vs H Q => ∃ (p a : Addr) (o : HO) (kvs : List (D × D)) (W : Wd) (Qd : Rz → Store → Prop), vs = [.ref p] ∧ H p = some (DX.itemsO p a) ∧ L2.Rd H a o ∧ W.H = H ∧ Sim X.K X.prog X.w W ∧ DctAt X.K X.prog X.w H W.φ W.S.nx a kvs o ∧
  sortW (kvs.map fun p => .tup [p.1, p.2]) W.S Qd ∧ Fin X W Qd Q
theorem call_sortIX (hc : X.calm = true) (hu : X.A.units + 65 < cLine) : CallR X (.builtin "sorted") (rSortIX X) := by
  rintro pins s σ H xs us Q I r ⟨p, a, o, kvs, W, Qd, rfl, hp, ha, eh, sm, hd, ⟨β, bs, dec, enc, eb, hrd, al, so, hl, dp, q⟩, k⟩
  obtain ⟨u, rfl, ru⟩ := vals1 r
  cases (show u = .ref p from ru)
  have view : s.heap.IsItemsView p a := (show ObjOk X.prog X.w H s.heap p (DX.itemsO p a) from I.hok p _ hp).1
  obtain ⟨es, ep, raw, hes, hsm, hx⟩ := dct_raw I ha hd
  have hz := dct_len I ha hd
  refine DT.sortedI (es := es) (ep := ep) (I.ok.hd hc) view raw (by rw [hes]; exact hz) fun h' tk as hk hlt hla hG => ?_
  have I1 : L2.Inv X pins σ H { s with heap := h', toks := tk } := I.kept hk
  have nd : as.Nodup := List.Pairwise.imp (fun h => Nat.ne_of_lt h) hG.rise
  obtain ⟨H2, I2, g, rp⟩ := tupsTaken I I1 hes hla nd (fun b hb => Nat.le_of_lt (hG.above b hb)) hG.pairs hx
  subst eh
  have sm2 : Sim X.K X.prog X.w { W with H := H2 } := sm.grow g
  have x2 : Ext X.K W { W with H := H2 } := Ext.grow g
  rw [eb] at rp
  obtain ⟨e1, e2⟩ := each_of (W := { W with H := H2 }) I2 sm2 rfl bs (as.map V.ref) (as.map Value.ref) hrd rp (LiI.vals_refs as)
  have hob : (h'.push { cls := .type "list", data := .seq (as.map Value.ref).toArray }).get? h'.objs.size = some (seqObj "list" (as.map Value.ref).toArray 0) := Heap.get?_push_size _ rfl
  generalize hh2 : h'.push { cls := .type "list", data := .seq (as.map Value.ref).toArray } = h2 at hob
  have kb : ∀ b o, h'.get? b = some o → b ≠ h'.objs.size ∧ h2.get? b = some o := fun b o e => ⟨Nat.ne_of_lt (Heap.lt_size e), by rw [← hh2]; exact Heap.get?_push_of_some _ e⟩
  have er' : PySem.W.EachIs (fun v b => ∃ l, Reads (PySem.W.sortingHeap h2 h'.objs.size (as.map Value.ref)) v (enc b) l) (as.map Value.ref) bs := e2.mono fun v b ⟨l, r⟩ => ⟨l, PyProof.Rows.Reads.keeps (fun b o e => PySem.W.sortingHeap_old (kb b o e).1 (kb b o e).2) r⟩
  have hlen : (as.map Value.ref).length ≤ sizeLine := by rw [List.length_map, hla, hes]; exact hz
  have lb : bs.length = (as.map Value.ref).length := by rw [← e1.length]
  refine wpAny_call_entry slot_list_sort ⟨_, hob, rfl⟩ entry_list_sort (PySem.W.list_sort_vals (s := { s with heap := h2, toks := tk }) (κ := PySem.W.dataKind (PySem.W.sortingHeap h2 h'.objs.size (as.map Value.ref)) (bs.map enc)) hob
    (PySem.W.SortsAt.data (s := { s with heap := PySem.W.sortingHeap h2 h'.objs.size (as.map Value.ref), toks := tk }) (PySem.W.each_map (R := fun v d => ∃ l, Reads (PySem.W.sortingHeap h2 h'.objs.size (as.map Value.ref)) v d l) enc er') al so (PySem.W.bound_map fun b hb => by have := dp b hb; show X.A.units + 1 + 1 + _ < _; omega)) hlen ⟨.none, rfl, ?_⟩) (args_list_sort _)
  obtain ⟨ws, q1, q2⟩ := out_of (W := { W with H := H2 }) (PySem.W.sortVals_data false e1 er' al)
  obtain ⟨ep2, he'⟩ := sortedHeap_at (out := (PySem.W.sortVals (PySem.W.dataKind (PySem.W.sortingHeap h2 h'.objs.size (as.map Value.ref)) (bs.map enc)) false (as.map Value.ref) (as.map Value.ref)).toArray) hob
  have hf := I2.hok.fresh (Nat.le_refl h'.objs.size)
  have hl2 : ws.length ≤ sizeLine := by rw [q2.length, List.length_map, List.length_mergeSort, lb]; exact hlen
  refine ⟨.ref _, upd H2 h'.objs.size (.lst ws), I2.laid (t' := tk) (fun b o e => ?_) (Nat.le_refl _) ⟨hl2, _, ep2, q1, he'⟩, rfl, ?_⟩
  · have := kb b o e
    show (sortedHeap h2 h'.objs.size _ _).get? b = some o
    rw [sortedHeap_old this.1 (Heap.lt_size this.2)]; exact this.2
  · exact fin_lst sm2 hf q q2 fun z W1 v' h1 s1 x1 r1 => k z W1 v' h1 s1 (x2.trans x1) (r1.base x2.live)
end
end M3
end

section
set_option autoImplicit false
set_option linter.all false
set_option maxRecDepth 100000
set_option maxHeartbeats 1000000
/-! M3: tests. -/
namespace M3
open PySem PySem.Spec PyProof.Rows L2
section
variable {X : Cx} {G : Cn} {prg : Prg} {xc : XC} {n : Nat} {W00 : Wd} {E : Nat → Env → Store → Prop} {a b c e : Expr} {ca cb cc : CE} {pos p p2 : Pos}
abbrev DW (X : Cx) (prg : Prg) (n : Nat) (W00 : Wd) (E : Nat → Env → Store → Prop) (e : Expr) (c : CE) : Prop := PW X e (tT X prg n W00 E c)
theorem PW.imp {X : Cx} {e : Expr} {t t' : TT} (h : PW X e t) (i : ∀ σ H Q, t' σ H Q → t σ H Q) : PW X e t' := ⟨fun wh pins s σ H Q I q => h.run wh pins s σ H Q I (i _ _ _ q)⟩
theorem tT_and {σ : L2.St} {H : Hp} {Q : Bool → Hp → Prop} (h : tT X prg n W00 E (.and ca cb) σ H Q) : tAnd (tT X prg n W00 E ca) (tT X prg n W00 E cb) σ H Q := by
  obtain ⟨W, σd, Qd, e1, s, ev, ex, h, k⟩ := h
  subst e1
  simp only [wpE] at h
  refine ⟨W, σd, fun k S2 => match k with | true => wpE (callD prg n) E cb σd S2 (truth Qd) | false => Qd false S2, rfl, s, ev, ex, ?_, fun t W1 h1 s1 x1 => ?_⟩
  · exact wpE_mono (callD_mono prg n) (fun _ _ _ h => h) _ _ _ _ _ (fun x S1 h => truth_and h) h
  · cases t with
    | true => rw [if_pos rfl]; exact ⟨W1, σd, Qd, rfl, s1, ev.ext x1, ex.trans x1, h1, fun k' W2 h2 s2 x2 => k k' W2 h2 s2 (x1.trans x2)⟩
    | false => rw [if_neg Bool.false_ne_true]; exact k false W1 h1 s1 x1
theorem tT_or {σ : L2.St} {H : Hp} {Q : Bool → Hp → Prop} (h : tT X prg n W00 E (.or ca cb) σ H Q) : tOr (tT X prg n W00 E ca) (tT X prg n W00 E cb) σ H Q := by
  obtain ⟨W, σd, Qd, e1, s, ev, ex, h, k⟩ := h
  subst e1
  simp only [wpE] at h
  refine ⟨W, σd, fun k S2 => match k with | true => Qd true S2 | false => wpE (callD prg n) E cb σd S2 (truth Qd), rfl, s, ev, ex, ?_, fun t W1 h1 s1 x1 => ?_⟩
  · exact wpE_mono (callD_mono prg n) (fun _ _ _ h => h) _ _ _ _ _ (fun x S1 h => truth_or h) h
  · cases t with
    | false => rw [if_neg Bool.false_ne_true]; exact ⟨W1, σd, Qd, rfl, s1, ev.ext x1, ex.trans x1, h1, fun k' W2 h2 s2 x2 => k k' W2 h2 s2 (x1.trans x2)⟩
    | true => rw [if_pos rfl]; exact k true W1 h1 s1 x1
theorem dw_and {rest : List Expr} (ha : DT X prg n W00 E a ca) (hb : DW X prg n W00 E (.BoolOp .And (b :: rest) pos) cb) : DW X prg n W00 E (.BoolOp .And (a :: b :: rest) pos) (.and ca cb) := PW.imp (pw_and ha hb) fun _ _ _ h => tT_and h
theorem dw_or {rest : List Expr} (ha : DT X prg n W00 E a ca) (hb : DW X prg n W00 E (.BoolOp .Or (b :: rest) pos) cb) : DW X prg n W00 E (.BoolOp .Or (a :: b :: rest) pos) (.or ca cb) := PW.imp (pw_or ha hb) fun _ _ _ h => tT_or h
theorem dw_and1 (ha : DT X prg n W00 E a ca) : DW X prg n W00 E (.BoolOp .And [a] pos) ca := pw_and1 ha
theorem dw_or1 (ha : DT X prg n W00 E a ca) : DW X prg n W00 E (.BoolOp .Or [a] pos) ca := pw_or1 ha
theorem dt_not (ha : DT X prg n W00 E a ca) : DT X prg n W00 E (.UnaryOp .Not a pos) (.not ca) := by
  refine PT.imp (pt_not ha) fun σ H Q ⟨W, σd, Qd, e1, s, ev, ex, h, k⟩ => ?_
  subst e1
  simp only [wpE] at h
  exact ⟨W, σd, _, rfl, s, ev, ex, wpE_mono (callD_mono prg n) (fun _ _ _ h => h) _ _ _ _ _ (fun x S1 h => h) h, fun t W1 h1 s1 x1 => k _ W1 h1 s1 x1⟩
theorem dt_cmp {o : COp} (hu : X.A.units + 65 < cLine) (ha : DE X prg n W00 E a ca) (hb : DE X prg n W00 E b cb) (hm : behindInMarks (cmpOf o) b = false) : DT X prg n W00 E (.Compare a [cmpOf o] [b] pos) (.cmp o ca cb) := by
  refine PT.imp (pt_cmpR (op_cmp hu o) ha hb hm) fun σ H Q ⟨W, σd, Qd, e1, s, ev, ex, h, k⟩ => ?_
  subst e1
  simp only [wpE] at h
  refine ⟨W, σd, _, rfl, s, ev, ex, h, fun x W1 v h1 s1 x1 r1 => ?_⟩
  refine ⟨W1, σd, _, rfl, s1, ev.ext x1, ex.trans x1, h1, fun y W2 u h2 s2 x2 r2 => ?_⟩
  refine cmp_go o W W2 x y v u (truth Qd) _ s2 (r1.ext x2) (r2.base x1.live) h2 fun b hb => ?_
  exact ⟨b, rfl, k b W2 hb s2 (x1.trans x2)⟩
theorem dt_cmp2 {o1 o2 : COp} (hu : X.A.units + 65 < cLine) (ha : DE X prg n W00 E a ca) (hb : DE X prg n W00 E b cb) (hc : DE X prg n W00 E c cc) (hm : lastMarks [cmpOf o1, cmpOf o2] [b, c] = false) :
    DT X prg n W00 E (.Compare a [cmpOf o1, cmpOf o2] [b, c] pos) (.cmp2 o1 o2 ca cb cc) := by
  refine PT.imp (pt_chain (op_cmp hu o1) (op_cmp hu o2) ha hb hc hm) fun σ H Q ⟨W, σd, Qd, e1, s, ev, ex, h, k⟩ => ?_
  subst e1
  simp only [wpE] at h
  refine ⟨W, σd, _, rfl, s, ev, ex, h, fun x W1 v h1 s1 x1 r1 => ?_⟩
  refine ⟨W1, σd, _, rfl, s1, ev.ext x1, ex.trans x1, h1, fun y W2 u h2 s2 x2 r2 => ?_⟩
  refine cmp_go o1 W W2 x y v u _ _ s2 (r1.ext x2) (r2.base x1.live) h2 fun b h3 => ?_
  refine ⟨b, rfl, ?_⟩
  cases b with
  | true =>
    rw [if_pos rfl]
    refine ⟨W2, σd, _, rfl, s2, (ev.ext x1).ext x2, (ex.trans x1).trans x2, h3, fun w W4 u' h4 s4 x4 r4 => ?_⟩
    refine cmp_go o2 W1 W4 y w u u' _ _ s4 (r2.ext x4) (r4.base fun a h => x2.live _ h) h4 fun b h5 => ?_
    exact ⟨b, rfl, k b W4 h5 s4 ((x1.trans x2).trans x4)⟩
  | false =>
    rw [if_neg Bool.false_ne_true]
    exact ⟨false, rfl, k false W2 h3 s2 (x1.trans x2)⟩
end
end M3
end

section
set_option autoImplicit false
set_option linter.all false
set_option maxRecDepth 100000
set_option maxHeartbeats 1000000
/-! M3: targets, walks. -/
namespace M3
open PySem PySem.Spec PyProof.Rows L2
theorem EnvRep.set {K : PySem.W.Frag} {W : Wd} {σd : Env} {σ : L2.St} {i : Nat} {d : D} {v : V} (e : EnvRep K W σd σ) (r : W.rep K d v) : EnvRep K W (σd.set i (some d)) (σ.set i (some v)) := by
  refine ⟨by rw [List.length_set, List.length_set, e.len], fun j d' h => ?_⟩
  rw [List.getElem?_set] at h ⊢
  by_cases z : i = j
  · rw [if_pos z] at h ⊢
    by_cases q : i < σd.length
    · rw [if_pos q] at h
      cases h
      rw [if_pos (by rw [← e.len]; exact q)]
      exact ⟨v, rfl, r⟩
    · rw [if_neg q] at h; cases h
  · rw [if_neg z] at h ⊢
    exact e.get j d' h
section
variable {X : Cx} {G : Cn} {prg : Prg} {xc : XC} {n : Nat} {W00 : Wd} {E : Nat → Env → Store → Prop} {a b c e : Expr} {ca cb cc : CE} {pos p p2 : Pos}
def tG (X : Cx) (t : Tg) : TG := fun x σ H Q => ∃ (W : Wd) (σd : Env) (d : D) (σd2 : Env), W.H = H ∧ Sim X.K X.prog X.w W ∧ EnvRep X.K W σd σ ∧ W.rep X.K d x ∧ tgW t d σd = some σd2 ∧
  ∀ σ2, EnvRep X.K W σd2 σ2 → σ2.length = σ.length → (∀ i, i ∉ tgSlots t → σ2[i]? = σ[i]?) → Q σ2 H
def tGs (X : Cx) (ts : List Tg) : TGs := fun xs σ H Q => ∃ (W : Wd) (σd : Env) (ds : List D) (σd2 : Env), W.H = H ∧ Sim X.K X.prog X.w W ∧ EnvRep X.K W σd σ ∧ W.reps X.K ds xs ∧ tgWs ts ds σd = some σd2 ∧
  ∀ σ2, EnvRep X.K W σd2 σ2 → σ2.length = σ.length → (∀ i, i ∉ tgSlotss ts → σ2[i]? = σ[i]?) → Q σ2 H
theorem PG.imp {e : Expr} {t t' : TG} (h : PG X e t) (i : ∀ v σ H Q, t' v σ H Q → t v σ H Q) : PG X e t' := ⟨fun pins s σ H v u Q I r q => h.run pins s σ H v u Q I r (i _ _ _ _ q)⟩
theorem PGs.imp {e : List Expr} {t t' : TGs} (h : PGs X e t) (i : ∀ v σ H Q, t' v σ H Q → t v σ H Q) : PGs X e t' := ⟨fun pins s σ H v u Q I r q => h.run pins s σ H v u Q I r (i _ _ _ _ q)⟩
theorem dg_v {i : Nat} {x : Str} (hN : X.N.Nodup) (hi : X.N[i]? = some x) (hx : Loc X.env.scope x) (hf : X.fn x = true ∨ X.env.scope.names.lookup x = some .local) : PG X (.Name x pos) (tG X (.v i)) := by
  refine PG.imp (pg_name hN hi hx hf) fun v σ H Q ⟨W, σd, d, σd2, e1, s, ev, r, ht, k⟩ => ?_
  subst e1
  unfold tgW at ht
  split at ht
  · cases ht
    refine k _ (ev.set r) (by rw [List.length_set]) fun j hj => ?_
    have z : i ≠ j := fun z => hj (by simp [tgSlots, z])
    rw [List.getElem?_set_ne z]
  · cases ht
theorem dgs_nil : PGs X [] (tGs X []) := by
  refine PGs.imp pgs_nil fun vs σ H Q ⟨W, σd, ds, σd2, e1, s, ev, r, ht, k⟩ => ?_
  subst e1
  cases ds with
  | nil =>
    cases (show vs = [] from r)
    cases (show some σd = some σd2 from ht)
    exact ⟨rfl, k σ ev rfl fun _ _ => rfl⟩
  | cons d ds => cases ht
theorem dgs_cons {es : List Expr} {t : Tg} {ts : List Tg} (h : PG X e (tG X t)) (hs : PGs X es (tGs X ts)) (he : (assignEach (e :: es) X.env).map (·.2) = assign e X.env :: (assignEach es X.env).map (·.2)) : PGs X (e :: es) (tGs X (t :: ts)) := by
  refine PGs.imp (pgs_cons h hs he) fun vs σ H Q ⟨W, σd, ds, σd2, e1, s, ev, r, ht, k⟩ => ?_
  subst e1
  cases ds with
  | nil => cases ht
  | cons d ds =>
    obtain ⟨v, rr, rfl, r1, r2⟩ := r
    have ht' : (tgW t d σd).bind (tgWs ts ds) = some σd2 := ht
    obtain ⟨σm, h1, h2⟩ := Option.bind_eq_some_iff.mp ht'
    refine ⟨v, rr, rfl, W, σd, d, σm, rfl, s, ev, r1, h1, fun σ2 ev2 l2 o2 => ?_⟩
    refine ⟨W, σm, ds, σd2, rfl, s, ev2, r2, h2, fun σ3 ev3 l3 o3 => ?_⟩
    refine k σ3 ev3 (l3.trans l2) fun j hj => ?_
    simp only [tgSlotss, List.mem_append, not_or] at hj
    rw [o3 j hj.2, o2 j hj.1]
mutual
theorem tgW_len : ∀ (t : Tg) (d : D) (σ σ2 : Env), tgW t d σ = some σ2 → σ2.length = σ.length
  | .v i, d, σ, σ2, h => by
    unfold tgW at h
    split at h
    · cases h; rw [List.length_set]
    · cases h
  | .t ts, d, σ, σ2, h => by
    cases d with
    | tup ds => exact (tgWs_len ts ds σ σ2 (by simpa [tgW] using h)).2
    | _ => simp [tgW] at h
theorem tgWs_len : ∀ (ts : List Tg) (ds : List D) (σ σ2 : Env), tgWs ts ds σ = some σ2 → ds.length = ts.length ∧ σ2.length = σ.length
  | [], [], σ, σ2, h => by cases (show some σ = some σ2 from h); exact ⟨rfl, rfl⟩
  | [], _ :: _, σ, σ2, h => by simp [tgWs] at h
  | _ :: _, [], σ, σ2, h => by simp [tgWs] at h
  | t :: ts, d :: ds, σ, σ2, h => by
    have ht' : (tgW t d σ).bind (tgWs ts ds) = some σ2 := h
    obtain ⟨σm, h1, h2⟩ := Option.bind_eq_some_iff.mp ht'
    obtain ⟨a, b⟩ := tgWs_len ts ds σm σ2 h2
    exact ⟨by simp [a], b.trans (tgW_len t d σ σm h1)⟩
end
theorem dg_t {es : List Expr} {k : Nat} {ts : List Tg} (hc : X.calm = true) (h : PGs X es (tGs X ts)) (hn : (assignEach es X.env).length = ts.length) (hst : (assignEach es X.env).findIdx? (·.1) = none) : PG X (.Tuple es k pos) (tG X (.t ts)) := by
  refine PG.imp (pg_tup hc h hn hst) fun v σ H Q ⟨W, σd, d, σd2, e1, s, ev, r, ht, k⟩ => ?_
  subst e1
  cases d with
  | tup ds =>
    obtain ⟨a, xs, rfl, hq, hr⟩ := r
    have ht' : tgWs ts ds σd = some σd2 := by simpa [tgW] using ht
    exact ⟨a, xs, rfl, hq, by rw [hr.length]; exact (tgWs_len ts ds σd σd2 ht').1, W, σd, ds, σd2, rfl, s, ev, hr, ht', k⟩
  | _ => simp [tgW] at ht

/-! ### walks -/
/-- how an iterator goes through its things -/
structure Walkd (X : Cx) (J : It) (items : List D) (g : Store → Prop) (W1 : Wd) : Prop where
  stop : ∀ (W : Wd), Sim X.K X.prog X.w W → Ext X.K W1 W → g W.S → J.stop items.length W.H
  go : ∀ (i : Nat) (d : D) (W : Wd), Sim X.K X.prog X.w W → Ext X.K W1 W → g W.S → items[i]? = some d → J.go i W.H ∧ ∀ x H', J.yld i W.H x H' → ∃ W' : Wd, W'.H = H' ∧ W'.S = W.S ∧ Sim X.K X.prog X.w W' ∧ Ext X.K W W' ∧ W'.rep X.K d x
def tI (X : Cx) (prg : Prg) (n : Nat) (W00 : Wd) (E : Nat → Env → Store → Prop) (c : CI) : TI := fun σ H R => ∃ (W : Wd) (σd : Env) (Qd : List D → (Store → Prop) → Store → Prop), W.H = H ∧ Sim X.K X.prog X.w W ∧ EnvRep X.K W σd σ ∧ Ext X.K W00 W ∧ wpI (callD prg n) E c σd W.S Qd ∧
  ∀ items g W1 J, Qd items g W1.S → Sim X.K X.prog X.w W1 → Ext X.K W W1 → Walkd X J items g W1 → R J W1.H
abbrev DI (X : Cx) (prg : Prg) (n : Nat) (W00 : Wd) (E : Nat → Env → Store → Prop) (tg e : Expr) (c : CI) : Prop := PI X tg e (tI X prg n W00 E c)
theorem PI.imp {tg e : Expr} {t t' : TI} (h : PI X tg e t) (i : ∀ σ H R, t' σ H R → t σ H R) : PI X tg e t' := ⟨fun pins s σ H R I q => h.run pins s σ H R I (i _ _ _ q)⟩
/-- a list or a tuple -/
def iSeqX (K : PySem.W.Frag) (tl : TE) : TI := fun σ H R => tl σ H fun x H1 => ∃ a, x = .ref a ∧ (((∃ xs, SqL K H1 a xs) ∧ R (Itl K a) H1) ∨ ((∃ xs, SqT K H1 a xs) ∧ R (Itt K a) H1))
theorem pi_seqX {tg l : Expr} {tl : TE} (hl : PE X l tl) : PI X tg l (iSeqX X.K tl) := by
  refine ⟨fun pins s σ H R I h => ?_⟩
  refine thn (hl.run pins s σ H _ I h) fun v s1 ⟨x, H1, I1, r1, a, e, q⟩ => ?_
  subst e
  cases (show v = .ref a from r1)
  rcases q with ⟨⟨xs, hq⟩, q⟩ | ⟨⟨xs, hq⟩, q⟩
  · obtain ⟨its, rv, p, hz⟩ := I1.list hq
    exact wpAny_pyIter_list p.isList (pi_one (tk := s1.toks) I1 _ (turn_list a _) ⟨_, Heap.get?_push_size _ rfl, rfl, rfl⟩ q)
  · obtain ⟨its, rv, p, hz⟩ := I1.tuple hq
    exact wpAny_pyIter_tuple (show s1.heap.IsTuple a its.toArray from p) (pi_one (tk := s1.toks) I1 _ (turn_tuple a _) ⟨_, Heap.get?_push_size _ rfl, rfl, rfl⟩ q)
theorem walkd_lst {W1 : Wd} {a : Addr} {xs : List D} {g : Store → Prop} (h : ∀ W, Sim X.K X.prog X.w W → Ext X.K W1 W → g W.S → ∃ vs, SqL X.K W.H a vs ∧ W.reps X.K xs vs) : Walkd X (Itl X.K a) xs g W1 where
  stop := fun W s x hg => by
    obtain ⟨vs, h1, h2⟩ := h W s x hg
    exact ⟨vs, h1, Nat.le_of_eq h2.length⟩
  go := fun i d W s x hg hd => by
    obtain ⟨vs, h1, h2⟩ := h W s x hg
    obtain ⟨v, e1, e2⟩ := h2.get hd
    refine ⟨⟨vs, v, h1, e1⟩, fun y H' hy => ?_⟩
    obtain ⟨rfl, hy⟩ := hy
    have := hy vs h1
    rw [e1] at this; cases this
    exact ⟨W, rfl, rfl, s, Ext.refl, e2⟩
theorem walkd_tup {W1 : Wd} {a : Addr} {xs : List D} {g : Store → Prop} (h : ∀ W, Sim X.K X.prog X.w W → Ext X.K W1 W → g W.S → ∃ vs, SqT X.K W.H a vs ∧ W.reps X.K xs vs) : Walkd X (Itt X.K a) xs g W1 where
  stop := fun W s x hg => by
    obtain ⟨vs, h1, h2⟩ := h W s x hg
    exact ⟨vs, h1, Nat.le_of_eq h2.length⟩
  go := fun i d W s x hg hd => by
    obtain ⟨vs, h1, h2⟩ := h W s x hg
    obtain ⟨v, e1, e2⟩ := h2.get hd
    refine ⟨⟨vs, v, h1, e1⟩, fun y H' hy => ?_⟩
    obtain ⟨rfl, hy⟩ := hy
    have := hy vs h1
    rw [e1] at this; cases this
    exact ⟨W, rfl, rfl, s, Ext.refl, e2⟩
theorem walk_go {W W0 : Wd} {z : Rz} {v : V} {R : List D → (Store → Prop) → Store → Prop} (s : Sim X.K X.prog X.w W) (r : RepZ X.K X.prog X.w W0.H W z v) (h : walkZ z W.S R) :
    ∃ a items g, v = .ref a ∧ R items g W.S ∧ (((∃ xs, SqL X.K W.H a xs) ∧ Walkd X (Itl X.K a) items g W) ∨ ((∃ xs, SqT X.K W.H a xs) ∧ Walkd X (Itt X.K a) items g W)) := by
  unfold walkZ at h
  split at h
  · obtain ⟨q, vs, rfl, _, un, hq, hr⟩ := r
    exact ⟨q, _, _, rfl, h, .inl ⟨⟨vs, SqL.of hq⟩, walkd_lst fun W2 s2 x2 _ => ⟨vs, SqL.of (x2.frame _ _ hq un), x2.reps hr⟩⟩⟩
  · obtain ⟨q, vs, rfl, hq, hr⟩ := r
    exact ⟨q, _, _, rfl, h, .inl ⟨⟨vs, hq _⟩, walkd_lst fun W2 s2 x2 _ => ⟨vs, hq _, x2.reps hr⟩⟩⟩
  · obtain ⟨q, vs, rfl, hq, hr⟩ := (show W.rep X.K (.tup _) v from r)
    exact ⟨q, _, _, rfl, h, .inr ⟨⟨vs, hq⟩, walkd_tup fun W2 s2 x2 _ => ⟨vs, x2.tups.t _ _ hq, x2.reps hr⟩⟩⟩
  · obtain ⟨q, vs, rfl, hq, hr⟩ := (show W.rep X.K (.kl _) v from r)
    exact ⟨q, _, _, rfl, h, .inl ⟨⟨vs, hq.sq⟩, walkd_lst fun W2 s2 x2 _ => ⟨vs, (x2.tups.k _ _ hq).sq, x2.reps hr⟩⟩⟩
  · rename_i l
    obtain ⟨hl, rfl⟩ := (show W.rep X.K (.ref l) v from r)
    split at h
    · rename_i xs hc
      obtain ⟨vs, hq, hr⟩ := (s.cells l _ hc).2
      refine ⟨_, _, _, rfl, h, .inl ⟨⟨vs, SqL.of hq⟩, walkd_lst fun W2 s2 x2 hg => ?_⟩⟩
      obtain ⟨vs2, hq2, hr2⟩ := (s2.cells l _ hg).2
      rw [x2.agree l hl] at hq2
      exact ⟨vs2, SqL.of hq2, hr2⟩
    · rename_i xs hc
      obtain ⟨vs, hq, hr⟩ := (s.cells l _ hc).2
      refine ⟨_, _, _, rfl, h, .inl ⟨⟨vs, hq⟩, walkd_lst fun W2 s2 x2 hg => ?_⟩⟩
      obtain ⟨vs2, hq2, hr2⟩ := (s2.cells l _ hg).2
      rw [x2.agree l hl] at hq2
      exact ⟨vs2, hq2, hr2⟩
    · exact h.elim
  · exact h.elim
theorem di_e {tg : Expr} (ha : DE X prg n W00 E a ca) : DI X prg n W00 E tg a (.e ca) := by
  refine PI.imp (pi_seqX ha) fun σ H R ⟨W, σd, Qd, e1, s, ev, ex, h, k⟩ => ?_
  subst e1
  simp only [wpI] at h
  refine ⟨W, σd, _, rfl, s, ev, ex, h, fun z W1 v h1 s1 x1 r1 => ?_⟩
  obtain ⟨a, items, g, rfl, hR, h2⟩ := walk_go s1 r1 h1
  refine ⟨a, rfl, ?_⟩
  rcases h2 with ⟨h2, h3⟩ | ⟨h2, h3⟩
  · exact .inl ⟨h2, k items g W1 _ hR s1 x1 h3⟩
  · exact .inr ⟨h2, k items g W1 _ hR s1 x1 h3⟩
theorem walkd_rng {W1 : Wd} {lo : Int} {m : Nat} {g : Store → Prop} : Walkd X (Itr lo m) (iotaD lo 1 m) g W1 where
  stop := fun W s x hg => by show m ≤ _; unfold iotaD; simp
  go := fun i d W s x hg hd => by
    unfold iotaD at hd
    rw [List.getElem?_map] at hd
    obtain ⟨j, hj, rfl⟩ := Option.map_eq_some_iff.mp hd
    have hlt : i < m := by
      have := (List.getElem?_eq_some_iff.mp hj).1
      simpa using this
    have e : j = i := by
      rw [List.getElem?_range hlt] at hj
      exact (Option.some.inj hj).symm
    subst e
    refine ⟨hlt, fun y H' hy => ?_⟩
    obtain ⟨rfl, rfl⟩ := hy
    exact ⟨W, rfl, rfl, s, Ext.refl, by show V.int _ = V.int _; rw [Int.mul_one]⟩
theorem di_range1 {tg : Expr} (hg : Gl X "range") (hm : X.mg "range" = none) (ha : DZ X prg n W00 E [a] [ca]) (hs : starEach [a] X.env = [(false, eval a X.env)]) : DI X prg n W00 E tg (.Call (.Name "range" p) [a] [] pos) (.range [ca]) := by
  refine PI.imp (pi_range1 hg hm ha hs) fun σ H R ⟨W, σd, Qd, e1, s, ev, ex, h, k⟩ => ?_
  subst e1
  simp only [wpI] at h
  refine ⟨W, σd, _, rfl, s, ev, ex, h, fun zs W1 vs hl h1 s1 x1 r1 => ?_⟩
  unfold rngW at h1
  split at h1
  · obtain ⟨v, rfl, r0⟩ := repZs1 r1
    cases (show v = .int _ from r0)
    exact ⟨_, rfl, h1.1.1, h1.1.2, k _ _ W1 _ h1.2 s1 x1 walkd_rng⟩
  · cases hl
  · exact h1.elim
theorem di_range2 {tg : Expr} (hg : Gl X "range") (hm : X.mg "range" = none) (ha : DZ X prg n W00 E [a, b] [ca, cb]) (hs : starEach [a, b] X.env = [(false, eval a X.env), (false, eval b X.env)]) (hs2 : starEach [b] X.env = [(false, eval b X.env)]) :
    DI X prg n W00 E tg (.Call (.Name "range" p) [a, b] [] pos) (.range [ca, cb]) := by
  refine PI.imp (pi_range2 hg hm ha hs hs2) fun σ H R ⟨W, σd, Qd, e1, s, ev, ex, h, k⟩ => ?_
  subst e1
  simp only [wpI] at h
  refine ⟨W, σd, _, rfl, s, ev, ex, h, fun zs W1 vs hl h1 s1 x1 r1 => ?_⟩
  unfold rngW at h1
  split at h1
  · cases hl
  · obtain ⟨v, u, rfl, r0, r2⟩ := repZs2 r1
    cases (show v = .int _ from r0)
    cases (show u = .int _ from r2)
    exact ⟨_, _, rfl, h1.1, k _ _ W1 _ h1.2 s1 x1 walkd_rng⟩
  · exact h1.elim

/-! ### for -/
/-- the ends of a core statement and the ends of the statement itself -/
structure EndsOk (X : Cx) (W : Wd) (K : Ends) (D : L2.Ends) : Prop where
  nx : ∀ σd W1 σ, K.nx σd W1.S → Sim X.K X.prog X.w W1 → Ext X.K W W1 → EnvRep X.K W1 σd σ → D.nx σ W1.H
  rt : ∀ d W1 v, K.rt d W1.S → Sim X.K X.prog X.w W1 → Ext X.K W W1 → W1.rep X.K d v → D.rt v W1.H
  bk : ∀ σd W1 σ, K.bk σd W1.S → Sim X.K X.prog X.w W1 → Ext X.K W W1 → EnvRep X.K W1 σd σ → D.bk σ W1.H
  ct : ∀ σd W1 σ, K.ct σd W1.S → Sim X.K X.prog X.w W1 → Ext X.K W W1 → EnvRep X.K W1 σd σ → D.ct σ W1.H
theorem EndsOk.ext {W W' : Wd} {K : Ends} {D : L2.Ends} (h : EndsOk X W K D) (e : Ext X.K W W') : EndsOk X W' K D :=
  ⟨fun a b c h1 h2 h3 h4 => h.nx a b c h1 h2 (e.trans h3) h4, fun a b c h1 h2 h3 h4 => h.rt a b c h1 h2 (e.trans h3) h4, fun a b c h1 h2 h3 h4 => h.bk a b c h1 h2 (e.trans h3) h4, fun a b c h1 h2 h3 h4 => h.ct a b c h1 h2 (e.trans h3) h4⟩
def tSd (X : Cx) (prg : Prg) (n : Nat) (W00 : Wd) (E : Nat → Env → Store → Prop) (c : CS) : TS := fun D σ H => ∃ (W : Wd) (σd : Env) (K : Ends), W.H = H ∧ Sim X.K X.prog X.w W ∧ EnvRep X.K W σd σ ∧ Ext X.K W00 W ∧ wpS (callD prg n) E c σd W.S K ∧ EndsOk X W K D
def tSsd (X : Cx) (prg : Prg) (n : Nat) (W00 : Wd) (E : Nat → Env → Store → Prop) (c : List CS) : TS := fun D σ H => ∃ (W : Wd) (σd : Env) (K : Ends), W.H = H ∧ Sim X.K X.prog X.w W ∧ EnvRep X.K W σd σ ∧ Ext X.K W00 W ∧ wpSs (callD prg n) E c σd W.S K ∧ EndsOk X W K D
abbrev DS (X : Cx) (prg : Prg) (n : Nat) (W00 : Wd) (E : Nat → Env → Store → Prop) (st : Stmt) (c : CS) : Prop := PS X st (tSd X prg n W00 E c)
abbrev DSs (X : Cx) (prg : Prg) (n : Nat) (W00 : Wd) (E : Nat → Env → Store → Prop) (st : List Stmt) (c : List CS) : Prop := PSs X st (tSsd X prg n W00 E c)
theorem ds_for {iter tg : Expr} {body : List Stmt} {it : CI} {t : Tg} {cb : List CS} (hp : PassesOwn (model X.prog X.w) X.A X.env X.xe) (hc : X.calm = true) (hi : DI X prg n W00 E tg iter it) (hg : PG X tg (tG X t)) (hb : DSs X prg n W00 E body cb)
    (hs : ∀ x, foldedSetIterable iter X.env x = pure x) : DS X prg n W00 E (.For tg iter body [] pos) (.for t it cb) := by
  refine PS.imp (ps_for hp hc hi hg hb hs) fun D σ H ⟨W, σd, K, e1, s, ev, ex, h, ke⟩ => ?_
  subst e1
  simp only [wpS] at h
  refine ⟨W, σd, _, rfl, s, ev, ex, h, fun items g W1 J h1 s1 x1 wk => ?_⟩
  refine ⟨fun i m σ' H' => m = items.length - i ∧ i ≤ items.length ∧ ∃ (W2 : Wd) (σd2 : Env), W2.H = H' ∧ Sim X.K X.prog X.w W2 ∧ EnvRep X.K W2 σd2 σ' ∧ Ext X.K W1 W2 ∧ forW (fun d σ' S' N => match tgW t d σ' with
        | some σ2 => wpSs (callD prg n) E cb σ2 S' { nx := N, rt := K.rt, bk := K.nx, ct := N }
        | none => False) g K.nx (items.drop i) σd2 W2.S, ⟨_, rfl, Nat.zero_le _, W1, σd, rfl, s1, ev.ext x1, Ext.refl, h1⟩, ?_⟩
  rintro i m σ' H' ⟨rfl, hi', W2, σd2, rfl, s2, ev2, x2, hf⟩
  by_cases hlt : i < items.length
  · have ed : items.drop i = items[i] :: items.drop (i + 1) := List.drop_eq_getElem_cons hlt
    rw [ed] at hf
    obtain ⟨hg2, hf⟩ := hf
    obtain ⟨g1, g2⟩ := wk.go i items[i] W2 s2 x2 hg2 (List.getElem?_eq_getElem hlt)
    refine .inr ⟨g1, fun σ3 H3 => ∃ (W3 : Wd) (σd3 : Env), W3.H = H3 ∧ Sim X.K X.prog X.w W3 ∧ EnvRep X.K W3 σd3 σ3 ∧ Ext X.K W1 W3 ∧ forW (fun d σ' S' N => match tgW t d σ' with
        | some σ2 => wpSs (callD prg n) E cb σ2 S' { nx := N, rt := K.rt, bk := K.nx, ct := N }
        | none => False) g K.nx (items.drop (i + 1)) σd3 W3.S, fun σ3 H3 ⟨W3, σd3, q⟩ => ⟨_, by omega, rfl, hlt, W3, σd3, q⟩, fun x H3 hy => ?_⟩
    obtain ⟨W3, rfl, e3, s3, x3, r3⟩ := g2 x H3 hy
    rw [← e3] at hf
    cases ht : tgW t items[i] σd2 with
    | none => rw [ht] at hf; exact hf.elim
    | some σd4 =>
      rw [ht] at hf
      refine ⟨W3, σd2, _, σd4, rfl, s3, ev2.ext x3, r3, ht, fun σ4 ev4 _ _ => ?_⟩
      refine ⟨W3, σd4, _, rfl, s3, ev4, ((ex.trans x1).trans x2).trans x3, hf, ?_⟩
      have xx : Ext X.K W W3 := (x1.trans x2).trans x3
      refine ⟨fun σd5 W5 σ5 h5 s5 x5 ev5 => ⟨W5, σd5, rfl, s5, ev5, (x2.trans x3).trans x5, h5⟩, fun d W5 v h5 s5 x5 r5 => ke.rt d W5 v h5 s5 (xx.trans x5) r5, fun σd5 W5 σ5 h5 s5 x5 ev5 => ke.nx σd5 W5 σ5 h5 s5 (xx.trans x5) ev5, fun σd5 W5 σ5 h5 s5 x5 ev5 => ⟨W5, σd5, rfl, s5, ev5, (x2.trans x3).trans x5, h5⟩⟩
  · have e : i = items.length := by omega
    subst e
    rw [List.drop_length] at hf
    exact .inl ⟨wk.stop W2 s2 x2 hf.1, ke.nx σd2 W2 σ' hf.2 s2 (x1.trans x2) ev2⟩
end
end M3
end

section
set_option autoImplicit false
set_option linter.all false
set_option maxRecDepth 100000
set_option maxHeartbeats 1000000
/-! M3: comprehensions. -/
namespace M3
open PySem PySem.Spec PyProof.Rows L2
theorem wipe_get (σ : L2.St) (i : Nat) : ∀ vs : List Nat, (wipe σ vs)[i]? = if i ∈ vs then (σ[i]?).map (fun _ => none) else σ[i]?
  | [] => by simp [wipe]
  | v :: vs => by
    show ((wipe σ vs).set v none)[i]? = _
    rw [List.getElem?_set]
    by_cases z : v = i
    · subst z
      rw [if_pos rfl, if_pos List.mem_cons_self, wipe_length]
      by_cases q : v < σ.length
      · rw [if_pos q, List.getElem?_eq_getElem q]; rfl
      · rw [if_neg q, List.getElem?_eq_none (Nat.not_lt.mp q)]; rfl
    · rw [if_neg z, wipe_get σ i vs]
      have : (i ∈ v :: vs) ↔ i ∈ vs := by simp [Ne.symm z]
      by_cases q : i ∈ vs
      · rw [if_pos q, if_pos (this.mpr q)]
      · rw [if_neg q, if_neg fun z => q (this.mp z)]
theorem wipe_same {σ σ2 : L2.St} {vs : List Nat} (hl : σ2.length = (wipe σ vs).length) (h : ∀ i, i ∉ vs → σ2[i]? = (wipe σ vs)[i]?) : wipe σ2 vs = wipe σ vs := by
  apply List.ext_getElem?
  intro i
  rw [wipe_length] at hl
  by_cases q : i ∈ vs
  · rw [wipe_get, wipe_get, if_pos q, if_pos q]
    by_cases z : i < σ.length
    · rw [List.getElem?_eq_getElem z, List.getElem?_eq_getElem (by omega)]; rfl
    · rw [List.getElem?_eq_none (Nat.not_lt.mp z), List.getElem?_eq_none (by omega)]
  · rw [wipe_get, if_neg q, h i q]
theorem wipeD_len : ∀ (vs : List Nat) (σ : Env), (wipeD vs σ).length = σ.length
  | [], σ => rfl
  | v :: vs, σ => by unfold wipeD; rw [List.length_set, wipeD_len vs σ]
theorem EnvRep.wipe {K : PySem.W.Frag} {W : Wd} {σd : Env} {σ : L2.St} (e : EnvRep K W σd σ) : ∀ vs : List Nat, EnvRep K W (wipeD vs σd) (L2.wipe σ vs)
  | [] => e
  | v :: vs => by
    have ih := EnvRep.wipe e vs
    unfold wipeD L2.wipe
    refine ⟨by rw [List.length_set, List.length_set, ih.len], fun j d h => ?_⟩
    rw [List.getElem?_set] at h ⊢
    by_cases z : v = j
    · rw [if_pos z] at h
      split at h <;> cases h
    · rw [if_neg z] at h ⊢
      exact ih.get j d h
section
variable {K : PySem.W.Frag} {P : Program} {w : World} {W W0 : Wd} {p : Addr} {vs ws : List V}
/-- a list without a label is changed -/
theorem Ext.over (e : Ext K W0 W) (h0 : W0.H p = none) (h : W.H p = some (.lst vs)) : Ext K W0 { W with H := upd W.H p (.lst ws) } where
  nx := e.nx
  agree := e.agree
  tups := e.tups.trans (Kp.upd (wrt_lst h))
  frame := fun a o q u => by
    show upd W.H p _ a = _
    rw [upd_ne (ne_of_none q h0)]; exact e.frame a o q u
  fresh := e.fresh
  live := fun a q => by
    have q' : upd W.H p (.lst ws) a = none := q
    by_cases z : a = p
    · rw [z]; exact h0
    · rw [upd_ne z] at q'; exact e.live a q'
theorem Sim.over (s : Sim K P w W) (h : W.H p = some (.lst vs)) (un : ∀ l, l < W.S.nx → W.φ l ≠ p) : Sim K P w { W with H := upd W.H p (.lst ws) } := by
  refine ⟨fun l hl z => ?_, s.inj, fun l c hc => ?_⟩
  · have z' : upd W.H p (.lst ws) (W.φ l) = none := z
    rw [upd_ne (un l hl)] at z'
    exact s.liv l hl z'
  · obtain ⟨h1, h2⟩ := s.cells l c hc
    refine ⟨h1, h2.mono (Kp.upd (wrt_lst h)) (fun _ _ => rfl) (Nat.le_refl _) fun o ho => ?_⟩
    show upd W.H p _ _ = _
    rw [upd_ne (un l h1)]; exact ho
theorem reps_over (h : W.H p = some (.lst vs)) {ds : List D} {us : List V} (r : W.reps K ds us) : ({ W with H := upd W.H p (.lst ws) } : Wd).reps K ds us :=
  Reps.mono (Kp.upd (wrt_lst h)) (fun _ _ => rfl) (Nat.le_refl _) ds us r
theorem rep_over (h : W.H p = some (.lst vs)) {ds : D} {us : V} (r : W.rep K ds us) : ({ W with H := upd W.H p (.lst ws) } : Wd).rep K ds us :=
  Rep.mono (Kp.upd (wrt_lst h)) (fun _ _ => rfl) (Nat.le_refl _) ds us r
end
section
variable {X : Cx} {G : Cn} {prg : Prg} {xc : XC} {n : Nat} {W00 : Wd} {E : Nat → Env → Store → Prop} {a b c e : Expr} {ca cb cc : CE} {pos p p2 : Pos}
def tIfs (X : Cx) (prg : Prg) (n : Nat) (W00 : Wd) (c : List CE) : TT := fun σ H Q => ∃ (W : Wd) (σd : Env) (Qd : Bool → Store → Prop), W.H = H ∧ Sim X.K X.prog X.w W ∧ EnvRep X.K W σd σ ∧ Ext X.K W00 W ∧ wpIfs (callD prg n) c σd W.S Qd ∧
  ∀ k W1, Qd k W1.S → Sim X.K X.prog X.w W1 → Ext X.K W W1 → Q k W1.H
theorem PTs.imp {e : List Expr} {t t' : TT} (h : PTs X e t) (i : ∀ σ H Q, t' σ H Q → t σ H Q) : PTs X e t' := ⟨fun pins s σ H Q I q => h.run pins s σ H Q I (i _ _ _ q)⟩
theorem difs_nil : PTs X [] (tIfs X prg n W00 []) := by
  refine PTs.imp pts_nil fun σ H Q ⟨W, σd, Qd, e1, s, ev, ex, h, k⟩ => ?_
  subst e1
  simp only [wpIfs] at h
  exact k true W h s Ext.refl
theorem difs_one (h : DT X prg n W00 (fun _ _ _ => False) a ca) : PTs X [a] (tIfs X prg n W00 [ca]) := by
  refine PTs.imp (pts_one h) fun σ H Q ⟨W, σd, Qd, e1, s, ev, ex, h, k⟩ => ?_
  subst e1
  simp only [wpIfs] at h
  refine ⟨W, σd, Qd, rfl, s, ev, ex, wpE_mono (callD_mono prg n) (fun _ _ _ h => h) _ _ _ _ _ (fun x S1 h => truth_mono (fun k _ h => by cases k <;> exact h) h) h, k⟩
theorem tLc_of {it : CI} {t : Tg} {celt : CE} {cifs : List CE} {own : List (Str × Nat)} {σ : L2.St} {H : Hp} {Q : VK} (hsl : ∀ i ∈ tgSlots t, i ∈ own.map (·.2)) (h : tE X prg n W00 E (.cmpr celt t it cifs (own.map (·.2))) σ H Q) :
    tLc (tI X prg n W00 E it) (tG X t) (tIfs X prg n W00 cifs) (tE X prg n W00 (fun _ _ _ => False) celt) (own.map (·.2)) σ H Q := by
  obtain ⟨W, σd, Qd, e1, s, ev, ex, h, k⟩ := h
  subst e1
  simp only [wpE] at h
  refine ⟨W, σd, _, rfl, s, ev, ex, h, fun items g W1 J h1 s1 x1 wk D hD => ?_⟩
  have xn : Ext X.K W1 { W1 with H := upd W1.H D (.lst []) } := Ext.new hD
  refine ⟨fun i m H' => m = items.length - i ∧ i ≤ items.length ∧ ∃ (W2 : Wd) (acc : List M3.D) (vs : List V), W2.H = H' ∧ Sim X.K X.prog X.w W2 ∧ Ext X.K W1 W2 ∧ (∀ l, l < W2.S.nx → W2.φ l ≠ D) ∧ W2.H D = some (.lst vs) ∧ W2.reps X.K acc vs ∧
    compW (fun d S2 R => match tgW t d (wipeD (own.map (·.2)) σd) with
        | some σ' => wpIfs (callD prg n) cifs σ' S2 fun k S3 => match k with
          | true => wpE (callD prg n) (fun _ _ _ => False) celt σ' S3 (cv fun d' S4 => R (some d') S4)
          | false => R none S3
        | none => False) g (fun ds S2 => Qd (.lst ds) S2) (items.drop i) acc W2.S, ⟨_, rfl, Nat.zero_le _, { W1 with H := upd W1.H D (.lst []) }, [], [], rfl, s1.new hD, xn, s1.noLab hD, upd_same, rfl, h1⟩, ?_⟩
  rintro i m H' ⟨rfl, hi', W2, acc, vs, rfl, s2, x2, un2, hD2, ra, hf⟩
  by_cases hlt : i < items.length
  · have ed : items.drop i = items[i] :: items.drop (i + 1) := List.drop_eq_getElem_cons hlt
    rw [ed] at hf
    obtain ⟨hg2, hf⟩ := hf
    obtain ⟨g1, g2⟩ := wk.go i items[i] W2 s2 x2 hg2 (List.getElem?_eq_getElem hlt)
    refine .inr ⟨g1, fun H3 => ∃ (W3 : Wd) (acc : List M3.D) (vs : List V), W3.H = H3 ∧ Sim X.K X.prog X.w W3 ∧ Ext X.K W1 W3 ∧ (∀ l, l < W3.S.nx → W3.φ l ≠ D) ∧ W3.H D = some (.lst vs) ∧ W3.reps X.K acc vs ∧
      compW (fun d S2 R => match tgW t d (wipeD (own.map (·.2)) σd) with
        | some σ' => wpIfs (callD prg n) cifs σ' S2 fun k S3 => match k with
          | true => wpE (callD prg n) (fun _ _ _ => False) celt σ' S3 (cv fun d' S4 => R (some d') S4)
          | false => R none S3
        | none => False) g (fun ds S2 => Qd (.lst ds) S2) (items.drop (i + 1)) acc W3.S, fun H3 ⟨W3, q⟩ => ⟨_, by omega, rfl, hlt, W3, q⟩, fun x H3 hy => ?_⟩
    obtain ⟨W3, rfl, e3, s3, x3, r3⟩ := g2 x H3 hy
    rw [← e3] at hf
    have un3 := x3.unlab hD2 un2
    have hD3 := x3.frame _ _ hD2 un2
    cases hq : tgW t items[i] (wipeD (own.map (·.2)) σd) with
    | none => rw [hq] at hf; exact hf.elim
    | some σd4 =>
      rw [hq] at hf
      have x13 : Ext X.K W1 W3 := x2.trans x3
      have evw : EnvRep X.K W3 (wipeD (own.map (·.2)) σd) (wipe σ (own.map (·.2))) := ((ev.ext x1).ext x13).wipe _
      refine ⟨W3, _, _, σd4, rfl, s3, evw, r3, hq, fun σ4 ev4 l4 o4 => ⟨wipe_same l4 fun j hj => o4 j fun z => hj (hsl j z), ?_⟩⟩
      refine ⟨W3, σd4, _, rfl, s3, ev4, (ex.trans x1).trans x13, hf, fun t W4 h4 s4 x4 => ?_⟩
      have un4 := x4.unlab hD3 un3
      have hD4 := x4.frame _ _ hD3 un3
      cases t with
      | false =>
        refine Eq.mpr (if_neg Bool.false_ne_true) ?_
        exact ⟨W4, acc, vs, rfl, s4, x13.trans x4, un4, hD4, x4.reps (x3.reps ra), h4⟩
      | true =>
        refine Eq.mpr (if_pos rfl) ?_
        refine ⟨W4, σd4, _, rfl, s4, ev4.ext x4, ((ex.trans x1).trans x13).trans x4, h4, fun z W5 v h5 s5 x5 r5 => ?_⟩
        obtain ⟨W6, d6, h6, s6, x6, r6, e6⟩ := cv_go s5 x5 r5 h5
        have un6 := x6.unlab hD4 un4
        have hD6 := x6.frame _ _ hD4 un4
        rw [← e6]
        have ra6 : W6.reps X.K acc vs := x6.reps (x4.reps (x3.reps ra))
        have x16 : Ext X.K W1 W6 := (x13.trans x4).trans x6
        refine ⟨vs, hD6, by rw [ra6.length, ← line_eq]; exact h6.1, { W6 with H := upd W6.H D (.lst (vs ++ [v])) }, acc ++ [d6], vs ++ [v], rfl, s6.over hD6 un6, x16.over hD hD6, un6, upd_same, reps_over hD6 (ra6.append (Reps.one r6)), h6.2⟩
  · have e : i = items.length := by omega
    subst e
    rw [List.drop_length] at hf
    exact .inl ⟨wk.stop W2 s2 x2 hf.1, k (.lst acc) W2 (.ref D) hf.2 s2 (x1.trans x2) ⟨D, vs, rfl, x1.live _ hD, un2, hD2, ra⟩⟩
theorem de_cmpr {elt tg iter : Expr} {ifs : List Expr} {scope : Scope} {own : List (Str × Nat)} {it : CI} {t : Tg} {celt : CE} {cifs : List CE} (hc : X.calm = true) (hN : X.N.Nodup) (hi : DI X prg n W00 E tg iter it) (ok : BlkOk X.N X.env.scope scope own)
    (hg : ∀ (s : Shared) (H : Hp) (C : Addr) (cl : List (Str × Addr)) (fp : List Addr), PG (X.blk s H scope (compEnvC scope cl C X.env) fp) tg (tG X t))
    (ht : ∀ (s : Shared) (H : Hp) (C : Addr) (cl : List (Str × Addr)) (fp : List Addr), PTs (X.blk s H scope (compEnvC scope cl C X.env) fp) ifs (tIfs X prg n W00 cifs))
    (he : ∀ (s : Shared) (H : Hp) (C : Addr) (cl : List (Str × Addr)) (fp : List Addr), PE (X.blk s H scope (compEnvC scope cl C X.env) fp) elt (tE X prg n W00 (fun _ _ _ => False) celt))
    (hs : ∀ x, foldedSetIterable iter X.env x = pure x) (hsl : ∀ i ∈ tgSlots t, i ∈ own.map (·.2)) :
    DE X prg n W00 E (.ListComp elt [⟨tg, iter, ifs, 0⟩] scope pos) (.cmpr celt t it cifs (own.map (·.2))) := PE.imp (pe_lc hc hN hi ok hg ht he hs) fun σ H Q h => tLc_of hsl h
end
end M3
end

section
set_option autoImplicit false
set_option linter.all false
set_option maxRecDepth 100000
set_option maxHeartbeats 1000000
/-! M3: statements. -/
namespace M3
open PySem PySem.Spec PyProof.Rows L2
section
variable {X : Cx} {G : Cn} {prg : Prg} {xc : XC} {n : Nat} {W00 : Wd} {E : Nat → Env → Store → Prop} {a b c e o i : Expr} {ca cb cc ce co ci : CE} {pos p p2 : Pos} {st : Stmt} {rest : List Stmt} {cs : CS} {crest : List CS}
theorem dss_nil : DSs X prg n W00 E [] [] := by
  refine PSs.imp pss_nil fun D σ H ⟨W, σd, K, e1, s, ev, ex, h, ke⟩ => ?_
  subst e1
  exact ke.nx σd W σ (by simpa [wpSs] using h) s Ext.refl ev
theorem dss_cons (h1 : DS X prg n W00 E st cs) (h2 : DSs X prg n W00 E rest crest) : DSs X prg n W00 E (st :: rest) (cs :: crest) := by
  refine PSs.imp (pss_cons h1 h2) fun D σ H ⟨W, σd, K, e1, s, ev, ex, h, ke⟩ => ?_
  subst e1
  simp only [wpSs] at h
  refine ⟨W, σd, _, rfl, s, ev, ex, h, ⟨fun σd1 W1 σ1 h1 s1 x1 ev1 => ?_, ke.rt, ke.bk, ke.ct⟩⟩
  exact ⟨W1, σd1, K, rfl, s1, ev1, ex.trans x1, h1, ke.ext x1⟩
theorem ds_pass : DS X prg n W00 E (.Pass pos) .pass := by
  refine PS.imp ps_pass fun D σ H ⟨W, σd, K, e1, s, ev, ex, h, ke⟩ => ?_
  subst e1
  exact ke.nx σd W σ (by simpa [wpS] using h) s Ext.refl ev
theorem ds_doc {x : Str} {j : Nat} : DS X prg n W00 E (.Expr (.Constant (.str x) j p) pos) .pass := by
  refine PS.imp ps_doc fun D σ H ⟨W, σd, K, e1, s, ev, ex, h, ke⟩ => ?_
  subst e1
  exact ke.nx σd W σ (by simpa [wpS] using h) s Ext.refl ev
theorem ds_brk : DS X prg n W00 E (.Break pos) .brk := by
  refine PS.imp ps_break fun D σ H ⟨W, σd, K, e1, s, ev, ex, h, ke⟩ => ?_
  subst e1
  exact ke.bk σd W σ (by simpa [wpS] using h) s Ext.refl ev
theorem ds_cnt : DS X prg n W00 E (.Continue pos) .cnt := by
  refine PS.imp ps_continue fun D σ H ⟨W, σd, K, e1, s, ev, ex, h, ke⟩ => ?_
  subst e1
  exact ke.ct σd W σ (by simpa [wpS] using h) s Ext.refl ev
theorem ds_retn : DS X prg n W00 E (.Return none pos) .retn := by
  refine PS.imp ps_retN fun D σ H ⟨W, σd, K, e1, s, ev, ex, h, ke⟩ => ?_
  subst e1
  exact ke.rt .non W .non (by simpa [wpS] using h) s Ext.refl rfl
theorem ds_ret (he : DE X prg n W00 E e ce) : DS X prg n W00 E (.Return (some e) pos) (.ret ce) := by
  refine PS.imp (ps_ret he) fun D σ H ⟨W, σd, K, e1, s, ev, ex, h, ke⟩ => ?_
  subst e1
  simp only [wpS] at h
  refine ⟨W, σd, _, rfl, s, ev, ex, h, fun z W1 v h1 s1 x1 r1 => ?_⟩
  obtain ⟨W2, d, h2, s2, x2, r2, e2⟩ := cv_go s1 x1 r1 h1
  rw [← e2]
  exact ke.rt d W2 v h2 s2 x2 r2
theorem ds_expr (he : DE X prg n W00 E e ce) (hs : swapsWith e none pos.line X.env = pure false) : DS X prg n W00 E (.Expr e pos) (.expr ce) := by
  refine PS.imp (ps_expr he hs) fun D σ H ⟨W, σd, K, e1, s, ev, ex, h, ke⟩ => ?_
  subst e1
  simp only [wpS] at h
  exact ⟨W, σd, _, rfl, s, ev, ex, h, fun z W1 v h1 s1 x1 r1 => ke.nx σd W1 σ h1 s1 x1 (ev.ext x1)⟩
theorem asg_go {W W1 : Wd} {z : Rz} {v : V} {σd : Env} {σ : L2.St} {t : Tg} {K : Ends} {D : L2.Ends} (s1 : Sim X.K X.prog X.w W1) (x1 : Ext X.K W W1) (r1 : RepZ X.K X.prog X.w W.H W1 z v) (ev : EnvRep X.K W σd σ) (ke : EndsOk X W K D)
    (h1 : cv (fun d S1 => match tgW t d σd with
    | some σ' => K.nx σ' S1
    | none => False) z W1.S) : tG X t v σ W1.H D.nx := by
  obtain ⟨W2, d, h2, s2, x2, r2, e2⟩ := cv_go s1 x1 r1 h1
  cases hq : tgW t d σd with
  | none => rw [hq] at h2; exact h2.elim
  | some σ' =>
    rw [hq] at h2
    rw [← e2]
    exact ⟨W2, σd, d, σ', rfl, s2, ev.ext x2, r2, hq, fun σ2 ev2 _ _ => ke.nx σ' W2 σ2 h2 s2 x2 ev2⟩
theorem ds_asg {tg : Expr} {t : Tg} (he : DE X prg n W00 E e ce) (hg : PG X tg (tG X t)) (hs : swapsWithSole [tg] e pos.line X.env = pure false) (hw : swappedStores [tg] e X.env = pure none) (h1 : (assignEach [tg] X.env).map (·.2) = [assign tg X.env]) :
    DS X prg n W00 E (.Assign [tg] e pos) (.asg t ce) := by
  refine PS.imp (ps_asg he hg hs hw h1) fun D σ H ⟨W, σd, K, e1, s, ev, ex, h, ke⟩ => ?_
  subst e1
  simp only [wpS] at h
  exact ⟨W, σd, _, rfl, s, ev, ex, h, fun z W1 v h1 s1 x1 r1 => asg_go s1 x1 r1 ev ke h1⟩
/-- a comprehension to a name on its own line -/
theorem ds_setLc {i : Nat} {y : Str} {py spos : Pos} {elt tg iter : Expr} {ifs : List Expr} {scope : Scope} {own : List (Str × Nat)} {it : CI} {t : Tg} {celt : CE} {cifs : List CE} (hc : X.calm = true) (hN : X.N.Nodup) (hy : X.N[i]? = some y) (hyl : X.env.scope.names.lookup y = some .local)
    (hsw : swapsWith (.ListComp elt [⟨tg, iter, ifs, 0⟩] scope pos) (some (.Name y py)) spos.line X.env = pure true) (hi : DI X prg n W00 E tg iter it) (ok : BlkOk X.N X.env.scope scope own)
    (hg : ∀ (s : Shared) (H : Hp) (C : Addr) (cl : List (Str × Addr)) (fp : List Addr), PG (X.blk s H scope (compEnvC scope cl C X.env) fp) tg (tG X t))
    (ht : ∀ (s : Shared) (H : Hp) (C : Addr) (cl : List (Str × Addr)) (fp : List Addr), PTs (X.blk s H scope (compEnvC scope cl C X.env) fp) ifs (tIfs X prg n W00 cifs))
    (he : ∀ (s : Shared) (H : Hp) (C : Addr) (cl : List (Str × Addr)) (fp : List Addr), PE (X.blk s H scope (compEnvC scope cl C X.env) fp) elt (tE X prg n W00 (fun _ _ _ => False) celt))
    (hs : ∀ x, foldedSetIterable iter X.env x = pure x) (hsl : ∀ i ∈ tgSlots t, i ∈ own.map (·.2)) :
    DS X prg n W00 E (.Assign [.Name y py] (.ListComp elt [⟨tg, iter, ifs, 0⟩] scope pos) spos) (.asg (.v i) (.cmpr celt t it cifs (own.map (·.2)))) := by
  refine PS.imp (ps_setLc hc hN hy hyl hsw hi ok hg ht he hs) fun D σ H ⟨W, σd, K, e1, s, ev, ex, h, ke⟩ => ?_
  subst e1
  rw [wpS] at h
  refine tLc_of hsl ⟨W, σd, _, rfl, s, ev, ex, h, fun z W1 v h1 s1 x1 r1 => ?_⟩
  obtain ⟨W2, d, h2, s2, x2, r2, e2⟩ := cv_go s1 x1 r1 h1
  unfold tgW at h2
  split at h2
  · rename_i σ' hq
    split at hq
    · cases hq
      show D.nx (σ.set i (some v)) W1.H
      rw [← e2]
      exact ke.nx _ W2 _ h2 s2 x2 ((ev.ext x2).set r2)
    · cases hq
  · exact h2.elim
theorem ds_if {a b : List Stmt} {sa sb : List CS} (hc : DT X prg n W00 E c cc) (ha : DSs X prg n W00 E a sa) (hb : DSs X prg n W00 E b sb) : DS X prg n W00 E (.If c a b pos) (.ifs cc sa sb) := by
  refine PS.imp (ps_if hc ha hb) fun D σ H ⟨W, σd, K, e1, s, ev, ex, h, ke⟩ => ?_
  subst e1
  simp only [wpS] at h
  refine ⟨W, σd, _, rfl, s, ev, ex, h, fun t W1 h1 s1 x1 => ?_⟩
  cases t with
  | true => exact ⟨W1, σd, K, rfl, s1, ev.ext x1, ex.trans x1, h1, ke.ext x1⟩
  | false => exact ⟨W1, σd, K, rfl, s1, ev.ext x1, ex.trans x1, h1, ke.ext x1⟩
theorem ds_while {body : List Stmt} {sb : List CS} (hp : PassesOwn (model X.prog X.w) X.A X.env X.xe) (hc : DT X prg n W00 E c cc) (hb : DSs X prg n W00 E body sb) : DS X prg n W00 E (.While c body [] pos) (.whl cc sb) := by
  refine PS.imp (ps_while hp hc hb) fun D σ H ⟨W, σd, K, e1, s, ev, ex, h, ke⟩ => ?_
  subst e1
  simp only [wpS] at h
  obtain ⟨m, h⟩ := h
  refine ⟨fun m σ' H' => ∃ (W1 : Wd) (σd1 : Env), W1.H = H' ∧ Sim X.K X.prog X.w W1 ∧ EnvRep X.K W1 σd1 σ' ∧ Ext X.K W W1 ∧ whlW (fun σ' S' Q => wpE (callD prg n) E cc σ' S' (truth Q)) (fun σ' S' N => wpSs (callD prg n) E sb σ' S' { nx := N, rt := K.rt, bk := K.nx, ct := N }) K.nx m σd1 W1.S, ⟨m, W, σd, rfl, s, ev, Ext.refl, h⟩, ?_⟩
  rintro m σ' H' ⟨W1, σd1, rfl, s1, ev1, x1, h1⟩
  cases m with
  | zero => exact h1.elim
  | succ m =>
    refine ⟨W1, σd1, _, rfl, s1, ev1, ex.trans x1, h1, fun t W2 h2 s2 x2 => ?_⟩
    cases t with
    | false => exact Eq.mpr (if_neg Bool.false_ne_true) (ke.nx σd1 W2 σ' h2 s2 (x1.trans x2) (ev1.ext x2))
    | true =>
      refine Eq.mpr (if_pos rfl) ⟨fun σ3 H3 => ∃ (W3 : Wd) (σd3 : Env), W3.H = H3 ∧ Sim X.K X.prog X.w W3 ∧ EnvRep X.K W3 σd3 σ3 ∧ Ext X.K W W3 ∧ whlW (fun σ' S' Q => wpE (callD prg n) E cc σ' S' (truth Q)) (fun σ' S' N => wpSs (callD prg n) E sb σ' S' { nx := N, rt := K.rt, bk := K.nx, ct := N }) K.nx m σd3 W3.S, fun σ3 H3 q => ⟨m, Nat.lt_succ_self m, q⟩, ?_⟩
      have xx := x1.trans x2
      exact ⟨W2, σd1, _, rfl, s2, ev1.ext x2, ex.trans xx, h2, ⟨fun σd5 W5 σ5 h5 s5 x5 ev5 => ⟨W5, σd5, rfl, s5, ev5, xx.trans x5, h5⟩, fun d W5 v h5 s5 x5 r5 => ke.rt d W5 v h5 s5 (xx.trans x5) r5, fun σd5 W5 σ5 h5 s5 x5 ev5 => ke.nx σd5 W5 σ5 h5 s5 (xx.trans x5) ev5, fun σd5 W5 σ5 h5 s5 x5 ev5 => ⟨W5, σd5, rfl, s5, ev5, xx.trans x5, h5⟩⟩⟩

/-! ### o[i] = e -/
def rSetX (X : Cx) : TSet := fun x y z H Q => ∃ a o kvs k d φ m, x = .ref a ∧ H a = some o ∧ DctAt X.K X.prog X.w H φ m a kvs o ∧ keyFit kvs k = true ∧ kvs.length < sizeLine ∧ Rep X.K H φ m k y ∧ Rep X.K H φ m d z ∧ ∀ o', DctAt X.K X.prog X.w (upd H a o') φ m a (dput k d kvs) o' → Q (upd H a o')
theorem set_dctX (hu : X.A.units + 65 < cLine) : PSet X (rSetX X) := by
  rintro pins s σ H x y z v u r Q I rx ry rz ⟨a, o, kvs, k, d, φ, m, rfl, h, dc, hf, hl, r1, r2, q⟩
  cases (show v = .ref a from rx)
  exact dct_set (by omega) I h dc hf hl r1 ry r2 rz fun s' o' I' d' => ⟨_, I', q o' d'⟩
theorem PSet.or {t t' : TSet} (h : PSet X t) (h' : PSet X t') : PSet X (fun x y z H Q => t x y z H Q ∨ t' x y z H Q) := by
  intro pins s σ H x y z v u r Q I rx ry rz q
  rcases q with q | q
  · exact h pins s σ H x y z v u r Q I rx ry rz q
  · exact h' pins s σ H x y z v u r Q I rx ry rz q
theorem ds_seti (hu : X.A.units + 65 < cLine) (he : DE X prg n W00 E e ce) (ho : DE X prg n W00 E o co) (hi : DE X prg n W00 E i ci)
    (ha : ∀ v, assign (.Subscript o i p) X.env v = (do
      let ov ← holding [v] (eval o X.env)
      let iv ← holding [v, ov] (eval i X.env)
      standAt p
      holding [v, ov, iv] (setItem ov iv v)
      release [v, ov, iv] [])) (hs : swapsWithSole [.Subscript o i p] e pos.line X.env = pure false) (hw : swappedStores [.Subscript o i p] e X.env = pure none) (h1 : (assignEach [.Subscript o i p] X.env).map (·.2) = [assign (.Subscript o i p) X.env]) :
    DS X prg n W00 E (.Assign [.Subscript o i p] e pos) (.seti co ci ce) := by
  refine PS.imp (ps_asg he (pg_sub ho hi (M3.PSet.or (set_dctX hu) set_list) ha) hs hw h1) fun D σ H ⟨W, σd, K, e1, s, ev, ex, h, ke⟩ => ?_
  subst e1
  simp only [wpS] at h
  refine ⟨W, σd, _, rfl, s, ev, ex, h, fun z W1 v h1 s1 x1 r1 => ?_⟩
  obtain ⟨W2, d, h2, s2, x2, r2, e2⟩ := cv_go s1 x1 r1 h1
  rw [← e2]
  refine ⟨W2, σd, _, rfl, s2, ev.ext x2, ex.trans x2, h2, fun x W3 u h3 s3 x3 r3 => ?_⟩
  refine ⟨W3, σd, _, rfl, s3, (ev.ext x2).ext x3, (ex.trans x2).trans x3, h3, fun y W4 u4 h4 s4 x4 r4 => ?_⟩
  have r2' : W4.rep X.K d v := x4.rep (x3.rep r2)
  have r3' := r3.ext x4
  have xx := (x2.trans x3).trans x4
  unfold setZ at h4
  split at h4
  · rename_i l kk
    obtain ⟨hl, rfl⟩ := (show W4.rep X.K (.ref l) u from r3')
    split at h4
    · rename_i kvs hc
      obtain ⟨o', hq, hd⟩ := (s4.cells l _ hc).2
      refine .inl ⟨_, o', kvs, kk, d, W4.φ, W4.S.nx, rfl, hq, hd, h4.1, line_eq ▸ h4.2.1, r4, r2', fun o2 hd2 => ?_⟩
      obtain ⟨s5, x5⟩ := put_dct s4 hl hq hd hd2
      exact ke.nx σd (W4.put l (.dct (dput kk d kvs)) o2) σ h4.2.2 s5 (xx.trans x5) (ev.ext (xx.trans x5))
    · rename_i xs hc
      obtain ⟨vs, hq, hr⟩ := (s4.cells l _ hc).2
      obtain ⟨i, j, rfl, hp, h5⟩ := h4
      cases (show u4 = .int i from r4)
      obtain ⟨q1, q2, q3, q4⟩ := ixN_seq (by rw [ixN_place]; exact hp)
      refine .inr ⟨_, vs, i, j, rfl, rfl, hq, by rw [hr.length, ixN_place]; exact hp, ?_⟩
      have x5 : Ext X.K W4 (W4.put l (.lst (xs.set j d)) (.lst (vs.set j v))) := Ext.put hl (wrt_lst hq) (by rw [hq]; simp)
      exact ke.nx σd (W4.put l (.lst (xs.set j d)) (.lst (vs.set j v))) σ h5 (s4.put hl (wrt_lst hq) (by rw [hq]; simp) ⟨_, upd_same, x5.reps (hr.set j r2')⟩) (xx.trans x5) (ev.ext (xx.trans x5))
    · exact h4.elim
  · exact h4.elim

/-! ### x op= e -/
theorem asM_go {W0 W : Wd} {z : Rz} {v : V} {Q : List D → Prop} (s : Sim X.K X.prog X.w W) (r : RepZ X.K X.prog X.w W0.H W z v) (h : asM Q W.S z) : ∃ p vs xs, v = .ref p ∧ W.H p = some (.lst vs) ∧ W.reps X.K xs vs ∧ Q xs := by
  cases z with
  | val d =>
    cases d with
    | ref l =>
      obtain ⟨hl, e⟩ := r
      have h' : (match W.S.cell l with | some (.lst xs) => Q xs | _ => False) := h
      split at h'
      · rename_i xs hc
        obtain ⟨vs, q1, q2⟩ := (s.cells l _ hc).2
        exact ⟨_, vs, xs, e, q1, q2, h'⟩
      · exact h'.elim
    | _ => exact h.elim
  | lst xs => obtain ⟨p, vs, e, _, _, hp, q⟩ := r; exact ⟨p, vs, xs, e, hp, q, h⟩
  | _ => exact h.elim
def rAug : BOp → R2
  | .add => fun x y H Q => rI0 (fun i j => .int (i + j)) x y H Q ∨ (∃ i j, x = .str i ∧ y = .str j ∧ i.length + j.length ≤ sizeLine ∧ Q (.str (i ++ j)) H) ∨ rExt2 x y H Q
  | .sub => rI0 fun i j => .int (i - j)
  | _ => fun _ _ _ _ => False
theorem op_aug (o : BOp) : OpR X (inplaceOp (opOf o)) (rAug o) := by
  cases o with
  | add => exact iop_add.or (iop_add_str.or iop_ext)
  | sub => exact iop_sub
  | mul => intro pins s σ H x y v u Q I rx ry h; exact h.elim
  | fdiv => intro pins s σ H x y v u Q I rx ry h; exact h.elim
  | mod => intro pins s σ H x y v u Q I rx ry h; exact h.elim
  | pow => intro pins s σ H x y v u Q I rx ry h; exact h.elim
theorem aug_go {W0 W : Wd} {op : BOp} {x : D} {y : Rz} {v u : V} {Qd : Rz → Store → Prop} {Q : VK} (s : Sim X.K X.prog X.w W) (rx : W.rep X.K x v) (ry : RepZ X.K X.prog X.w W0.H W y u) (h : augZ op x y W.S Qd) (k : Fin X W Qd Q) : rAug op v u W.H Q := by
  unfold augZ at h
  split at h
  · cases (show v = .int _ from rx); cases (show u = .int _ from ry)
    exact .inl ⟨_, _, rfl, rfl, fin_val s h rfl k⟩
  · cases (show v = .int _ from rx); cases (show u = .int _ from ry)
    exact ⟨_, _, rfl, rfl, fin_val s h rfl k⟩
  · cases (show v = .str _ from rx); cases (show u = .str _ from ry)
    exact .inr (.inl ⟨_, _, rfl, rfl, line_eq ▸ h.1, fin_val s h.2 rfl k⟩)
  · rename_i l
    obtain ⟨hl, rfl⟩ := (show W.rep X.K (.ref l) v from rx)
    split at h
    · rename_i xs hc
      obtain ⟨vs, hq, hr⟩ := (s.cells l _ hc).2
      obtain ⟨p, ws, ys, rfl, hp, hw, h1, h2⟩ := asM_go s ry h
      exact .inr (.inr ⟨_, p, vs, ws, rfl, rfl, hq, hp, by rw [hr.length, hw.length, ← line_eq]; exact h1, fin_put (d := .ref l) s hl hq (hr.append hw) ⟨hl, rfl⟩ h2 k⟩)
    · exact h.elim
  · exact h.elim
theorem ds_aug {j : Nat} {x : Str} {o : BOp} (hN : X.N.Nodup) (hi : X.N[j]? = some x) (hx : Loc X.env.scope x) (he : DE X prg n W00 E e ce) (hf : X.fn x = true ∨ X.env.scope.names.lookup x = some .local) : DS X prg n W00 E (.AugAssign (.Name x p) (opOf o) e pos) (.aug j o ce) := by
  refine PS.imp (ps_aug (ti := rAug o) hN hi hx he (op_aug o) hf) fun D σ H ⟨W, σd, K, e1, s, ev, ex, h, ke⟩ => ?_
  subst e1
  simp only [wpS] at h
  split at h
  · rename_i d hd
    obtain ⟨v, h1, h2⟩ := ev.get j d hd
    refine ⟨v, h1, W, σd, _, rfl, s, ev, ex, h, fun z W1 u h3 s1 x1 r1 => ?_⟩
    refine aug_go s1 (x1.rep h2) r1 h3 fun z' W2 v' h4 s2 x2 r2 => ?_
    obtain ⟨W3, d3, h5, s3, x3, r3, e3⟩ := cv_go s2 x2 r2 h4
    rw [← e3]
    exact ke.nx _ W3 _ h5 s3 (x1.trans x3) ((ev.ext (x1.trans x3)).set r3)
  · exact h.elim
end
end M3
end

section
set_option autoImplicit false
set_option linter.all false
set_option maxRecDepth 100000
set_option maxHeartbeats 1000000
/-! M3: calls of defs, methods, classes asked, dict displays. -/
namespace M3
open PySem PySem.Spec PyProof.Rows L2
section
variable {X : Cx} {G : Cn} {prg : Prg} {xc : XC} {n : Nat} {W00 : Wd} {E : Nat → Env → Store → Prop} {a b c e o : Expr} {ca cb cc ce co : CE} {pos p p2 apos cpos : Pos} {es : List Expr} {cs : List CE}
/-- a call whose exceptions see the names -/
def tCallX (sp : Sp) (Wx : WX) (t : TA) : TE := fun σ H Q => t σ H fun vs H1 => ∃ Ek : XK, sp vs H1 Q Ek ∧ ∀ cls d H', Ek cls d H' → Wx cls d σ H'
theorem run_fnX {pins : List (Addr × Obj)} {σ : L2.St} {H : Hp} {s : Shared} {Q : VK} {us : List Value} {vs : List V} {k : Nat} {f : Addr} {fd : FuncData} {ps : List Str} {sp : Sp} {Wx : WX} {Ek : XK} (F : FnOk X.prog X.w X.K X.mg X.base (CX X.prog X.w) k f fd ps sp) (hr : Room k X.A) (hb : Binds X.K fd ps []) (tk : Takes X Wx)
    (I : L2.Inv X pins σ H s) (r : Vals vs us) (h : sp vs H Q Ek) (hW : ∀ cls d H', Ek cls d H' → Wx cls d σ H') : wpAny (model X.prog X.w) X.A (call (.ref f) us) (EP X pins σ Q) X.xe s := by
  have hl : us.length = ps.length := by rw [← r.length]; exact F.len _ _ _ _ h
  refine wpAny_call (codeAny_mono (F.run X.A X.stack s H ⟨us, []⟩ us vs Q Ek hr I.env0 (by simpa using hb s us I.kIn (by simpa using hl)) r h) fun r s' hq => ?_)
  cases r with
  | error e => exact tk e s' (XE.of_call I hW hq)
  | ok fl =>
    cases fl with
    | ret u => exact I.after hq
    | next => exact False.elim hq
    | brk => exact False.elim hq
    | cont => exact False.elim hq
theorem pe_callX {x : Str} {k : Nat} {f : Addr} {fd : FuncData} {ps : List Str} {sp : Sp} {Wx : WX} {t : TA} (F : FnOk X.prog X.w X.K X.mg X.base (CX X.prog X.w) k f fd ps sp) (hr : Room k X.A) (hg : Gl X x) (hm : X.mg x = some (.ref f)) (hk : PySem.W.keepIn X.K (.ref f) = true) (hb : Binds X.K fd ps []) (tk : Takes X Wx)
    (ha : PA X (e :: es) t) (hdb : (x == ("__debug__" : Str)) = false) (he : starEach (e :: es) X.env = (false, eval e X.env) :: starEach es X.env) (hpl : (backTo pos (starEach es X.env)).any (·.1) = false) :
    PE X (.Call (.Name x p) (e :: es) [] pos) (tCallX sp Wx t) := by
  refine ⟨fun pins s σ H Q I h => ?_⟩
  refine wpAny_Call_Name_kw (ld_glob I hg hm ?_ hdb)
  refine PySem.W.callWith_K (h₀ := X.base) I.ok.mod.kin hk (thn (ha.run pos pins s σ H _ I h) fun us s1 ⟨vs, H1, I1, r, Ek, q, hW⟩ => ⟨I1.kIn, ?_⟩) he hpl
  exact run_fnX F hr hb tk I1 r q hW
theorem pe_callX0 {x : Str} {k : Nat} {f : Addr} {fd : FuncData} {ps : List Str} {sp : Sp} {Wx : WX} (F : FnOk X.prog X.w X.K X.mg X.base (CX X.prog X.w) k f fd ps sp) (hr : Room k X.A) (hg : Gl X x) (hm : X.mg x = some (.ref f)) (hk : PySem.W.keepIn X.K (.ref f) = true) (hb : Binds X.K fd ps []) (tk : Takes X Wx)
    (hdb : (x == ("__debug__" : Str)) = false) : PE X (.Call (.Name x p) [] [] pos) (tCallX sp Wx tNil) := by
  refine ⟨fun pins s σ H Q I ⟨Ek, q, hW⟩ => ?_⟩
  refine wpAny_Call_Name_kw (ld_glob I hg hm ?_ hdb)
  exact PySem.W.callWith_K0 I.kIn hk (run_fnX (us := []) F hr hb tk I .nil q hW)
theorem call_go {f : Nat} {F : Fn} {σd : Env} {σ : L2.St} {W W1 : Wd} {Q : VK} {Qd : Rz → Store → Prop} {ds : List D} {vs : List V} (hF : prg.fns[f]? = some F) (ex : Ext X.K W00 W) (s1 : Sim X.K X.prog X.w W1) (ev : EnvRep X.K W σd σ) (x1 : Ext X.K W W1) (r1 : W1.reps X.K ds vs)
    (h1 : callD prg n f ds W1.S (fun d S2 => Qd (.val d) S2) (fun x S2 => E x σd S2)) (k : ∀ z W1 v, Qd z W1.S → Sim X.K X.prog X.w W1 → Ext X.K W W1 → RepZ X.K X.prog X.w W.H W1 z v → Q v W1.H) (hn : F.ar = ds.length) :
    ∃ Ek : XK, spD prg xc X.K X.prog X.w n f vs W1.H Q Ek ∧ ∀ cls d H', Ek cls d H' → WxD xc X.K X.prog X.w W00 E cls d σ H' := by
  refine ⟨fun cls d H' => WxD xc X.K X.prog X.w W00 E cls d σ H', ⟨W1, ds, _, _, rfl, s1, r1, ⟨F, hF, hn⟩, h1, fun d W2 v hq s2 x2 r2 => k _ W2 v hq s2 (x1.trans x2) r2, fun x W2 cls hx s2 x2 hc => ?_⟩, fun _ _ _ h => h⟩
  exact ⟨W2, σd, x, rfl, s2, ev.ext (x1.trans x2), ex.trans (x1.trans x2), hx, hc, rfl⟩
theorem callD_ar {f : Nat} {ds : List D} {S : Store} {Q : D → Store → Prop} {E : Nat → Store → Prop} (h : callD prg n f ds S Q E) : ∃ F, prg.fns[f]? = some F ∧ F.ar = ds.length := by
  cases n with
  | zero => exact (show False from h).elim
  | succ n =>
    have h' : (match prg.fns[f]? with
      | none => False
      | some F => F.ar = ds.length ∧ (S.Ok → refsIns S.nx ds = true →
        wpSs (callD prg n) (fun x _ S1 => ∃ S', View S.nx S1 S' .non .non ∧ E x S') F.body (startD F.nl ds) S
          { nx := fun _ S1 => ∃ S' d', View S.nx S1 S' .non d' ∧ Q d' S', rt := fun d S1 => ∃ S' d', View S.nx S1 S' d d' ∧ Q d' S', bk := fun _ _ => False, ct := fun _ _ => False })) := h
    cases hf : prg.fns[f]? with
    | none => rw [hf] at h'; exact h'.elim
    | some F => rw [hf] at h'; exact ⟨F, rfl, h'.1⟩
theorem de_call {x : Str} {f : Nat} (g : Good X G prg xc n W00 E) (hf : G.gl.lookup x = some (.fn f)) (hg : Gl X x) (ha : DA X prg n W00 E (e :: es) cs) (hdb : (x == ("__debug__" : Str)) = false) (he : starEach (e :: es) X.env = (false, eval e X.env) :: starEach es X.env) (hpl : (backTo pos (starEach es X.env)).any (·.1) = false) :
    DE X prg n W00 E (.Call (.Name x p) (e :: es) [] pos) (.call f cs) := by
  obtain ⟨ad, fd, ps, hm, hk, hb, F⟩ := g.call x f hf
  refine PE.imp (pe_callX F g.room hg hm hk hb g.tk ha hdb he hpl) fun σ H Q ⟨W, σd, Qd, e1, s, ev, ex, h, k⟩ => ?_
  subst e1
  simp only [wpE] at h
  refine ⟨W, σd, _, rfl, s, ev, ex, h, fun ds W1 vs hl h1 s1 x1 r1 => ?_⟩
  obtain ⟨Fn', hF, hn⟩ := callD_ar h1
  exact call_go hF ex s1 ev x1 r1 h1 k hn
theorem de_call0 {x : Str} {f : Nat} (g : Good X G prg xc n W00 E) (hf : G.gl.lookup x = some (.fn f)) (hg : Gl X x) (hdb : (x == ("__debug__" : Str)) = false) :
    DE X prg n W00 E (.Call (.Name x p) [] [] pos) (.call f []) := by
  obtain ⟨ad, fd, ps, hm, hk, hb, F⟩ := g.call x f hf
  refine PE.imp (pe_callX0 F g.room hg hm hk hb g.tk hdb) fun σ H Q ⟨W, σd, Qd, e1, s, ev, ex, h, k⟩ => ?_
  subst e1
  simp only [wpE, wpEs] at h
  obtain ⟨Fn', hF, hn⟩ := callD_ar h
  exact call_go (ds := []) (vs := []) hF ex s ev Ext.refl rfl h k hn

/-! ### methods -/
theorem mt_all (hu : X.A.units + 65 < cLine) : ∀ (T : RT) (m : Mt), mtS T m = true → MtOk X T m := by
  intro T m h
  cases T <;> cases m <;> first
    | (cases h; done)
    | exact mo_append
    | exact mo_clear
    | exact mo_reverse
    | exact mo_pop0
    | exact mo_pop1
    | exact mo_count hu
    | exact mo_index hu
    | exact mo_get1 hu
    | exact mo_get2 hu
    | exact mo_pop2 hu
theorem meth_go {m : Mt} {z : Rz} {v : V} {W W1 : Wd} {Qd : Rz → Store → Prop} (hu : X.A.units + 65 < cLine) {T : RT} (s1 : Sim X.K X.prog X.w W1) (r1 : RepZ X.K X.prog X.w W.H W1 z v) (hT : rcv W1.S z = some T) (hs : mtS T m = true) :
    ∃ r, MSlot X T.nm (mName m) r ∧ TyR X T.nm v W1.H ∧ ∀ (W2 : Wd) (ds : List D) (vs : List V) (Qd : Rz → Store → Prop) (Q : VK), Sim X.K X.prog X.w W2 → Ext X.K W1 W2 → W2.reps X.K ds vs → mtZ T m z ds W2.S Qd → Fin X W2 Qd Q → r v vs W2.H Q := by
  obtain ⟨ht, r, ms, k⟩ := mt_all hu T m hs
  exact ⟨r, ms, rcv_ty s1 r1 hT ht, fun W2 ds vs Qd Q s2 x2 rs h fin => k W W2 z v ds vs Qd Q s2 (r1.ext x2) rs h fin⟩
theorem de_mth0 {m : Mt} (hu : X.A.units + 65 < cLine) (ho : DE X prg n W00 E o co) (hbase : attributeBase o (mName m) X.env (eval o X.env) = eval o X.env) (hline : (apos.endLine == cpos.line) = true) :
    DE X prg n W00 E (.Call (.Attribute o (mName m) apos) [] [] cpos) (.mth m co []) := by
  refine PE.imp (pe_mX0 ho hbase hline) fun σ H Q ⟨W, σd, Qd, e1, s, ev, ex, h, k⟩ => ?_
  subst e1
  simp only [wpE, wpEs] at h
  refine ⟨W, σd, _, rfl, s, ev, ex, h, fun z W1 v ⟨T, ⟨hT, hs⟩, h1⟩ s1 x1 r1 => ?_⟩
  obtain ⟨r, ms, ty, kk⟩ := meth_go (Qd := Qd) hu s1 r1 hT hs
  exact ⟨T.nm, r, ms, ty, kk W1 [] [] Qd Q s1 Ext.refl rfl h1 fun z' W2 v' h2 s2 x2 r2 => k z' W2 v' h2 s2 (x1.trans x2) (r2.base x1.live)⟩
theorem de_mth {m : Mt} (hu : X.A.units + 65 < cLine) (ho : DE X prg n W00 E o co) (ha : DA X prg n W00 E (e :: es) cs) (hbase : attributeBase o (mName m) X.env (eval o X.env) = eval o X.env)
    (hfew : ((backTo cpos (starEach (e :: es) X.env)).all (fun x => !x.1) && (backToKw cpos (keywordEach [] X.env)).all (fun x => x.1.isSome)
      && decide ((e :: es).length + ([] : List Keyword).length + (if ([] : List Keyword).isEmpty then 0 else 1) < 30)) = true)
    (hline : (apos.endLine == cpos.line) = true) (hs : starEach (e :: es) X.env = (false, eval e X.env) :: starEach es X.env) (hplain : (backTo cpos (starEach es X.env)).any (·.1) = false) :
    DE X prg n W00 E (.Call (.Attribute o (mName m) apos) (e :: es) [] cpos) (.mth m co cs) := by
  refine PE.imp (pe_mX ho ha hbase hfew hline hs hplain) fun σ H Q ⟨W, σd, Qd, e1, s, ev, ex, h, k⟩ => ?_
  subst e1
  simp only [wpE] at h
  refine ⟨W, σd, _, rfl, s, ev, ex, h, fun z W1 v ⟨T, ⟨hT, hs⟩, h1⟩ s1 x1 r1 => ?_⟩
  obtain ⟨r, ms, ty, kk⟩ := meth_go (Qd := Qd) hu s1 r1 hT hs
  refine ⟨T.nm, r, ms, ty, W1, σd, _, rfl, s1, ev.ext x1, ex.trans x1, h1, fun ds W2 vs hl h2 s2 x2 r2 => ?_⟩
  exact kk W2 ds vs Qd Q s2 x2 r2 h2 fun z' W3 v' h3 s3 x3 r3 => k z' W3 v' h3 s3 ((x1.trans x2).trans x3) (r3.base (x1.trans x2).live)
end
end M3
end

section
set_option autoImplicit false
set_option linter.all false
set_option maxRecDepth 100000
set_option maxHeartbeats 1000000
/-! M3: dict displays, isinstance, sorted(d.items()). -/
namespace M3
open PySem PySem.Spec PyProof.Rows L2
section
variable {K : PySem.W.Frag} {P : Program} {w : World} {W W0 : Wd} {p : Addr} {o o' : HO}
theorem Ext.overG (e : Ext K W0 W) (h0 : W0.H p = none) (hw : Wrt (W.H p)) : Ext K W0 { W with H := upd W.H p o' } where
  nx := e.nx
  agree := e.agree
  tups := e.tups.trans (Kp.upd hw)
  frame := fun a o q u => by
    show upd W.H p _ a = _
    rw [upd_ne (ne_of_none q h0)]; exact e.frame a o q u
  fresh := e.fresh
  live := fun a q => by
    have q' : upd W.H p o' a = none := q
    by_cases z : a = p
    · rw [z]; exact h0
    · rw [upd_ne z] at q'; exact e.live a q'
theorem Sim.overG (s : Sim K P w W) (hw : Wrt (W.H p)) (un : ∀ l, l < W.S.nx → W.φ l ≠ p) : Sim K P w { W with H := upd W.H p o' } := by
  refine ⟨fun l hl z => ?_, s.inj, fun l c hc => ?_⟩
  · have z' : upd W.H p o' (W.φ l) = none := z
    rw [upd_ne (un l hl)] at z'
    exact s.liv l hl z'
  · obtain ⟨h1, h2⟩ := s.cells l c hc
    refine ⟨h1, h2.mono (Kp.upd hw) (fun _ _ => rfl) (Nat.le_refl _) fun o ho => ?_⟩
    show upd W.H p _ _ = _
    rw [upd_ne (un l h1)]; exact ho
end
section
variable {X : Cx} {G : Cn} {prg : Prg} {xc : XC} {n : Nat} {W00 : Wd} {E : Nat → Env → Store → Prop} {a b c e o : Expr} {ca cb cc ce co : CE} {pos p p2 apos cpos : Pos} {es : List Expr} {cs : List CE}
def trsOf (X : Cx) (prg : Prg) (n : Nat) (W00 : Wd) (E : Nat → Env → Store → Prop) : List CE → List (TE × TE)
  | k :: v :: r => (tE X prg n W00 E k, tE X prg n W00 E v) :: trsOf X prg n W00 E r
  | _ => []
theorem pairS_ext {W W' : Wd} (e : Ext X.K W W') {kvs : List (D × D)} {ks : List (Key × V)} (h : PairS X.K W.H W.φ W.S.nx kvs ks) : PairS X.K W'.H W'.φ W'.S.nx kvs ks := PySem_Paired_mono h fun p q r => ⟨r.1, e.rep r.2⟩
theorem kv_go {σ : L2.St} {σd : Env} : ∀ (m : Nat) (cs : List CE), cs.length ≤ m → ∀ (W : Wd) (acc : List (D × D)) (ks : List (Key × V)) (Qd : List (D × D) → Store → Prop) (Q : List (V × V) → Hp → Prop), Sim X.K X.prog X.w W → EnvRep X.K W σd σ → Ext X.K W00 W → PairS X.K W.H W.φ W.S.nx acc ks → wpKV (callD prg n) E cs σd W.S acc Qd →
    (∀ (W2 : Wd) (more : List (Key × V)) (acc' : List (D × D)), Sim X.K X.prog X.w W2 → Ext X.K W W2 → more.length * 2 = cs.length → PairS X.K W2.H W2.φ W2.S.nx acc' (mergeK ks more) → Qd acc' W2.S → Q (more.map fun kv => (kV kv.1, kv.2)) W2.H) → tPairs (trsOf X prg n W00 E cs) σ W.H Q
  | _, [], _, W, acc, ks, Qd, Q, s, ev, ex, pa, h, k => by
    simp only [wpKV] at h
    exact k W [] acc s Ext.refl rfl pa h
  | _, [_], _, W, acc, ks, Qd, Q, s, ev, ex, pa, h, k => by simp only [wpKV] at h
  | m + 1, c1 :: c2 :: r, hm, W, acc, ks, Qd, Q, s, ev, ex, pa, h, k => by
    simp only [wpKV] at h
    refine ⟨W, σd, _, rfl, s, ev, ex, h, fun x W1 v h1 s1 x1 r1 => ?_⟩
    refine ⟨W1, σd, _, rfl, s1, ev.ext x1, ex.trans x1, h1, fun y W2 u h2 s2 x2 r2 => ?_⟩
    obtain ⟨W3, d, h3, s3, x3, r3, e3⟩ := cv_go s2 x2 r2 h2
    split at h3
    · cases (show v = .str _ from r1)
      rename_i st
      rw [← e3]
      refine kv_go m r (by simp only [List.length_cons] at hm; omega) W3 _ (putK ks (Sum.inr st) u) Qd _ s3 ((ev.ext x1).ext x3) ((ex.trans x1).trans x3) ((pairS_ext (x1.trans x3) pa).put (kk := Sum.inr st) rfl r3) h3 fun W4 more acc' s4 x4 hl pa4 hq => ?_
      exact k W4 ((Sum.inr st, u) :: more) acc' s4 ((x1.trans x3).trans x4) (by simp only [List.length_cons]; omega) pa4 hq
    · exact h3.elim
  | 0, c1 :: c2 :: r, hm, _, _, _, _, _, _, _, _, _, _, _ => by simp at hm
theorem trs_ne {cs : List CE} {keys : List (Option Expr)} {vals : List Expr} (h : PPs X pos keys vals (trsOf X prg n W00 E cs)) : True := trivial
theorem de_dct {keys : List (Option Expr)} {vals : List Expr} (h : PPs X pos keys vals (trsOf X prg n W00 E cs)) (hall : keys.all (·.isSome) = true) (hl : keys.length = vals.length) (h0 : keys ≠ []) (h15 : keys.length ≤ 15) (hc : cs.length ≤ 30) : DE X prg n W00 E (.Dict keys vals pos) (.dct cs) := by
  refine PE.imp (pe_disp h hall hl h0 h15) fun σ H Q ⟨W, σd, Qd, e1, s, ev, ex, h, k⟩ => ?_
  subst e1
  simp only [wpE] at h
  intro p hp
  have xn : Ext X.K W { W with H := upd W.H p (.dK []) } := Ext.new hp
  refine kv_go cs.length cs (Nat.le_refl _) { W with H := upd W.H p (.dK []) } [] [] _ _ (s.new hp) (ev.ext xn) (ex.trans xn) .nil h fun W2 more acc' s2 x2 hl pa hq => ?_
  have un : ∀ l, l < W2.S.nx → W2.φ l ≠ p := x2.unlab (W := { W with H := upd W.H p (.dK []) }) (o := .dK []) upd_same (s.noLab hp)
  have hD : W2.H p = some (.dK []) := x2.frame p (.dK []) upd_same (s.noLab hp)
  refine ⟨hD, more, rfl, by omega, ?_⟩
  have hw : Wrt (W2.H p) := by rw [hD]; exact ⟨fun ys => by simp, fun b ys => by simp, fun b ys => by simp⟩
  have x02 : Ext X.K W W2 := xn.trans x2
  refine k (.dct acc') { W2 with H := upd W2.H p (.dK (mergeK [] more)) } (.ref p) hq (s2.overG hw un) (x02.overG hp hw) ⟨p, _, rfl, hp, un, upd_same, .inl ⟨_, rfl, ?_⟩⟩
  exact PySem_Paired_mono pa fun q r z => ⟨z.1, Rep.mono (Kp.upd hw) (fun _ _ => rfl) (Nat.le_refl _) _ _ z.2⟩
theorem de_dct0 : DE X prg n W00 E (.Dict [] [] pos) (.dct []) := by
  refine PE.imp pe_dnewK fun σ H Q ⟨W, σd, Qd, e1, s, ev, ex, h, k⟩ => ?_
  subst e1
  simp only [wpE, wpKV] at h
  intro p hp
  exact fin_dct s hp h (.inl ⟨[], rfl, .nil⟩) k
/-! ### isinstance -/
theorem pe_tyName {T : Ty} (hT : T.bi = true) (hg : Gl X T.nm) (hm : X.mg T.nm = none) : PE X (.Name T.nm p) (tC (V.ty T.nm)) := by
  refine pe_bltn (u := .type T.nm) hg hm ?_ rfl ?_ ?_ <;> (cases T <;> first | (cases hT; done) | decide +kernel)
theorem de_isi1 {T : Ty} (hT : T.bi = true) (hg : Gl X "isinstance") (hm : X.mg "isinstance" = none) (hg2 : Gl X T.nm) (hm2 : X.mg T.nm = none) (ha : DE X prg n W00 E a ca) (hs : starEach [a, .Name T.nm p2] X.env = (false, eval a X.env) :: starEach [.Name T.nm p2] X.env) :
    DE X prg n W00 E (.Call (.Name "isinstance" p) [a, .Name T.nm p2] [] pos) (.isi ca [T]) := by
  refine PE.imp (pe_callB call_isM hg hm (by decide +kernel) (pa_cons ha (pa_cons (pe_tyName hT hg2 hm2) pa_nil (by rfl)) hs) (by decide) (by decide) hs (by rfl)) fun σ H Q ⟨W, σd, Qd, e1, s, ev, ex, h, k⟩ => ?_
  subst e1
  simp only [wpE] at h
  refine ⟨W, σd, _, rfl, s, ev, ex, h, fun z W1 v h1 s1 x1 r1 => ?_⟩
  obtain ⟨t, f, h2, h3, h4⟩ := isi_go s1 r1 h1 (by simpa using hT)
  refine ⟨v, T.nm, t, f T, rfl, h2, h3 T (by simp), ?_⟩
  have e : ([T].any f) = f T := by simp
  rw [e] at h4
  exact fin_val (d := .bl (f T)) s1 h4 rfl fun z W2 v' h5 s5 x5 r5 => k z W2 v' h5 s5 (x1.trans x5) (r5.base x1.live)
/-- names of classes in a row -/
inductive NamesOk (X : Cx) : List Ty → List Expr → Prop
  | nil : NamesOk X [] []
  | cons {T : Ty} {ts : List Ty} {es : List Expr} {p : Pos} : T.bi = true → Gl X T.nm → X.mg T.nm = none → NamesOk X ts es → NamesOk X (T :: ts) (.Name T.nm p :: es)
theorem pa_names : ∀ {ts : List Ty} {es : List Expr}, NamesOk X ts es → PA X es (fun σ H Q => Q ((ts.map Ty.nm).map V.ty) H)
  | _, _, .nil => pa_nil
  | _, _, .cons hT hg hm h => pa_cons (pe_tyName hT hg hm) (pa_names h) (by rfl)
theorem names_bi : ∀ {ts : List Ty} {es : List Expr}, NamesOk X ts es → (∀ t ∈ ts, t.bi = true)
  | _, _, .nil, t, h => by cases h
  | _, _, .cons hT hg hm h, t, ht => by
    rcases List.mem_cons.mp ht with rfl | ht
    · exact hT
    · exact names_bi h t ht
theorem de_isiT {ts : List Ty} {k : Nat} (hn : NamesOk X ts es) (hz : ts.length ≤ 1000) (hg : Gl X "isinstance") (hm : X.mg "isinstance" = none) (ha : DE X prg n W00 E a ca) (hs : starEach [a, .Tuple es k p2] X.env = (false, eval a X.env) :: starEach [.Tuple es k p2] X.env) :
    DE X prg n W00 E (.Call (.Name "isinstance" p) [a, .Tuple es k p2] [] pos) (.isi ca ts) := by
  refine PE.imp (pe_callB call_isMT hg hm (by decide +kernel) (pa_cons ha (pa_cons (pe_tup (pa_names hn)) pa_nil (by rfl)) hs) (by decide) (by decide) hs (by rfl)) fun σ H Q ⟨W, σd, Qd, e1, s, ev, ex, h, kk⟩ => ?_
  subst e1
  simp only [wpE] at h
  refine ⟨W, σd, _, rfl, s, ev, ex, h, fun z W1 v h1 s1 x1 r1 => ?_⟩
  refine ⟨by rw [List.length_map, List.length_map, sizeLine_eq]; omega, fun q hq => ?_⟩
  obtain ⟨t, f, h2, h3, h4⟩ := isi_go s1 r1 h1 (names_bi hn)
  have xn : Ext X.K W1 { W1 with H := upd W1.H q (.tup ((ts.map Ty.nm).map V.ty)) } := Ext.new hq
  have sn : Sim X.K X.prog X.w { W1 with H := upd W1.H q (.tup ((ts.map Ty.nm).map V.ty)) } := s1.new hq
  obtain ⟨t', f', h2', h3', h4'⟩ := isi_go sn (r1.ext xn) h1 (names_bi hn)
  refine ⟨v, q, ts.map Ty.nm, t', ts.any f', rfl, upd_same, h2', kit_any ts h3', ?_⟩
  exact kk _ { W1 with H := upd W1.H q (.tup ((ts.map Ty.nm).map V.ty)) } _ h4' sn (x1.trans xn) rfl

/-! ### sorted(d.items()) -/
def rItemsX (X : Cx) : V → List V → Hp → VK → Prop := fun x xs H Q => ∃ a o kvs φ m, x = V.ref a ∧ xs = [] ∧ L2.Rd H a o ∧ DctAt X.K X.prog X.w H φ m a kvs o ∧ ∀ p, H p = none → Q (.ref p) (upd H p (DX.itemsO p a))
theorem mt_itemsX : MtR X "dict.items" (rItemsX X) := by
  rintro pins s σ H x xs v us Q I rx rxs ⟨a, o, kvs, φ, m, rfl, rfl, h, d, q⟩
  cases (show v = .ref a from rx)
  cases rxs
  obtain ⟨es, ep, raw, hes, hsm, hx⟩ := dct_raw I h d
  refine DT.callItems (es := es) (ep := ep) hsm raw ?_
  exact ⟨.ref s.heap.objs.size, _, I.laid (t' := s.toks) (fun b o e => Heap.get?_push_of_some _ e) (Nat.le_refl _) (DX.itemsO_ok (Heap.get?_push_size _ rfl)), rfl, q _ (I.hok.fresh (Nat.le_refl _))⟩
theorem ms_items : MSlot X "dict" "items" (rItemsX X) := ⟨⟨_, F.slot_dict_items, F.type_dict_items, mt_itemsX⟩, F.plainAttrs_dict⟩
theorem de_sortItems (hc : X.calm = true) (hu : X.A.units + 65 < cLine) (hg : Gl X "sorted") (hm : X.mg "sorted" = none) (ha : DE X prg n W00 E a ca) (hbase : attributeBase a "items" X.env (eval a X.env) = eval a X.env) (hline : (apos.endLine == cpos.line) = true) :
    DE X prg n W00 E (.Call (.Name "sorted" p) [.Call (.Attribute a "items" apos) [] [] cpos] [] pos) (.bii .sorted (.items ca)) := by
  refine PE.imp (pe_callB (call_sortIX hc hu) hg hm (by decide +kernel) (pa_cons (pe_mX0 ha hbase hline) pa_nil (by rfl)) (by decide) (by decide) (by rfl) (by rfl)) fun σ H Q ⟨W, σd, Qd, e1, s, ev, ex, h, kk⟩ => ?_
  subst e1
  simp only [wpE, wpI] at h
  refine ⟨W, σd, _, rfl, s, ev, ex, h, fun z W1 v h1 s1 x1 r1 => ?_⟩
  have go : ∀ (kvs : List (D × D)) (ad : Addr) (o : HO), v = .ref ad → L2.Rd W1.H ad o → DctAt X.K X.prog X.w W1.H W1.φ W1.S.nx ad kvs o → sortW (kvs.map fun p => .tup [p.1, p.2]) W1.S Qd →
      ∃ T r, MSlot X T "items" r ∧ TyR X T v W1.H ∧ r v [] W1.H fun w H2 => rSortIX X [w] H2 Q := by
    rintro kvs ad o rfl hr hd hw
    refine ⟨"dict", _, ms_items, dct_tyR hr hd, ad, o, kvs, W1.φ, W1.S.nx, rfl, rfl, hr, hd, fun q hq => ?_⟩
    have xn : Ext X.K W1 { W1 with H := upd W1.H q (DX.itemsO q ad) } := Ext.new hq
    have sn : Sim X.K X.prog X.w { W1 with H := upd W1.H q (DX.itemsO q ad) } := s1.new hq
    have hr' : L2.Rd (upd W1.H q (DX.itemsO q ad)) ad o := by
      rcases hr with hr | ⟨ob, hr⟩
      · exact .inl (by rw [upd_ne (ne_of_none hr hq)]; exact hr)
      · exact .inr ⟨ob, by rw [upd_ne (ne_of_none hr hq)]; exact hr⟩
    exact ⟨q, ad, o, kvs, { W1 with H := upd W1.H q (DX.itemsO q ad) }, Qd, rfl, upd_same, hr', rfl, sn, hd.mono xn.tups xn.agree xn.nx, hw, fun z W2 v' h2 s2 x2 r2 => kk z W2 v' h2 s2 ((x1.trans xn).trans x2) (r2.base (x1.trans xn).live)⟩
  split at h1
  · rename_i l
    obtain ⟨hl, e⟩ := (show W1.rep X.K (.ref l) v from r1)
    split at h1
    · rename_i kvs hcl
      obtain ⟨o, hq, hd⟩ := (s1.cells l _ hcl).2
      exact go kvs _ o e (.inl hq) hd h1
    · rename_i kvs hcl
      obtain ⟨od, o, hq, hd⟩ := (s1.cells l _ hcl).2
      exact go kvs _ o e (.inr ⟨od, hq⟩) hd h1
    · exact h1.elim
  · exact h1.elim
end
end M3
end

section
set_option autoImplicit false
set_option linter.all false
set_option maxRecDepth 100000
set_option maxHeartbeats 1000000
/-! M3: the core of a text is read right: expressions. -/
namespace M3
open PySem PySem.Spec PyProof.Rows L2
theorem mapO_inv {α β : Type} {f : α → Option β} {a : α} {r : List α} {bs : List β} (h : mapO f (a :: r) = some bs) : ∃ b bs', f a = some b ∧ mapO f r = some bs' ∧ bs = b :: bs' := by
  unfold mapO at h
  split at h
  · rename_i b bs' h1 h2; cases h; exact ⟨b, bs', h1, h2, rfl⟩
  · cases h
theorem mapO_len {α β : Type} {f : α → Option β} : ∀ {l : List α} {bs : List β}, mapO f l = some bs → bs.length = l.length
  | [], bs, h => by cases (show some [] = some bs from h); rfl
  | a :: r, bs, h => by
    obtain ⟨b, bs', h1, h2, rfl⟩ := mapO_inv h
    simp [mapO_len h2]
theorem star_eq {e : Expr} (h : noStar e = true) (es : List Expr) (env : PySem.Env) : starEach (e :: es) env = (false, eval e env) :: starEach es env := by
  cases e <;> first | rfl | cases h
theorem star_any {pos : Pos} {env : PySem.Env} : ∀ {es : List Expr}, es.all noStar = true → (backTo pos (starEach es env)).any (·.1) = false
  | [], _ => rfl
  | e :: es, h => by
    rw [List.all_cons, Bool.and_eq_true] at h
    rw [star_eq h.1]
    have := star_any (pos := pos) (env := env) h.2
    simpa [backTo] using this
theorem star_few {pos : Pos} {env : PySem.Env} {es : List Expr} (h : es.all noStar = true) : (backTo pos (starEach es env)).all (fun x => !x.1) = true := by
  have := star_any (pos := pos) (env := env) h
  rw [List.any_eq_false] at this
  rw [List.all_eq_true]
  intro x hx
  have := this x hx
  simpa using this
theorem ixOf_get {x : Str} : ∀ {N : List Str} {i : Nat}, ixOf x N = some i → N[i]? = some x
  | [], i, h => by cases h
  | y :: r, i, h => by
    unfold ixOf at h
    split at h
    · rename_i e; cases h; rw [e]; rfl
    · obtain ⟨j, hj, rfl⟩ := Option.map_eq_some_iff.mp h
      simpa using ixOf_get hj
theorem plain_dbg {x : Str} (h : plainB x = true) : (x == ("__debug__" : Str)) = false ∧ (x == ("__classdict__" : Str)) = false ∧ x ≠ "__name__" := by
  unfold plainB at h
  simp only [Bool.and_eq_true, Bool.not_eq_true'] at h
  exact ⟨h.1.1, h.1.2, by simpa using h.2⟩
theorem ownV_inv {G : Cn} {x : Str} {i : Nat} (h : ownV G x = some i) : visB (G.sc.names.lookup x) = true ∧ plainB x = true ∧ G.N[i]? = some x := by
  unfold ownV at h
  split at h
  · rename_i q; rw [Bool.and_eq_true] at q; exact ⟨q.1, q.2, ixOf_get h⟩
  · cases h
theorem glV_inv {G : Cn} {x : Str} {g : Gb} (h : glV G x = some g) : G.sc.names.lookup x = some .globalImplicit ∧ plainB x = true ∧ G.gl.lookup x = some g := by
  unfold glV at h
  split at h
  · rename_i q; exact ⟨q.1, q.2, h⟩
  · cases h
theorem isBi_inv {G : Cn} {x : Str} (h : isBi G x = true) : glV G x = some .bi := by
  unfold isBi at h
  split at h
  · rename_i q; exact q
  · cases h
theorem plainIx_of {b : Expr} (h : notSlice b = true) : PlainIx b := by
  intro o i
  cases b <;> first | rfl | cases h
theorem base_of {o : Expr} {nm : Str} {env : PySem.Env} (h : notBare o = true) : attributeBase o nm env (eval o env) = eval o env := by
  unfold attributeBase
  split
  · cases h
  · rfl
theorem folded_of {e : Expr} {env : PySem.Env} (h : notSet e = true) : ∀ x, foldedSetIterable e env x = pure x := by
  intro x
  cases e <;> first | rfl | cases h
/-- a test of no special form -/
def plainT : Expr → Bool
  | .UnaryOp .Not _ _ => false
  | .BoolOp _ _ _ => false
  | .IfExp _ _ _ _ => false
  | .Compare _ _ _ _ => false
  | _ => true
theorem plainT_of {e : Expr} {env : PySem.Env} (h : plainT e = true) : ∀ whole, isTrue e env whole = (do let v ← whole; standAt e.pos; holding [v] (truthy v)) := by
  intro whole
  cases e <;> first | rfl | (cases h; done) | (rename_i op a p; cases op <;> first | rfl | cases h)
theorem cop_of (op : CmpOp) : cmpOf (copE op) = op := by cases op <;> rfl
theorem bop_of {op : Operator} {o : BOp} (h : bopE op = some o) : opOf o = op := by cases op <;> first | (cases h; rfl) | cases h
section
variable {X : Cx} {G : Cn} {prg : Prg} {xc : XC} {n : Nat} {W00 : Wd} {E : Nat → Env → Store → Prop} {k : Nat} {pos p p2 : Pos}
def IH (prg : Prg) (xc : XC) (n : Nat) (W00 : Wd) (k : Nat) : Prop := ∀ (X : Cx) (G : Cn) (E : Nat → Env → Store → Prop), Good X G prg xc n W00 E → ∀ e c, cE k G e = some c → DE X prg n W00 E e c ∧ (notIfExp e = true → DT X prg n W00 E e c)
theorem da_of (ih : IH prg xc n W00 k) (g : Good X G prg xc n W00 E) : ∀ {es : List Expr} {cs : List CE}, es.all noStar = true → mapO (cE k G) es = some cs → DA X prg n W00 E es cs
  | [], cs, _, h => by cases (show some [] = some cs from h); exact da_nil
  | e :: es, cs, hs, h => by
    obtain ⟨c, cs', h1, h2, rfl⟩ := mapO_inv h
    rw [List.all_cons, Bool.and_eq_true] at hs
    exact da_cons (ih X G E g e c h1).1 (da_of ih g hs.2 h2) (star_eq hs.1 _ _)
theorem dz_of (ih : IH prg xc n W00 k) (g : Good X G prg xc n W00 E) : ∀ {es : List Expr} {cs : List CE}, es.all noStar = true → mapO (cE k G) es = some cs → DZ X prg n W00 E es cs
  | [], cs, _, h => by cases (show some [] = some cs from h); exact dz_nil
  | e :: es, cs, hs, h => by
    obtain ⟨c, cs', h1, h2, rfl⟩ := mapO_inv h
    rw [List.all_cons, Bool.and_eq_true] at hs
    exact dz_cons (ih X G E g e c h1).1 (dz_of ih g hs.2 h2) (star_eq hs.1 _ _)
theorem and_of (ih : IH prg xc n W00 k) (g : Good X G prg xc n W00 E) : ∀ {es : List Expr} {cs : List CE} {c : CE}, es.all notIfExp = true → mapO (cE k G) es = some cs → chainB .and cs = some c → DE X prg n W00 E (.BoolOp .And es pos) c ∧ DW X prg n W00 E (.BoolOp .And es pos) c
  | [], cs, c, _, h, hc => by cases (show some [] = some cs from h); cases hc
  | [e], cs, c, hi, h, hc => by
    obtain ⟨c1, cs', h1, h2, rfl⟩ := mapO_inv h
    cases (show some [] = some cs' from h2)
    cases (show some c1 = some c from hc)
    simp only [List.all_cons, List.all_nil, Bool.and_true] at hi
    exact ⟨de_one (ih X G E g e _ h1).1, dw_and1 ((ih X G E g e _ h1).2 hi)⟩
  | e :: e2 :: es, cs, c, hi, h, hc => by
    obtain ⟨c1, cs', h1, h2, rfl⟩ := mapO_inv h
    obtain ⟨c2, cs2, h3, h4, rfl⟩ := mapO_inv h2
    obtain ⟨d, hd, rfl⟩ := Option.map_eq_some_iff.mp (show (chainB .and (c2 :: cs2)).map (CE.and c1) = some c from hc)
    rw [List.all_cons, Bool.and_eq_true] at hi
    obtain ⟨q1, q2⟩ := and_of ih g (es := e2 :: es) hi.2 h2 hd
    exact ⟨de_and (ih X G E g e c1 h1).1 q1, dw_and ((ih X G E g e c1 h1).2 hi.1) q2⟩
theorem or_of (ih : IH prg xc n W00 k) (g : Good X G prg xc n W00 E) : ∀ {es : List Expr} {cs : List CE} {c : CE}, es.all notIfExp = true → mapO (cE k G) es = some cs → chainB .or cs = some c → DE X prg n W00 E (.BoolOp .Or es pos) c ∧ DW X prg n W00 E (.BoolOp .Or es pos) c
  | [], cs, c, _, h, hc => by cases (show some [] = some cs from h); cases hc
  | [e], cs, c, hi, h, hc => by
    obtain ⟨c1, cs', h1, h2, rfl⟩ := mapO_inv h
    cases (show some [] = some cs' from h2)
    cases (show some c1 = some c from hc)
    simp only [List.all_cons, List.all_nil, Bool.and_true] at hi
    exact ⟨de_one (ih X G E g e _ h1).1, dw_or1 ((ih X G E g e _ h1).2 hi)⟩
  | e :: e2 :: es, cs, c, hi, h, hc => by
    obtain ⟨c1, cs', h1, h2, rfl⟩ := mapO_inv h
    obtain ⟨c2, cs2, h3, h4, rfl⟩ := mapO_inv h2
    obtain ⟨d, hd, rfl⟩ := Option.map_eq_some_iff.mp (show (chainB .or (c2 :: cs2)).map (CE.or c1) = some c from hc)
    rw [List.all_cons, Bool.and_eq_true] at hi
    obtain ⟨q1, q2⟩ := or_of ih g (es := e2 :: es) hi.2 h2 hd
    exact ⟨de_or (ih X G E g e c1 h1).1 q1, dw_or ((ih X G E g e c1 h1).2 hi.1) q2⟩
/-- what is its value's truth as a test -/
theorem both {e : Expr} {c : CE} (h : DE X prg n W00 E e c) (hp : plainT e = true) : DE X prg n W00 E e c ∧ (notIfExp e = true → DT X prg n W00 E e c) := ⟨h, fun _ => dt_of h (plainT_of hp)⟩
/-! ### constants and names -/
theorem const_of {c : Const} {d : D} {j : Nat} (h : constE c = some d) : DE X prg n W00 E (.Constant c j pos) (.lit d) := by
  cases c <;> first | (cases h; done) | skip
  · cases h; exact de_lit pe_non fun W => rfl
  · cases h; exact de_lit pe_bl fun W => rfl
  · cases h; exact de_lit pe_int fun W => rfl
  · cases h; exact de_lit pe_str fun W => rfl
theorem name_of (g : Good X G prg xc n W00 E) {x : Str} {c : CE} (h : cE (k + 1) G (.Name x pos) = some c) : DE X prg n W00 E (.Name x pos) c := by
  have h' : (match ownV G x with
      | some i => some (.var i)
      | none => match glV G x with
        | some (.lit d) => some (.lit d)
        | some (.cl xs) => some (.cl xs)
        | _ => none) = some c := h
  cases ho : ownV G x with
  | some i =>
    rw [ho] at h'
    cases h'
    obtain ⟨h1, h2, h3⟩ := ownV_inv ho
    obtain ⟨q1, q2, _⟩ := plain_dbg h2
    exact de_var (pe_var (by rw [g.N]; exact h3) (g.vis x h1) q1 q2)
  | none =>
    rw [ho] at h'
    cases hg : glV G x with
    | none => rw [hg] at h'; cases h'
    | some gb =>
      rw [hg] at h'
      obtain ⟨h1, h2, h3⟩ := glV_inv hg
      obtain ⟨q1, q2, _⟩ := plain_dbg h2
      cases gb with
      | lit d =>
        cases h'
        obtain ⟨u, v, e1, e2, e3⟩ := g.lit x d h3
        exact de_lit (pe_glob (g.glb x h1) e1 e2 q1) fun W => e3 _ _ _
      | cl xs =>
        cases h'
        obtain ⟨a, vs, e1, e2, e3⟩ := g.cl x xs h3
        exact de_cl (v := .ref a) (pe_glob (g.glb x h1) e1 rfl q1) ⟨a, vs, rfl, e2, fun W => e3 _ _ _⟩
      | _ => cases h'

/-! ### built-ins by name -/
theorem tyE_inv {x : Str} {T : Ty} (h : tyE x = some T) : x = T.nm ∧ T.bi = true := by
  unfold tyE at h
  repeat' (first | (split at h; · (rename_i q; cases h; exact ⟨q, rfl⟩)) | skip)
  cases h
theorem tyN_inv {e : Expr} {T : Ty} (h : tyN G e = some T) : ∃ q, e = .Name T.nm q ∧ isBi G T.nm = true ∧ T.bi = true := by
  unfold tyN at h
  split at h
  · split at h
    · rename_i x q hb
      obtain ⟨rfl, h2⟩ := tyE_inv h
      exact ⟨q, rfl, hb, h2⟩
    · cases h
  · cases h
theorem bi_gl (g : Good X G prg xc n W00 E) {x : Str} (h : isBi G x = true) : L2.Gl X x ∧ X.mg x = none := by
  obtain ⟨h1, h2, h3⟩ := glV_inv (isBi_inv h)
  exact ⟨g.glb x h1, g.bi x h3⟩
theorem names_of (g : Good X G prg xc n W00 E) : ∀ {es : List Expr} {ts : List Ty}, mapO (tyN G) es = some ts → NamesOk X ts es
  | [], ts, h => by cases (show some [] = some ts from h); exact .nil
  | e :: es, ts, h => by
    obtain ⟨T, ts', h1, h2, rfl⟩ := mapO_inv h
    obtain ⟨q, rfl, hb, hT⟩ := tyN_inv h1
    obtain ⟨q1, q2⟩ := bi_gl g hb
    exact .cons hT q1 q2 (names_of g h2)
def biVal : Bi → Value
  | .len => .builtin "len" | .abs => .builtin "abs" | .int => .type "int" | .str => .type "str" | .all => .builtin "all" | .any => .builtin "any" | .sum => .builtin "sum" | .min => .builtin "min" | .max => .builtin "max" | .min2 => .builtin "min" | .max2 => .builtin "max"
  | .sorted => .builtin "sorted" | .tuple => .type "tuple" | .list => .type "list" | .dict => .type "dict" | _ => .none
theorem biE_mem {x : Str} {m : Nat} {b : Bi} (h : biE x m = some b) : (x, m, b) ∈ biTab := by
  obtain ⟨t, ht, rfl⟩ := Option.map_eq_some_iff.mp h
  have h1 := List.mem_of_find?_eq_some ht
  have h2 := List.find?_some ht
  simp only [Bool.and_eq_true, decide_eq_true_eq, beq_iff_eq] at h2
  obtain ⟨t1, t2, t3⟩ := t
  obtain ⟨rfl, rfl⟩ := h2
  exact h1
theorem biTab_ok : ∀ t ∈ biTab, bootBuiltins t.1 = some (biVal t.2.2) ∧ ((∃ id, biVal t.2.2 = .builtin id) ∨ ∃ T, biVal t.2.2 = .type T) ∧ 0 < t.2.1 := by
  unfold biTab
  repeat' (refine List.forall_mem_cons.mpr ⟨?_, ?_⟩)
  all_goals first
    | (intro t ht; cases ht; done)
    | exact ⟨by decide +kernel, .inl ⟨_, rfl⟩, by decide⟩
    | exact ⟨by decide +kernel, .inr ⟨_, rfl⟩, by decide⟩
theorem biE_inv {x : Str} {m : Nat} {b : Bi} (h : biE x m = some b) : bootBuiltins x = some (biVal b) ∧ ((∃ id, biVal b = .builtin id) ∨ ∃ T, biVal b = .type T) ∧ 0 < m := biTab_ok _ (biE_mem h)
theorem bi_served (hc : X.calm = true) (hu : X.A.units + 65 < cLine) : ∀ t ∈ biTab, BiOk X (biVal t.2.2) t.2.2 := by
  unfold biTab
  repeat' (refine List.forall_mem_cons.mpr ⟨?_, ?_⟩)
  · exact bi_len
  · exact bi_abs
  · exact bi_int
  · exact bi_str
  · exact M3.bi_all hc
  · exact bi_any hc
  · exact bi_sum hc
  · exact bi_min hc
  · exact bi_max hc
  · exact bi_sorted hu
  · exact bi_tuple
  · exact bi_list
  · exact bi_dict hc hu
  · exact bi_min2 hc
  · exact bi_max2 hc
  · intro t ht; cases ht
theorem bi_all' (g : Good X G prg xc n W00 E) {x : Str} {m : Nat} {b : Bi} (h : biE x m = some b) : BiOk X (biVal b) b := bi_served g.calm g.units _ (biE_mem h)
theorem mtE_inv {x : Str} {m : Nat} {b : Mt} (h : mtE x m = some b) : x = mName b := by
  obtain ⟨t, ht, rfl⟩ := Option.map_eq_some_iff.mp h
  have h2 := List.find?_some ht
  simp only [Bool.and_eq_true, decide_eq_true_eq, beq_iff_eq] at h2
  exact h2.1.symm
theorem deB_of (ih : IH prg xc n W00 k) (g : Good X G prg xc n W00 E) {x : Str} {args : List Expr} {b : Bi} {cs : List CE} (hx : isBi G x = true) (hs : args.all noStar = true) (hb : biE x args.length = some b) (ha : mapO (cE k G) args = some cs) : DE X prg n W00 E (.Call (.Name x p) args [] pos) (.bi b cs) := by
  obtain ⟨h1, h2, h3⟩ := biE_inv hb
  obtain ⟨q1, q2⟩ := bi_gl g hx
  obtain ⟨_, hp, _⟩ := glV_inv (isBi_inv hx)
  obtain ⟨p1, _, p3⟩ := plain_dbg hp
  cases args with
  | nil => simp at h3
  | cons e es =>
    rw [List.all_cons, Bool.and_eq_true] at hs
    exact de_callB (bi_all' g hb) h2 q1 q2 h1 (dz_of ih g (by rw [List.all_cons, hs.1, hs.2]; rfl) ha) p3 p1 (star_eq hs.1 _ _) (star_any hs.2) fun σ S Q h => by simpa only [wpE] using h
theorem cB_of (ih : IH prg xc n W00 k) (g : Good X G prg xc n W00 E) {x : Str} {args : List Expr} {c : CE} (hx : isBi G x = true) (h : cB (cE k G) G x args = some c) : DE X prg n W00 E (.Call (.Name x p) args [] pos) c := by
  obtain ⟨q1, q2⟩ := bi_gl g hx
  unfold cB at h
  split at h
  · rename_i e
    subst e
    split at h
    · rename_i a es j tp
      split at h
      · rename_i hq
        rw [Bool.and_eq_true, decide_eq_true_eq] at hq
        split at h
        · rename_i c1 ts h1 h2
          cases h
          exact de_isiT (names_of g h2) (by rw [mapO_len h2]; exact hq.2) q1 q2 (ih X G E g _ _ h1).1 (star_eq hq.1 _ _)
        · cases h
      · cases h
    · rename_i a e _
      split at h
      · rename_i hq
        split at h
        · rename_i c1 t h1 h2
          cases h
          obtain ⟨q, rfl, hb, hT⟩ := tyN_inv h2
          obtain ⟨r1, r2⟩ := bi_gl g hb
          exact de_isi1 hT q1 q2 r1 r2 (ih X G E g _ _ h1).1 (star_eq hq _ _)
        · cases h
      · cases h
    · cases h
  · split at h
    · rename_i a nm apos cpos
      split at h
      · rename_i hq
        obtain ⟨rfl, rfl⟩ := hq
        split at h
        · rename_i hq
          rw [Bool.and_eq_true] at hq
          obtain ⟨c1, h1, rfl⟩ := Option.map_eq_some_iff.mp h
          exact de_sortItems g.calm g.units q1 q2 (ih X G E g _ _ h1).1 (base_of hq.1) hq.2
        · cases h
      · split at h
        · rename_i b c1 h1 h2
          cases h
          exact deB_of ih g hx rfl h1 (by simp [mapO, h2])
        · cases h
    · split at h
      · rename_i hs
        split at h
        · rename_i b cs h1 h2
          cases h
          exact deB_of ih g hx hs h1 h2
        · cases h
      · cases h
end
end M3
end

section
set_option autoImplicit false
set_option linter.all false
set_option maxRecDepth 100000
set_option maxHeartbeats 1000000
/-! M3: the core of a text is read right. -/
namespace M3
open PySem PySem.Spec PyProof.Rows L2
theorem lookup_relabel {env : PySem.Env} (x : Str) : ∀ names : List (Str × NameKind), (names.map fun (n, k) => if (k == NameKind.free && env.scope.kind == .function && env.kindOf n == some .cell) then (n, NameKind.cell) else (n, k)).lookup x =
    (names.lookup x).map fun k => if (k == NameKind.free && env.scope.kind == .function && env.kindOf x == some .cell) then NameKind.cell else k
  | [] => rfl
  | (n, k) :: r => by
    have ih := lookup_relabel (env := env) x r
    show List.lookup x ((if (k == NameKind.free && env.scope.kind == .function && env.kindOf n == some .cell) = true then (n, NameKind.cell) else (n, k)) :: _) = (List.lookup x ((n, k) :: r)).map _
    cases hx : x == n with
    | true =>
      have e : x = n := by simpa using hx
      subst e
      by_cases hc : (k == NameKind.free && env.scope.kind == .function && env.kindOf x == some .cell) = true
      · rw [if_pos hc, List.lookup_cons, List.lookup_cons, hx]
        show some NameKind.cell = some (if _ then _ else _)
        rw [if_pos hc]
      · rw [if_neg hc, List.lookup_cons, List.lookup_cons, hx]
        show some k = some (if _ then _ else _)
        rw [if_neg hc]
    | false =>
      have h2 : List.lookup x ((n, k) :: r) = List.lookup x r := by rw [List.lookup_cons, hx]
      rw [h2, ← ih]
      by_cases hc : (k == NameKind.free && env.scope.kind == .function && env.kindOf n == some .cell) = true
      · rw [if_pos hc, List.lookup_cons, hx]
      · rw [if_neg hc, List.lookup_cons, hx]
theorem ixOf_none {x : Str} : ∀ {N : List Str}, ixOf x N = none → x ∉ N
  | [], _ => by simp
  | y :: r, h => by
    unfold ixOf at h
    split at h
    · cases h
    · rename_i q
      have := ixOf_none (Option.map_eq_none_iff.mp h)
      simp only [List.mem_cons, not_or]
      exact ⟨fun e => q e.symm, this⟩
section
variable {X : Cx} {G : Cn} {prg : Prg} {xc : XC} {n : Nat} {W00 : Wd} {E : Nat → Env → Store → Prop} {k : Nat} {pos p p2 : Pos}
theorem good_blk (g : Good X G prg xc n W00 E) {scope : Scope} (hb : blkB G scope = true) (s : Shared) (H : Hp) (C : Addr) (cl : List (Str × Addr)) (fp : List Addr) : Good (X.blk s H scope (compEnvC scope cl C X.env) fp) { G with sc := scope } prg xc n W00 (fun _ _ _ => False) := by
  have lk : ∀ x, (compEnvC scope cl C X.env).scope.names.lookup x = (scope.names.lookup x).map fun k => if (k == NameKind.free && X.env.scope.kind == .function && X.env.kindOf x == some .cell) then NameKind.cell else k := fun x => lookup_relabel x _
  unfold blkB at hb
  simp only [Bool.and_eq_true] at hb
  refine ⟨g.N, g.nd, (by simpa using hb.1.1 : scope.kind = ScopeKind.function), fun x h => ?_, fun x h => ?_, fun x h => ⟨?_, ?_⟩, fun x h => ?_, fun x h => ?_, g.units, g.calm, g.room, ?_, g.lit, g.cl, g.bi, g.call⟩
  · show Vis (compEnvC scope cl C X.env).scope x
    unfold Vis
    rw [lk]
    have h' : visB (scope.names.lookup x) = true := h
    cases hx : scope.names.lookup x with
    | none => rw [hx] at h'; cases h'
    | some kk =>
      rw [hx] at h'
      cases kk <;> first | (cases h'; done) | skip
      · exact .inl rfl
      · exact .inr (.inl rfl)
      · simp only [Option.map_some]
        split
        · exact .inr (.inl rfl)
        · exact .inr (.inr rfl)
  · show (compEnvC scope cl C X.env).scope.names.lookup x = _
    rw [lk, show scope.names.lookup x = some .local from h]; rfl
  · show (compEnvC scope cl C X.env).scope.names.lookup x = _
    rw [lk, show scope.names.lookup x = some .cell from h]; rfl
  · show (scope.names.lookup x == some .cell) = true
    rw [show scope.names.lookup x = some .cell from h]; rfl
  · show (compEnvC scope cl C X.env).scope.names.lookup x = _ ∨ (compEnvC scope cl C X.env).scope.names.lookup x = _
    rw [lk, show scope.names.lookup x = some .free from h]
    simp only [Option.map_some]
    split
    · exact .inl rfl
    · exact .inr rfl
  · show (compEnvC scope cl C X.env).scope.names.lookup x = _
    rw [lk, show scope.names.lookup x = some .globalImplicit from h]; rfl
  · rintro u s' ⟨a, B, sI, pins, σ, H', cls, d, _, _, _, _, _, _, _, _, W1, σd, x, _, _, _, _, hf, _⟩
    exact hf.elim
theorem blk_ok (g : Good X G prg xc n W00 E) {scope : Scope} (hb : blkB G scope = true) : BlkOk X.N X.env.scope scope (ownOf G.N scope) := by
  unfold blkB at hb
  simp only [Bool.and_eq_true, List.all_eq_true] at hb
  refine ⟨by simpa using hb.1.1, fun y hy => by simpa using hb.1.2 y hy, fun q hq => ?_, fun y hy e => ?_, fun y hy e => ?_⟩
  · obtain ⟨y, hy, h⟩ := List.mem_filterMap.mp hq
    rw [g.N]
    split at h
    · obtain ⟨i, hi, rfl⟩ := Option.map_eq_some_iff.mp h; exact ixOf_get hi
    · obtain ⟨i, hi, rfl⟩ := Option.map_eq_some_iff.mp h; exact ixOf_get hi
    · cases h
  · have := hb.2 y hy
    rw [if_pos e, Bool.or_eq_true] at this
    rcases this with q | q
    · exact .inl (g.cel y.1 (by simpa using q)).1
    · exact g.fre y.1 (by simpa using q)
  · cases hi : ixOf y.1 G.N with
    | none => right; rw [g.N]; exact ixOf_none hi
    | some i =>
      left
      refine List.mem_map.mpr ⟨(y.1, i), List.mem_filterMap.mpr ⟨y, hy, ?_⟩, rfl⟩
      rcases e with e | e <;> rw [e] <;> simp [hi]
theorem assign_len {env : PySem.Env} : ∀ {es : List Expr}, (assignEach es env).length = es.length
  | [] => rfl
  | e :: es => by cases e <;> simp [assignEach, assign_len]
theorem assign_star {e : Expr} (h : noStar e = true) (es : List Expr) (env : PySem.Env) : assignEach (e :: es) env = (false, assign e env) :: assignEach es env := by
  cases e <;> first | rfl | cases h
theorem assign_none {env : PySem.Env} : ∀ {es : List Expr}, es.all noStar = true → (assignEach es env).findIdx? (·.1) = none
  | [], _ => rfl
  | e :: es, h => by
    rw [List.all_cons, Bool.and_eq_true] at h
    rw [assign_star h.1]
    simp [List.findIdx?_cons, assign_none h.2]
theorem cG_ok : ∀ (k : Nat) (X : Cx) (G : Cn) (E : Nat → Env → Store → Prop), Good X G prg xc n W00 E → ∀ e t, cG k G e = some t → PG X e (tG X t)
  | 0, _, _, _, _, _, _, h => by cases h
  | k + 1, X, G, E, g, e, t, h => by
    have hs : ∀ (es : List Expr) (ts : List Tg), es.all noStar = true → mapO (cG k G) es = some ts → PGs X es (tGs X ts) := by
      intro es
      induction es with
      | nil => intro ts _ h; cases (show some [] = some ts from h); exact dgs_nil
      | cons e es ih =>
        intro ts hs h
        obtain ⟨t, ts', h1, h2, rfl⟩ := mapO_inv h
        rw [List.all_cons, Bool.and_eq_true] at hs
        exact dgs_cons (cG_ok k X G E g e t h1) (ih ts' hs.2 h2) (by rw [assign_star hs.1]; rfl)
    unfold cG at h
    split at h
    · rename_i x q
      split at h
      · rename_i hq
        rw [Bool.and_eq_true] at hq
        obtain ⟨i, hi, rfl⟩ := Option.map_eq_some_iff.mp h
        have hl : (G.sc.names.lookup x = some .local) ∨ (G.sc.names.lookup x = some .cell) := by
          have h1 := hq.1
          unfold locB at h1
          split at h1
          · rename_i e; exact .inl e
          · rename_i e; exact .inr e
          · cases h1
        rcases hl with e | e
        · exact dg_v g.nd (by rw [g.N]; exact ixOf_get hi) (.inl (g.loc x e)) (.inr (g.loc x e))
        · exact dg_v g.nd (by rw [g.N]; exact ixOf_get hi) (.inr (g.cel x e).1) (.inl (g.cel x e).2)
      · cases h
    · rename_i es j q
      split at h
      · rename_i hn
        obtain ⟨ts, hts, rfl⟩ := Option.map_eq_some_iff.mp h
        exact dg_t g.calm (hs es ts hn hts) (by rw [assign_len, mapO_len hts]) (assign_none hn)
      · cases h
    · cases h
theorem cI_ok (ih : IH prg xc n W00 k) (g : Good X G prg xc n W00 E) {tg e : Expr} {c : CI} (h : cI (cE k G) G e = some c) : DI X prg n W00 E tg e c ∧ notSet e = true := by
  unfold cI at h
  split at h
  · rename_i x q args q2
    split at h
    · rename_i hq
      rw [Bool.and_eq_true, decide_eq_true_eq] at hq
      obtain ⟨hb, rfl⟩ := hq
      obtain ⟨r1, r2⟩ := bi_gl g hb
      refine ⟨?_, rfl⟩
      split at h
      · rename_i hs
        split at h
        · rename_i a
          obtain ⟨c1, h1, rfl⟩ := Option.map_eq_some_iff.mp h
          simp only [List.all_cons, List.all_nil, Bool.and_true] at hs
          exact di_range1 r1 r2 (dz_of ih g (by simp [hs]) (by simp [mapO, h1])) (by rw [star_eq hs]; rfl)
        · rename_i a b
          split at h
          · rename_i c1 c2 h1 h2
            cases h
            simp only [List.all_cons, List.all_nil, Bool.and_true, Bool.and_eq_true] at hs
            exact di_range2 r1 r2 (dz_of ih g (by simp [hs.1, hs.2]) (by simp [mapO, h1, h2])) (by rw [star_eq hs.1, star_eq hs.2]; rfl) (by rw [star_eq hs.2]; rfl)
          · cases h
        · cases h
      · cases h
    · obtain ⟨c1, h1, rfl⟩ := Option.map_eq_some_iff.mp h
      exact ⟨di_e (ih X G E g _ _ h1).1, rfl⟩
  · split at h
    · rename_i hs
      obtain ⟨c1, h1, rfl⟩ := Option.map_eq_some_iff.mp h
      exact ⟨di_e (ih X G E g _ _ h1).1, hs⟩
    · cases h
theorem comp_of (ih : IH prg xc n W00 k) (g : Good X G prg xc n W00 E) {elt tg iter : Expr} {ifs : List Expr} {scope : Scope} {c : CE} (h : cE (k + 1) G (.ListComp elt [⟨tg, iter, ifs, 0⟩] scope pos) = some c) :
    ∃ t it cs c1, c = .cmpr c1 t it cs ((ownOf G.N scope).map (·.2)) ∧ DI X prg n W00 E tg iter it ∧ BlkOk X.N X.env.scope scope (ownOf G.N scope) ∧
    (∀ (s : Shared) (H : Hp) (C : Addr) (cl : List (Str × Addr)) (fp : List Addr), PG (X.blk s H scope (compEnvC scope cl C X.env) fp) tg (tG X t)) ∧
    (∀ (s : Shared) (H : Hp) (C : Addr) (cl : List (Str × Addr)) (fp : List Addr), PTs (X.blk s H scope (compEnvC scope cl C X.env) fp) ifs (tIfs X prg n W00 cs)) ∧
    (∀ (s : Shared) (H : Hp) (C : Addr) (cl : List (Str × Addr)) (fp : List Addr), PE (X.blk s H scope (compEnvC scope cl C X.env) fp) elt (tE X prg n W00 (fun _ _ _ => False) c1)) ∧
    (∀ x, foldedSetIterable iter X.env x = pure x) ∧ (∀ i ∈ tgSlots t, i ∈ (ownOf G.N scope).map (·.2)) := by
  have h' : (if blkB G scope && decide (ifs.length ≤ 1) && ifs.all notIfExp then
        match cG k { G with sc := scope } tg, cI (cE k G) G iter, mapO (cE k { G with sc := scope }) ifs, cE k { G with sc := scope } elt with
        | some t, some it, some cs, some c => if (tgSlots t).all fun i => decide (i ∈ (ownOf G.N scope).map (·.2)) then some (.cmpr c t it cs ((ownOf G.N scope).map (·.2))) else none
        | _, _, _, _ => none
      else none) = some c := h
  split at h'
  · rename_i hq
    simp only [Bool.and_eq_true, decide_eq_true_eq] at hq
    split at h'
    · rename_i t it cs c1 h1 h2 h3 h4
      split at h'
      · rename_i hs
        cases h'
        obtain ⟨d1, d2⟩ := cI_ok (tg := tg) ih g h2
        refine ⟨t, it, cs, c1, rfl, d1, blk_ok g hq.1.1, fun s H C cl fp => ?_, fun s H C cl fp => ?_, fun s H C cl fp => ?_, folded_of d2, fun i hi => by simpa using (List.all_eq_true.mp hs) i hi⟩
        · exact cG_ok k _ _ _ (good_blk g hq.1.1 s H C cl fp) tg t h1
        · cases ifs with
          | nil => cases (show some [] = some cs from h3); exact difs_nil (X := X.blk s H scope (compEnvC scope cl C X.env) fp)
          | cons e es =>
            cases es with
            | nil =>
              obtain ⟨c2, cs', h5, h6, rfl⟩ := mapO_inv h3
              cases (show some [] = some cs' from h6)
              have hi : notIfExp e = true := by simpa using hq.2
              exact difs_one (X := X.blk s H scope (compEnvC scope cl C X.env) fp) ((ih _ _ _ (good_blk g hq.1.1 s H C cl fp) e c2 h5).2 hi)
            | cons _ _ => simp at hq
        · exact (ih _ _ _ (good_blk g hq.1.1 s H C cl fp) elt c1 h4).1
      · cases h'
    · cases h'
  · cases h'
end
end M3
end

section
set_option autoImplicit false
set_option linter.all false
set_option maxRecDepth 100000
set_option maxHeartbeats 2000000
/-! M3: expressions and statements of a text. -/
namespace M3
open PySem PySem.Spec PyProof.Rows L2
section
variable {X : Cx} {G : Cn} {prg : Prg} {xc : XC} {n : Nat} {W00 : Wd} {E : Nat → Env → Store → Prop} {k : Nat} {pos p p2 : Pos}
theorem pps_of (ih : IH prg xc n W00 k) (g : Good X G prg xc n W00 E) : ∀ {keys : List (Option Expr)} {vals : List Expr} {ks vs : List CE}, keys.length = vals.length → mapO (fun o => match o with
        | some e => cE k G e
        | none => none) keys = some ks → mapO (cE k G) vals = some vs → PPs X pos keys vals (trsOf X prg n W00 E (weave ks vs)) ∧ (weave ks vs).length = 2 * keys.length
  | [], [], ks, vs, _, h1, h2 => by
    cases (show some [] = some ks from h1); cases (show some [] = some vs from h2)
    exact ⟨pps_nil, rfl⟩
  | [], _ :: _, _, _, hl, _, _ => by cases hl
  | _ :: _, [], _, _, hl, _, _ => by cases hl
  | o :: keys, v :: vals, ks, vs, hl, h1, h2 => by
    obtain ⟨c1, ks', q1, q2, rfl⟩ := mapO_inv h1
    obtain ⟨c2, vs', q3, q4, rfl⟩ := mapO_inv h2
    cases o with
    | none => cases q1
    | some e =>
      obtain ⟨r1, r2⟩ := pps_of ih g (by simpa using hl) q2 q4
      refine ⟨pps_cons (ih X G E g e c1 q1).1 (ih X G E g v c2 q3).1 r1, ?_⟩
      show (weave ks' vs').length + 1 + 1 = _
      rw [r2, List.length_cons]; omega
theorem do_of (ih : IH prg xc n W00 k) (g : Good X G prg xc n W00 E) {o : Option Expr} {c : Option CE} (h : optO (cE k G) o = some c) : DO X prg n W00 E o c := by
  cases o with
  | none => cases (show some none = some c from h); exact do_none
  | some e =>
    obtain ⟨c1, h1, rfl⟩ := Option.map_eq_some_iff.mp h
    exact do_some (ih X G E g e c1 h1).1
theorem call_of (ih : IH prg xc n W00 k) (g : Good X G prg xc n W00 E) {x : Str} {args : List Expr} {c : CE} (h : cE (k + 1) G (.Call (.Name x p) args [] pos) = some c) : DE X prg n W00 E (.Call (.Name x p) args [] pos) c := by
  have h' : (match ownV G x with
      | some _ => none
      | none => match glV G x with
        | some (.fn i) => if args.all noStar then (mapO (cE k G) args).map (.call i) else none
        | some .bi => cB (cE k G) G x args
        | _ => none) = some c := h
  cases ho : ownV G x with
  | some i => rw [ho] at h'; cases h'
  | none =>
    rw [ho] at h'
    cases hg : glV G x with
    | none => rw [hg] at h'; cases h'
    | some gb =>
      rw [hg] at h'
      obtain ⟨h1, h2, h3⟩ := glV_inv hg
      obtain ⟨q1, q2, _⟩ := plain_dbg h2
      cases gb with
      | fn i =>
        have h' : (if args.all noStar then (mapO (cE k G) args).map (CE.call i) else none) = some c := h'
        split at h'
        · rename_i hs
          obtain ⟨cs, hcs, rfl⟩ := Option.map_eq_some_iff.mp h'
          cases args with
          | nil => cases (show some [] = some cs from hcs); exact de_call0 g h3 (g.glb x h1) q1
          | cons e es =>
            have hs' := hs
            rw [List.all_cons, Bool.and_eq_true] at hs'
            exact de_call g h3 (g.glb x h1) (da_of ih g hs hcs) q1 (star_eq hs'.1 _ _) (star_any hs'.2)
        · cases h'
      | bi => exact cB_of ih g (by unfold isBi; rw [hg]) h'
      | _ => cases h'
theorem meth_of (ih : IH prg xc n W00 k) (g : Good X G prg xc n W00 E) {o : Expr} {nm : Str} {apos : Pos} {args : List Expr} {c : CE} (h : cE (k + 1) G (.Call (.Attribute o nm apos) args [] pos) = some c) : DE X prg n W00 E (.Call (.Attribute o nm apos) args [] pos) c := by
  have h' : (if notBare o && apos.endLine == pos.line && args.all noStar && decide (args.length < 20) then match mtE nm args.length, cE k G o, mapO (cE k G) args with
        | some m, some c, some cs => some (.mth m c cs)
        | _, _, _ => none
      else none) = some c := h
  split at h'
  · rename_i hq
    simp only [Bool.and_eq_true, decide_eq_true_eq] at hq
    obtain ⟨⟨⟨hb, hl⟩, hs⟩, hz⟩ := hq
    split at h'
    · rename_i m c1 cs h1 h2 h3
      cases h'
      cases mtE_inv h1
      cases args with
      | nil =>
        cases (show some [] = some cs from h3)
        exact de_mth0 g.units (ih X G E g o c1 h2).1 (base_of hb) hl
      | cons e es =>
        have hs' := hs
        rw [List.all_cons, Bool.and_eq_true] at hs'
        refine de_mth g.units (ih X G E g o c1 h2).1 (da_of ih g hs h3) (base_of hb) ?_ hl (star_eq hs'.1 _ _) (star_any hs'.2)
        rw [star_few hs]
        simp only [List.length_cons] at hz
        simp [keywordEach, backToKw]
        omega
    · cases h'
  · cases h'
theorem cE_ok : ∀ k, IH prg xc n W00 k
  | 0 => fun X G E g e c h => by cases h
  | k + 1 => fun X G E g e c h => by
    have ih := cE_ok k
    cases e with
    | Constant cc j q =>
      obtain ⟨d, hd, rfl⟩ := Option.map_eq_some_iff.mp (show (constE cc).map CE.lit = some c from h)
      exact both (const_of hd) rfl
    | Name x q => exact both (name_of g h) rfl
    | Tuple es j q =>
      have h' : (if es.all noStar && decide (es.length ≤ 1000) then (mapO (cE k G) es).map CE.tup else none) = some c := h
      split at h'
      · rename_i hq
        rw [Bool.and_eq_true, decide_eq_true_eq] at hq
        obtain ⟨cs, hcs, rfl⟩ := Option.map_eq_some_iff.mp h'
        exact both (de_tup (da_of ih g hq.1 hcs) (by rw [mapO_len hcs]; exact hq.2)) rfl
      · cases h'
    | List es q =>
      have h' : (if es.all noStar && decide (es.length ≤ 1000) then (mapO (cE k G) es).map CE.lst else none) = some c := h
      split at h'
      · rename_i hq
        rw [Bool.and_eq_true, decide_eq_true_eq] at hq
        obtain ⟨cs, hcs, rfl⟩ := Option.map_eq_some_iff.mp h'
        exact both (de_lst (da_of ih g hq.1 hcs) (by rw [mapO_len hcs]; exact hq.2)) rfl
      · cases h'
    | Dict keys vals q =>
      refine both ?_ rfl
      have gen : (if keys.all (·.isSome) && decide (keys.length = vals.length) && decide (keys.length ≤ 15) then match mapO (fun o => match o with
        | some e => cE k G e
        | none => none) keys, mapO (cE k G) vals with
      | some ks, some vs => some (.dct (weave ks vs))
      | _, _ => none
      else none) = some c → keys ≠ [] → DE X prg n W00 E (.Dict keys vals q) c := by
        intro h' h0
        split at h'
        · rename_i hq
          simp only [Bool.and_eq_true, decide_eq_true_eq] at hq
          split at h'
          · rename_i ks vs h1 h2
            cases h'
            obtain ⟨r1, r2⟩ := pps_of (pos := q) ih g hq.1.2 h1 h2
            exact de_dct r1 hq.1.1 hq.1.2 h0 hq.2 (by omega)
          · cases h'
        · cases h'
      cases keys with
      | nil =>
        cases vals with
        | nil => cases (show some (CE.dct []) = some c from h); exact de_dct0
        | cons v vs => cases (show (if ([] : List (Option Expr)).all (·.isSome) && decide (([] : List (Option Expr)).length = (v :: vs).length) && decide (([] : List (Option Expr)).length ≤ 15) then match mapO (fun o => match o with
        | some e => cE k G e
        | none => none) ([] : List (Option Expr)), mapO (cE k G) (v :: vs) with
      | some ks, some vs => some (.dct (weave ks vs))
      | _, _ => none
      else none) = some c from h)
      | cons o keys => exact gen h (by simp)
    | BinOp a op b q =>
      have h' : (match bopE op, cE k G a, cE k G b with
      | some o, some c, some d => some (CE.bin o c d)
      | _, _, _ => none) = some c := h
      split at h'
      · rename_i o c1 c2 h1 h2 h3
        cases h'
        have e := bop_of h1
        subst e
        exact both (de_bin (ih X G E g a c1 h2).1 (ih X G E g b c2 h3).1) rfl
      · cases h'
    | UnaryOp op a q =>
      cases op with
      | USub =>
        obtain ⟨c1, h1, rfl⟩ := Option.map_eq_some_iff.mp (show (cE k G a).map CE.neg = some c from h)
        exact both (de_neg (ih X G E g a c1 h1).1) rfl
      | Not =>
        have h' : (if notIfExp a then (cE k G a).map CE.not else none) = some c := h
        split at h'
        · rename_i hi
          obtain ⟨c1, h1, rfl⟩ := Option.map_eq_some_iff.mp h'
          exact ⟨de_not (ih X G E g a c1 h1).1, fun _ => dt_not ((ih X G E g a c1 h1).2 hi)⟩
        · cases h'
      | _ => cases h
    | BoolOp op es q =>
      cases op with
      | And =>
        have h' : (if es.all notIfExp then (mapO (cE k G) es).bind (chainB .and) else none) = some c := h
        split at h'
        · rename_i hi
          obtain ⟨cs, h1, h2⟩ := Option.bind_eq_some_iff.mp h'
          obtain ⟨r1, r2⟩ := and_of (pos := q) ih g hi h1 h2
          exact ⟨r1, fun _ => r2.pt⟩
        · cases h'
      | Or =>
        have h' : (if es.all notIfExp then (mapO (cE k G) es).bind (chainB .or) else none) = some c := h
        split at h'
        · rename_i hi
          obtain ⟨cs, h1, h2⟩ := Option.bind_eq_some_iff.mp h'
          obtain ⟨r1, r2⟩ := or_of (pos := q) ih g hi h1 h2
          exact ⟨r1, fun _ => r2.pt⟩
        · cases h'
    | Compare a ops bs q =>
      match ops, bs, h with
      | [op], [b], h =>
        have h' : (if behindInMarks op b then none else match cE k G a, cE k G b with
          | some c, some d => some (CE.cmp (copE op) c d)
          | _, _ => none) = some c := h
        split at h'
        · cases h'
        · rename_i hm
          split at h'
          · rename_i c1 c2 h1 h2
            cases h'
            have hm' : behindInMarks (cmpOf (copE op)) b = false := by rw [cop_of]; simpa using hm
            have r1 := de_cmp (pos := q) g.units (ih X G E g a c1 h1).1 (ih X G E g b c2 h2).1 hm'
            have r2 := dt_cmp (pos := q) g.units (ih X G E g a c1 h1).1 (ih X G E g b c2 h2).1 hm'
            rw [cop_of] at r1 r2
            exact ⟨r1, fun _ => r2⟩
          · cases h'
      | [op, op'], [b, b'], h =>
        have h' : (if lastMarks [op, op'] [b, b'] then none else match cE k G a, cE k G b, cE k G b' with
          | some c, some d, some d' => some (CE.cmp2 (copE op) (copE op') c d d')
          | _, _, _ => none) = some c := h
        split at h'
        · cases h'
        · rename_i hm
          split at h'
          · rename_i c1 c2 c3 h1 h2 h3
            cases h'
            have hm' : lastMarks [cmpOf (copE op), cmpOf (copE op')] [b, b'] = false := by rw [cop_of, cop_of]; simpa using hm
            have r1 := de_cmp2 (pos := q) g.units (ih X G E g a c1 h1).1 (ih X G E g b c2 h2).1 (ih X G E g b' c3 h3).1 hm'
            have r2 := dt_cmp2 (pos := q) g.units (ih X G E g a c1 h1).1 (ih X G E g b c2 h2).1 (ih X G E g b' c3 h3).1 hm'
            rw [cop_of, cop_of] at r1 r2
            exact ⟨r1, fun _ => r2⟩
          · cases h'
      | [], _, h => cases h
      | [_], [], h => cases h
      | [_], _ :: _ :: _, h => cases h
      | [_, _], [], h => cases h
      | [_, _], [_], h => cases h
      | [_, _], _ :: _ :: _ :: _, h => cases h
      | _ :: _ :: _ :: _, [], h => cases h
      | _ :: _ :: _ :: _, _ :: _, h => cases h
    | IfExp t a b q =>
      have h' : (if notIfExp t then match cE k G t, cE k G a, cE k G b with
      | some c, some d, some d' => some (CE.ife c d d')
      | _, _, _ => none
      else none) = some c := h
      split at h'
      · rename_i hi
        split at h'
        · rename_i c1 c2 c3 h1 h2 h3
          cases h'
          exact ⟨de_ife ((ih X G E g t c1 h1).2 hi) (ih X G E g a c2 h2).1 (ih X G E g b c3 h3).1, fun z => by cases z⟩
        · cases h'
      · cases h'
    | Subscript a b q =>
      refine both ?_ rfl
      have gen : (if notSlice b then match cE k G a, cE k G b with
          | some c, some d => some (CE.idx c d)
          | _, _ => none
          else none) = some c → DE X prg n W00 E (.Subscript a b q) c := by
        intro h'
        split at h'
        · rename_i hs
          split at h'
          · rename_i c1 c2 h1 h2
            cases h'
            exact de_idx g.units (ih X G E g a c1 h1).1 (ih X G E g b c2 h2).1 (plainIx_of hs)
          · cases h'
        · cases h'
      cases b with
      | Slice lo hi st q2 =>
        cases st with
        | none =>
          have h' : (match cE k G a, optO (cE k G) lo, optO (cE k G) hi with
            | some c, some l, some h => some (CE.slc c l h)
            | _, _, _ => none) = some c := h
          split at h'
          · rename_i c1 l1 l2 h1 h2 h3
            cases h'
            exact de_slc (ih X G E g a c1 h1).1 (do_of ih g h2) (do_of ih g h3)
          · cases h'
        | some _ => exact gen h
      | _ => exact gen h
    | Call f args kws q =>
      refine both ?_ rfl
      cases kws with
      | cons _ _ => cases f <;> cases h
      | nil =>
        cases f with
        | Name x q2 => exact call_of ih g h
        | Attribute o nm apos => exact meth_of ih g h
        | _ => cases h
    | ListComp elt gens scope q =>
      refine both ?_ rfl
      match gens, h with
      | [⟨tg, iter, ifs, 0⟩], h =>
        obtain ⟨t, it, cs, c1, rfl, h1, h2, h3, h4, h5, h6, h7⟩ := comp_of ih g h
        exact de_cmpr g.calm g.nd h1 h2 h3 h4 h5 h6 h7
      | [], h => cases h
      | [⟨_, _, _, .ofNat (_ + 1)⟩], h => cases h
      | [⟨_, _, _, .negSucc _⟩], h => cases h
      | ⟨_, _, _, .ofNat 0⟩ :: _ :: _, h => cases h
      | ⟨_, _, _, .ofNat (_ + 1)⟩ :: _ :: _, h => cases h
      | ⟨_, _, _, .negSucc _⟩ :: _ :: _, h => cases h
    | _ => cases h

/-! ### statements -/
theorem swaps_none {e : Expr} {l : Nat} {env : PySem.Env} (h : notComp e = true) (o : Option Expr) : swapsWith e o l env = pure false := by
  cases e <;> first | rfl | cases h
theorem swaps_oth {e : Expr} {t : Expr} {l : Nat} {env : PySem.Env} (h : ∀ x q, t ≠ .Name x q) : swapsWith e (some t) l env = pure false := by
  cases e <;> cases t <;> first | rfl | exact absurd rfl (h _ _)
theorem stores_sub {o i e : Expr} {q : Pos} {env : PySem.Env} : swappedStores [.Subscript o i q] e env = pure none := by cases e <;> rfl
theorem stores_name {x : Str} {e : Expr} {q : Pos} {env : PySem.Env} : swappedStores [.Name x q] e env = pure none := by cases e <;> rfl
theorem stores_tup {es : List Expr} {j : Nat} {e : Expr} {q : Pos} {env : PySem.Env} (h : notTuple e = true) : swappedStores [.Tuple es j q] e env = pure none := by
  cases e <;> first | rfl | cases h
theorem asg_sub {o i : Expr} {q : Pos} {env : PySem.Env} (h : notSlice i = true) : ∀ v, assign (.Subscript o i q) env v = (do
      let ov ← holding [v] (eval o env)
      let iv ← holding [v, ov] (eval i env)
      standAt q
      holding [v, ov, iv] (setItem ov iv v)
      release [v, ov, iv] []) := by
  intro v
  cases i <;> first | rfl | cases h
def IHs (prg : Prg) (xc : XC) (n : Nat) (W00 : Wd) (k : Nat) : Prop := ∀ (X : Cx) (G : Cn) (E : Nat → Env → Store → Prop), Good X G prg xc n W00 E → PassesOwn (model X.prog X.w) X.A X.env X.xe → ∀ e c, cS k G e = some c → DS X prg n W00 E e c
theorem dss_of (ih : IHs prg xc n W00 k) (g : Good X G prg xc n W00 E) (hp : PassesOwn (model X.prog X.w) X.A X.env X.xe) : ∀ {es : List Stmt} {cs : List CS}, mapO (cS k G) es = some cs → DSs X prg n W00 E es cs
  | [], cs, h => by cases (show some [] = some cs from h); exact dss_nil
  | e :: es, cs, h => by
    obtain ⟨c, cs', h1, h2, rfl⟩ := mapO_inv h
    exact dss_cons (ih X G E g hp e c h1) (dss_of ih g hp h2)
theorem name_set (g : Good X G prg xc n W00 E) {x : Str} {q spos : Pos} {e : Expr} {t : Tg} {c : CE} (h1 : cG (k + 1) G (.Name x q) = some t) (h2 : cE (k + 1) G e = some c) : DS X prg n W00 E (.Assign [.Name x q] e spos) (.asg t c) := by
  have he := (cE_ok (k + 1) X G E g e c h2).1
  have ht := cG_ok (k + 1) X G E g _ t h1
  have plain : swapsWith e (some (.Name x q)) spos.line X.env = pure false → DS X prg n W00 E (.Assign [.Name x q] e spos) (.asg t c) := fun hs => ds_asg he ht hs stores_name (by rfl)
  cases e with
  | ListComp elt gens scope cp =>
    by_cases hb : (X.env.blockKind == .function && X.env.kindOf x == some .local && q.line == cp.line && !(scope.names.any fun (n, k) => n == x && (k == .local || k == .cell))) = true
    · match gens, h2 with
      | [⟨tg, iter, ifs, 0⟩], h2 =>
        obtain ⟨t', it, cs, c1, rfl, q1, q2, q3, q4, q5, q6, q7⟩ := comp_of (cE_ok k) g h2
        have h1' : (if locB (G.sc.names.lookup x) && plainB x then (ixOf x G.N).map Tg.v else none) = some t := h1
        split at h1'
        · obtain ⟨i, hi, rfl⟩ := Option.map_eq_some_iff.mp h1'
          simp only [Bool.and_eq_true, beq_iff_eq] at hb
          refine ds_setLc g.calm g.nd (by rw [g.N]; exact ixOf_get hi) hb.1.1.2 ?_ q1 q2 q3 q4 q5 q6 q7
          show (pure (X.env.blockKind == .function && X.env.kindOf x == some .local && q.line == cp.line && !(scope.names.any fun (n, k) => n == x && (k == .local || k == .cell))) : Sem Bool) = pure true
          congr 1
          simp only [Bool.and_eq_true, beq_iff_eq]
          exact hb
        · cases h1'
      | [], h => cases h
      | [⟨_, _, _, .ofNat (_ + 1)⟩], h => cases h
      | [⟨_, _, _, .negSucc _⟩], h => cases h
      | ⟨_, _, _, .ofNat 0⟩ :: _ :: _, h => cases h
      | ⟨_, _, _, .ofNat (_ + 1)⟩ :: _ :: _, h => cases h
      | ⟨_, _, _, .negSucc _⟩ :: _ :: _, h => cases h
    · refine plain ?_
      show (pure (X.env.blockKind == .function && X.env.kindOf x == some .local && q.line == cp.line && !(scope.names.any fun (n, k) => n == x && (k == .local || k == .cell))) : Sem Bool) = pure false
      rw [Bool.not_eq_true] at hb
      rw [hb]
  | SetComp _ _ _ _ => cases h2
  | DictComp _ _ _ _ _ => cases h2
  | _ => exact plain (swaps_none rfl _)
theorem cS_ok : ∀ k, IHs prg xc n W00 k
  | 0 => fun X G E g hp e c h => by cases h
  | k + 1 => fun X G E g hp st c h => by
    have ih := cS_ok k
    have ihe : IH prg xc n W00 k := cE_ok k
    cases st with
    | Pass q => cases (show some CS.pass = some c from h); exact ds_pass
    | Break q => cases (show some CS.brk = some c from h); exact ds_brk
    | Continue q => cases (show some CS.cnt = some c from h); exact ds_cnt
    | Return o q =>
      cases o with
      | none => cases (show some CS.retn = some c from h); exact ds_retn
      | some e =>
        obtain ⟨c1, h1, rfl⟩ := Option.map_eq_some_iff.mp (show (cE k G e).map CS.ret = some c from h)
        exact ds_ret (ihe X G E g e c1 h1).1
    | Expr e q =>
      have gen : (if notComp e then (cE k G e).map CS.expr else none) = some c → DS X prg n W00 E (.Expr e q) c := by
        intro h'
        split at h'
        · rename_i hs
          obtain ⟨c1, h1, rfl⟩ := Option.map_eq_some_iff.mp h'
          exact ds_expr (ihe X G E g e c1 h1).1 (swaps_none hs _)
        · cases h'
      cases e with
      | Constant cc j q2 =>
        cases cc with
        | str x => cases (show some CS.pass = some c from h); exact ds_doc
        | _ => exact gen h
      | _ => exact gen h
    | If t a b q =>
      have h' : (if notIfExp t then match cE k G t, mapO (cS k G) a, mapO (cS k G) b with
      | some cc, some ca, some cb => some (CS.ifs cc ca cb)
      | _, _, _ => none
      else none) = some c := h
      split at h'
      · rename_i hi
        split at h'
        · rename_i c1 c2 c3 h1 h2 h3
          cases h'
          exact ds_if ((ihe X G E g t c1 h1).2 hi) (dss_of ih g hp h2) (dss_of ih g hp h3)
        · cases h'
      · cases h'
    | While t b o q =>
      cases o with
      | cons _ _ => cases h
      | nil =>
        have h' : (if notIfExp t then match cE k G t, mapO (cS k G) b with
          | some cc, some cb => some (CS.whl cc cb)
          | _, _ => none
          else none) = some c := h
        split at h'
        · rename_i hi
          split at h'
          · rename_i c1 c2 h1 h2
            cases h'
            exact ds_while hp ((ihe X G E g t c1 h1).2 hi) (dss_of ih g hp h2)
          · cases h'
        · cases h'
    | For tg iter b o q =>
      cases o with
      | cons _ _ => cases h
      | nil =>
        have h' : (match cG k G tg, cI (cE k G) G iter, mapO (cS k G) b with
          | some t, some it, some cb => some (CS.for t it cb)
          | _, _, _ => none) = some c := h
        split at h'
        · rename_i t it cb h1 h2 h3
          cases h'
          obtain ⟨d1, d2⟩ := cI_ok (tg := tg) ihe g h2
          exact ds_for hp g.calm d1 (cG_ok k X G E g tg t h1) (dss_of ih g hp h3) (folded_of d2)
        · cases h'
    | AugAssign t op e q =>
      cases t with
      | Name x q2 =>
        have h' : (match cG k G (.Name x q2), bopE op, cE k G e with
          | some (.v i), some o, some ce => some (CS.aug i o ce)
          | _, _, _ => none) = some c := h
        split at h'
        · rename_i i o ce h1 h2 h3
          cases h'
          have e1 := bop_of h2
          subst e1
          cases k with
          | zero => cases h1
          | succ k =>
            have h1' : (if locB (G.sc.names.lookup x) && plainB x then (ixOf x G.N).map Tg.v else none) = some (.v i) := h1
            split at h1'
            · rename_i hq
              rw [Bool.and_eq_true] at hq
              obtain ⟨i', hi, e2⟩ := Option.map_eq_some_iff.mp h1'
              cases e2
              have hl : (G.sc.names.lookup x = some .local) ∨ (G.sc.names.lookup x = some .cell) := by
                have h1 := hq.1
                unfold locB at h1
                split at h1
                · rename_i e; exact .inl e
                · rename_i e; exact .inr e
                · cases h1
              rcases hl with e | e
              · exact ds_aug g.nd (by rw [g.N]; exact ixOf_get hi) (.inl (g.loc x e)) (ihe X G E g _ ce h3).1 (.inr (g.loc x e))
              · exact ds_aug g.nd (by rw [g.N]; exact ixOf_get hi) (.inr (g.cel x e).1) (ihe X G E g _ ce h3).1 (.inl (g.cel x e).2)
            · cases h1'
        · cases h'
      | _ => cases h
    | Assign ts e q =>
      match ts, h with
      | [.Subscript o i q2], h =>
        have h' : (if notSlice i then match cE k G o, cE k G i, cE k G e with
          | some co, some ci, some ce => some (CS.seti co ci ce)
          | _, _, _ => none
          else none) = some c := h
        split at h'
        · rename_i hs
          split at h'
          · rename_i c1 c2 c3 h1 h2 h3
            cases h'
            exact ds_seti g.units (ihe X G E g e c3 h3).1 (ihe X G E g o c1 h1).1 (ihe X G E g i c2 h2).1 (asg_sub hs) (show swapsWith e (some (.Subscript o i q2)) q.line X.env = pure false from swaps_oth (fun x q z => by cases z)) stores_sub (by rfl)
          · cases h'
        · cases h'
      | [.Name x q2], h =>
        have h' : (match cG k G (.Name x q2), cE k G e with
          | some t, some ce => some (CS.asg t ce)
          | _, _ => none) = some c := h
        split at h'
        · rename_i t ce h1 h2
          cases h'
          cases k with
          | zero => cases h1
          | succ k => exact name_set g h1 h2
        · cases h'
      | [.Tuple es j q2], h =>
        have h' : (if notTuple e then match cG k G (.Tuple es j q2), cE k G e with
          | some t, some ce => some (CS.asg t ce)
          | _, _ => none
          else none) = some c := h
        split at h'
        · rename_i hs
          split at h'
          · rename_i t ce h1 h2
            cases h'
            exact ds_asg (ihe X G E g e ce h2).1 (cG_ok k X G E g _ t h1) (show swapsWith e (some (.Tuple es j q2)) q.line X.env = pure false from swaps_oth (fun x q z => by cases z)) (stores_tup hs) (by rfl)
          · cases h'
        · cases h'
      | [], h => cases h
      | e1 :: _ :: _, h => cases e1 <;> cases h
      | [.BoolOp _ _ _], h => cases h
      | [.NamedExpr _ _ _], h => cases h
      | [.BinOp _ _ _ _], h => cases h
      | [.UnaryOp _ _ _], h => cases h
      | [.Lambda _ _ _ _], h => cases h
      | [.IfExp _ _ _ _], h => cases h
      | [.Dict _ _ _], h => cases h
      | [.Set _ _ _], h => cases h
      | [.ListComp _ _ _ _], h => cases h
      | [.SetComp _ _ _ _], h => cases h
      | [.DictComp _ _ _ _ _], h => cases h
      | [.GeneratorExp _ _ _ _], h => cases h
      | [.Await _ _], h => cases h
      | [.Yield _ _], h => cases h
      | [.YieldFrom _ _], h => cases h
      | [.Compare _ _ _ _], h => cases h
      | [.Call _ _ _ _], h => cases h
      | [.FormattedValue _ _ _ _], h => cases h
      | [.JoinedStr _ _], h => cases h
      | [.Constant _ _ _], h => cases h
      | [.Attribute _ _ _], h => cases h
      | [.Starred _ _], h => cases h
      | [.List _ _], h => cases h
      | [.Slice _ _ _ _], h => cases h
    | _ => cases h
end
end M3
end

section
set_option autoImplicit false
set_option linter.all false
set_option maxRecDepth 100000
set_option maxHeartbeats 2000000
/-! M3: defs and programs. -/
namespace M3
open PySem PySem.Spec PyProof.Rows L2
/-! ### labels named anew -/
section
variable {K : PySem.W.Frag} {H : Hp} {φ : Nat → Addr} {n n' : Nat} {ρ : Nat → Nat}
mutual
theorem Rep.ren : ∀ (d : D) (v : V), refsIn n' d = true → Rep K H φ n (M3.ren ρ d) v → Rep K H (fun l => φ (ρ l)) n' d v
  | .non, _, _, h => h
  | .bl _, _, _, h => h
  | .int _, _, _, h => h
  | .str _, _, _, h => h
  | .ref l, v, hr, h => ⟨by simpa [refsIn] using hr, h.2⟩
  | .tup ds, v, hr, h => by
    obtain ⟨a, vs, e, q, r⟩ := h
    exact ⟨a, vs, e, q, Reps.ren ds vs hr r⟩
  | .kl ds, v, hr, h => by
    obtain ⟨a, vs, e, q, r⟩ := h
    exact ⟨a, vs, e, q, Reps.ren ds vs hr r⟩
theorem Reps.ren : ∀ (ds : List D) (vs : List V), refsIns n' ds = true → Reps K H φ n (M3.rens ρ ds) vs → Reps K H (fun l => φ (ρ l)) n' ds vs
  | [], _, _, h => h
  | d :: ds, vs, hr, h => by
    obtain ⟨v, r, e, q, t⟩ := h
    have hr' : refsIn n' d = true ∧ refsIns n' ds = true := by simpa [refsIns] using hr
    exact ⟨v, r, e, Rep.ren d v hr'.1 q, Reps.ren ds r hr'.2 t⟩
end
mutual
theorem toKey_ren : ∀ d : D, toKey (M3.ren ρ d) = toKey d
  | .non => rfl
  | .bl _ => rfl
  | .int _ => rfl
  | .str _ => rfl
  | .ref _ => rfl
  | .kl _ => rfl
  | .tup ds => by show (toKeys (M3.rens ρ ds)).map _ = (toKeys ds).map _; rw [toKeys_ren ds]
theorem toKeys_ren : ∀ ds : List D, toKeys (M3.rens ρ ds) = toKeys ds
  | [] => rfl
  | d :: ds => by
    show (match toKey (M3.ren ρ d), toKeys (M3.rens ρ ds) with | some k, some ks => some (k :: ks) | _, _ => none) = (match toKey d, toKeys ds with | some k, some ks => some (k :: ks) | _, _ => none)
    rw [toKey_ren d, toKeys_ren ds]
end
theorem flatKey_ren (d : D) : flatKey (M3.ren ρ d) = flatKey d := by cases d <;> rfl
theorem isTup_ren (d : D) : isTupK (M3.ren ρ d) = isTupK d := by cases d <;> rfl
theorem paired_map {α β γ : Type} {F : β → γ → Prop} {G : α → γ → Prop} {f : α → β} : ∀ {l : List α} {m : List γ}, PySem.Paired F (l.map f) m → (∀ a ∈ l, ∀ c, F (f a) c → G a c) → PySem.Paired G l m
  | [], _, h, _ => by cases h; exact .nil
  | a :: l, _, h, g => by
    cases h with
    | cons h1 h2 => exact .cons (g a List.mem_cons_self _ h1) (paired_map h2 fun b hb => g b (List.mem_cons_of_mem _ hb))
end
/-! ### what is held is one of the store's -/
section
variable {K : PySem.W.Frag} {P : Program} {w : World} {H : Hp} {φ : Nat → Addr} {n : Nat}
mutual
theorem rep_refs : ∀ (d : D) (v : V), Rep K H φ n d v → refsIn n d = true
  | .non, _, _ => rfl
  | .bl _, _, _ => rfl
  | .int _, _, _ => rfl
  | .str _, _, _ => rfl
  | .ref l, _, h => by simpa [refsIn] using h.1
  | .tup ds, v, h => by
    obtain ⟨a, vs, e, q, r⟩ := h
    exact reps_refs ds vs r
  | .kl ds, v, h => by
    obtain ⟨a, vs, e, q, r⟩ := h
    exact reps_refs ds vs r
theorem reps_refs : ∀ (ds : List D) (vs : List V), Reps K H φ n ds vs → refsIns n ds = true
  | [], _, _ => rfl
  | d :: ds, vs, h => by
    obtain ⟨v, r, e, q, t⟩ := h
    show (refsIn n d && refsIns n ds) = true
    rw [rep_refs d v q, reps_refs ds r t]; rfl
end
theorem flat_refs {d : D} {k : Key} (h : flatKey d = some k) : refsIn n d = true := by cases d <;> first | rfl | cases h
theorem dct_refs {a : Addr} {kvs : List (D × D)} {o : HO} (h : DctAt K P w H φ n a kvs o) : ∀ p ∈ kvs, refsIn n p.1 = true ∧ refsIn n p.2 = true := by
  rcases h with ⟨ks, e, h⟩ | ⟨ne, xs, e, h⟩
  · intro p hp
    obtain ⟨j, hj⟩ := List.mem_iff_getElem?.mp hp
    obtain ⟨q, _, q1, q2⟩ := LiI.paired_get h hj
    exact ⟨flat_refs q1, rep_refs _ _ q2⟩
  · intro p hp
    obtain ⟨j, hj⟩ := List.mem_iff_getElem?.mp hp
    obtain ⟨q, _, q1, q2, q3, q4, q5⟩ := LiI.paired_get h hj
    exact ⟨rep_refs _ _ q4, rep_refs _ _ q5⟩
theorem Sim.sok {W : Wd} (s : Sim K P w W) : W.S.Ok := by
  intro l c h
  obtain ⟨h1, h2⟩ := s.cells l c h
  refine ⟨h1, ?_⟩
  cases c with
  | lst xs => obtain ⟨vs, _, r⟩ := h2; exact reps_refs _ _ r
  | cst xs => obtain ⟨vs, _, r⟩ := h2; exact reps_refs _ _ r
  | dct kvs =>
    obtain ⟨o, _, d⟩ := h2
    show (kvs.all fun p => refsIn W.S.nx p.1 && refsIn W.S.nx p.2) = true
    rw [List.all_eq_true]
    intro p hp
    have := dct_refs d p hp
    rw [this.1, this.2]; rfl
  | cdt kvs =>
    obtain ⟨od, o, _, d⟩ := h2
    show (kvs.all fun p => refsIn W.S.nx p.1 && refsIn W.S.nx p.2) = true
    rw [List.all_eq_true]
    intro p hp
    have := dct_refs d p hp
    rw [this.1, this.2]; rfl
  | _ => exact h2.elim
theorem DctAt.ren {ρ : Nat → Nat} {n' : Nat} {a : Addr} {kvs : List (D × D)} {o : HO} (hr : ∀ p ∈ kvs, refsIn n' p.1 = true ∧ refsIn n' p.2 = true) (h : DctAt K P w H φ n a (renKV ρ kvs) o) : DctAt K P w H (fun l => φ (ρ l)) n' a kvs o := by
  rcases h with ⟨ks, e, h⟩ | ⟨ne, xs, e, h⟩
  · refine .inl ⟨ks, e, paired_map h fun p hp c q => ⟨by rw [← flatKey_ren (ρ := ρ) p.1]; exact q.1, Rep.ren _ _ (hr p hp).2 q.2⟩⟩
  · refine .inr ⟨fun z => ne (by rw [z]; rfl), xs, e, paired_map h fun p hp c q => ?_⟩
    obtain ⟨q1, q2, q3, q4, q5⟩ := q
    exact ⟨by rw [← toKey_ren (ρ := ρ) p.1]; exact q1, q2, by rw [← isTup_ren (ρ := ρ) p.1]; exact q3, Rep.ren _ _ (hr p hp).1 q4, Rep.ren _ _ (hr p hp).2 q5⟩
/-- behind a call the store is seen anew -/
theorem view_go {W W1 : Wd} {S' : Store} {d d' : D} (s1 : Sim K P w W1) (x1 : Ext K W W1) (v : View W.S.nx W1.S S' d d') : ∃ W' : Wd, W'.S = S' ∧ W'.H = W1.H ∧ Sim K P w W' ∧ Ext K W W' ∧ ∀ u, W1.rep K d u → W'.rep K d' u := by
  rcases v with ⟨rfl, rfl⟩ | v
  · exact ⟨W1, rfl, rfl, s1, x1, fun u h => h⟩
  obtain ⟨⟨ρ, h1, h2, h3, h4, h5⟩, hk, hok, hd⟩ := v
  have big : ∀ l, W.S.nx ≤ l → l < S'.nx → W.S.nx ≤ ρ l := fun l hl hlt => by
    by_cases z : W.S.nx ≤ ρ l
    · exact z
    · exfalso
      have z' : ρ l < W.S.nx := Nat.lt_of_not_le z
      have := h3 (ρ l) l (Nat.lt_of_lt_of_le z' hk) hlt (h1 _ z')
      omega
  refine ⟨⟨S', W1.H, fun l => W1.φ (ρ l)⟩, rfl, rfl, ⟨fun l hl => s1.liv _ (h2 l hl), fun i j hi hj e => h3 i j hi hj (s1.inj _ _ (h2 i hi) (h2 j hj) e), fun l c hc => ?_⟩, ⟨hk, fun l hl => ?_, x1.tups, x1.frame, fun l hl hlt => ?_, x1.live⟩, fun u hu => ?_⟩
  · obtain ⟨q1, q2⟩ := hok l c hc
    refine ⟨q1, ?_⟩
    obtain ⟨_, q3⟩ := s1.cells _ _ (h4 l c hc)
    cases c with
    | lst xs => obtain ⟨vs, e, r⟩ := q3; exact ⟨vs, e, Reps.ren (φ := W1.φ) (ρ := ρ) (n := W1.S.nx) _ _ q2 r⟩
    | cst xs => obtain ⟨vs, e, r⟩ := q3; exact ⟨vs, e, Reps.ren (φ := W1.φ) (ρ := ρ) (n := W1.S.nx) _ _ q2 r⟩
    | dct kvs =>
      obtain ⟨o, e, r⟩ := q3
      have q2' : (kvs.all fun p => refsIn S'.nx p.1 && refsIn S'.nx p.2) = true := q2
      exact ⟨o, e, DctAt.ren (φ := W1.φ) (ρ := ρ) (n := W1.S.nx) (fun p hp => by simpa using (List.all_eq_true.mp q2') p hp) r⟩
    | cdt kvs =>
      obtain ⟨od, o, e, r⟩ := q3
      have q2' : (kvs.all fun p => refsIn S'.nx p.1 && refsIn S'.nx p.2) = true := q2
      exact ⟨od, o, e, DctAt.ren (φ := W1.φ) (ρ := ρ) (n := W1.S.nx) (fun p hp => by simpa using (List.all_eq_true.mp q2') p hp) r⟩
    | set _ => exact q3.elim
    | ins _ _ => exact q3.elim
    | exn _ => exact q3.elim
  · show W1.φ (ρ l) = W.φ l
    rw [h1 l hl]; exact x1.agree l hl
  · exact x1.fresh _ (big l hl hlt) (h2 l hlt)
  · rw [h5] at hu
    exact Rep.ren (φ := W1.φ) (ρ := ρ) (n := W1.S.nx) _ _ hd hu
theorem start_rep {W : Wd} {ds : List D} {vs : List V} {N : List Str} (r : W.reps K ds vs) (hn : vs.length ≤ N.length) : EnvRep K W (startD N.length ds) (L2.start N vs) := by
  have hl := r.length
  refine ⟨by unfold startD L2.start; simp only [List.length_append, List.length_map, List.length_replicate]; omega, fun i d h => ?_⟩
  unfold startD at h
  by_cases hi : i < ds.length
  · rw [List.getElem?_append_left (by simpa using hi), List.getElem?_map] at h
    obtain ⟨d', hd, e⟩ := Option.map_eq_some_iff.mp h
    cases e
    obtain ⟨v, q1, q2⟩ := r.get hd
    refine ⟨v, ?_, q2⟩
    unfold L2.start
    rw [List.getElem?_append_left (by rw [List.length_map]; omega), List.getElem?_map, q1]; rfl
  · rw [List.getElem?_append_right (by simpa using hi), List.getElem?_replicate] at h
    split at h <;> cases h
end
/-! ### a def -/
section
variable {P : Program} {w : World} {K : PySem.W.Frag} {mg : Str → Option Value} {base : Heap} {prg : Prg} {xc : XC} {gl : List (Str × Gb)}
/-- what the module tells, calls left out -/
structure ModG (K : PySem.W.Frag) (mg : Str → Option Value) (gl : List (Str × Gb)) : Prop where
  lit : ∀ x d, gl.lookup x = some (.lit d) → ∃ u v, mg x = some u ∧ RelV v u ∧ ∀ H φ m, Rep K H φ m d v
  cl : ∀ x xs, gl.lookup x = some (.cl xs) → ∃ a vs, mg x = some (.ref a) ∧ (∀ H, SqL K H a vs) ∧ ∀ H φ m, Reps K H φ m xs vs
  bi : ∀ x, gl.lookup x = some .bi → mg x = none
def CallsAt (P : Program) (w : World) (K : PySem.W.Frag) (mg : Str → Option Value) (base : Heap) (prg : Prg) (xc : XC) (gl : List (Str × Gb)) (n : Nat) : Prop :=
  ∀ x f, gl.lookup x = some (.fn f) → ∃ a fd ps, mg x = some (.ref a) ∧ PySem.W.keepIn K (.ref a) = true ∧ Binds K fd ps [] ∧ FnOk P w K mg base (CX P w) n a fd ps (spD prg xc K P w n f)
theorem def_ok {x qual : Str} {st : Stmt} {a : Addr} {fd : FuncData} {N ps : List Str} {f k n : Nat} {body : List CS} (F : Fun K x qual st a fd) (S : FnScope N ps (defScope st)) (hf : prg.fns[f]? = some ⟨ps.length, N.length, body⟩)
    (hc : mapO (cS k ⟨N, defScope st, gl⟩) (defBody st) = some body) (M : ModG K mg gl) (C : CallsAt P w K mg base prg xc gl n) : FnOk P w K mg base (CX P w) (n + 1) a fd ps (spD prg xc K P w (n + 1) f) := by
  refine F.okX S (fun vs H Q E h => ?_) (fun cdv A outer s H vs Q E hr h => ?_)
  · obtain ⟨W, ds, Qd, Ed, _, _, r, ⟨F', hF, ha⟩, _⟩ := h
    rw [hf] at hF
    cases hF
    rw [r.length]; exact ha.symm
  · obtain ⟨W, ds, Qd, Ed, rfl, sm, r, _, hcall, kQ, kE⟩ := h
    have hcall' : ds.length = ps.length ∧ wpSs (callD prg n) (fun x _ S1 => ∃ S', View W.S.nx S1 S' .non .non ∧ Ed x S') body (startD N.length ds) W.S
          { nx := fun _ S1 => ∃ S' d', View W.S.nx S1 S' .non d' ∧ Qd d' S', rt := fun d S1 => ∃ S' d', View W.S.nx S1 S' d d' ∧ Qd d' S', bk := fun _ _ => False, ct := fun _ _ => False } := by
      have h' : (match prg.fns[f]? with
        | none => False
        | some F => F.ar = ds.length ∧ (W.S.Ok → refsIns W.S.nx ds = true →
          wpSs (callD prg n) (fun x _ S1 => ∃ S', View W.S.nx S1 S' .non .non ∧ Ed x S') F.body (startD F.nl ds) W.S
            { nx := fun _ S1 => ∃ S' d', View W.S.nx S1 S' .non d' ∧ Qd d' S', rt := fun d S1 => ∃ S' d', View W.S.nx S1 S' d d' ∧ Qd d' S', bk := fun _ _ => False, ct := fun _ _ => False })) := hcall
      rw [hf] at h'
      exact ⟨h'.1.symm, h'.2 sm.sok (reps_refs _ _ r)⟩
    obtain ⟨hlen, hw⟩ := hcall'
    have hpl : ps.length ≤ N.length := by have := congrArg List.length S.pre; rw [List.length_take] at this; omega
    have hvl : vs.length ≤ N.length := by rw [r.length]; omega
    have g : Good (cxOf (CX P w) P w K mg base N qual (defScope st) a cdv A outer s W.H E) ⟨N, defScope st, gl⟩ prg xc n W (fun x _ S1 => ∃ S', View W.S.nx S1 S' .non .non ∧ Ed x S') := by
      refine ⟨rfl, S.nd, S.kind, fun y h => ?_, fun y h => h, fun y h => ⟨h, rfl⟩, fun y h => .inr h, fun y h => h, by have := hr.un; show (A.deeper _).units + 65 < _; omega, rfl, hr, ?_, M.lit, M.cl, M.bi, C⟩
      · have h' : visB ((defScope st).names.lookup y) = true := h
        show Vis (defScope st) y
        unfold Vis
        cases hy : (defScope st).names.lookup y with
        | none => rw [hy] at h'; cases h'
        | some kk => rw [hy] at h'; cases kk <;> first | (cases h'; done) | simp
      · refine (takes_of (E := E) (E₁ := fun e' s'' => CX P w outer W.H s E e' s'') rfl rfl rfl rfl).imp fun cls d σ H' ⟨W1, σd, x, e1, s1, ev1, x1, ⟨S', v, hx⟩, hxc, hd⟩ => ?_
        obtain ⟨W2, e2, e3, s2, x2, _⟩ := view_go s1 x1 v
        rw [hd, ← e1, ← e3]
        exact kE x W2 cls (by rw [e2]; exact hx) s2 x2 hxc
    have hp : PassesOwn (model P w) (A.deeper (envOfC qual (defScope st) s.heap.objs.size a cdv)) (cxOf (CX P w) P w K mg base N qual (defScope st) a cdv A outer s W.H E).env (cxOf (CX P w) P w K mg base N qual (defScope st) a cdv A outer s W.H E).xe :=
      passes_of (X := cxOf (CX P w) P w K mg base N qual (defScope st) a cdv A outer s W.H E) (K := fun e s'' => CX P w outer W.H s E e s'') (E₁ := fun e' s'' => CX P w outer W.H s E e' s'') rfl
    refine ⟨tSsd _ prg n W _ body, dss_of (cS_ok k) g hp hc, W, startD N.length ds, _, rfl, sm, start_rep r hvl, Ext.refl, hw, ⟨fun σd W1 σ ⟨S', d', v, hq⟩ s1 x1 ev1 => ?_, fun d W1 u ⟨S', d', v, hq⟩ s1 x1 r1 => ?_, fun _ _ _ h _ _ _ => h.elim, fun _ _ _ h _ _ _ => h.elim⟩⟩
    · obtain ⟨W2, e2, e3, s2, x2, r2⟩ := view_go s1 x1 v
      rw [← e3]
      exact kQ d' W2 .non (by rw [e2]; exact hq) s2 x2 (r2 .non rfl)
    · obtain ⟨W2, e2, e3, s2, x2, r2⟩ := view_go s1 x1 v
      rw [← e3]
      exact kQ d' W2 u (by rw [e2]; exact hq) s2 x2 (r2 u r1)
/-! ### a program -/
structure Info where
  x : Str
  st : Stmt
  N : List Str
  ps : List Str
/-- a look at the names of a def's scope -/
def scL (N P : List Str) (sc : Scope) : Bool :=
  decide (sc.kind = .function) && !sc.isCoroutine && !sc.isGenerator && decide N.Nodup && decide (N.take P.length = P) && P.all (fun x => locB (sc.names.lookup x)) && sc.names.all (fun y => !decide (y.2 = .free))
theorem scL_by {N P : List Str} {sc : Scope} (h : scL N P sc = true) : FnScope N P sc := by
  unfold scL at h
  simp only [Bool.and_eq_true, Bool.not_eq_true', decide_eq_true_eq, List.all_eq_true, decide_eq_false_iff_not] at h
  obtain ⟨⟨⟨⟨⟨⟨h1, h2⟩, h3⟩, h4⟩, h5⟩, h6⟩, h7⟩ := h
  refine ⟨h1, h2, h3, h4, h5, fun x hx => ?_, h7⟩
  have q := h6 x hx
  unfold locB at q
  split at q
  · rename_i e; exact .inl e
  · rename_i e; exact .inr e
  · cases q
/-- the whole of it read: a def's scope, its body -/
def infoC (k : Nat) (gl : List (Str × Gb)) (i : Info) : Option Fn := if scL i.N i.ps (defScope i.st) then (mapO (cS k ⟨i.N, defScope i.st, gl⟩) (defBody i.st)).map fun b => ⟨i.ps.length, i.N.length, b⟩ else none
/-- where a def stands -/
structure Here (K : PySem.W.Frag) (mg : Str → Option Value) (i : Info) : Prop where
  ex : ∃ a fd qual, mg i.x = some (.ref a) ∧ Fun K i.x qual i.st a fd ∧ Binds K fd i.ps []
def glOk (gl : List (Str × Gb)) (infos : List Info) : Prop := ∀ x f, gl.lookup x = some (.fn f) → ∃ i, infos[f]? = some i ∧ i.x = x
theorem mapO_get {α β : Type} {f : α → Option β} : ∀ {l : List α} {bs : List β} {i : Nat} {a : α}, mapO f l = some bs → l[i]? = some a → ∃ b, f a = some b ∧ bs[i]? = some b
  | [], _, _, _, _, h => by simp at h
  | a :: l, bs, i, x, h, hi => by
    obtain ⟨b, bs', h1, h2, rfl⟩ := mapO_inv h
    cases i with
    | zero => simp at hi; subst hi; exact ⟨b, h1, rfl⟩
    | succ i => simpa using mapO_get h2 (by simpa using hi)
theorem calls_at {k : Nat} {infos : List Info} (hg : glOk gl infos) (hc : mapO (infoC k gl) infos = some prg.fns) (M : ModG K mg gl) (hh : ∀ i ∈ infos, Here K mg i) : ∀ n, CallsAt P w K mg base prg xc gl n
  | 0 => fun x f hx => by
    obtain ⟨i, hi, rfl⟩ := hg x f hx
    obtain ⟨a, fd, qual, hm, F, b⟩ := (hh i (List.mem_of_getElem? hi)).ex
    refine ⟨a, fd, i.ps, hm, F.kp, b, ⟨fun vs H Q E h => ?_, fun A outer s H args us vs Q E _ _ _ _ h => ?_⟩⟩
    · obtain ⟨_, _, _, _, _, _, _, _, z, _⟩ := h; exact (show False from z).elim
    · obtain ⟨_, _, _, _, _, _, _, _, z, _⟩ := h; exact (show False from z).elim
  | n + 1 => fun x f hx => by
    obtain ⟨i, hi, rfl⟩ := hg x f hx
    obtain ⟨a, fd, qual, hm, F, b⟩ := (hh i (List.mem_of_getElem? hi)).ex
    obtain ⟨fn', h1, h2⟩ := mapO_get hc hi
    unfold infoC at h1
    split at h1
    · rename_i hs
      obtain ⟨body, hb, rfl⟩ := Option.map_eq_some_iff.mp h1
      exact ⟨a, fd, i.ps, hm, F.kp, b, def_ok F (scL_by hs) h2 hb M (calls_at hg hc M hh n)⟩
    · cases h1
end
end M3
end

section
set_option autoImplicit false
set_option linter.all false
set_option maxRecDepth 100000
set_option maxHeartbeats 2000000
/-! M3: a law. -/
namespace M3
open PySem PySem.Spec PyProof.Rows L2
/-- the store at the start -/
def S0 : Store := ⟨0, fun _ => none⟩
/-- what is to be shown of a law's core -/
def LawD (prg : Prg) (f n : Nat) : Prop := ∀ ns : List Int, ns.length ≤ 63 → (∀ z ∈ ns, Builtin.Int.intBits z ≤ 1048576) → callD prg n f [.kl (ns.map .int)] S0 (fun d _ => d = .bl true) fun _ _ => False
section
variable {P : Program} {w : World} {K : PySem.W.Frag} {prg : Prg} {xc : XC} {f n : Nat}
theorem ints_reps {H : Hp} {φ : Nat → Addr} {m : Nat} : ∀ ns : List Int, Reps K H φ m (ns.map .int) (ns.map V.int)
  | [] => rfl
  | i :: ns => ⟨.int i, ns.map V.int, rfl, rfl, ints_reps ns⟩
theorem law_sp (L : LawD prg f n) {H : Hp} {a : Addr} {ns : List Int} (hl : ns.length ≤ 63) (hb : ∀ z ∈ ns, Builtin.Int.intBits z ≤ 1048576) (hO : Only H) (hS : SqL K H a (ns.map V.int)) : spD prg xc K P w n f [.ref a] H (fun v _ => v = .bl true) fun _ _ _ => False := by
  have hk : SqK K H a (ns.map V.int) := by
    rcases hS with (h | h) | h
    · rcases hO a with e | ⟨o, xs, e⟩ <;> rw [e] at h <;> cases h
    · exact .inl h
    · exact .inr fun H' => .inr h
  have hc := L ns hl hb
  obtain ⟨F, hF, ha⟩ := callD_ar hc
  refine ⟨⟨S0, H, fun _ => 0⟩, [.kl (ns.map .int)], _, _, rfl, ⟨fun l h => absurd h (Nat.not_lt_zero l), fun i j h => absurd h (Nat.not_lt_zero i), fun l c h => by cases h⟩, ⟨.ref a, [], rfl, ⟨a, ns.map V.int, rfl, hk, ints_reps ns⟩, rfl⟩, ⟨F, hF, ha⟩, hc, fun d W1 v hd _ _ r => ?_, fun x W1 cls h => h.elim⟩
  rw [show d = .bl true from hd] at r
  exact r
end
/-- a def of the module's top, as the fragment has it -/
structure TopDef (K : PySem.W.Frag) (i : Info) : Prop where
  ex : ∃ (f : Addr) (oc : Value) (od : Option Addr) (kV doc pm : Value) (an : Option Addr) (cdv ct : Value) (osl : Array (Option Value)), PySem.W.nsIn K mainGlobals i.x = some (some (.ref f)) ∧
    K.lookup f = some ⟨oc, od, .func (PySem.W.fnOf i.x i.x (defArgs i.st) (defBody i.st) (defScope i.st) .none kV doc pm an cdv ct), osl⟩ ∧ PySem.W.codeIn K cdv i.x = true ∧ PySem.W.keepIn K (.ref f) = true
theorem top_mk {K : PySem.W.Frag} {x : Str} {st : Stmt} {N ps : List Str} {f : Addr} {oc : Value} {od : Option Addr} {kV doc pm : Value} {an : Option Addr} {cdv ct : Value} {osl : Array (Option Value)} (a1 : PySem.W.nsIn K mainGlobals x = some (some (.ref f)))
    (l1 : K.lookup f = some ⟨oc, od, .func (PySem.W.fnOf x x (defArgs st) (defBody st) (defScope st) .none kV doc pm an cdv ct), osl⟩) (c1 : PySem.W.codeIn K cdv x = true) (k1 : PySem.W.keepIn K (.ref f) = true) : TopDef K ⟨x, st, N, ps⟩ := ⟨f, oc, od, kV, doc, pm, an, cdv, ct, osl, a1, l1, c1, k1⟩
/-- how a def's arguments bind, by its text -/
def BindT (i : Info) : Prop := ∀ (kV doc pm : Value) (an : Option Addr) (cdv ct : Value) (us : List Value), us.length = i.ps.length → bindArgs (PySem.W.fnOf i.x i.x (defArgs i.st) (defBody i.st) (defScope i.st) .none kV doc pm an cdv ct) ⟨us, []⟩ = pure (i.ps.zip us)
theorem here_of {K : PySem.W.Frag} {mg : Str → Option Value} {h : Heap} (X : K.In h) (G : h.Ns mainGlobals mg) {i : Info} (t : TopDef K i) (b : BindT i) : Here K mg i := by
  obtain ⟨f, oc, od, kV, doc, pm, an, cdv, ct, osl, a1, l1, c1, k1⟩ := t.ex
  have F := fun_mk (x := i.x) (qual := i.x) (st := i.st) l1 c1 k1
  exact ⟨f, _, i.x, PySem.W.mg_of X G a1, F, F.binds b⟩
/-- the goal that the head leaves -/
theorem walk_law {l : PySem.W.OpenLaw} {q : Program} {loose : List Str} {XP : (Str → Option Value) → Heap → Prop} {YP : World → Heap → Prop} {d : DefRec} {K : Params → PySem.W.Frag} {prg : Prg} {k f n : Nat} {infos : List Info} {gl : List (Str × Gb)} {iL : Info} {x : Str} (L : LawD prg f (n + 1))
    (hn : l.most = some 63) (hdf : d.params.defaults = []) (hr : Room (n + 1) callerA) (hY : ∀ (w : World) (h : Heap), YP w h → (K w.params).In h) (hg : glOk gl infos) (hc : mapO (infoC k gl) infos = some prg.fns) (hL : infos[f]? = some iL) (hLx : iL.x = d.name) (hLp : iL.ps = [x])
    (hb : ∀ i ∈ infos, BindT i) (ht : ∀ (w : World), ∀ i ∈ infos, TopDef (K w.params) i) (hM : ∀ (w : World) (mg : Str → Option Value) (h : Heap), (K w.params).In h → h.Ns mainGlobals mg → ModG (K w.params) mg gl) :
    PySem.W.WalkO q loose XP YP l.row.toRowW d [] (fun f vs => PySem.call f vs) := by
  refine L2.walk_ofB (n := 63) (k := n + 1) (x := x) (CX := fun w => L2.CX l.prog w) (sp := fun w => spD prg (fun _ _ => False) (K w.params) l.prog w (n + 1) f) hn (by decide) hdf hr hY (fun w mg fa h X G hfa => ?_) (fun w H a ns hl hbt hO hS => law_sp L hl hbt hO hS) (fun w H s e s' z => ?_)
  · have M := hM w mg h X G
    have hh : ∀ i ∈ infos, Here (K w.params) mg i := fun i hi => here_of X G (ht w i hi) (hb i hi)
    have hi := List.mem_of_getElem? hL
    obtain ⟨a, fd, qual, hm, F, b⟩ := (hh iL hi).ex
    rw [hLx, hfa] at hm
    cases hm
    obtain ⟨f1, oc, od, kV, doc, pm, an, cdv, ct, osl, a1, l1, c1, k1⟩ := (ht w iL hi).ex
    have e := PySem.W.mg_of X G a1
    rw [hLx, hfa] at e
    cases e
    have F1 := fun_mk (x := iL.x) (qual := iL.x) (st := iL.st) l1 c1 k1
    obtain ⟨fn', h1, h2⟩ := mapO_get hc hL
    unfold infoC at h1
    split at h1
    · rename_i hs
      obtain ⟨body, hbd, rfl⟩ := Option.map_eq_some_iff.mp h1
      refine ⟨PySem.W.fnOf iL.x iL.x (defArgs iL.st) (defBody iL.st) (defScope iL.st) .none kV doc pm an cdv ct, fun s u => .of_eq ?_, fun base hB hG => ?_⟩
      rotate_left
      · have r := def_ok (P := l.prog) (w := w) (base := base) (xc := fun _ _ => False) F1 (scL_by hs) h2 hbd M (calls_at hg hc M hh n)
        rw [hLp] at r
        exact r
      · have := hb iL hi kV doc pm an cdv ct [u] (by rw [hLp]; rfl)
        rw [hLp] at this
        exact this
    · cases h1
  · obtain ⟨_, _, _, _, _, _, _, _, _, _, _, _, z⟩ := z
    exact z
end M3
end

section
set_option autoImplicit false
set_option linter.all false
set_option maxRecDepth 100000
/-! M3: tools for laws. -/
namespace M3
open PySem
theorem str_inj (a b : String) : (Str.ofString a = Str.ofString b) = (a = b) := by
  apply propext
  constructor
  · intro h
    rw [Str.ofString_eq_toList, Str.ofString_eq_toList] at h
    injection h with h
    have h2 : a.toList.map Char.toNat = b.toList.map Char.toNat := by simpa using congrArg Array.toList h
    have h3 : a.toList = b.toList := by
      have inj : ∀ (x y : Char), x.toNat = y.toNat → x = y := fun x y h => Char.ext (UInt32.toNat_inj.mp h)
      exact (List.map_inj_right (fun x y h => inj x y h)).mp h2
    exact String.ext (by simpa using h3)
  · rintro rfl; rfl
theorem call_same {P : Prg} {n f : Nat} {F : Fn} {ds : List D} {S : Store} {Q : D → Store → Prop} {E : Nat → Store → Prop} (hf : P.fns[f]? = some F) (ha : F.ar = ds.length)
    (h : wpSs (callD P n) (fun x _ S1 => E x S1) F.body (startD F.nl ds) S ⟨fun _ S1 => Q .non S1, fun d S1 => Q d S1, fun _ _ => False, fun _ _ => False⟩) : callD P (n + 1) f ds S Q E := by
  show (match P.fns[f]? with
      | none => False
      | some F => F.ar = ds.length ∧ (S.Ok → refsIns S.nx ds = true →
        wpSs (callD P n) (fun x _ S1 => ∃ S', View S.nx S1 S' .non .non ∧ E x S') F.body (startD F.nl ds) S
          { nx := fun _ S1 => ∃ S' d', View S.nx S1 S' .non d' ∧ Q d' S', rt := fun d S1 => ∃ S' d', View S.nx S1 S' d d' ∧ Q d' S', bk := fun _ _ => False, ct := fun _ _ => False }))
  rw [hf]
  exact ⟨ha, fun _ _ => wpSs_mono (callD_mono P n) (fun x _ S1 h => ⟨S1, .inl ⟨rfl, rfl⟩, h⟩) _ _ _ ⟨fun _ S1 => Q .non S1, fun d S1 => Q d S1, fun _ _ => False, fun _ _ => False⟩ _ ⟨fun _ S1 h => ⟨S1, _, .inl ⟨rfl, rfl⟩, h⟩, fun d S1 h => ⟨S1, _, .inl ⟨rfl, rfl⟩, h⟩, fun _ _ h => h, fun _ _ h => h⟩ h⟩
section
variable {P : Prg} {n : Nat} {E : Nat → Env → Store → Prop}
/-- one statement, then the rest, by what is known between -/
theorem seqJ {s : CS} {ss : List CS} {σ : Env} {S : Store} {K : Ends} (J : Env → Store → Prop) (h1 : wpS (callD P n) E s σ S { K with nx := J }) (h2 : ∀ σ' S', J σ' S' → wpSs (callD P n) E ss σ' S' K) : wpSs (callD P n) E (s :: ss) σ S K := by
  simp only [wpSs]
  exact wpS_mono (callD_mono P n) (fun _ _ _ h => h) _ _ _ { K with nx := J } { K with nx := fun σ' S' => wpSs (callD P n) E ss σ' S' K } ⟨h2, fun _ _ h => h, fun _ _ h => h, fun _ _ h => h⟩ h1
theorem wE {c : CE} {σ : Env} {S : Store} {Q : Rz → Store → Prop} (Q' : Rz → Store → Prop) (h : wpE (callD P n) E c σ S Q') (i : ∀ z S', Q' z S' → Q z S') : wpE (callD P n) E c σ S Q := wpE_mono (callD_mono P n) (fun _ _ _ h => h) _ _ _ _ _ i h
/-- it comes to this value, and the store stays -/
def Ev (P : Prg) (n : Nat) (E : Nat → Env → Store → Prop) (c : CE) (σ : Env) (S : Store) (z : Rz) : Prop := ∀ Q, Q z S → wpE (callD P n) E c σ S Q
theorem ev_var {σ : Env} {S : Store} {i : Nat} {d : D} (h : σ[i]? = some (some d)) : Ev P n E (.var i) σ S (.val d) := fun Q q => by simp only [wpE, h]; exact q
theorem ev_lit {σ : Env} {S : Store} {d : D} : Ev P n E (.lit d) σ S (.val d) := fun Q q => by simp only [wpE]; exact q
theorem ev_dget {σ : Env} {S : Store} {a b : CE} {l : Nat} {kvs : List (D × D)} {k d : D} (ha : Ev P n E a σ S (.val (.ref l))) (hb : Ev P n E b σ S (.val k)) (hc : S.cell l = some (.dct kvs)) (hf : keyFit kvs k = true) (hg : dget k kvs = some d) : Ev P n E (.idx a b) σ S (.val d) := fun Q q => by
  simp only [wpE]
  refine ha _ (hb _ ?_)
  show (match S.cell l with
    | some (.dct kvs) => keyFit kvs k = true ∧ ∃ v, dget k kvs = some v ∧ Q (.val v) S
    | some (.cdt kvs) => keyFit kvs k = true ∧ ∃ v, dget k kvs = some v ∧ Q (.val v) S
    | some (.lst xs) => ∃ i j d, k = .int i ∧ place xs.length i = some j ∧ xs[j]? = some d ∧ Q (.val d) S
    | some (.cst xs) => ∃ i j d, k = .int i ∧ place xs.length i = some j ∧ xs[j]? = some d ∧ Q (.val d) S
    | _ => False)
  rw [hc]
  exact ⟨hf, d, hg, q⟩
theorem ev_bin {σ : Env} {S : Store} {a b : CE} {op : BOp} {x y z : Rz} (ha : Ev P n E a σ S x) (hb : Ev P n E b σ S y) (h : ∀ Q, Q z S → binZ op x y S Q) : Ev P n E (.bin op a b) σ S z := fun Q q => by
  simp only [wpE]; exact ha _ (hb _ (h Q q))
theorem ev_cmp {σ : Env} {S : Store} {a b : CE} {op : COp} {x y z : Rz} (ha : Ev P n E a σ S x) (hb : Ev P n E b σ S y) (h : ∀ Q, Q z S → cmpZ op x y S Q) : Ev P n E (.cmp op a b) σ S z := fun Q q => by
  simp only [wpE]; exact ha _ (hb _ (h Q q))
theorem ev_bi1 {σ : Env} {S : Store} {a : CE} {b : Bi} {x z : Rz} (ha : Ev P n E a σ S x) (h : ∀ Q, Q z S → biZ b [x] S Q) : Ev P n E (.bi b [a]) σ S z := fun Q q => by
  simp only [wpE, wpZs]; exact ha _ (h Q q)
theorem ev_bi2 {σ : Env} {S : Store} {a c : CE} {b : Bi} {x y z : Rz} (ha : Ev P n E a σ S x) (hc : Ev P n E c σ S y) (h : ∀ Q, Q z S → biZ b [x, y] S Q) : Ev P n E (.bi b [a, c]) σ S z := fun Q q => by
  simp only [wpE, wpZs]; exact ha _ (hc _ (h Q q))
theorem ev_and {σ : Env} {S : Store} {a b : CE} {p : Bool} {z : Rz} (ha : Ev P n E a σ S (.val (.bl p))) (hb : p = true → Ev P n E b σ S z) (hz : p = false → z = .val (.bl false)) : Ev P n E (.and a b) σ S z := fun Q q => by
  simp only [wpE]
  refine ha _ ?_
  cases p with
  | true => exact hb rfl Q q
  | false => rw [hz rfl] at q; exact q
theorem ev_or {σ : Env} {S : Store} {a b : CE} {p : Bool} {z : Rz} (ha : Ev P n E a σ S (.val (.bl p))) (hb : p = false → Ev P n E b σ S z) (hz : p = true → z = .val (.bl true)) : Ev P n E (.or a b) σ S z := fun Q q => by
  simp only [wpE]
  refine ha _ ?_
  cases p with
  | false => exact hb rfl Q q
  | true => rw [hz rfl] at q; exact q
theorem ev_not {σ : Env} {S : Store} {a : CE} {p : Bool} (ha : Ev P n E a σ S (.val (.bl p))) : Ev P n E (.not a) σ S (.val (.bl (!p))) := fun Q q => by
  simp only [wpE]; exact ha _ q
theorem ev_lget {σ : Env} {S : Store} {a b : CE} {x : Rz} {xs : List D} {i : Int} {j : Nat} {d : D} (ha : Ev P n E a σ S x) (hb : Ev P n E b σ S (.val (.int i))) (hx : x = .lst xs ∨ x = .val (.kl xs) ∨ x = .val (.tup xs) ∨ ∃ l, x = .val (.ref l) ∧ S.cell l = some (.lst xs)) (hp : place xs.length i = some j) (hd : xs[j]? = some d) : Ev P n E (.idx a b) σ S (.val d) := fun Q q => by
  simp only [wpE]
  refine ha _ (hb _ ?_)
  rcases hx with rfl | rfl | rfl | ⟨l, rfl, hc⟩
  · exact ⟨j, d, hp, hd, q⟩
  · exact ⟨j, d, hp, hd, q⟩
  · exact ⟨j, d, hp, hd, q⟩
  · show (match S.cell l with
    | some (.dct kvs) => keyFit kvs (.int i) = true ∧ ∃ v, dget (.int i) kvs = some v ∧ Q (.val v) S
    | some (.cdt kvs) => keyFit kvs (.int i) = true ∧ ∃ v, dget (.int i) kvs = some v ∧ Q (.val v) S
    | some (.lst xs) => ∃ i' j d, D.int i = .int i' ∧ place xs.length i' = some j ∧ xs[j]? = some d ∧ Q (.val d) S
    | some (.cst xs) => ∃ i' j d, D.int i = .int i' ∧ place xs.length i' = some j ∧ xs[j]? = some d ∧ Q (.val d) S
    | _ => False)
    rw [hc]
    exact ⟨i, j, d, rfl, hp, hd, q⟩
theorem place_nat {m : Nat} {i : Int} (h0 : 0 ≤ i) (h1 : i < m) : place m i = some i.toNat := by unfold place; rw [if_pos h0, if_pos h1]
/-! statements -/
theorem s_asg {σ : Env} {S : Store} {i : Nat} {e : CE} {d : D} {ss : List CS} {K : Ends} (he : Ev P n E e σ S (.val d)) (hi : i < σ.length) (h : wpSs (callD P n) E ss (σ.set i (some d)) S K) : wpSs (callD P n) E (.asg (.v i) e :: ss) σ S K := by
  simp only [wpSs, wpS]
  refine he _ ?_
  simp only [cv, tgW, hi, if_true]
  exact h
theorem s_ret {σ : Env} {S : Store} {e : CE} {d : D} {ss : List CS} {K : Ends} (he : Ev P n E e σ S (.val d)) (h : K.rt d S) : wpSs (callD P n) E (.ret e :: ss) σ S K := by
  simp only [wpSs, wpS]
  exact he _ h
theorem s_if {σ : Env} {S : Store} {e : CE} {p : Bool} {a b ss : List CS} {K : Ends} (he : Ev P n E e σ S (.val (.bl p))) (h1 : p = true → wpSs (callD P n) E a σ S { K with nx := fun σ' S' => wpSs (callD P n) E ss σ' S' K }) (h2 : p = false → wpSs (callD P n) E b σ S { K with nx := fun σ' S' => wpSs (callD P n) E ss σ' S' K }) : wpSs (callD P n) E (.ifs e a b :: ss) σ S K := by
  simp only [wpSs, wpS]
  refine he _ ?_
  cases p with
  | true => exact h1 rfl
  | false => exact h2 rfl
theorem s_dset {σ : Env} {S : Store} {o i e : CE} {l : Nat} {kvs : List (D × D)} {k d : D} {ss : List CS} {K : Ends} (he : Ev P n E e σ S (.val d)) (ho : Ev P n E o σ S (.val (.ref l))) (hi : Ev P n E i σ S (.val k)) (hc : S.cell l = some (.dct kvs)) (hf : keyFit kvs k = true) (hl : kvs.length < Lim) (h : wpSs (callD P n) E ss σ (S.put l (.dct (dput k d kvs))) K) : wpSs (callD P n) E (.seti o i e :: ss) σ S K := by
  simp only [wpSs, wpS]
  refine he _ ?_
  show wpE _ E o σ S _
  refine ho _ (hi _ ?_)
  show (match S.cell l with
    | some (.dct kvs) => keyFit kvs k = true ∧ kvs.length < Lim ∧ wpSs (callD P n) E ss σ (S.put l (.dct (dput k d kvs))) K
    | some (.lst xs) => ∃ i j, k = .int i ∧ place xs.length i = some j ∧ wpSs (callD P n) E ss σ (S.put l (.lst (xs.set j d))) K
    | _ => False)
  rw [hc]
  exact ⟨hf, hl, h⟩
theorem s_nil {σ : Env} {S : Store} {K : Ends} (h : K.nx σ S) : wpSs (callD P n) E [] σ S K := by simp only [wpSs]; exact h
end
theorem put_same (S : Store) (l : Nat) (c : Cell) : (S.put l c).cell l = some c := if_pos rfl
theorem put_ne (S : Store) {l m : Nat} (c : Cell) (h : m ≠ l) : (S.put l c).cell m = S.cell m := if_neg h
theorem put_put (S : Store) (l : Nat) (c c' : Cell) : (S.put l c).put l c' = S.put l c' := by
  unfold Store.put
  congr 1
  funext m
  show (if m = l then some c' else if m = l then some c else S.cell m) = _
  split <;> rfl
end M3
end

section
set_option maxRecDepth 100000
set_option maxHeartbeats 0
namespace K17
open PySem M3
def top (i : Nat) : Stmt := PySem.Challenge.pw_lateriver_k17_pairs_counted.main.body.getD i (.Pass ⟨0, 0, 0, 0⟩)
/-- 0 put_to(bag, pair, count) 0:bag 1:pair 2:count 3:total -/
def cput_to : Fn := ⟨3, 4, [.asg (.v 3) (.bin .add (.mth .get2 (.var 0) [(.var 1), (.lit (.int 0))]) (.var 2)),
    .ifs (.cmp .ne (.var 3) (.lit (.int 0))) [.seti (.var 0) (.var 1) (.var 3)] [.expr (.mth .pop2 (.var 0) [(.var 1), (.lit .non)])]]⟩
/-- 1 bag_of(pairs) 0:pairs 1:found 2:pair -/
def cbag_of : Fn := ⟨1, 3, [.asg (.v 1) (.dct []),
    .for (.v 2) (.e (.var 0)) [.expr (.call 0 [(.var 1), (.var 2), (.lit (.int 1))])],
    .ret (.var 1)]⟩
/-- 2 _law_begun(_law_script) 0:_law_script 1:_law_own 2:_law_cell -/
def c_law_begun : Fn := ⟨1, 3, [.asg (.v 1) (.and (.cmp .gt (.bi .len [(.var 0)]) (.lit (.int 0))) (.cmp .eq (.bin .mod (.idx (.var 0) (.lit (.int 0))) (.lit (.int 2))) (.lit (.int 0)))),
    .ret (.dct [(.lit (.str "cells")), (.cmpr (.bi .abs [(.var 2)]) (.v 2) (.e (.var 0)) [] [2]), (.lit (.str "at")), (.lit (.int 0)), (.lit (.str "rest")), (.lit (.int 0)), (.lit (.str "left")), (.lit (.int 0)), (.lit (.str "more")), (.bin .add (.lit (.int 7)) (.bi .len [(.var 0)])), (.lit (.str "own")), (.var 1)])]⟩
/-- 3 _law_take(_law_state, _law_many) 0:_law_state 1:_law_many 2:_law_cells 3:_law_found 4:_law_cell -/
def c_law_take : Fn := ⟨2, 5, [.asg (.v 2) (.idx (.var 0) (.lit (.str "cells"))),
    .ifs (.and (.idx (.var 0) (.lit (.str "own"))) (.or (.cmp .gt (.idx (.var 0) (.lit (.str "left"))) (.lit (.int 0))) (.cmp .lt (.idx (.var 0) (.lit (.str "at"))) (.bi .len [(.var 2)])))) [.ifs (.cmp .eq (.idx (.var 0) (.lit (.str "left"))) (.lit (.int 0))) [.seti (.var 0) (.lit (.str "rest")) (.bin .mod (.bin .fdiv (.idx (.var 2) (.idx (.var 0) (.lit (.str "at")))) (.idx (.lst [(.lit (.int 1)), (.lit (.int 2))]) (.bi .int [(.cmp .eq (.idx (.var 0) (.lit (.str "at"))) (.lit (.int 0)))]))) (.bin .pow (.lit (.int 10)) (.lit (.int 64)))),
    .seti (.var 0) (.lit (.str "at")) (.bin .add (.idx (.var 0) (.lit (.str "at"))) (.lit (.int 1))),
    .seti (.var 0) (.lit (.str "left")) (.lit (.int 40))] [],
    .seti (.var 0) (.lit (.str "left")) (.bi .max2 [(.lit (.int 0)), (.bin .sub (.idx (.var 0) (.lit (.str "left"))) (.lit (.int 1)))]),
    .asg (.v 3) (.bin .mod (.idx (.var 0) (.lit (.str "rest"))) (.var 1)),
    .seti (.var 0) (.lit (.str "rest")) (.bin .fdiv (.idx (.var 0) (.lit (.str "rest"))) (.var 1)),
    .ret (.var 3)] [],
    .asg (.v 4) (.lit (.int 0)),
    .ifs (.cmp .gt (.bi .len [(.var 2)]) (.lit (.int 0))) [.asg (.v 4) (.idx (.var 2) (.bin .mod (.idx (.var 0) (.lit (.str "at"))) (.bi .len [(.var 2)])))] [],
    .seti (.var 0) (.lit (.str "at")) (.bin .add (.idx (.var 0) (.lit (.str "at"))) (.lit (.int 1))),
    .seti (.var 0) (.lit (.str "more")) (.bin .mod (.bin .add (.bin .add (.bin .mul (.idx (.var 0) (.lit (.str "more"))) (.lit (.int 48271))) (.var 4)) (.idx (.var 0) (.lit (.str "at")))) (.lit (.int 2147483647))),
    .ret (.bin .mod (.bin .mod (.bin .add (.bin .mul (.idx (.var 0) (.lit (.str "more"))) (.idx (.var 0) (.lit (.str "more")))) (.bin .mul (.lit (.int 16807)) (.idx (.var 0) (.lit (.str "more"))))) (.lit (.int 2147483629))) (.var 1))]⟩
/-- 4 _law_pair(_law_state) 0:_law_state 1:_law_moment 2:_law_many 3:_law_k -/
def c_law_pair : Fn := ⟨1, 4, [.asg (.v 1) (.idx (.lst [(.lit (.int 0)), (.lit (.int 1)), (.lit (.int 2)), (.lit (.int 3)), (.lit (.int 4)), (.lit (.int 199))]) (.call 3 [(.var 0), (.lit (.int 6))])),
    .asg (.v 2) (.idx (.lst [(.lit (.int 0)), (.lit (.int 1)), (.lit (.int 2)), (.lit (.int 3)), (.lit (.int 1)), (.lit (.int 9))]) (.call 3 [(.var 0), (.lit (.int 6))])),
    .ret (.tup [(.var 1), (.bi .tuple [(.cmpr (.bin .sub (.call 3 [(.var 0), (.lit (.int 5))]) (.lit (.int 2))) (.v 3) (.range [(.var 2)]) [] [3])])])]⟩
/-- 5 _law_alike(_law_found, _law_due) 0:_law_found 1:_law_due 2:_law_k -/
def c_law_alike : Fn := ⟨2, 3, [.ifs (.isi (.var 1) [.dict]) [.ifs (.or (.not (.isi (.var 0) [.dict])) (.cmp .ne (.bi .len [(.var 0)]) (.bi .len [(.var 1)]))) [.ret (.lit (.bl false))] [],
    .ret (.call 5 [(.bii .sorted (.items (.var 0))), (.bii .sorted (.items (.var 1)))])] [],
    .ifs (.isi (.var 1) [.tuple, .list]) [.ifs (.or (.cmp .ne (.isi (.var 0) [.tuple]) (.isi (.var 1) [.tuple])) (.cmp .ne (.isi (.var 0) [.list]) (.isi (.var 1) [.list]))) [.ret (.lit (.bl false))] [],
    .ret (.and (.cmp .eq (.bi .len [(.var 0)]) (.bi .len [(.var 1)])) (.bi .all [(.cmpr (.call 5 [(.idx (.var 0) (.var 2)), (.idx (.var 1) (.var 2))]) (.v 2) (.range [(.bi .len [(.var 1)])]) [] [2])]))] [],
    .ret (.and (.cmp .eq (.isi (.var 0) [.bool]) (.isi (.var 1) [.bool])) (.cmp .eq (.var 0) (.var 1)))]⟩
/-- 6 _law_pairs(_law_state) 0:_law_state 1:_law_found 2:_law_k 3:_law_pair_here -/
def c_law_pairs : Fn := ⟨1, 4, [.asg (.v 1) (.lst []),
    .for (.v 2) (.range [(.call 3 [(.var 0), (.lit (.int 13))])]) [.asg (.v 3) (.call 4 [(.var 0)]),
    .ifs (.and (.cmp .ne (.var 1) (.lst [])) (.cmp .eq (.call 3 [(.var 0), (.lit (.int 3))]) (.lit (.int 0)))) [.asg (.v 3) (.idx (.var 1) (.call 3 [(.var 0), (.bi .len [(.var 1)])]))] [],
    .expr (.mth .append (.var 1) [(.var 3)])],
    .ret (.var 1)]⟩
/-- 7 law(_law_script) 0:_law_script 1:_law_state 2:_law_going 3:_law_pairs_here 4:_law_held 5:_law_due 6:_law_found 7:_law_pair_here -/
def claw : Fn := ⟨1, 8, [.asg (.v 1) (.call 2 [(.var 0)]),
    .asg (.v 2) (.lit (.bl true)),
    .whl (.var 2) [.asg (.v 3) (.call 6 [(.var 1)]),
    .asg (.v 4) (.bi .list [(.var 3)]),
    .asg (.v 5) (.bi .dict [(.cmpr (.tup [(.var 7), (.mth .count (.var 3) [(.var 7)])]) (.v 7) (.e (.var 3)) [] [7])]),
    .asg (.v 6) (.call 1 [(.var 3)]),
    .ifs (.or (.not (.call 5 [(.var 6), (.var 5)])) (.cmp .ne (.var 3) (.var 4))) [.ret (.lit (.bl false))] [],
    .seti (.var 6) (.tup [(.lit (.int 7)), (.tup [])]) (.lit (.int 1)),
    .ifs (.not (.call 5 [(.call 1 [(.var 3)]), (.var 5)])) [.ret (.lit (.bl false))] [],
    .asg (.v 2) (.cmp .lt (.idx (.var 1) (.lit (.str "at"))) (.bi .len [(.idx (.var 1) (.lit (.str "cells")))]))],
    .ret (.lit (.bl true))]⟩
def prg : Prg := ⟨[cput_to, cbag_of, c_law_begun, c_law_take, c_law_pair, c_law_alike, c_law_pairs, claw]⟩
def infos : List Info := [⟨"put_to", top 1, ["bag", "pair", "count", "total"], ["bag", "pair", "count"]⟩,
  ⟨"bag_of", top 2, ["pairs", "found", "pair"], ["pairs"]⟩,
  ⟨"_law_begun", top 4, ["_law_script", "_law_own", "_law_cell"], ["_law_script"]⟩,
  ⟨"_law_take", top 5, ["_law_state", "_law_many", "_law_cells", "_law_found", "_law_cell"], ["_law_state", "_law_many"]⟩,
  ⟨"_law_pair", top 6, ["_law_state", "_law_moment", "_law_many", "_law_k"], ["_law_state"]⟩,
  ⟨"_law_alike", top 7, ["_law_found", "_law_due", "_law_k"], ["_law_found", "_law_due"]⟩,
  ⟨"_law_pairs", top 8, ["_law_state", "_law_found", "_law_k", "_law_pair_here"], ["_law_state"]⟩,
  ⟨"law", top 9, ["_law_script", "_law_state", "_law_going", "_law_pairs_here", "_law_held", "_law_due", "_law_found", "_law_pair_here"], ["_law_script"]⟩]
def gl : List (Str × Gb) := [("put_to", .fn 0), ("bag_of", .fn 1), ("_law_begun", .fn 2), ("_law_take", .fn 3), ("_law_pair", .fn 4), ("_law_alike", .fn 5), ("_law_pairs", .fn 6), ("law", .fn 7), ("len", .bi), ("abs", .bi), ("int", .bi), ("all", .bi), ("max", .bi), ("sorted", .bi), ("tuple", .bi), ("list", .bi), ("dict", .bi), ("isinstance", .bi), ("range", .bi), ("bool", .bi)]
theorem comp_ok : mapO (infoC 60 gl) infos = some prg.fns := by rfl
end K17
end

section
set_option autoImplicit false
set_option linter.all false
set_option maxRecDepth 100000
set_option maxHeartbeats 1000000
namespace K17
open PySem M3
structure LSt where
  c : Nat
  at_ : Int
  rest : Int
  left : Int
  more : Int
  own : Bool
def LSt.kvs (s : LSt) : List (D × D) := [(.str "cells", .ref s.c), (.str "at", .int s.at_), (.str "rest", .int s.rest), (.str "left", .int s.left), (.str "more", .int s.more), (.str "own", .bl s.own)]
section
variable (s : LSt) (v : Int)
theorem fit (k : Str) : keyFit s.kvs (.str k) = true := rfl
theorem g_cells : dget (.str "cells") s.kvs = some (.ref s.c) := rfl
theorem g_at : dget (.str "at") s.kvs = some (.int s.at_) := rfl
theorem g_rest : dget (.str "rest") s.kvs = some (.int s.rest) := rfl
theorem g_left : dget (.str "left") s.kvs = some (.int s.left) := rfl
theorem g_more : dget (.str "more") s.kvs = some (.int s.more) := rfl
theorem g_own : dget (.str "own") s.kvs = some (.bl s.own) := rfl
theorem p_at : dput (.str "at") (.int v) s.kvs = ({ s with at_ := v } : LSt).kvs := rfl
theorem p_rest : dput (.str "rest") (.int v) s.kvs = ({ s with rest := v } : LSt).kvs := rfl
theorem p_left : dput (.str "left") (.int v) s.kvs = ({ s with left := v } : LSt).kvs := rfl
theorem p_more : dput (.str "more") (.int v) s.kvs = ({ s with more := v } : LSt).kvs := rfl
end
end K17
end

section
set_option autoImplicit false
set_option linter.all false
set_option maxRecDepth 100000
set_option maxHeartbeats 4000000
namespace K17
open PySem M3
/-- the state is sound -/
structure Inv (s : LSt) (S : Store) (l : Nat) (cs : List Int) : Prop where
  st : S.cell l = some (.dct s.kvs)
  ce : S.cell s.c = some (.lst (cs.map .int))
  ne : s.c ≠ l
  lb : l < S.nx
  cb : s.c < S.nx
  at0 : 0 ≤ s.at_
  le0 : 0 ≤ s.left
  mo0 : 0 ≤ s.more
  mo1 : s.more < 2147483647
def mu (s : LSt) (cs : List Int) : Nat := (cs.length - s.at_).toNat * 41 + s.left.toNat
/-- s' comes after s -/
structure Aft (s s' : LSt) (cs : List Int) : Prop where
  c : s'.c = s.c
  le : mu s' cs ≤ mu s cs
  at_ : s.at_ ≤ s'.at_
/-- S' comes after S: the state at l is s', what else was stays -/
structure Nx (S S' : Store) (l : Nat) (s s' : LSt) (cs : List Int) : Prop where
  nx : S.nx ≤ S'.nx
  same : ∀ m, m < S.nx → m ≠ l → S'.cell m = S.cell m
  inv : Inv s' S' l cs
  aft : Aft s s' cs
theorem Nx.put {S : Store} {l : Nat} {s s' : LSt} {cs : List Int} (I : Inv s S l cs) (hc : s'.c = s.c) (a0 : 0 ≤ s'.at_) (b0 : 0 ≤ s'.left) (m0 : 0 ≤ s'.more) (m1 : s'.more < 2147483647) (A : Aft s s' cs) : Nx S (S.put l (.dct s'.kvs)) l s s' cs where
  nx := Nat.le_refl _
  same := fun m _ h => put_ne _ _ h
  inv := ⟨put_same _ _ _, by rw [hc, put_ne _ _ I.ne]; exact I.ce, by rw [hc]; exact I.ne, I.lb, by rw [hc]; exact I.cb, a0, b0, m0, m1⟩
  aft := A
theorem Nx.trans {S S1 S2 : Store} {l : Nat} {s s1 s2 : LSt} {cs : List Int} (a : Nx S S1 l s s1 cs) (b : Nx S1 S2 l s1 s2 cs) : Nx S S2 l s s2 cs where
  nx := Nat.le_trans a.nx b.nx
  same := fun m h k => (b.same m (Nat.lt_of_lt_of_le h a.nx) k).trans (a.same m h k)
  inv := b.inv
  aft := ⟨b.aft.c.trans a.aft.c, Nat.le_trans b.aft.le a.aft.le, Int.le_trans a.aft.at_ b.aft.at_⟩
theorem Nx.refl {S : Store} {l : Nat} {s : LSt} {cs : List Int} (I : Inv s S l cs) : Nx S S l s s cs := ⟨Nat.le_refl _, fun _ _ _ => rfl, I, rfl, Nat.le_refl _, Int.le_refl _⟩
theorem place_one (b : Bool) : ∃ j, place 2 (if b then 1 else 0) = some j ∧ ∃ k : Int, ([.int 1, .int 2] : List D)[j]? = some (.int k) ∧ 0 < k ∧ k < 1073741824 := by
  cases b
  · exact ⟨0, rfl, 1, rfl, by decide, by decide⟩
  · exact ⟨1, rfl, 2, rfl, by decide, by decide⟩
theorem lim (s : LSt) : s.kvs.length < Lim := by show 6 < 16777216; decide
section
variable {P : Prg} {n : Nat} {E : Nat → M3.Env → Store → Prop} {σ : M3.Env} {S : Store} {l i : Nat} {s : LSt}
theorem r_cells (h : S.cell l = some (.dct s.kvs)) (v : σ[i]? = some (some (.ref l))) : Ev P n E (.idx (.var i) (.lit (.str "cells"))) σ S (.val (.ref s.c)) := ev_dget (ev_var v) ev_lit h (fit s _) (g_cells s)
theorem r_at (h : S.cell l = some (.dct s.kvs)) (v : σ[i]? = some (some (.ref l))) : Ev P n E (.idx (.var i) (.lit (.str "at"))) σ S (.val (.int s.at_)) := ev_dget (ev_var v) ev_lit h (fit s _) (g_at s)
theorem r_rest (h : S.cell l = some (.dct s.kvs)) (v : σ[i]? = some (some (.ref l))) : Ev P n E (.idx (.var i) (.lit (.str "rest"))) σ S (.val (.int s.rest)) := ev_dget (ev_var v) ev_lit h (fit s _) (g_rest s)
theorem r_left (h : S.cell l = some (.dct s.kvs)) (v : σ[i]? = some (some (.ref l))) : Ev P n E (.idx (.var i) (.lit (.str "left"))) σ S (.val (.int s.left)) := ev_dget (ev_var v) ev_lit h (fit s _) (g_left s)
theorem r_more (h : S.cell l = some (.dct s.kvs)) (v : σ[i]? = some (some (.ref l))) : Ev P n E (.idx (.var i) (.lit (.str "more"))) σ S (.val (.int s.more)) := ev_dget (ev_var v) ev_lit h (fit s _) (g_more s)
theorem r_own (h : S.cell l = some (.dct s.kvs)) (v : σ[i]? = some (some (.ref l))) : Ev P n E (.idx (.var i) (.lit (.str "own"))) σ S (.val (.bl s.own)) := ev_dget (ev_var v) ev_lit h (fit s _) (g_own s)
theorem e_len {c : Nat} {xs : List D} (h : S.cell c = some (.lst xs)) (v : σ[i]? = some (some (.ref c))) : Ev P n E (.bi .len [.var i]) σ S (.val (.int xs.length)) := ev_bi1 (ev_var v) fun Q q => by
  show (match S.cell c with
    | some (.lst xs) => Q (.val (.int xs.length)) S
    | some (.cst xs) => Q (.val (.int xs.length)) S
    | some (.dct kvs) => Q (.val (.int kvs.length)) S
    | some (.cdt kvs) => Q (.val (.int kvs.length)) S
    | _ => False)
  rw [h]; exact q
theorem w_at {v : Int} {e : CE} {ss : List CS} {K : Ends} (he : Ev P n E e σ S (.val (.int v))) (x : σ[i]? = some (some (.ref l))) (h : S.cell l = some (.dct s.kvs)) (g : wpSs (callD P n) E ss σ (S.put l (.dct ({ s with at_ := v } : LSt).kvs)) K) : wpSs (callD P n) E (.seti (.var i) (.lit (.str "at")) e :: ss) σ S K := s_dset he (ev_var x) ev_lit h (fit s _) (lim s) (by rw [p_at]; exact g)
theorem w_rest {v : Int} {e : CE} {ss : List CS} {K : Ends} (he : Ev P n E e σ S (.val (.int v))) (x : σ[i]? = some (some (.ref l))) (h : S.cell l = some (.dct s.kvs)) (g : wpSs (callD P n) E ss σ (S.put l (.dct ({ s with rest := v } : LSt).kvs)) K) : wpSs (callD P n) E (.seti (.var i) (.lit (.str "rest")) e :: ss) σ S K := s_dset he (ev_var x) ev_lit h (fit s _) (lim s) (by rw [p_rest]; exact g)
theorem w_left {v : Int} {e : CE} {ss : List CS} {K : Ends} (he : Ev P n E e σ S (.val (.int v))) (x : σ[i]? = some (some (.ref l))) (h : S.cell l = some (.dct s.kvs)) (g : wpSs (callD P n) E ss σ (S.put l (.dct ({ s with left := v } : LSt).kvs)) K) : wpSs (callD P n) E (.seti (.var i) (.lit (.str "left")) e :: ss) σ S K := s_dset he (ev_var x) ev_lit h (fit s _) (lim s) (by rw [p_left]; exact g)
theorem w_more {v : Int} {e : CE} {ss : List CS} {K : Ends} (he : Ev P n E e σ S (.val (.int v))) (x : σ[i]? = some (some (.ref l))) (h : S.cell l = some (.dct s.kvs)) (g : wpSs (callD P n) E ss σ (S.put l (.dct ({ s with more := v } : LSt).kvs)) K) : wpSs (callD P n) E (.seti (.var i) (.lit (.str "more")) e :: ss) σ S K := s_dset he (ev_var x) ev_lit h (fit s _) (lim s) (by rw [p_more]; exact g)
end
theorem put_self {S : Store} {l : Nat} {c : Cell} (h : S.cell l = some c) : S.put l c = S := by
  obtain ⟨a, f⟩ := S
  show (⟨a, _⟩ : Store) = ⟨a, f⟩
  congr 1; funext m
  show (if m = l then some c else f m) = f m
  split
  · rename_i e; rw [e]; exact h.symm
  · rfl
theorem one {P : Prg} {n : Nat} {E : Nat → M3.Env → Store → Prop} {σ : M3.Env} {S : Store} {s : CS} {K : Ends} (h : wpSs (callD P n) E [s] σ S K) : wpS (callD P n) E s σ S K := by
  simp only [wpSs] at h; exact h
theorem i_add {P : Prg} {n : Nat} {E : Nat → M3.Env → Store → Prop} {σ : M3.Env} {S : Store} {a b : CE} {i j : Int} (ha : Ev P n E a σ S (.val (.int i))) (hb : Ev P n E b σ S (.val (.int j))) : Ev P n E (.bin .add a b) σ S (.val (.int (i + j))) := ev_bin ha hb fun _ q => q
theorem i_sub {P : Prg} {n : Nat} {E : Nat → M3.Env → Store → Prop} {σ : M3.Env} {S : Store} {a b : CE} {i j : Int} (ha : Ev P n E a σ S (.val (.int i))) (hb : Ev P n E b σ S (.val (.int j))) : Ev P n E (.bin .sub a b) σ S (.val (.int (i - j))) := ev_bin ha hb fun _ q => q
theorem i_mul {P : Prg} {n : Nat} {E : Nat → M3.Env → Store → Prop} {σ : M3.Env} {S : Store} {a b : CE} {i j : Int} (ha : Ev P n E a σ S (.val (.int i))) (hb : Ev P n E b σ S (.val (.int j))) (h : mulOk i j) : Ev P n E (.bin .mul a b) σ S (.val (.int (i * j))) := ev_bin ha hb fun _ q => ⟨h, q⟩
theorem i_mod {P : Prg} {n : Nat} {E : Nat → M3.Env → Store → Prop} {σ : M3.Env} {S : Store} {a b : CE} {i j : Int} (ha : Ev P n E a σ S (.val (.int i))) (hb : Ev P n E b σ S (.val (.int j))) (h : 0 < j) : Ev P n E (.bin .mod a b) σ S (.val (.int (i % j))) := ev_bin ha hb fun _ q => ⟨h, q⟩
theorem i_div {P : Prg} {n : Nat} {E : Nat → M3.Env → Store → Prop} {σ : M3.Env} {S : Store} {a b : CE} {i j : Int} (ha : Ev P n E a σ S (.val (.int i))) (hb : Ev P n E b σ S (.val (.int j))) (h : 0 < j) (h1 : j < 1073741824) : Ev P n E (.bin .fdiv a b) σ S (.val (.int (i / j))) := ev_bin ha hb fun _ q => ⟨⟨h, h1⟩, q⟩
theorem i_lt {P : Prg} {n : Nat} {E : Nat → M3.Env → Store → Prop} {σ : M3.Env} {S : Store} {a b : CE} {i j : Int} (ha : Ev P n E a σ S (.val (.int i))) (hb : Ev P n E b σ S (.val (.int j))) : Ev P n E (.cmp .lt a b) σ S (.val (.bl (decide (i < j)))) := ev_cmp ha hb fun _ q => q
theorem i_gt {P : Prg} {n : Nat} {E : Nat → M3.Env → Store → Prop} {σ : M3.Env} {S : Store} {a b : CE} {i j : Int} (ha : Ev P n E a σ S (.val (.int i))) (hb : Ev P n E b σ S (.val (.int j))) : Ev P n E (.cmp .gt a b) σ S (.val (.bl (decide (j < i)))) := ev_cmp ha hb fun _ q => q
theorem i_eq {P : Prg} {n : Nat} {E : Nat → M3.Env → Store → Prop} {σ : M3.Env} {S : Store} {a b : CE} {i j : Int} (ha : Ev P n E a σ S (.val (.int i))) (hb : Ev P n E b σ S (.val (.int j))) : Ev P n E (.cmp .eq a b) σ S (.val (.bl (decide (i = j)))) := ev_cmp ha hb fun _ q => q
theorem i_ne {P : Prg} {n : Nat} {E : Nat → M3.Env → Store → Prop} {σ : M3.Env} {S : Store} {a b : CE} {i j : Int} (ha : Ev P n E a σ S (.val (.int i))) (hb : Ev P n E b σ S (.val (.int j))) : Ev P n E (.cmp .ne a b) σ S (.val (.bl (!decide (i = j)))) := ev_cmp ha hb fun _ q => q
theorem get_map {cs : List Int} {j : Nat} (h : j < cs.length) : (cs.map D.int)[j]? = some (.int cs[j]) := by simp [h]
theorem take_ok (n : Nat) {l : Nat} {many : Int} {s : LSt} {S : Store} {cs : List Int} (I : Inv s S l cs) (h0 : 0 < many) (h1 : many < 1073741824) :
    callD prg (n + 1) 3 [.ref l, .int many] S (fun d S' => ∃ (r : Int) (s' : LSt), d = .int r ∧ 0 ≤ r ∧ r < many ∧ Nx S S' l s s' cs ∧ (s.at_ < cs.length → mu s' cs < mu s cs)) fun _ _ => False := by
  refine call_same (F := c_law_take) rfl rfl ?_
  show wpSs _ _ c_law_take.body [some (.ref l), some (.int many), none, none, none] S _
  have hst := I.st
  have hce := I.ce
  have ln : (cs.map D.int).length = cs.length := List.length_map _
  refine s_asg (r_cells hst rfl) (Nat.le_of_ble_eq_true rfl) ?_
  show wpSs _ _ _ [some (.ref l), some (.int many), some (.ref s.c), none, none] S _
  refine s_if (p := s.own && (decide (0 < s.left) || decide (s.at_ < cs.length))) (ev_and (r_own hst rfl) (fun ho => ?ea) (fun ho => by rw [ho]; rfl)) ?own ?far
  case ea =>
    rw [ho]
    refine ev_or (i_gt (r_left hst rfl) ev_lit) (fun h => ?_) (fun h => by rw [h]; rfl)
    rw [h]
    have := i_lt (P := prg) (n := n) (E := fun x _ S1 => False) (r_at (σ := [some (.ref l), some (.int many), some (.ref s.c), none, none]) (i := 0) hst rfl) (e_len (i := 2) hce rfl)
    rw [ln] at this
    exact this
  case own =>
    intro ho
    have ho2 : 0 < s.left ∨ s.at_ < cs.length := by
      have := (Bool.and_eq_true _ _ ▸ ho).2
      rcases Bool.or_eq_true _ _ ▸ this with h | h
      · exact .inl (of_decide_eq_true h)
      · exact .inr (of_decide_eq_true h)
    refine seqJ (fun σ' S' => σ' = [some (.ref l), some (.int many), some (.ref s.c), none, none] ∧ ∃ s1 : LSt, S' = S.put l (.dct s1.kvs) ∧ s1.c = s.c ∧ s1.own = s.own ∧ s1.more = s.more ∧ 0 ≤ s1.at_ ∧ 0 < s1.left ∧ s.at_ ≤ s1.at_ ∧ mu s1 cs ≤ mu s cs) ?fill ?rest
    case fill =>
      refine one (s_if (i_eq (r_left hst rfl) ev_lit) (fun h => ?_) fun h => ?_)
      · have hl := of_decide_eq_true h
        have ha : s.at_ < cs.length := ho2.resolve_left (by omega)
        have hj : s.at_.toNat < cs.length := by have := I.at0; omega
        obtain ⟨j, hp, k, hk, k0, k1⟩ := place_one (decide (s.at_ = 0))
        refine w_rest (i_mod (i_div (ev_lget (ev_var rfl) (r_at hst rfl) (.inr (.inr (.inr ⟨_, rfl, hce⟩))) (place_nat I.at0 (by rw [ln]; exact ha)) (get_map hj)) (ev_lget (xs := [.int 1, .int 2]) (fun Q q => by simp only [wpE, wpEs, cv]; exact q) (ev_bi1 (i_eq (r_at hst rfl) ev_lit) (fun _ q => q)) (.inl rfl) hp hk) k0 k1) (ev_bin ev_lit ev_lit fun _ q => ⟨by decide, q⟩) (by decide)) rfl hst ?_
        refine w_at (i_add (r_at (put_same _ _ _) rfl) ev_lit) rfl (put_same _ _ _) ?_
        rw [put_put]
        refine w_left ev_lit rfl (put_same _ _ _) (s_nil ?_)
        rw [put_put]
        refine ⟨rfl, _, rfl, rfl, rfl, rfl, ?_, ?_, ?_, ?_⟩
        · show 0 ≤ s.at_ + 1
          have := I.at0; omega
        · show (0 : Int) < 40
          decide
        · show s.at_ ≤ s.at_ + 1
          omega
        · show ((cs.length : Int) - (s.at_ + 1)).toNat * 41 + (40 : Int).toNat ≤ ((cs.length : Int) - s.at_).toNat * 41 + s.left.toNat
          have := I.at0; omega
      · have hl := of_decide_eq_false h
        refine s_nil ⟨rfl, s, ?_, rfl, rfl, rfl, I.at0, ?_, Int.le_refl _, Nat.le_refl _⟩
        · exact (put_self hst).symm
        · have := I.le0; omega
    case rest =>
      rintro σ' S' ⟨rfl, s1, rfl, c1, o1, m1, a1, l1, a2, u1⟩
      refine w_left (ev_bi2 ev_lit (i_sub (r_left (put_same _ _ _) rfl) ev_lit) (fun _ q => q)) rfl (put_same _ _ _) ?_
      rw [put_put]
      refine s_asg (i_mod (r_rest (put_same _ _ _) rfl) (ev_var rfl) h0) (Nat.le_of_ble_eq_true rfl) ?_
      refine w_rest (i_div (r_rest (put_same _ _ _) rfl) (ev_var rfl) h0 h1) rfl (put_same _ _ _) ?_
      rw [put_put]
      refine s_ret (ev_var rfl) ⟨_, _, rfl, Int.emod_nonneg _ (by omega), Int.emod_lt_of_pos _ h0, Nx.put I c1 a1 ?_ ?_ ?_ ⟨c1, ?_, a2⟩, ?_⟩
      · show (0 : Int) ≤ if s1.left - 1 > 0 then s1.left - 1 else 0
        split <;> omega
      · show 0 ≤ s1.more
        rw [m1]; exact I.mo0
      · show s1.more < _
        rw [m1]; exact I.mo1
      · refine Nat.le_trans ?_ u1
        show ((cs.length : Int) - s1.at_).toNat * 41 + (if s1.left - 1 > 0 then s1.left - 1 else 0 : Int).toNat ≤ ((cs.length : Int) - s1.at_).toNat * 41 + s1.left.toNat
        split <;> omega
      · intro _
        refine Nat.lt_of_lt_of_le ?_ u1
        show ((cs.length : Int) - s1.at_).toNat * 41 + (if s1.left - 1 > 0 then s1.left - 1 else 0 : Int).toNat < ((cs.length : Int) - s1.at_).toNat * 41 + s1.left.toNat
        split <;> omega
  case far =>
    intro ho
    refine s_nil ?_
    show wpSs _ _ _ [some (.ref l), some (.int many), some (.ref s.c), none, none] S _
    refine s_asg ev_lit (Nat.le_of_ble_eq_true rfl) ?_
    refine seqJ (fun σ' S' => ∃ v : Int, σ' = [some (.ref l), some (.int many), some (.ref s.c), none, some (.int v)] ∧ S' = S) ?cell ?rest2
    case cell =>
      refine one (s_if (i_gt (e_len hce rfl) ev_lit) (fun h => ?_) fun h => s_nil ⟨0, rfl, rfl⟩)
      have hl := of_decide_eq_true h
      rw [ln] at hl
      have m0 : 0 ≤ s.at_ % (cs.length : Int) := Int.emod_nonneg _ (by omega)
      have m1 : s.at_ % (cs.length : Int) < cs.length := Int.emod_lt_of_pos _ hl
      have hj : (s.at_ % (cs.length : Int)).toNat < cs.length := by omega
      refine s_asg (ev_lget (ev_var rfl) (i_mod (r_at hst rfl) (e_len hce rfl) (by rw [ln]; exact hl)) (.inr (.inr (.inr ⟨_, rfl, hce⟩))) (by rw [ln]; exact place_nat m0 m1) (get_map hj)) (Nat.le_of_ble_eq_true rfl) (s_nil ⟨_, rfl, rfl⟩)
    case rest2 =>
      rintro σ' S' ⟨v, rfl, rfl⟩
      refine w_at (i_add (r_at hst rfl) ev_lit) rfl hst ?_
      refine w_more (i_mod (i_add (i_add (i_mul (r_more (put_same _ _ _) rfl) ev_lit (.inr (by decide))) (ev_var rfl)) (r_at (put_same _ _ _) rfl)) ev_lit (by decide)) rfl (put_same _ _ _) ?_
      rw [put_put]
      have q0 : ∀ z : Int, 0 ≤ z % 2147483647 := fun z => Int.emod_nonneg _ (by decide)
      have q1 : ∀ z : Int, z % 2147483647 < 2147483647 := fun z => Int.emod_lt_of_pos _ (by decide)
      refine s_ret (i_mod (i_mod (i_add (i_mul (r_more (put_same _ _ _) rfl) (r_more (put_same _ _ _) rfl) (.inl ?_)) (i_mul ev_lit (r_more (put_same _ _ _) rfl) (.inl (by decide)))) ev_lit (by decide)) (ev_var rfl) h0) ⟨_, _, rfl, Int.emod_nonneg _ (by omega), Int.emod_lt_of_pos _ h0, Nx.put I rfl ?_ I.le0 (q0 _) (q1 _) ⟨rfl, ?_, ?_⟩, ?_⟩
      · have a := q0 (s.more * 48271 + v + (s.at_ + 1))
        have b := q1 (s.more * 48271 + v + (s.at_ + 1))
        refine ⟨Int.lt_of_lt_of_le (by decide) a, Int.lt_trans b (by decide)⟩
      · show 0 ≤ s.at_ + 1
        have := I.at0; omega
      · show ((cs.length : Int) - (s.at_ + 1)).toNat * 41 + s.left.toNat ≤ ((cs.length : Int) - s.at_).toNat * 41 + s.left.toNat
        omega
      · show s.at_ ≤ s.at_ + 1
        omega
      · intro h
        show ((cs.length : Int) - (s.at_ + 1)).toNat * 41 + s.left.toNat < ((cs.length : Int) - s.at_).toNat * 41 + s.left.toNat
        omega
theorem c_take {n : Nat} {E : Nat → M3.Env → Store → Prop} {σ : M3.Env} {S : Store} {l i : Nat} {s : LSt} {cs : List Int} {b : CE} {many : Int} {Q : Rz → Store → Prop} (I : Inv s S l cs) (v : σ[i]? = some (some (.ref l))) (hb : Ev prg (n + 1) E b σ S (.val (.int many))) (h0 : 0 < many) (h1 : many < 1073741824)
    (q : ∀ (r : Int) (s' : LSt) (S' : Store), 0 ≤ r → r < many → Nx S S' l s s' cs → (s.at_ < cs.length → mu s' cs < mu s cs) → Q (.val (.int r)) S') : wpE (callD prg (n + 1)) E (.call 3 [.var i, b]) σ S Q := by
  simp only [wpE, wpEs, v, cv]
  refine hb _ ?_
  exact callD_mono prg (n + 1) 3 _ S _ _ _ _ (fun d S' ⟨r, s', e, r0, r1, x, y⟩ => by rw [e]; exact q r s' S' r0 r1 x y) (fun _ _ h => h.elim) (take_ok n I h0 h1)
end K17
end

section
set_option autoImplicit false
set_option linter.all false
set_option maxRecDepth 100000
set_option maxHeartbeats 4000000
namespace K17
open PySem M3
section
variable {P : Prg} {n : Nat} {E : Nat → M3.Env → Store → Prop} {σ : M3.Env} {S : Store} {Q : Rz → Store → Prop} {ss : List CS} {K : Ends}
theorem w_asg {i : Nat} {e : CE} (hi : i < σ.length) (h : wpE (callD P n) E e σ S (cv fun d S1 => wpSs (callD P n) E ss (σ.set i (some d)) S1 K)) : wpSs (callD P n) E (.asg (.v i) e :: ss) σ S K := by
  simp only [wpSs, wpS]
  exact wE _ h fun z S' h => by
    cases z <;> simp only [cv, tgW, hi, if_true] at h ⊢ <;> exact h
theorem w_ret {e : CE} (h : wpE (callD P n) E e σ S (cv fun d S1 => K.rt d S1)) : wpSs (callD P n) E (.ret e :: ss) σ S K := by
  simp only [wpSs, wpS]; exact h
theorem w_expr {e : CE} (h : wpE (callD P n) E e σ S fun _ S1 => wpSs (callD P n) E ss σ S1 K) : wpSs (callD P n) E (.expr e :: ss) σ S K := by
  simp only [wpSs, wpS]; exact h
theorem w_idx {a b : CE} {x : Rz} (ha : Ev P n E a σ S x) (h : wpE (callD P n) E b σ S fun y S2 => idxZ x y S2 Q) : wpE (callD P n) E (.idx a b) σ S Q := by
  simp only [wpE]; exact ha _ h
theorem w_tup2 {a b : CE} {d : D} (ha : Ev P n E a σ S (.val d)) (h : wpE (callD P n) E b σ S (cv fun d' S1 => Q (.val (.tup [d, d'])) S1)) : wpE (callD P n) E (.tup [a, b]) σ S Q := by
  simp only [wpE, wpEs]; exact ha _ h
theorem w_bi1 {b : Bi} {a : CE} (h : wpE (callD P n) E a σ S fun z S1 => biZ b [z] S1 Q) : wpE (callD P n) E (.bi b [a]) σ S Q := by
  simp only [wpE, wpZs]; exact h
theorem w_cmpr {elt : CE} {it : CI} {v : Nat} {own : List Nat} (h : wpI (callD P n) E it σ S fun items g S1 => compW (fun d S2 R => wpE (callD P n) (fun _ _ _ => False) elt ((wipeD own σ).set v (some d)) S2 (cv fun d' S4 => R (some d') S4)) g (fun ds S2 => Q (.lst ds) S2) items [] S1) (hv : v < (wipeD own σ).length) : wpE (callD P n) E (.cmpr elt (.v v) it [] own) σ S Q := by
  simp only [wpE, wpIfs, tgW, hv, if_true]; exact h
theorem w_range {b : CE} {R : List D → (Store → Prop) → Store → Prop} (h : wpE (callD P n) E b σ S fun z S1 => rngW [z] S1 R) : wpI (callD P n) E (.range [b]) σ S R := by
  simp only [wpI, wpZs]; exact h
theorem w_bin {op : BOp} {a b : CE} {Q : Rz → Store → Prop} (h : wpE (callD P n) E a σ S fun x S1 => wpE (callD P n) E b σ S1 fun y S2 => binZ op x y S2 Q) : wpE (callD P n) E (.bin op a b) σ S Q := by
  simp only [wpE]; exact h
theorem w_cmp {op : COp} {a b : CE} {Q : Rz → Store → Prop} (h : wpE (callD P n) E a σ S fun x S1 => wpE (callD P n) E b σ S1 fun y S2 => cmpZ op x y S2 Q) : wpE (callD P n) E (.cmp op a b) σ S Q := by
  simp only [wpE]; exact h
theorem w_and {a b : CE} {p : Bool} {Q : Rz → Store → Prop} (ha : Ev P n E a σ S (.val (.bl p))) (hb : p = true → wpE (callD P n) E b σ S Q) (hz : p = false → Q (.val (.bl false)) S) : wpE (callD P n) E (.and a b) σ S Q := by
  simp only [wpE]
  refine ha _ ?_
  cases p with
  | true => exact hb rfl
  | false => exact hz rfl
theorem w_if {e : CE} {a b : List CS} (h : wpE (callD P n) E e σ S (truth fun k S1 => match k with
    | true => wpSs (callD P n) E a σ S1 { K with nx := fun σ' S' => wpSs (callD P n) E ss σ' S' K }
    | false => wpSs (callD P n) E b σ S1 { K with nx := fun σ' S' => wpSs (callD P n) E ss σ' S' K })) : wpSs (callD P n) E (.ifs e a b :: ss) σ S K := by
  simp only [wpSs, wpS]; exact h
theorem w_for {v : Nat} {it : CI} {b : List CS} (h : wpI (callD P n) E it σ S fun items g S1 => forW (fun d σ' S' N => v < σ'.length ∧ wpSs (callD P n) E b (σ'.set v (some d)) S' { nx := N, rt := K.rt, bk := fun σ' S' => wpSs (callD P n) E ss σ' S' K, ct := N }) g (fun σ' S' => wpSs (callD P n) E ss σ' S' K) items σ S1) : wpSs (callD P n) E (.for (.v v) it b :: ss) σ S K := by
  simp only [wpSs, wpS]
  exact wpI_mono (callD_mono P n) (fun _ _ _ h => h) it σ S _ _ (fun items g S1 h => forW_mono (fun d σ S R R' j h => by
    simp only [tgW, h.1, if_true]
    exact wpSs_mono (callD_mono P n) (fun _ _ _ h => h) b _ S { nx := R, rt := K.rt, bk := fun σ' S' => wpSs (callD P n) E ss σ' S' K, ct := R } { nx := R', rt := K.rt, bk := fun σ' S' => wpSs (callD P n) E ss σ' S' K, ct := R' } ⟨j, fun _ _ h => h, fun _ _ h => h, j⟩ h.2) (fun _ _ h => h) _ _ _ h) h
end
theorem comp_inv {step : D → Store → (Option D → Store → Prop) → Prop} {g : Store → Prop} {Q : List D → Store → Prop} (J : List D → Store → Prop) (hg : ∀ acc S, J acc S → g S) : ∀ (xs acc : List D) (S : Store), (∀ x ∈ xs, ∀ acc S (R : Option D → Store → Prop), J acc S → (∀ d S1, J (acc ++ [d]) S1 → R (some d) S1) → step x S R) → acc.length + xs.length ≤ Lim → J acc S → (∀ acc' S', acc'.length = acc.length + xs.length → J acc' S' → Q acc' S') → compW step g Q xs acc S
  | [], acc, S, _, _, j, q => ⟨hg _ _ j, q acc S rfl j⟩
  | x :: xs, acc, S, hs, hl, j, q => ⟨hg _ _ j, hs x (List.mem_cons_self ..) acc S _ j fun d S1 j1 => ⟨by simp at hl; omega, comp_inv J hg xs (acc ++ [d]) S1 (fun y hy => hs y (List.mem_cons_of_mem _ hy)) (by simp at hl ⊢; omega) j1 fun acc' S' e => q acc' S' (by simp at e ⊢; omega)⟩⟩
theorem comp_map {step : D → Store → (Option D → Store → Prop) → Prop} {g : Store → Prop} {Q : List D → Store → Prop} {S : Store} (f : D → D) (hg : g S) : ∀ (xs acc : List D), (∀ x ∈ xs, ∀ R : Option D → Store → Prop, R (some (f x)) S → step x S R) → acc.length + xs.length ≤ Lim → Q (acc ++ xs.map f) S → compW step g Q xs acc S
  | [], acc, _, _, q => ⟨hg, by simpa using q⟩
  | x :: xs, acc, hs, hl, q => ⟨hg, hs x (List.mem_cons_self ..) _ ⟨by simp at hl; omega, comp_map f hg xs (acc ++ [f x]) (fun y hy => hs y (List.mem_cons_of_mem _ hy)) (by simp at hl ⊢; omega) (by simpa using q)⟩⟩
theorem for_inv {step : D → M3.Env → Store → (M3.Env → Store → Prop) → Prop} {g : Store → Prop} {nx : M3.Env → Store → Prop} (J : Nat → M3.Env → Store → Prop) (hg : ∀ k σ S, J k σ S → g S) (all : List D) : ∀ (xs : List D) (k : Nat) (σ : M3.Env) (S : Store), all.drop k = xs → (∀ k x, all[k]? = some x → ∀ σ S (R : M3.Env → Store → Prop), J k σ S → (∀ σ' S', J (k + 1) σ' S' → R σ' S') → step x σ S R) → J k σ S → (∀ k' σ' S', all.length ≤ k' → k' ≤ max k all.length → J k' σ' S' → nx σ' S') → forW step g nx xs σ S
  | [], k, σ, S, e, _, j, q => ⟨hg _ _ _ j, q k σ S (List.drop_eq_nil_iff.mp e) (Nat.le_max_left _ _) j⟩
  | x :: xs, k, σ, S, e, hs, j, q => by
    have hk : k < all.length := by
      rcases Nat.lt_or_ge k all.length with h | h
      · exact h
      · rw [List.drop_eq_nil_of_le h] at e; cases e
    rw [List.drop_eq_getElem_cons hk] at e
    injection e with e1 e2
    exact ⟨hg _ _ _ j, hs k x (by rw [List.getElem?_eq_getElem hk, e1]) σ S _ j fun σ' S' j1 => for_inv J hg all xs (k + 1) σ' S' e2 hs j1 fun k' σ' S' a b => q k' σ' S' a (by omega)⟩
end K17
end

section
set_option autoImplicit false
set_option linter.all false
set_option maxRecDepth 100000
set_option maxHeartbeats 400000
namespace K17
open PySem M3
/-- a pair as the law makes it -/
structure Pr where
  a : Int
  b : List Int
  deriving DecidableEq
def Pr.dec (p : Pr) : D := .tup [.int p.a, .tup (p.b.map .int)]
theorem pick (is : List Int) {r : Int} (h0 : 0 ≤ r) (h1 : r < is.length) : ∃ (j : Nat) (v : Int), v ∈ is ∧ place (is.map D.int).length r = some j ∧ (is.map D.int)[j]? = some (.int v) :=
  have hj : r.toNat < is.length := by omega
  ⟨r.toNat, is[r.toNat], List.getElem_mem hj, place_nat h0 (by rw [List.length_map]; exact h1), get_map hj⟩
theorem idx_z {xs : List D} {r : Int} {S : Store} {Q : Rz → Store → Prop} {j : Nat} {d : D} (hp : place xs.length r = some j) (hd : xs[j]? = some d) (h : Q (.val d) S) : idxZ (.lst xs) (.val (.int r)) S Q := ⟨j, d, hp, hd, h⟩
theorem e_range {P : Prg} {n : Nat} {E : Nat → M3.Env → Store → Prop} {σ : M3.Env} {S : Store} {b : CE} {j : Int} {R : List D → (Store → Prop) → Store → Prop} (hb : Ev P n E b σ S (.val (.int j))) (h0 : -(2 ^ 62) ≤ j) (h1 : j < 2 ^ 62) (h : R (iotaD 0 1 j.toNat) (fun _ => True) S) : wpI (callD P n) E (.range [b]) σ S R := w_range (hb _ ⟨⟨h0, h1⟩, h⟩)
theorem pair_ok (n : Nat) {l : Nat} {s : LSt} {S : Store} {cs : List Int} (I : Inv s S l cs) :
    callD prg (n + 2) 4 [.ref l] S (fun d S' => ∃ (p : Pr) (s' : LSt), d = p.dec ∧ p.b.length ≤ 9 ∧ Nx S S' l s s' cs) fun _ _ => False := by
  refine call_same (F := c_law_pair) rfl rfl ?_
  show wpSs _ _ c_law_pair.body [some (.ref l), none, none, none] S _
  refine w_asg (Nat.le_of_ble_eq_true rfl) (w_idx (x := .lst (([0, 1, 2, 3, 4, 199] : List Int).map .int)) (fun Q q => by simp only [wpE, wpEs, cv]; exact q) (c_take I rfl ev_lit (by decide) (by decide) fun r s1 S1 r0 r1 X1 _ => ?_))
  obtain ⟨j, a, _, hj, ha⟩ := pick [0, 1, 2, 3, 4, 199] r0 r1
  refine idx_z hj ha ?_
  simp only [cv, List.set_cons_zero, List.set_cons_succ]
  refine w_asg (Nat.le_of_ble_eq_true rfl) (w_idx (x := .lst (([0, 1, 2, 3, 1, 9] : List Int).map .int)) (fun Q q => by simp only [wpE, wpEs, cv]; exact q) (c_take X1.inv rfl ev_lit (by decide) (by decide) fun t s2 S2 t0 t1 X2 _ => ?_))
  obtain ⟨j', m, hv, hj', hm'⟩ := pick [0, 1, 2, 3, 1, 9] t0 t1
  refine idx_z hj' hm' ?_
  have hm : 0 ≤ m ∧ m ≤ 9 := (by decide : ∀ z ∈ ([0, 1, 2, 3, 1, 9] : List Int), 0 ≤ z ∧ z ≤ 9) m hv
  simp only [cv, List.set_cons_zero, List.set_cons_succ]
  refine w_ret (w_tup2 (ev_var rfl) (w_bi1 (w_cmpr (e_range (ev_var rfl) (by omega) (by omega) ?_) (Nat.le_of_ble_eq_true rfl))))
  have hlen : (iotaD 0 1 m.toNat).length ≤ 9 := by unfold iotaD; simp; omega
  refine comp_inv (fun acc S3 => ∃ (is : List Int) (s3 : LSt), acc = is.map .int ∧ Nx S S3 l s s3 cs) (fun _ _ _ => trivial) _ [] S2 ?_ (by show 0 + _ ≤ 16777216; omega) ⟨[], s2, rfl, X1.trans X2⟩ ?_
  · rintro x _ acc S3 R ⟨is, s3, rfl, X3⟩ hR
    refine w_bin (c_take X3.inv rfl ev_lit (by decide) (by decide) fun u s4 S4 u0 u1 X4 _ => ev_lit _ ?_)
    exact hR _ _ ⟨is ++ [u - 2], s4, by simp, X3.trans X4⟩
  · rintro acc' S' e ⟨is, s3, rfl, X3⟩
    refine ⟨⟨a, is⟩, s3, rfl, ?_, X3⟩
    have e2 : is.length = 0 + (iotaD 0 1 m.toNat).length := by simpa using e
    show is.length ≤ 9
    omega
end K17
end

section
set_option autoImplicit false
set_option linter.all false
set_option maxRecDepth 100000
/-! M3: pure things as data. -/
namespace M3
open PySem
mutual
/-- a pure thing's data -/
def pd : D → PyData
  | .non => .none
  | .bl b => .bool b
  | .int i => .int i
  | .str s => .str s
  | .tup ds => .tuple (pds ds)
  | .ref _ => .none
  | .kl xs => .list (pds xs)
def pds : List D → List PyData
  | [] => []
  | d :: ds => pd d :: pds ds
end
mutual
/-- no label, no truth, texts that may be laid -/
def pur : D → Bool
  | .non => true
  | .int _ => true
  | .str s => PyData.strOk s
  | .tup ds => purs ds
  | _ => false
def purs : List D → Bool
  | [] => true
  | d :: ds => pur d && purs ds
end
mutual
theorem rdd_pd {S : Store} : ∀ d : D, pur d = true → Rdd S (pd d) d
  | .non, _ => by simp [pd, Rdd]
  | .int _, _ => by simp [pd, Rdd]
  | .str _, _ => by simp [pd, Rdd]
  | .tup ds, h => by
    simp only [pd, Rdd]
    exact ⟨ds, rfl, rdds_pd ds (by simpa [pur] using h)⟩
  | .bl _, h => by simp [pur] at h
  | .ref _, h => by simp [pur] at h
  | .kl _, h => by simp [pur] at h
theorem rdds_pd {S : Store} : ∀ ds : List D, purs ds = true → Rdds S (pds ds) ds
  | [], _ => by simp [pds, Rdds]
  | d :: ds, h => by
    simp only [purs, Bool.and_eq_true] at h
    simp only [pds, Rdds]
    exact ⟨d, ds, rfl, rdd_pd d h.1, rdds_pd ds h.2⟩
end
mutual
theorem lay_pd : ∀ d : D, pur d = true → (pd d).canLay0 = true
  | .non, _ => by simp [pd, PyData.canLay0]
  | .int _, _ => by simp [pd, PyData.canLay0]
  | .str s, h => by simpa [pd, PyData.canLay0, pur] using h
  | .tup ds, h => by
    simp only [pd, PyData.canLay0]
    exact lays_pd ds (by simpa [pur] using h)
  | .bl _, h => by simp [pur] at h
  | .ref _, h => by simp [pur] at h
  | .kl _, h => by simp [pur] at h
theorem lays_pd : ∀ ds : List D, purs ds = true → PyData.canLayAll0 (pds ds) = true
  | [], _ => by simp [pds, PyData.canLayAll0]
  | d :: ds, h => by
    simp only [purs, Bool.and_eq_true] at h
    simp only [pds, PyData.canLayAll0, Bool.and_eq_true]
    exact ⟨lay_pd d h.1, lays_pd ds h.2⟩
end
mutual
theorem dep_pd : ∀ d : D, pur d = true → (pd d).depth = kdep d
  | .non, _ => by simp [pd, PyData.depth, kdep]
  | .int _, _ => by simp [pd, PyData.depth, kdep]
  | .str s, h => by simp [pd, PyData.depth, kdep]
  | .tup ds, h => by
    simp only [pd, PyData.depth, kdep]
    rw [deps_pd ds (by simpa [pur] using h)]
  | .bl _, h => by simp [pur] at h
  | .ref _, h => by simp [pur] at h
  | .kl _, h => by simp [pur] at h
theorem deps_pd : ∀ ds : List D, purs ds = true → PyData.depthAll (pds ds) = kdeps ds
  | [], _ => by simp [pds, PyData.depthAll, kdeps]
  | d :: ds, h => by
    simp only [purs, Bool.and_eq_true] at h
    simp only [pds, PyData.depthAll, kdeps]
    rw [dep_pd d h.1, deps_pd ds h.2]
end
mutual
theorem eqv_pd : ∀ a b : D, pur a = true → pur b = true → PyData.eqv (pd a) (pd b) = decide (a = b)
  | .non, b, _, h => by cases b <;> simp [pd, PyData.eqv, pur] at h ⊢
  | .int i, b, _, h => by cases b <;> simp [pd, PyData.eqv, pur] at h ⊢ <;> (rw [Bool.eq_iff_iff]; simp)
  | .str s, b, _, h => by cases b <;> simp [pd, PyData.eqv, pur] at h ⊢ <;> (rw [Bool.eq_iff_iff]; simp)
  | .tup ds, b, ha, h => by
    cases b with
    | tup es =>
      simp only [pd, PyData.eqv]
      rw [eqvs_pd ds es (by simpa [pur] using ha) (by simpa [pur] using h)]
      simp
    | _ => simp [pd, PyData.eqv, pur] at h ⊢
  | .bl _, _, h, _ => by simp [pur] at h
  | .ref _, _, h, _ => by simp [pur] at h
  | .kl _, _, h, _ => by simp [pur] at h
theorem eqvs_pd : ∀ as bs : List D, purs as = true → purs bs = true → PyData.eqvAll (pds as) (pds bs) = decide (as = bs)
  | [], [], _, _ => by simp [pds, PyData.eqvAll]
  | [], b :: bs, _, _ => by simp [pds, PyData.eqvAll]
  | a :: as, [], _, _ => by simp [pds, PyData.eqvAll]
  | a :: as, b :: bs, ha, hb => by
    simp only [purs, Bool.and_eq_true] at ha hb
    simp only [pds, PyData.eqvAll]
    rw [eqv_pd a b ha.1 hb.1, eqvs_pd as bs ha.2 hb.2]
    simp
end
theorem pds_map (ds : List D) : pds ds = ds.map pd := by
  induction ds with
  | nil => simp [pds]
  | cons d ds ih => simp [pds, ih]
theorem purs_iff (ds : List D) : purs ds = true ↔ ∀ d ∈ ds, pur d = true := by
  induction ds with
  | nil => simp [purs]
  | cons d ds ih => simp [purs, ih]
theorem purs_int (is : List Int) : purs (is.map .int) = true := (purs_iff _).mpr fun d h => by
  obtain ⟨i, _, rfl⟩ := List.mem_map.mp h
  rfl
theorem kdeps_int (is : List Int) : kdeps (is.map .int) = 0 := by
  induction is with
  | nil => rfl
  | cons i is ih => simp [kdeps, kdep, ih]
theorem kdeps_le (ds : List D) (k : Nat) (h : ∀ d ∈ ds, kdep d ≤ k) : kdeps ds ≤ k := by
  induction ds with
  | nil => exact Nat.zero_le _
  | cons d ds ih =>
    simp only [kdeps]
    have := h d (List.mem_cons_self ..)
    have := ih fun e he => h e (List.mem_cons_of_mem _ he)
    omega
theorem shaped_list {ds : List D} (h : purs ds = true) (hk : kdeps ds ≤ 63) : SeqAt.shaped (.list (pds ds)) = true := by
  unfold SeqAt.shaped
  simp only [PyData.canLay0, PyData.depth, Bool.and_eq_true]
  exact ⟨lays_pd ds h, decide_eq_true (by rw [deps_pd ds h]; omega)⟩
theorem shaped_pd {d : D} (h : pur d = true) (hk : kdep d ≤ 64) : SeqAt.shaped (pd d) = true := by
  unfold SeqAt.shaped
  simp only [Bool.and_eq_true]
  exact ⟨lay_pd d h, decide_eq_true (by rw [dep_pd d h]; exact hk)⟩
/-- what stands at a label reads as a list -/
theorem rdd_list {S : Store} {l : Nat} {ds : List D} (hc : S.cell l = some (.lst ds)) (h : purs ds = true) : Rdd S (.list (pds ds)) (.ref l) := by
  simp only [Rdd]
  exact ⟨ds, .inr ⟨l, rfl, .inl hc⟩, rdds_pd ds h⟩
end M3
end

section
set_option autoImplicit false
set_option linter.all false
set_option maxRecDepth 100000
set_option maxHeartbeats 400000
namespace K17
open PySem M3
theorem pur_pr (p : Pr) : pur p.dec = true := by
  unfold Pr.dec
  simp only [pur, purs, Bool.true_and, Bool.and_true]
  exact purs_int p.b
theorem dep_pr (p : Pr) : kdep p.dec = 2 := by
  unfold Pr.dec
  simp [kdep, kdeps, kdeps_int]
theorem pur_prs (ps : List Pr) : purs (ps.map Pr.dec) = true := (purs_iff _).mpr fun d h => by
  obtain ⟨p, _, rfl⟩ := List.mem_map.mp h
  exact pur_pr p
theorem deps_prs (ps : List Pr) : kdeps (ps.map Pr.dec) ≤ 2 := kdeps_le _ _ fun d h => by
  obtain ⟨p, _, rfl⟩ := List.mem_map.mp h
  exact Nat.le_of_eq (dep_pr p)
theorem Nx.push {S : Store} {l : Nat} {s : LSt} {cs : List Int} (I : Inv s S l cs) (c : Cell) : Nx S (S.push c) l s s cs where
  nx := Nat.le_succ _
  same := fun m h _ => if_neg (Nat.ne_of_lt h)
  inv := ⟨(if_neg (Nat.ne_of_lt I.lb)).trans I.st, (if_neg (Nat.ne_of_lt I.cb)).trans I.ce, I.ne, Nat.lt_succ_of_lt I.lb, Nat.lt_succ_of_lt I.cb, I.at0, I.le0, I.mo0, I.mo1⟩
  aft := ⟨rfl, Nat.le_refl _, Int.le_refl _⟩
theorem Nx.putN {S S1 : Store} {l f : Nat} {s s1 : LSt} {cs : List Int} (I : Inv s S l cs) (X : Nx S S1 l s s1 cs) (h : S.nx ≤ f) (c : Cell) : Nx S (S1.put f c) l s s1 cs where
  nx := X.nx
  same := fun m hm k => (put_ne _ _ (by omega)).trans (X.same m hm k)
  inv := by
    have h1 : l ≠ f := by have := I.lb; omega
    have h2 : s1.c ≠ f := by have := I.cb; rw [X.aft.c]; omega
    exact ⟨(put_ne _ _ h1).trans X.inv.st, (put_ne _ _ h2).trans X.inv.ce, X.inv.ne, X.inv.lb, X.inv.cb, X.inv.at0, X.inv.le0, X.inv.mo0, X.inv.mo1⟩
  aft := X.aft
theorem c_pair {n : Nat} {E : Nat → M3.Env → Store → Prop} {σ : M3.Env} {S : Store} {l i : Nat} {s : LSt} {cs : List Int} {Q : Rz → Store → Prop} (I : Inv s S l cs) (v : σ[i]? = some (some (.ref l)))
    (q : ∀ (p : Pr) (s' : LSt) (S' : Store), p.b.length ≤ 9 → Nx S S' l s s' cs → Q (.val p.dec) S') : wpE (callD prg (n + 2)) E (.call 4 [.var i]) σ S Q := by
  simp only [wpE, wpEs, v, cv]
  exact callD_mono prg (n + 2) 4 _ S _ _ _ _ (fun d S' ⟨p, s', e, x, y⟩ => by rw [e]; exact q p s' S' x y) (fun _ _ h => h.elim) (pair_ok n I)
theorem ev_neNil {P : Prg} {n : Nat} {E : Nat → M3.Env → Store → Prop} {σ : M3.Env} {S : Store} {i f : Nat} {ps : List Pr} (v : σ[i]? = some (some (.ref f))) (h : S.cell f = some (.lst (ps.map Pr.dec))) : Ev P n E (.cmp .ne (.var i) (.lst [])) σ S (.val (.bl (!ps.isEmpty))) := ev_cmp (y := .lst []) (ev_var v) (fun Q q => by simp only [wpE, wpEs]; exact q) fun Q q => by
  refine ⟨.list (pds (ps.map Pr.dec)), .list [], rdd_list h (pur_prs ps), ⟨[], rfl, rfl⟩, shaped_list (pur_prs ps) (Nat.le_trans (deps_prs ps) (by decide)), by decide, ?_⟩
  cases ps <;> simpa [pds, PyData.eqv, PyData.eqvAll] using q
theorem w_idxc {P : Prg} {n : Nat} {E : Nat → M3.Env → Store → Prop} {σ : M3.Env} {S : Store} {Q : Rz → Store → Prop} {a b : CE} {x : Rz} (ha : Ev P n E a σ S x) (h : wpE (callD P n) E b σ S fun y S2 => idxZ x y S2 Q) : wpE (callD P n) E (.idx a b) σ S Q := by
  simp only [wpE]; exact ha _ h
theorem idx_r {f : Nat} {xs : List D} {r : Int} {S : Store} {Q : Rz → Store → Prop} {j : Nat} {d : D} (hc : S.cell f = some (.lst xs)) (hp : place xs.length r = some j) (hd : xs[j]? = some d) (h : Q (.val d) S) : idxZ (.val (.ref f)) (.val (.int r)) S Q := by
  simp only [idxZ, hc]
  exact ⟨r, j, d, rfl, hp, hd, h⟩
theorem w_append {P : Prg} {n : Nat} {E : Nat → M3.Env → Store → Prop} {σ : M3.Env} {S : Store} {Q : Rz → Store → Prop} {a b : CE} {f : Nat} {xs : List D} {d : D} (ha : Ev P n E a σ S (.val (.ref f))) (hb : Ev P n E b σ S (.val d)) (hc : S.cell f = some (.lst xs)) (hl : xs.length < Lim) (h : Q (.val .non) (S.put f (.lst (xs ++ [d])))) : wpE (callD P n) E (.mth .append a [b]) σ S Q := by
  simp only [wpE, wpEs]
  refine ha _ ⟨.lst, ⟨by simp [rcv, hc], rfl⟩, hb _ ?_⟩
  simp only [cv, mtZ, lstM, atLst, hc]
  exact ⟨hl, h⟩
theorem pairs_ok (n : Nat) {l : Nat} {s : LSt} {S : Store} {cs : List Int} (I : Inv s S l cs) :
    callD prg (n + 3) 6 [.ref l] S (fun d S' => ∃ (f : Nat) (ps : List Pr) (s' : LSt), d = .ref f ∧ ps.length ≤ 13 ∧ (∀ p ∈ ps, p.b.length ≤ 9) ∧ Nx S S' l s s' cs ∧ S.nx ≤ f ∧ f < S'.nx ∧ S'.cell f = some (.lst (ps.map Pr.dec)) ∧ (s.at_ < cs.length → mu s' cs < mu s cs)) fun _ _ => False := by
  refine call_same (F := c_law_pairs) rfl rfl ?_
  show wpSs _ _ c_law_pairs.body [some (.ref l), none, none, none] S _
  have X0 : Nx S (S.push (.lst [])) l s s cs := Nx.push I _
  have c0 : (S.push (.lst [])).cell S.nx = some (.lst []) := if_pos rfl
  refine w_asg (Nat.le_of_ble_eq_true rfl) ?_
  simp only [wpE, wpEs, cv, List.set_cons_zero, List.set_cons_succ]
  refine w_for (w_range (c_take X0.inv rfl ev_lit (by decide) (by decide) fun r s1 S1 r0 r1 X1 u1 => ⟨⟨by omega, by omega⟩, ?_⟩))
  have hlen : (iotaD 0 1 r.toNat).length ≤ 13 := by unfold iotaD; simp; omega
  have Y1 := X0.trans X1
  have c1 : S1.cell S.nx = some (.lst []) := (X1.same _ (Nat.lt_succ_self _) (by have := I.lb; omega)).trans c0
  have n1 : S.nx < S1.nx := X1.nx
  refine for_inv (fun k σ S2 => ∃ (ps : List Pr) (s2 : LSt) (a b : Option D), σ = [some (.ref l), some (.ref S.nx), a, b] ∧ ps.length ≤ k ∧ (∀ p ∈ ps, p.b.length ≤ 9) ∧ Nx S S2 l s s2 cs ∧ mu s2 cs ≤ mu s1 cs ∧ S.nx < S2.nx ∧ S2.cell S.nx = some (.lst (ps.map Pr.dec))) (fun _ _ _ _ => trivial) _ _ 0 _ S1 rfl ?_ ⟨[], s1, _, _, rfl, Nat.le_refl _, by simp, Y1, Nat.le_refl _, n1, c1⟩ ?_
  · rintro k x hx σ S2 R ⟨ps, s2, a, b, rfl, hp, hs, X2, m2, n2, c2⟩ hR
    have hk : k < 13 := by
      have := List.getElem?_eq_some_iff.mp hx
      obtain ⟨h, _⟩ := this
      exact Nat.lt_of_lt_of_le h hlen
    refine ⟨Nat.le_of_ble_eq_true rfl, ?_⟩
    simp only [List.set_cons_zero, List.set_cons_succ]
    have hne : S.nx ≠ l := by have := I.lb; omega
    refine w_asg (Nat.le_of_ble_eq_true rfl) (c_pair X2.inv rfl fun p s3 S3 hp3 X3 => ?_)
    simp only [cv, List.set_cons_zero, List.set_cons_succ]
    have c3 : S3.cell S.nx = some (.lst (ps.map Pr.dec)) := (X3.same _ n2 hne).trans c2
    have n3 : S.nx < S3.nx := Nat.lt_of_lt_of_le n2 X3.nx
    refine seqJ (fun σ' S4 => ∃ (p : Pr) (s4 : LSt), σ' = [some (.ref l), some (.ref S.nx), some x, some p.dec] ∧ p.b.length ≤ 9 ∧ Nx S S4 l s s4 cs ∧ mu s4 cs ≤ mu s1 cs ∧ S.nx < S4.nx ∧ S4.cell S.nx = some (.lst (ps.map Pr.dec))) (one (w_if (w_and (ev_neNil rfl c3) (fun he => ?_) fun _ => ?_))) ?_
    · refine w_cmp (c_take X3.inv rfl ev_lit (by decide) (by decide) fun t s4 S4 t0 t1 X4 _ => ev_lit _ ?_)
      have c4 : S4.cell S.nx = some (.lst (ps.map Pr.dec)) := (X4.same _ n3 hne).trans c3
      have n4 : S.nx < S4.nx := Nat.lt_of_lt_of_le n3 X4.nx
      simp only [cmpZ, truth]
      cases decide (t = 0) with
      | false =>
        simp only [wpSs]
        exact ⟨p, s4, rfl, hp3, (X2.trans X3).trans X4, Nat.le_trans X4.aft.le (Nat.le_trans X3.aft.le m2), n4, c4⟩
      | true =>
        have hpos : (0 : Int) < (ps.map Pr.dec).length := by
          cases ps with
          | nil => cases he
          | cons p ps => simp
        refine w_asg (Nat.le_of_ble_eq_true rfl) ?_
        refine w_idxc (ev_var rfl) (c_take X4.inv rfl (e_len c4 rfl) hpos (by simp at hpos ⊢; omega) fun t' s5 S5 t0' t1' X5 _ => ?_)
        have c5 : S5.cell S.nx = some (.lst (ps.map Pr.dec)) := (X5.same _ n4 hne).trans c4
        have n5 : S.nx < S5.nx := Nat.lt_of_lt_of_le n4 X5.nx
        have hj : t'.toNat < ps.length := by simp at t1'; omega
        refine idx_r c5 (place_nat t0' t1') (d := (ps[t'.toNat]).dec) (by simp [hj]) ?_
        simp only [cv, List.set_cons_zero, List.set_cons_succ]
        simp only [wpSs]
        exact ⟨_, s5, rfl, hs _ (List.getElem_mem hj), ((X2.trans X3).trans X4).trans X5, Nat.le_trans X5.aft.le (Nat.le_trans X4.aft.le (Nat.le_trans X3.aft.le m2)), n5, c5⟩
    · simp only [truth]
      simp only [wpSs]
      exact ⟨p, s3, rfl, hp3, X2.trans X3, Nat.le_trans X3.aft.le m2, n3, c3⟩
    · rintro σ' S4 ⟨p, s4, rfl, hp4, X4, m4, n4, c4⟩
      refine w_expr (w_append (ev_var rfl) (ev_var rfl) c4 (by show (ps.map Pr.dec).length < 16777216; simp; omega) (s_nil ?_))
      refine hR _ _ ⟨ps ++ [p], s4, _, _, rfl, by simp; omega, ?_, Nx.putN I X4 (Nat.le_refl _) _, m4, n4, by rw [put_same]; simp⟩
      intro p' h
      rcases List.mem_append.mp h with h | h
      · exact hs p' h
      · rw [List.mem_singleton.mp h]; exact hp4
  · rintro k' σ' S' h1 h2 ⟨ps, s2, a, b, rfl, hp, hs, X2, m2, n2, c2⟩
    have hk : k' ≤ 13 := Nat.le_trans h2 (Nat.max_le.mpr ⟨Nat.zero_le _, hlen⟩)
    refine s_ret (ev_var rfl) ⟨_, ps, s2, rfl, by omega, hs, X2, Nat.le_refl _, n2, c2, fun h => Nat.lt_of_le_of_lt m2 (u1 h)⟩
end K17
end

section
set_option autoImplicit false
set_option linter.all false
set_option maxRecDepth 100000
set_option maxHeartbeats 400000
namespace K17
open PySem M3
theorem w_walkE {P : Prg} {n : Nat} {E : Nat → M3.Env → Store → Prop} {σ : M3.Env} {S : Store} {a : CE} {x : Rz} {R : List D → (Store → Prop) → Store → Prop} (ha : Ev P n E a σ S x) (h : walkZ x S R) : wpI (callD P n) E (.e a) σ S R := by
  simp only [wpI]; exact ha _ h
theorem e_lenK {P : Prg} {n : Nat} {E : Nat → M3.Env → Store → Prop} {σ : M3.Env} {S : Store} {i : Nat} {xs : List D} (v : σ[i]? = some (some (.kl xs))) : Ev P n E (.bi .len [.var i]) σ S (.val (.int xs.length)) := ev_bi1 (x := .val (.kl xs)) (ev_var v) fun Q q => q
theorem e_abs {P : Prg} {n : Nat} {E : Nat → M3.Env → Store → Prop} {σ : M3.Env} {S : Store} {i : Nat} {z : Int} (v : σ[i]? = some (some (.int z))) : Ev P n E (.bi .abs [.var i]) σ S (.val (.int (if z < 0 then -z else z))) := ev_bi1 (x := .val (.int z)) (ev_var v) fun Q q => q
def absD : D → D
  | .int i => .int (if i < 0 then -i else i)
  | d => d
theorem begun_ok (n : Nat) {S : Store} {ns : List Int} (hl : ns.length ≤ 63) :
    callD prg (n + 1) 2 [.kl (ns.map .int)] S (fun d S' => ∃ (l : Nat) (s : LSt) (cs : List Int), d = .ref l ∧ Inv s S' l cs) fun _ _ => False := by
  refine call_same (F := c_law_begun) rfl rfl ?_
  show wpSs _ _ c_law_begun.body [some (.kl (ns.map .int)), none, none] S _
  have ho : ∃ own : Bool, Ev prg n (fun x _ S1 => False) (.and (.cmp .gt (.bi .len [(.var 0)]) (.lit (.int 0))) (.cmp .eq (.bin .mod (.idx (.var 0) (.lit (.int 0))) (.lit (.int 2))) (.lit (.int 0)))) [some (.kl (ns.map .int)), none, none] S (.val (.bl own)) := by
    cases ns with
    | nil =>
      refine ⟨false, ev_and (p := false) ?_ (fun h => by cases h) (fun _ => rfl)⟩
      have h := i_gt (P := prg) (n := n) (E := fun x _ S1 => False) (S := S) (e_lenK (σ := [some (.kl (List.map D.int [])), none, none]) (i := 0) rfl) (ev_lit (d := .int 0))
      exact h
    | cons z zs =>
      refine ⟨decide (z % 2 = 0), ev_and (p := true) ?_ (fun _ => i_eq (i_mod (ev_lget (xs := (z :: zs).map .int) (d := .int z) (ev_var rfl) ev_lit (.inr (.inl rfl)) (place_nat (Int.le_refl _) (by simp)) rfl) ev_lit (by decide)) ev_lit) (fun h => by cases h)⟩
      have h := i_gt (P := prg) (n := n) (E := fun x _ S1 => False) (S := S) (e_lenK (σ := [some (.kl ((z :: zs).map .int)), none, none]) (i := 0) rfl) (ev_lit (d := .int 0))
      have e : decide ((0 : Int) < ((List.map D.int (z :: zs)).length : Nat)) = true := decide_eq_true (by simp)
      rw [e] at h; exact h
  obtain ⟨own, ho⟩ := ho
  refine s_asg ho (Nat.le_of_ble_eq_true rfl) ?_
  simp only [List.set_cons_zero, List.set_cons_succ]
  refine w_ret ?_
  have hcomp : ∀ Q : Rz → Store → Prop, Q (.lst ((ns.map D.int).map absD)) S → wpE (callD prg n) (fun x _ S1 => False) (.cmpr (.bi .abs [(.var 2)]) (.v 2) (.e (.var 0)) [] [2]) [some (.kl (ns.map .int)), some (.bl own), none] S Q := by
    intro Q q
    refine w_cmpr (w_walkE (ev_var rfl) ?_) (Nat.le_of_ble_eq_true rfl)
    show compW _ _ _ _ _ _
    refine comp_map absD trivial _ [] ?_ (by show 0 + _ ≤ 16777216; simp; omega) (by simpa using q)
    intro x hx R hR
    obtain ⟨i, _, rfl⟩ := List.mem_map.mp hx
    exact e_abs rfl _ hR
  simp only [wpE, wpKV]
  simp only [wpE] at hcomp
  refine hcomp _ ?_
  simp only [cv]
  simp only [wpZs, wpE, List.getElem?_cons_zero, List.getElem?_cons_succ, biZ, lenZ, binZ, cv]
  refine ⟨_, ⟨S.nx, 0, 0, 0, 7 + ((ns.map D.int).length : Nat), own⟩, ns.map fun i => if i < 0 then -i else i, rfl, ?_⟩
  refine ⟨if_pos rfl, ?_, ?_, Nat.lt_succ_self _, ?_, Int.le_refl _, Int.le_refl _, ?_, ?_⟩
  · show (if S.nx = S.nx + 1 then _ else if S.nx = S.nx then _ else _) = _
    rw [if_neg (by omega), if_pos rfl, List.map_map, List.map_map]
    rfl
  · show S.nx ≠ S.nx + 1
    omega
  · show S.nx < S.nx + 1 + 1
    omega
  · show (0 : Int) ≤ 7 + ((ns.map D.int).length : Nat)
    omega
  · show (7 : Int) + ((ns.map D.int).length : Nat) < 2147483647
    rw [List.length_map]
    omega
end K17
end

section
set_option autoImplicit false
set_option linter.all false
set_option maxRecDepth 100000
/-! M3: counting in dicts. -/
namespace M3
open PySem
/-- things in the order in which they come first -/
def fd (ds : List D) : List D := ds.foldl (fun acc d => if d ∈ acc then acc else acc ++ [d]) []
theorem fd_snoc (ds : List D) (d : D) : fd (ds ++ [d]) = if d ∈ fd ds then fd ds else fd ds ++ [d] := by
  unfold fd; rw [List.foldl_append]; rfl
theorem snoc_ind {α : Type} {p : List α → Prop} (h0 : p []) (hs : ∀ l a, p l → p (l ++ [a])) (l : List α) : p l := by
  rw [← List.reverse_reverse l]
  induction l.reverse with
  | nil => exact h0
  | cons a t ih => rw [List.reverse_cons]; exact hs _ _ ih
theorem mem_fd (ds : List D) : ∀ x : D, x ∈ fd ds ↔ x ∈ ds := by
  refine snoc_ind (p := fun ds => ∀ x : D, x ∈ fd ds ↔ x ∈ ds) ?_ ?_ ds
  · intro x; simp [fd]
  · intro ds d ih x
    rw [fd_snoc]
    split
    · rename_i h
      rw [ih]
      constructor
      · intro h; simp [h]
      · intro h'
        rcases List.mem_append.mp h' with h' | h'
        · exact h'
        · rw [List.mem_singleton.mp h']; exact (ih d).mp h
    · simp [ih]
def tab (v : D → D) (ks : List D) : List (D × D) := ks.map fun k => (k, v k)
theorem dget_tab (v : D → D) (k : D) : ∀ ks : List D, dget k (tab v ks) = if k ∈ ks then some (v k) else none
  | [] => rfl
  | x :: ks => by
    have ih := dget_tab v k ks
    unfold dget tab at ih ⊢
    rw [List.map_cons, List.find?_cons]
    by_cases h : x = k
    · subst h; simp
    · have h' : k ≠ x := fun e => h e.symm
      simp only [h, decide_false]
      rw [ih]
      simp [h']
theorem dput_tab (v v' : D → D) (k : D) (ks : List D) (hv : ∀ x ∈ ks, x ≠ k → v' x = v x) : dput k (v' k) (tab v ks) = tab v' (if k ∈ ks then ks else ks ++ [k]) := by
  unfold dput
  rw [dget_tab]
  by_cases h : k ∈ ks
  · rw [if_pos h, if_pos h]
    simp only [Option.isSome_some, if_true]
    unfold tab
    rw [List.map_map]
    refine List.map_congr_left fun x hx => ?_
    show (if x = k then (x, v' k) else (x, v x)) = (x, v' x)
    by_cases e : x = k
    · rw [if_pos e, e]
    · rw [if_neg e, hv x hx e]
  · rw [if_neg h, if_neg h]
    simp only [Option.isSome_none, Bool.false_eq_true, if_false]
    unfold tab
    rw [List.map_append]
    show _ ++ [(k, v' k)] = _ ++ [(k, v' k)]
    refine congrArg (· ++ [(k, v' k)]) ?_
    refine List.map_congr_left fun x hx => ?_
    rw [hv x hx (fun e => h (e ▸ hx))]
/-- how often each comes -/
def cnt (ds : List D) : List (D × D) := tab (fun k => .int (ds.count k : Nat)) (fd ds)
theorem cnt_put (ds : List D) (d : D) : dput d (.int ((ds.count d : Nat) + 1)) (cnt ds) = cnt (ds ++ [d]) := by
  unfold cnt
  have h := dput_tab (fun k => .int (ds.count k : Nat)) (fun k => .int ((ds ++ [d]).count k : Nat)) d (fd ds) fun x _ hx => by
    simp only [D.int.injEq]
    rw [List.count_append]
    have : List.count x [d] = 0 := List.count_eq_zero.mpr (by simp [hx])
    omega
  rw [fd_snoc, ← h]
  congr 2
  rw [List.count_append]
  simp
theorem cnt_get (ds : List D) (d : D) : (dget d (cnt ds)).getD (.int 0) = .int (ds.count d : Nat) := by
  unfold cnt
  rw [dget_tab]
  by_cases h : d ∈ fd ds
  · rw [if_pos h]; rfl
  · rw [if_neg h]
    have : ds.count d = 0 := List.count_eq_zero.mpr fun h' => h ((mem_fd ds d).mpr h')
    rw [this]; rfl
theorem pairs_tab (v : D → D) : ∀ (ds pre : List D), ofPairs (ds.map fun d => .tup [d, v d]) (tab v (fd pre)) = some (tab v (fd (pre ++ ds)))
  | [], pre => by simp [ofPairs]
  | d :: ds, pre => by
    simp only [List.map_cons, ofPairs]
    rw [dput_tab v v d (fd pre) (fun _ _ _ => rfl), ← fd_snoc, pairs_tab v ds (pre ++ [d])]
    simp
theorem fd_len (ds : List D) : (fd ds).length ≤ ds.length := by
  refine snoc_ind (p := fun ds => (fd ds).length ≤ ds.length) ?_ ?_ ds
  · simp [fd]
  · intro ds d ih
    rw [fd_snoc]
    split <;> simp <;> omega
theorem fit_tab (v : D → D) (ks : List D) (d : D) (hk : ∀ k ∈ ks, isTupK k = true) (ht : isTupK d = true) (ho : keyOk d = true) (hd : kdep d ≤ 8) : keyFit (tab v ks) d = true := by
  cases d with
  | tup ds =>
    simp only [keyFit, Bool.and_eq_true]
    refine ⟨⟨by simpa [keyOk] using ho, decide_eq_true ?_⟩, ?_⟩
    · simp only [kdep] at hd; omega
    · unfold tab
      rw [List.all_map, List.all_eq_true]
      exact hk
  | _ => cases ht
end M3
end

section
set_option autoImplicit false
set_option linter.all false
set_option maxRecDepth 100000
set_option maxHeartbeats 400000
namespace K17
open PySem M3
theorem e_get2 {P : Prg} {n : Nat} {E : Nat → M3.Env → Store → Prop} {σ : M3.Env} {S : Store} {a b c : CE} {l : Nat} {kvs : List (D × D)} {k d : D} (ha : Ev P n E a σ S (.val (.ref l))) (hb : Ev P n E b σ S (.val k)) (hd : Ev P n E c σ S (.val d)) (hc : S.cell l = some (.dct kvs)) (hk : keyFit kvs k = true) : Ev P n E (.mth .get2 a [b, c]) σ S (.val ((dget k kvs).getD d)) := fun Q q => by
  simp only [wpE, wpEs]
  refine ha _ ⟨.dct, ⟨by simp [rcv, hc], rfl⟩, hb _ ?_⟩
  simp only [cv]
  refine hd _ ?_
  simp only [cv, mtZ, dctM, asDct, hc]
  exact ⟨hk, q⟩
theorem put_ok (n : Nat) {l : Nat} {d : D} {c : Nat} {kvs : List (D × D)} {S : Store} (hc : S.cell l = some (.dct kvs)) (hk : keyFit kvs d = true) (hg : (dget d kvs).getD (.int 0) = .int (c : Nat)) (hl : kvs.length < Lim) :
    callD prg (n + 1) 0 [.ref l, d, .int 1] S (fun d' S' => d' = .non ∧ S' = S.put l (.dct (dput d (.int ((c : Nat) + 1)) kvs))) fun _ _ => False := by
  refine call_same (F := cput_to) rfl rfl ?_
  show wpSs _ _ cput_to.body [some (.ref l), some d, some (.int 1), none] S _
  have h := e_get2 (P := prg) (n := n) (E := fun x _ S1 => False) (σ := [some (.ref l), some d, some (.int 1), none]) (a := .var 0) (b := .var 1) (c := .lit (.int 0)) (ev_var rfl) (ev_var rfl) ev_lit hc hk
  rw [hg] at h
  refine s_asg (i_add h (ev_var rfl)) (Nat.le_of_ble_eq_true rfl) ?_
  simp only [List.set_cons_zero, List.set_cons_succ]
  refine s_if (i_ne (ev_var rfl) ev_lit) (fun _ => ?_) (fun h => ?_)
  · refine s_dset (ev_var rfl) (ev_var rfl) (ev_var rfl) hc hk hl ?_
    simp only [wpSs]
    exact ⟨trivial, trivial⟩
  · exfalso
    have : decide ((c : Int) + 1 = 0) = true := by simpa using h
    have := of_decide_eq_true this
    omega
def okKey (d : D) : Prop := isTupK d = true ∧ keyOk d = true ∧ kdep d ≤ 8
theorem fit_cnt {ds : List D} {d : D} (h : ∀ x ∈ ds, okKey x) (hd : okKey d) : keyFit (cnt ds) d = true := fit_tab _ _ _ (fun k hk => (h k ((mem_fd ds k).mp hk)).1) hd.1 hd.2.1 hd.2.2
theorem len_cnt (ds : List D) : (cnt ds).length ≤ ds.length := by
  unfold cnt tab
  rw [List.length_map]; exact fd_len ds
theorem bag_ok (n : Nat) {f : Nat} {ds : List D} {S : Store} (hc : S.cell f = some (.lst ds)) (hf : f < S.nx) (hk : ∀ x ∈ ds, okKey x) (hl : ds.length < Lim) :
    callD prg (n + 2) 1 [.ref f] S (fun d S' => d = .ref S.nx ∧ S'.nx = S.nx + 1 ∧ (∀ m, m < S.nx → S'.cell m = S.cell m) ∧ S'.cell S.nx = some (.dct (cnt ds))) fun _ _ => False := by
  refine call_same (F := cbag_of) rfl rfl ?_
  show wpSs _ _ cbag_of.body [some (.ref f), none, none] S _
  refine w_asg (Nat.le_of_ble_eq_true rfl) ?_
  simp only [wpE, wpKV, cv, List.set_cons_zero, List.set_cons_succ]
  have c0 : (S.push (.dct [])).cell f = some (.lst ds) := (if_neg (Nat.ne_of_lt hf)).trans hc
  refine w_for (w_walkE (ev_var rfl) ?_)
  simp only [walkZ, c0]
  refine for_inv (fun k σ S2 => ∃ a : Option D, σ = [some (.ref f), some (.ref S.nx), a] ∧ S2.nx = S.nx + 1 ∧ (∀ m, m < S.nx → S2.cell m = S.cell m) ∧ S2.cell S.nx = some (.dct (cnt (ds.take k)))) ?_ ds ds 0 _ _ rfl ?_ ⟨none, rfl, rfl, fun m h => if_neg (Nat.ne_of_lt h), if_pos rfl⟩ ?_
  · rintro k σ S2 ⟨a, rfl, n2, s2, c2⟩
    exact (s2 f hf).trans hc
  · rintro k x hx σ S2 R ⟨a, rfl, n2, s2, c2⟩ hR
    obtain ⟨hk', ex⟩ := List.getElem?_eq_some_iff.mp hx
    have hxm : x ∈ ds := ex ▸ List.getElem_mem hk'
    refine ⟨Nat.le_of_ble_eq_true rfl, ?_⟩
    simp only [List.set_cons_zero, List.set_cons_succ]
    refine w_expr ?_
    simp only [wpE, wpEs, cv, List.getElem?_cons_zero, List.getElem?_cons_succ]
    have ht : ∀ y ∈ ds.take k, okKey y := fun y hy => hk y (List.mem_of_mem_take hy)
    refine callD_mono prg (n + 1) 0 _ S2 _ _ _ _ ?_ (fun _ _ h => h.elim) (put_ok n c2 (fit_cnt ht (hk x hxm)) (cnt_get _ _) (by
      have := len_cnt (ds.take k)
      have h2 : (ds.take k).length ≤ ds.length := by rw [List.length_take]; omega
      omega))
    rintro d' S' ⟨rfl, rfl⟩
    simp only [wpSs]
    refine hR _ _ ⟨_, rfl, n2, fun m h => (put_ne _ _ (by omega)).trans (s2 m h), ?_⟩
    rw [put_same, cnt_put, List.take_succ, hx]
    rfl
  · rintro k' σ' S' h1 h2 ⟨a, rfl, n2, s2, c2⟩
    rw [List.take_of_length_le h1] at c2
    exact s_ret (ev_var rfl) ⟨rfl, n2, s2, c2⟩
end K17
end

section
set_option autoImplicit false
set_option linter.all false
set_option maxRecDepth 100000
set_option maxHeartbeats 400000
namespace K17
open PySem M3
section
variable {P : Prg} {n : Nat} {E : Nat → M3.Env → Store → Prop} {σ : M3.Env} {S : Store}
/-- isinstance of what has a class -/
theorem e_isi {a : CE} {ts : List Ty} {d : D} {t : Ty} (ha : Ev P n E a σ S (.val d)) (hd : d ≠ .non) (ht : tyZ S (.val d) = some t) : Ev P n E (.isi a ts) σ S (.val (.bl (ts.any (isTy t)))) := fun Q q => by
  simp only [wpE]
  refine ha _ ?_
  unfold isiZ
  split
  · rename_i h; exact absurd (by injection h) hd
  · rw [ht]; exact q
theorem b_eq {a b : CE} {i j : Bool} (ha : Ev P n E a σ S (.val (.bl i))) (hb : Ev P n E b σ S (.val (.bl j))) : Ev P n E (.cmp .eq a b) σ S (.val (.bl (decide (i = j)))) := ev_cmp ha hb fun _ q => q
theorem b_ne {a b : CE} {i j : Bool} (ha : Ev P n E a σ S (.val (.bl i))) (hb : Ev P n E b σ S (.val (.bl j))) : Ev P n E (.cmp .ne a b) σ S (.val (.bl (!decide (i = j)))) := ev_cmp ha hb fun _ q => q
end
theorem w_call2 {P : Prg} {n f : Nat} {E : Nat → M3.Env → Store → Prop} {σ : M3.Env} {S : Store} {Q : Rz → Store → Prop} {a b : CE} {x y : D} (ha : Ev P n E a σ S (.val x)) (hb : Ev P n E b σ S (.val y)) (h : callD P n f [x, y] S (fun d S2 => Q (.val d) S2) (fun x S2 => E x σ S2)) : wpE (callD P n) E (.call f [a, b]) σ S Q := by
  simp only [wpE, wpEs]
  refine ha _ ?_
  simp only [cv]
  refine hb _ ?_
  simp only [cv]
  exact h
/-- two things that alike walks side by side -/
def Row (S : Store) (d : D) (ds : List D) (t : Ty) : Prop := (d = .tup ds ∧ t = .tuple) ∨ ∃ l, d = .ref l ∧ S.cell l = some (.lst ds) ∧ t = .list
theorem Row.ty {S : Store} {d : D} {ds : List D} {t : Ty} (h : Row S d ds t) : d ≠ .non ∧ tyZ S (.val d) = some t := by
  rcases h with ⟨rfl, rfl⟩ | ⟨l, rfl, h, rfl⟩
  · exact ⟨by simp, rfl⟩
  · exact ⟨by simp, by simp [tyZ, h]⟩
theorem Row.tys {S : Store} {d : D} {ds : List D} {t : Ty} (h : Row S d ds t) : t = .tuple ∨ t = .list := by
  rcases h with ⟨_, rfl⟩ | ⟨_, _, _, rfl⟩
  · exact .inl rfl
  · exact .inr rfl
theorem Row.len {P : Prg} {n : Nat} {E : Nat → M3.Env → Store → Prop} {σ : M3.Env} {S : Store} {d : D} {ds : List D} {t : Ty} (h : Row S d ds t) {i : Nat} (v : σ[i]? = some (some d)) : Ev P n E (.bi .len [.var i]) σ S (.val (.int ds.length)) := by
  rcases h with ⟨rfl, rfl⟩ | ⟨l, rfl, h, rfl⟩
  · exact ev_bi1 (x := .val (.tup ds)) (ev_var v) fun Q q => q
  · exact e_len h v
theorem Row.get {P : Prg} {n : Nat} {E : Nat → M3.Env → Store → Prop} {σ : M3.Env} {S : Store} {d : D} {ds : List D} {t : Ty} (h : Row S d ds t) {i : Nat} {b : CE} {k : Int} {j : Nat} {x : D} (v : σ[i]? = some (some d)) (hb : Ev P n E b σ S (.val (.int k))) (hp : place ds.length k = some j) (hx : ds[j]? = some x) : Ev P n E (.idx (.var i) b) σ S (.val x) := by
  rcases h with ⟨rfl, rfl⟩ | ⟨l, rfl, h, rfl⟩
  · exact ev_lget (ev_var v) hb (.inr (.inr (.inl rfl))) hp hx
  · exact ev_lget (ev_var v) hb (.inr (.inr (.inr ⟨l, rfl, h⟩))) hp hx
theorem row_ok (n : Nat) {S : Store} {d e : D} {ds : List D} {t : Ty} (hd : Row S d ds t) (he : Row S e ds t) (hl : ds.length ≤ 1000) (hx : ∀ x ∈ ds, callD prg n 5 [x, x] S (fun r S' => r = .bl true ∧ S' = S) fun _ _ => False) :
    callD prg (n + 1) 5 [d, e] S (fun r S' => r = .bl true ∧ S' = S) fun _ _ => False := by
  refine call_same (F := c_law_alike) rfl rfl ?_
  show wpSs _ _ c_law_alike.body [some d, some e, none] S _
  refine s_if (p := false) ?_ (fun h => by cases h) fun _ => ?_
  · have := e_isi (P := prg) (n := n) (E := fun x _ S1 => False) (σ := [some d, some e, none]) (a := .var 1) (ts := [.dict]) (ev_var rfl) he.ty.1 he.ty.2
    rcases hd.tys with rfl | rfl <;> exact this
  · refine s_nil ?_
    refine s_if (p := true) ?_ (fun _ => ?_) fun h => by cases h
    · have := e_isi (P := prg) (n := n) (E := fun x _ S1 => False) (σ := [some d, some e, none]) (a := .var 1) (ts := [.tuple, .list]) (ev_var rfl) he.ty.1 he.ty.2
      rcases hd.tys with rfl | rfl <;> exact this
    · have ii : ∀ (i : Nat) (x : D) (T : Ty), ([some d, some e, none] : M3.Env)[i]? = some (some x) → Row S x ds t → Ev prg n (fun x _ S1 => False) (.isi (.var i) [T]) [some d, some e, none] S (.val (.bl ([T].any (isTy t)))) := fun i x T v h => e_isi (ev_var v) h.ty.1 h.ty.2
      have nn : ∀ T : Ty, Ev prg n (fun x _ S1 => False) (.cmp .ne (.isi (.var 0) [T]) (.isi (.var 1) [T])) [some d, some e, none] S (.val (.bl false)) := fun T => by
        have := b_ne (ii 0 d T rfl hd) (ii 1 e T rfl he)
        simpa using this
      refine s_if (p := false) (ev_or (nn .tuple) (fun _ => nn .list) (fun h => by cases h)) (fun h => by cases h) fun _ => ?_
      refine s_nil ?_
      have ll : Ev prg n (fun x _ S1 => False) (.cmp .eq (.bi .len [.var 0]) (.bi .len [.var 1])) [some d, some e, none] S (.val (.bl true)) := by
        have := i_eq (hd.len (P := prg) (n := n) (E := fun x _ S1 => False) (σ := [some d, some e, none]) (i := 0) rfl) (he.len (i := 1) rfl)
        simpa using this
      refine w_ret (w_and ll (fun _ => w_bi1 (w_cmpr (e_range (he.len rfl) (by omega) (by omega) ?_) (Nat.le_of_ble_eq_true rfl))) fun h => by cases h)
      rw [Int.toNat_natCast]
      refine comp_map (fun _ => .bl true) trivial _ [] ?_ (by show 0 + _ ≤ 16777216; simp [iotaD]; omega) ?_
      · intro x hx' R hR
        unfold iotaD at hx'
        obtain ⟨k, hk, rfl⟩ := List.mem_map.mp hx'
        have hk := List.mem_range.mp hk
        have hpl : place ds.length (0 + (k : Int) * 1) = some k := by
          have := place_nat (m := ds.length) (i := 0 + (k : Int) * 1) (by omega) (by omega)
          rw [this]; congr 1; omega
        have g0 := hd.get (P := prg) (n := n) (E := fun _ _ _ => False) (σ := [some d, some e, some (.int (0 + (k : Int) * 1))]) (i := 0) (b := .var 2) rfl (ev_var rfl) hpl (List.getElem?_eq_getElem hk)
        have g1 := he.get (P := prg) (n := n) (E := fun _ _ _ => False) (σ := [some d, some e, some (.int (0 + (k : Int) * 1))]) (i := 1) (b := .var 2) rfl (ev_var rfl) hpl (List.getElem?_eq_getElem hk)
        refine w_call2 g0 g1 ?_
        refine callD_mono prg n 5 _ S _ _ _ _ ?_ (fun _ _ h => h.elim) (hx _ (List.getElem_mem hk))
        rintro r S' ⟨rfl, rfl⟩
        exact hR
      · show ∃ bs : List Bool, _ ∧ _
        refine ⟨List.replicate ds.length true, ?_, ?_⟩
        · simp [iotaD]
          rw [List.eq_replicate_iff]
          simp
        · simp only [cv]
          exact ⟨by simp, trivial⟩
end K17
end

section
set_option autoImplicit false
set_option linter.all false
set_option maxRecDepth 100000
set_option maxHeartbeats 400000
namespace K17
open PySem M3
theorem int_ok (n : Nat) (S : Store) (i : Int) : callD prg (n + 1) 5 [.int i, .int i] S (fun r S' => r = .bl true ∧ S' = S) fun _ _ => False := by
  refine call_same (F := c_law_alike) rfl rfl ?_
  show wpSs _ _ c_law_alike.body [some (.int i), some (.int i), none] S _
  have ii : ∀ (j : Nat) (ts : List Ty), ([some (.int i), some (.int i), none] : M3.Env)[j]? = some (some (.int i)) → Ev prg n (fun x _ S1 => False) (.isi (.var j) ts) [some (.int i), some (.int i), none] S (.val (.bl (ts.any (isTy .int)))) := fun j ts v => e_isi (ev_var v) (by simp) rfl
  refine s_if (p := false) (ii 1 [.dict] rfl) (fun h => by cases h) fun _ => ?_
  refine s_nil ?_
  refine s_if (p := false) (ii 1 [.tuple, .list] rfl) (fun h => by cases h) fun _ => ?_
  refine s_nil ?_
  have q := i_eq (P := prg) (n := n) (E := fun x _ S1 => False) (S := S) (σ := [some (.int i), some (.int i), none]) (a := .var 0) (b := .var 1) (i := i) (j := i) (ev_var rfl) (ev_var rfl)
  rw [decide_eq_true (rfl : i = i)] at q
  exact s_ret (ev_and (p := true) (b_eq (ii 0 [.bool] rfl) (ii 1 [.bool] rfl)) (fun _ => q) (fun h => by cases h)) ⟨rfl, rfl⟩
def itOk : Nat → D → Prop
  | 0, d => ∃ i, d = .int i
  | n + 1, d => (∃ i, d = .int i) ∨ ∃ ds, d = .tup ds ∧ ds.length ≤ 1000 ∧ ∀ x ∈ ds, itOk n x
theorem it_ok : ∀ (n : Nat) (d : D), itOk n d → ∀ (m : Nat) (S : Store), n ≤ m → callD prg (m + 1) 5 [d, d] S (fun r S' => r = .bl true ∧ S' = S) fun _ _ => False
  | 0, d, ⟨i, e⟩, m, S, _ => by rw [e]; exact int_ok m S i
  | n + 1, d, .inl ⟨i, e⟩, m, S, _ => by rw [e]; exact int_ok m S i
  | n + 1, d, .inr ⟨ds, e, hl, hx⟩, m, S, h => by
    obtain ⟨k, rfl⟩ : ∃ k, m = k + 1 := ⟨m - 1, by omega⟩
    rw [e]
    exact row_ok (k + 1) (.inl ⟨rfl, rfl⟩) (.inl ⟨rfl, rfl⟩) hl fun x hx' => it_ok n x (hx x hx') k S (by omega)
theorem it_pr (p : Pr) (h : p.b.length ≤ 9) : itOk 2 p.dec := by
  refine .inr ⟨_, rfl, by show 2 ≤ 1000; omega, fun x hx => ?_⟩
  simp at hx
  rcases hx with rfl | rfl
  · exact .inl ⟨_, rfl⟩
  · refine .inr ⟨_, rfl, by rw [List.length_map]; omega, fun y hy => ?_⟩
    obtain ⟨i, _, rfl⟩ := List.mem_map.mp hy
    exact ⟨i, rfl⟩
/-- an item of the tables -/
structure ItemOk (x : D) : Prop where
  it : itOk 3 x
  shape : ∃ (p : Pr) (c : Int), x = .tup [p.dec, .int c]
theorem alike_ints : ∀ a b : List Int, PySem.W.alikeAll (pds (a.map .int)) (pds (b.map .int)) = true
  | [], _ => by simp [pds, PySem.W.alikeAll]
  | _ :: _, [] => by simp [pds, PySem.W.alikeAll]
  | x :: a, y :: b => by
    simp only [List.map_cons, pds, pd, PySem.W.alikeAll, PySem.W.alike, Bool.true_and]
    exact alike_ints a b
theorem item_alike {x y : D} (hx : ItemOk x) (hy : ItemOk y) : PySem.W.alike (pd x) (pd y) = true := by
  obtain ⟨p, c, rfl⟩ := hx.shape
  obtain ⟨q, e, rfl⟩ := hy.shape
  simp [pd, pds, Pr.dec, PySem.W.alike, PySem.W.alikeAll, alike_ints]
theorem item_pur {x : D} (hx : ItemOk x) : pur x = true := by
  obtain ⟨p, c, rfl⟩ := hx.shape
  simp [pur, purs, pur_pr]
theorem item_dep {x : D} (hx : ItemOk x) : kdep x = 3 := by
  obtain ⟨p, c, rfl⟩ := hx.shape
  simp [kdep, kdeps, dep_pr]
theorem sort_items {items : List D} {S : Store} {Q : Rz → Store → Prop} (h : ∀ x ∈ items, ItemOk x) (hl : items.length ≤ Lim) (q : Q (.lst (items.mergeSort (PySem.W.dataLe false pd))) S) : sortW items S Q := by
  refine ⟨D, items, id, pd, by simp, fun b hb => rdd_pd b (item_pur (h b hb)), ?_, .inl ?_, hl, fun b hb => ?_, by simpa using q⟩
  · intro d hd d' hd'
    obtain ⟨x, hx, rfl⟩ := List.mem_map.mp hd
    obtain ⟨y, hy, rfl⟩ := List.mem_map.mp hd'
    exact item_alike (h x hx) (h y hy)
  · intro d hd
    obtain ⟨x, hx, rfl⟩ := List.mem_map.mp hd
    obtain ⟨p, c, rfl⟩ := (h x hx).shape
    exact ⟨pd p.dec, [.int c], by simp [pd, pds]⟩
  · rw [dep_pd b (item_pur (h b hb)), item_dep (h b hb)]; omega
end K17
end

section
set_option autoImplicit false
set_option linter.all false
set_option maxRecDepth 100000
set_option maxHeartbeats 400000
namespace K17
open PySem M3
theorem e_lenD {P : Prg} {n : Nat} {E : Nat → M3.Env → Store → Prop} {σ : M3.Env} {S : Store} {i c : Nat} {kvs : List (D × D)} (h : S.cell c = some (.dct kvs)) (v : σ[i]? = some (some (.ref c))) : Ev P n E (.bi .len [.var i]) σ S (.val (.int kvs.length)) := ev_bi1 (x := .val (.ref c)) (ev_var v) fun Q q => by
  simp only [biZ, lenZ, h]; exact q
theorem w_sorted {P : Prg} {n : Nat} {E : Nat → M3.Env → Store → Prop} {σ : M3.Env} {S : Store} {Q : Rz → Store → Prop} {i c : Nat} {kvs : List (D × D)} (h : S.cell c = some (.dct kvs)) (v : σ[i]? = some (some (.ref c))) (hk : ∀ x ∈ kvs.map (fun p => D.tup [p.1, p.2]), ItemOk x) (hl : kvs.length ≤ Lim)
    (q : Q (.lst ((kvs.map fun p => D.tup [p.1, p.2]).mergeSort (PySem.W.dataLe false pd))) S) : wpE (callD P n) E (.bii .sorted (.items (.var i))) σ S Q := by
  simp only [wpE, wpI, v, h]
  exact sort_items hk (by rw [List.length_map]; exact hl) q
theorem w_callW {P : Prg} {n f : Nat} {E : Nat → M3.Env → Store → Prop} {σ : M3.Env} {S : Store} {Q : Rz → Store → Prop} {a b : CE} (h : wpE (callD P n) E a σ S (cv fun x S1 => wpE (callD P n) E b σ S1 (cv fun y S2 => callD P n f [x, y] S2 (fun d S3 => Q (.val d) S3) (fun x S3 => E x σ S3)))) : wpE (callD P n) E (.call f [a, b]) σ S Q := by
  simp only [wpE, wpEs]; exact h
theorem dict_ok (m : Nat) (hm : 3 ≤ m) {S : Store} {a b : Nat} {kvs : List (D × D)} (ha : S.cell a = some (.dct kvs)) (hb : S.cell b = some (.dct kvs)) (hbn : b < S.nx) (hk : ∀ x ∈ kvs.map (fun p => D.tup [p.1, p.2]), ItemOk x) (hl : kvs.length ≤ 1000) :
    callD prg (m + 3) 5 [.ref a, .ref b] S (fun r S' => r = .bl true ∧ S.nx ≤ S'.nx ∧ ∀ l, l < S.nx → S'.cell l = S.cell l) fun _ _ => False := by
  refine call_same (F := c_law_alike) rfl rfl ?_
  show wpSs _ _ c_law_alike.body [some (.ref a), some (.ref b), none] S _
  have ta : tyZ S (.val (.ref a)) = some .dict := by simp [tyZ, ha]
  have tb : tyZ S (.val (.ref b)) = some .dict := by simp [tyZ, hb]
  refine s_if (p := true) (e_isi (ts := [.dict]) (ev_var rfl) (by simp) tb) (fun _ => ?_) fun h => by cases h
  have nl : Ev prg (m + 2) (fun x _ S1 => False) (.cmp .ne (.bi .len [.var 0]) (.bi .len [.var 1])) [some (.ref a), some (.ref b), none] S (.val (.bl false)) := by
    have := i_ne (P := prg) (n := m + 2) (E := fun x _ S1 => False) (e_lenD (σ := [some (.ref a), some (.ref b), none]) (i := 0) ha rfl) (e_lenD (i := 1) hb rfl)
    simpa using this
  refine s_if (p := false) (ev_or (p := false) (ev_not (e_isi (ts := [.dict]) (ev_var rfl) (by simp) ta)) (fun _ => nl) (fun h => by cases h)) (fun h => by cases h) fun _ => ?_
  refine s_nil ?_
  refine w_ret ?_
  refine w_callW (w_sorted ha rfl hk (by show kvs.length ≤ 16777216; omega) ?_)
  simp only [cv]
  generalize hs : (kvs.map fun p => D.tup [p.1, p.2]).mergeSort (PySem.W.dataLe false pd) = xs
  have hx : ∀ x ∈ xs, ItemOk x := fun x hx => hk x (by rw [← hs] at hx; exact (List.mergeSort_perm _ _).mem_iff.mp hx)
  have hlx : xs.length ≤ 1000 := by rw [← hs, List.length_mergeSort, List.length_map]; exact hl
  refine w_sorted (c := b) (kvs := kvs) ((if_neg (Nat.ne_of_lt hbn)).trans hb) rfl hk (by show kvs.length ≤ 16777216; omega) ?_
  rw [hs]
  simp only [cv]
  refine callD_mono prg (m + 2) 5 _ _ _ _ _ _ ?_ (fun _ _ h => h.elim) (row_ok (m + 1) (ds := xs) (t := .list) (.inr ⟨_, rfl, ?_, rfl⟩) (.inr ⟨_, rfl, if_pos rfl, rfl⟩) hlx fun x h => it_ok 3 x (hx x h).it m _ hm)
  · rintro r S' ⟨rfl, rfl⟩
    refine ⟨rfl, by show S.nx ≤ S.nx + 1 + 1; omega, fun l hl => ?_⟩
    show (if l = S.nx + 1 then _ else if l = S.nx then _ else S.cell l) = _
    rw [if_neg (by omega), if_neg (by omega)]
  · show (if S.nx = S.nx + 1 then _ else if S.nx = S.nx then _ else S.cell _) = _
    rw [if_neg (by omega), if_pos rfl]
end K17
end

section
set_option autoImplicit false
set_option linter.all false
set_option maxRecDepth 100000
set_option maxHeartbeats 400000
namespace K17
open PySem M3
/-- what was is as it was -/
structure Ex (S S' : Store) : Prop where
  nx : S.nx ≤ S'.nx
  same : ∀ m, m < S.nx → S'.cell m = S.cell m
theorem Ex.trans {S S1 S2 : Store} (a : Ex S S1) (b : Ex S1 S2) : Ex S S2 := ⟨Nat.le_trans a.nx b.nx, fun m h => (b.same m (Nat.lt_of_lt_of_le h a.nx)).trans (a.same m h)⟩
theorem Ex.push (S : Store) (c : Cell) : Ex S (S.push c) := ⟨Nat.le_succ _, fun m h => if_neg (Nat.ne_of_lt h)⟩
theorem Ex.inv {S S' : Store} {l : Nat} {s : LSt} {cs : List Int} (X : Ex S S') (I : Inv s S l cs) : Inv s S' l cs := ⟨(X.same _ I.lb).trans I.st, (X.same _ I.cb).trans I.ce, I.ne, Nat.lt_of_lt_of_le I.lb X.nx, Nat.lt_of_lt_of_le I.cb X.nx, I.at0, I.le0, I.mo0, I.mo1⟩
theorem plain_pds : ∀ ds : List D, purs ds = true → PyData.plainAll (pds ds) = true := fun ds h => PyData.plainAll_of_canLay0 _ (lays_pd ds h)
theorem count_pd (d : D) (hd : pur d = true) : ∀ ds : List D, purs ds = true → (pds ds).countP (fun q => PyData.eqv q (pd d)) = ds.count d
  | [], _ => rfl
  | x :: ds, h => by
    simp only [purs, Bool.and_eq_true] at h
    simp only [pds, List.countP_cons, List.count_cons]
    rw [count_pd d hd ds h.2, eqv_pd x d h.1 hd]
    congr 1
theorem e_count {P : Prg} {n : Nat} {E : Nat → M3.Env → Store → Prop} {σ : M3.Env} {S : Store} {a b : CE} {f : Nat} {ds : List D} {d : D} (ha : Ev P n E a σ S (.val (.ref f))) (hb : Ev P n E b σ S (.val d)) (hc : S.cell f = some (.lst ds)) (h : purs ds = true) (hd : pur d = true) (hk : kdep d ≤ 60) : Ev P n E (.mth .count a [b]) σ S (.val (.int (ds.count d : Nat))) := fun Q q => by
  simp only [wpE, wpEs]
  refine ha _ ⟨.lst, ⟨by simp [rcv, hc], rfl⟩, hb _ ?_⟩
  simp only [cv, mtZ, lstM, asL, hc]
  exact ⟨pds ds, pd d, rdds_pd ds h, rdd_pd d hd, plain_pds ds h, PyData.plain_of_canLay0 _ (lay_pd d hd), by rw [dep_pd d hd]; exact hk, by rw [count_pd d hd ds h]; exact q⟩
theorem e_neSame {P : Prg} {n : Nat} {E : Nat → M3.Env → Store → Prop} {σ : M3.Env} {S : Store} {a b : CE} {f g : Nat} {ds : List D} (ha : Ev P n E a σ S (.val (.ref f))) (hb : Ev P n E b σ S (.val (.ref g))) (hf : S.cell f = some (.lst ds)) (hg : S.cell g = some (.lst ds)) (h : purs ds = true) (hk : kdeps ds ≤ 63) : Ev P n E (.cmp .ne a b) σ S (.val (.bl false)) := ev_cmp ha hb fun Q q => by
  refine ⟨.list (pds ds), .list (pds ds), rdd_list hf h, rdd_list hg h, shaped_list h hk, shaped_list h hk, ?_⟩
  have : PyData.eqv (.list (pds ds)) (.list (pds ds)) = true := by
    simp only [PyData.eqv]
    rw [eqvs_pd ds ds h h]; simp
  rw [this]; exact q
theorem pairKeys_ok (v : D → D) : ∀ ds : List D, (∀ x ∈ ds, okKey x) → pairKeys (fun k => isTupK k && keyOk k && decide (kdep k ≤ 8)) (ds.map fun d => .tup [d, v d]) = true
  | [], _ => rfl
  | d :: ds, h => by
    simp only [List.map_cons, pairKeys, Bool.and_eq_true]
    have := h d (List.mem_cons_self ..)
    exact ⟨⟨⟨this.1, this.2.1⟩, decide_eq_true this.2.2⟩, pairKeys_ok v ds fun x hx => h x (List.mem_cons_of_mem _ hx)⟩
theorem keyOks_int : ∀ is : List Int, keyOks (is.map .int) = true
  | [] => rfl
  | i :: is => by simp [keyOks, keyOk, keyOks_int is]
theorem okKey_pr (p : Pr) : okKey p.dec := ⟨rfl, by simp [Pr.dec, keyOk, keyOks, keyOks_int], by rw [dep_pr]; omega⟩
theorem items_cnt (ps : List Pr) (h : ∀ p ∈ ps, p.b.length ≤ 9) : ∀ x ∈ (cnt (ps.map Pr.dec)).map (fun p => D.tup [p.1, p.2]), ItemOk x := by
  intro x hx
  unfold cnt tab at hx
  rw [List.map_map] at hx
  obtain ⟨k, hk, rfl⟩ := List.mem_map.mp hx
  have hk := (mem_fd _ _).mp hk
  obtain ⟨p, hp, rfl⟩ := List.mem_map.mp hk
  refine ⟨.inr ⟨_, rfl, by show 2 ≤ 1000; omega, fun y hy => ?_⟩, p, _, rfl⟩
  simp at hy
  rcases hy with rfl | rfl
  · exact it_pr p (h p hp)
  · exact .inl ⟨_, rfl⟩
theorem w_due {P : Prg} {n : Nat} {E : Nat → M3.Env → Store → Prop} {σ : M3.Env} {S : Store} {f : Nat} {ps : List Pr} {Q : Rz → Store → Prop} (v : σ[3]? = some (some (.ref f))) (hs : σ.length = 8) (hc : S.cell f = some (.lst (ps.map Pr.dec))) (hl : ps.length ≤ 13)
    (q : Q (.dct (cnt (ps.map Pr.dec))) S) : wpE (callD P n) E (.bi .dict [.cmpr (.tup [.var 7, .mth .count (.var 3) [.var 7]]) (.v 7) (.e (.var 3)) [] [7]]) σ S Q := by
  refine w_bi1 (w_cmpr (w_walkE (ev_var v) ?_) (by simp [wipeD]; omega))
  simp only [walkZ, hc]
  refine comp_map (fun d => .tup [d, .int ((ps.map Pr.dec).count d : Nat)]) hc _ [] ?_ (by show 0 + _ ≤ 16777216; simp; omega) ?_
  · intro x hx R hR
    obtain ⟨p, hp, rfl⟩ := List.mem_map.mp hx
    have v7 : ((wipeD [7] σ).set 7 (some p.dec))[7]? = some (some p.dec) := by simp [wipeD, hs]
    have v3 : ((wipeD [7] σ).set 7 (some p.dec))[3]? = some (some (.ref f)) := by simp [wipeD, v]
    refine w_tup2 (ev_var v7) (e_count (ev_var v3) (ev_var v7) hc (pur_prs ps) (pur_pr p) (by rw [dep_pr]; omega) _ ?_)
    simp only [cv]
    exact hR
  · simp only [biZ, asL]
    refine ⟨cnt (ps.map Pr.dec), ?_, ?_, q⟩
    · have := pairs_tab (fun d => .int ((ps.map Pr.dec).count d : Nat)) (ps.map Pr.dec) []
      simpa [cnt, fd, tab] using this
    · rw [List.nil_append, pairKeys_ok _ _ (fun x hx => by
        obtain ⟨p, _, rfl⟩ := List.mem_map.mp hx
        exact okKey_pr p), Bool.true_or]
end K17
end

section
set_option autoImplicit false
set_option linter.all false
set_option maxRecDepth 100000
set_option maxHeartbeats 400000
namespace K17
open PySem M3
theorem c_bag {E : Nat → M3.Env → Store → Prop} {σ : M3.Env} {S : Store} {i f : Nat} {ps : List Pr} {Q : Rz → Store → Prop} (v : σ[i]? = some (some (.ref f))) (hc : S.cell f = some (.lst (ps.map Pr.dec))) (hf : f < S.nx) (hl : ps.length ≤ 13)
    (q : ∀ S' : Store, Ex S S' → S'.nx = S.nx + 1 → S'.cell S.nx = some (.dct (cnt (ps.map Pr.dec))) → Q (.val (.ref S.nx)) S') : wpE (callD prg 11) E (.call 1 [.var i]) σ S Q := by
  simp only [wpE, wpEs, v, cv]
  refine callD_mono prg 11 1 _ S _ _ _ _ ?_ (fun _ _ h => h.elim) (bag_ok 9 hc hf (fun x hx => by
    obtain ⟨p, _, rfl⟩ := List.mem_map.mp hx
    exact okKey_pr p) (by show _ < 16777216; simp; omega))
  rintro d S' ⟨rfl, h1, h2, h3⟩
  exact q S' ⟨by omega, h2⟩ h1 h3
theorem c_alike {S : Store} {a b : Nat} {ps : List Pr} {Q : D → Store → Prop} {E' : Nat → Store → Prop} (ha : S.cell a = some (.dct (cnt (ps.map Pr.dec)))) (hb : S.cell b = some (.dct (cnt (ps.map Pr.dec)))) (hbn : b < S.nx) (hs : ∀ p ∈ ps, p.b.length ≤ 9) (hl : ps.length ≤ 13)
    (q : ∀ S', Ex S S' → Q (.bl true) S') : callD prg 11 5 [.ref a, .ref b] S Q E' := by
  refine callD_mono prg 11 5 _ S _ _ _ _ ?_ (fun _ _ h => h.elim) (dict_ok 8 (by decide) ha hb hbn (items_cnt ps hs) (by
    have := len_cnt (ps.map Pr.dec)
    simp at this ⊢; omega))
  rintro r S' ⟨rfl, h1, h2⟩
  exact q S' ⟨h1, h2⟩
theorem w_orW {P : Prg} {n : Nat} {E : Nat → M3.Env → Store → Prop} {σ : M3.Env} {S : Store} {Q : Rz → Store → Prop} {a b : CE} (h : wpE (callD P n) E a σ S fun x S1 => ∃ p, x = .val (.bl p) ∧ (p = true → Q (.val (.bl true)) S1) ∧ (p = false → wpE (callD P n) E b σ S1 Q)) : wpE (callD P n) E (.or a b) σ S Q := by
  simp only [wpE]
  refine wE _ h ?_
  rintro z S1 ⟨p, rfl, h1, h2⟩
  cases p with
  | true => exact h1 rfl
  | false => exact h2 rfl
theorem w_notW {P : Prg} {n : Nat} {E : Nat → M3.Env → Store → Prop} {σ : M3.Env} {S : Store} {Q : Rz → Store → Prop} {a : CE} (h : wpE (callD P n) E a σ S fun x S1 => ∃ p, x = .val (.bl p) ∧ Q (.val (.bl (!p))) S1) : wpE (callD P n) E (.not a) σ S Q := by
  simp only [wpE]
  refine wE _ h ?_
  rintro z S1 ⟨p, rfl, h⟩
  exact h
theorem w_ifF {P : Prg} {n : Nat} {E : Nat → M3.Env → Store → Prop} {σ : M3.Env} {S : Store} {K : Ends} {e : CE} {a ss : List CS} (h : wpE (callD P n) E e σ S fun x S1 => x = .val (.bl false) ∧ wpSs (callD P n) E ss σ S1 K) : wpSs (callD P n) E (.ifs e a [] :: ss) σ S K := by
  refine w_if (wE _ h ?_)
  rintro z S1 ⟨rfl, h⟩
  exact s_nil (P := P) (n := n) (E := E) h
def sig (sc : D) (l : Nat) (g : Bool) (r : List (Option D)) : M3.Env := [some sc, some (.ref l), some (.bl g)] ++ r
def law_body : List CS := match claw.body with
  | [_, _, .whl _ b, _] => b
  | _ => []
theorem e_lenC {P : Prg} {n : Nat} {E : Nat → M3.Env → Store → Prop} {σ : M3.Env} {S : Store} {l i : Nat} {s : LSt} {cs : List Int} (I : Inv s S l cs) (v : σ[i]? = some (some (.ref l))) : Ev P n E (.bi .len [.idx (.var i) (.lit (.str "cells"))]) σ S (.val (.int cs.length)) := ev_bi1 (r_cells I.st v) fun Q q => by
  simp only [biZ, lenZ, I.ce, List.length_map]; exact q
theorem turn_ok {sc : D} {l : Nat} {g : Bool} {a3 a4 a5 a6 a7 : Option D} {s : LSt} {S : Store} {cs : List Int} {K : Ends} {E : Nat → M3.Env → Store → Prop} (I : Inv s S l cs)
    (h : ∀ (s' : LSt) (S' : Store) (r : List (Option D)), r.length = 5 → Inv s' S' l cs → mu s' cs ≤ mu s cs → s.at_ ≤ s'.at_ → (s.at_ < cs.length → mu s' cs < mu s cs) → K.nx (sig sc l (decide (s'.at_ < cs.length)) r) S') :
    wpSs (callD prg 11) E law_body [some sc, some (.ref l), some (.bl g), a3, a4, a5, a6, a7] S K := by
  simp only [law_body, claw]
  refine w_asg (Nat.le_of_ble_eq_true rfl) ?_
  simp only [wpE, wpEs, cv, List.getElem?_cons_zero, List.getElem?_cons_succ]
  refine callD_mono prg 11 6 _ S _ _ _ _ ?_ (fun _ _ h => h.elim) (pairs_ok 8 I)
  rintro d S1 ⟨f, ps, s1, rfl, hl, hs, X1, f0, f1, c1, u1⟩
  simp only [List.set_cons_zero, List.set_cons_succ]
  -- copy
  have Xh := Ex.push S1 (.lst (ps.map Pr.dec))
  refine w_asg (Nat.le_of_ble_eq_true rfl) (w_bi1 (ev_var rfl _ ?_))
  simp only [biZ, cq, c1, cv, List.set_cons_zero, List.set_cons_succ]
  have h2 : (S1.push (.lst (ps.map Pr.dec))).cell S1.nx = some (.lst (ps.map Pr.dec)) := if_pos rfl
  have n2 : (S1.push (.lst (ps.map Pr.dec))).nx = S1.nx + 1 := rfl
  have c2 := (Xh.same f f1).trans c1
  generalize S1.push (.lst (ps.map Pr.dec)) = S2 at Xh h2 n2 c2
  -- table that is due
  refine w_asg (Nat.le_of_ble_eq_true rfl) (w_due (f := f) rfl rfl c2 hl ?_)
  simp only [cv, List.set_cons_zero, List.set_cons_succ]
  have Xd := Ex.push S2 (.dct (cnt (ps.map Pr.dec)))
  have d3 : (S2.push (.dct (cnt (ps.map Pr.dec)))).cell S2.nx = some (.dct (cnt (ps.map Pr.dec))) := if_pos rfl
  have n3 : (S2.push (.dct (cnt (ps.map Pr.dec)))).nx = S2.nx + 1 := rfl
  have c3 := (Xd.same f (by omega)).trans c2
  have h3 := (Xd.same S1.nx (by omega)).trans h2
  generalize S2.push (.dct (cnt (ps.map Pr.dec))) = S3 at Xd d3 n3 c3 h3
  -- bag
  refine w_asg (Nat.le_of_ble_eq_true rfl) ?_
  have hf3 : f < S3.nx := by omega
  refine c_bag (i := 3) (f := f) (ps := ps) rfl c3 hf3 hl ?_
  intro S4 Xb n4 b4
  rw [cv]
  have c4 := (Xb.same f (by omega)).trans c3
  have h4 := (Xb.same S1.nx (by omega)).trans h3
  have d4 := (Xb.same S2.nx (by omega)).trans d3
  have X4 : Ex S1 S4 := (Xh.trans Xd).trans Xb
  have g4 : S2.nx < S4.nx := by omega
  refine w_ifF (w_orW (w_notW (w_call2 (ev_var rfl) (ev_var rfl) (c_alike b4 d4 g4 hs hl fun S5 X5 => ?_))))
  refine ⟨true, rfl, false, rfl, fun h => (by cases h), fun _ => ?_⟩
  have c5 := (X5.same f (by omega)).trans c4
  have h5 := (X5.same S1.nx (by omega)).trans h4
  refine e_neSame (ev_var rfl) (ev_var rfl) c5 h5 (pur_prs ps) (Nat.le_trans (deps_prs ps) (by decide)) _ ⟨rfl, ?_⟩
  -- table that was handed out is changed
  have X5' : Ex S1 S5 := X4.trans X5
  have b5 := (X5.same S3.nx (by omega)).trans b4
  have d5 := (X5.same S2.nx (by omega)).trans d4
  have ok7 : okKey (.tup [.int 7, .tup []]) := ⟨rfl, rfl, by decide⟩
  have hks : ∀ x ∈ ps.map Pr.dec, okKey x := fun x hx => by
    obtain ⟨p, _, rfl⟩ := List.mem_map.mp hx
    exact okKey_pr p
  have n45 := X5.nx
  refine s_dset (l := S3.nx) (k := .tup [.int 7, .tup []]) ev_lit (ev_var rfl) (fun Q q => by simp only [wpE, wpEs, cv]; exact q) b5 (fit_cnt hks ok7) (by
    have := len_cnt (ps.map Pr.dec)
    show _ < 16777216
    simp at this ⊢; omega) ?_
  have c6 : (S5.put S3.nx (.dct (dput (.tup [.int 7, .tup []]) (.int 1) (cnt (ps.map Pr.dec))))).cell f = some (.lst (ps.map Pr.dec)) := (put_ne _ _ (by omega)).trans c5
  have d6 : (S5.put S3.nx (.dct (dput (.tup [.int 7, .tup []]) (.int 1) (cnt (ps.map Pr.dec))))).cell S2.nx = some (.dct (cnt (ps.map Pr.dec))) := (put_ne _ _ (by omega)).trans d5
  have X6 : Ex S1 (S5.put S3.nx (.dct (dput (.tup [.int 7, .tup []]) (.int 1) (cnt (ps.map Pr.dec))))) := ⟨X5'.nx, fun m hm => (put_ne _ _ (by omega)).trans (X5'.same m hm)⟩
  have n6 : (S5.put S3.nx (.dct (dput (.tup [.int 7, .tup []]) (.int 1) (cnt (ps.map Pr.dec))))).nx = S5.nx := rfl
  generalize S5.put S3.nx (.dct (dput (.tup [.int 7, .tup []]) (.int 1) (cnt (ps.map Pr.dec)))) = S6 at c6 d6 X6 n6
  refine w_ifF (w_notW (w_callW (c_bag (i := 3) (f := f) (ps := ps) rfl c6 (by omega) hl ?_)))
  intro S7 X7 n7 b7
  rw [cv]
  refine ev_var (d := .ref S2.nx) rfl _ ?_
  rw [cv]
  have d7 := (X7.same S2.nx (by omega)).trans d6
  refine c_alike b7 d7 (by omega) hs hl fun S8 X8 => ⟨true, rfl, rfl, ?_⟩
  have I8 := ((X6.trans X7).trans X8).inv X1.inv
  refine s_asg (i_lt (r_at I8.st rfl) (e_lenC I8 rfl)) (Nat.le_of_ble_eq_true rfl) ?_
  refine s_nil (h s1 S8 [_, _, _, _, _] rfl I8 X1.aft.le X1.aft.at_ u1)
end K17
end

section
set_option autoImplicit false
set_option linter.all false
set_option maxRecDepth 100000
set_option maxHeartbeats 400000
namespace K17
open PySem M3
theorem w_whlV {P : Prg} {n : Nat} {E : Nat → M3.Env → Store → Prop} {i : Nat} {b ss : List CS} {K : Ends} (J : Bool → Nat → M3.Env → Store → Prop) (hv : ∀ g k σ S, J g k σ S → σ[i]? = some (some (.bl g)))
    (hb : ∀ k σ S, J true k σ S → wpSs (callD P n) E b σ S { nx := fun σ' S' => ∃ g k', (g = true → k' < k) ∧ J g k' σ' S', rt := K.rt, bk := fun _ _ => False, ct := fun _ _ => False }) (hx : ∀ k σ S, J false k σ S → wpSs (callD P n) E ss σ S K) {k : Nat} {g : Bool} {σ : M3.Env} {S : Store} (j : J g k σ S) : wpSs (callD P n) E (.whl (.var i) b :: ss) σ S K := by
  simp only [wpSs, wpS]
  refine ⟨k + 2, ?_⟩
  have main : ∀ (m : Nat) (g : Bool) (k : Nat) (σ : M3.Env) (S : Store), J g k σ S → (g = true → k + 2 ≤ m) → 1 ≤ m → whlW (fun σ' S' Q => wpE (callD P n) E (.var i) σ' S' (truth Q)) (fun σ' S' N => wpSs (callD P n) E b σ' S' { nx := N, rt := K.rt, bk := fun σ' S' => wpSs (callD P n) E ss σ' S' K, ct := N }) (fun σ' S' => wpSs (callD P n) E ss σ' S' K) m σ S := by
    intro m
    induction m with
    | zero => intro _ _ _ _ _ _ h; omega
    | succ m ih =>
      intro g k σ S j h1 h2
      refine ev_var (P := P) (n := n) (E := E) (hv g k σ S j) _ ?_
      cases g with
      | false => exact hx k σ S j
      | true =>
        refine wpSs_mono (callD_mono P n) (fun _ _ _ h => h) b σ S { nx := fun σ' S' => ∃ g k', (g = true → k' < k) ∧ J g k' σ' S', rt := K.rt, bk := fun _ _ => False, ct := fun _ _ => False } _ ⟨?_, fun _ _ h => h, fun _ _ h => h.elim, fun _ _ h => h.elim⟩ (hb k σ S j)
        rintro σ' S' ⟨g', k', h, j'⟩
        have := h1 rfl
        exact ih g' k' σ' S' j' (fun e => by have := h e; omega) (by omega)
  exact main (k + 2) g k σ S j (fun _ => Nat.le_refl _) (by omega)
theorem w_call1 {P : Prg} {n f : Nat} {E : Nat → M3.Env → Store → Prop} {σ : M3.Env} {S : Store} {Q : Rz → Store → Prop} {a : CE} {x : D} (ha : Ev P n E a σ S (.val x)) (h : callD P n f [x] S (fun d S2 => Q (.val d) S2) (fun x S2 => E x σ S2)) : wpE (callD P n) E (.call f [a]) σ S Q := by
  simp only [wpE, wpEs]
  refine ha _ ?_
  simp only [cv]
  exact h
theorem law_true : LawD prg 7 12 := by
  intro ns hl _
  refine call_same (n := 11) (F := claw) rfl rfl ?_
  show wpSs _ _ claw.body [some (.kl (ns.map .int)), none, none, none, none, none, none, none] S0 _
  refine w_asg (Nat.le_of_ble_eq_true rfl) (w_call1 (ev_var rfl) ?_)
  refine callD_mono prg 11 2 _ S0 _ _ _ _ ?_ (fun _ _ h => h.elim) (begun_ok 10 hl)
  rintro d S1 ⟨l, s, cs, rfl, I⟩
  rw [cv]
  refine s_asg ev_lit (Nat.le_of_ble_eq_true rfl) ?_
  refine w_whlV (fun g k σ S => ∃ (s : LSt) (r : List (Option D)), σ = sig (.kl (ns.map .int)) l g r ∧ r.length = 5 ∧ Inv s S l cs ∧ (g = true → s.at_ < cs.length ∨ True) ∧ k = mu s cs + (if s.at_ < cs.length then 1 else 0)) ?_ ?_ ?_ (k := mu s cs + (if s.at_ < cs.length then 1 else 0)) (g := true) ⟨s, [none, none, none, none, none], rfl, rfl, I, fun _ => .inr trivial, rfl⟩
  · rintro g k σ S ⟨s, r, rfl, hr, I, _, _⟩
    rfl
  · rintro k σ S ⟨s, r, rfl, hr, I, _, rfl⟩
    match r, hr with
    | [a3, a4, a5, a6, a7], _ =>
      refine turn_ok I fun s' S' r hr I' m1 m2 m3 => ⟨_, _, ?_, s', r, rfl, hr, I', fun _ => .inr trivial, rfl⟩
      intro h
      have h := of_decide_eq_true h
      have h0 : s.at_ < cs.length := by omega
      have := m3 h0
      rw [if_pos h, if_pos h0]; omega
  · rintro k σ S ⟨s, r, rfl, hr, I, _, _⟩
    exact s_ret ev_lit rfl
end K17
end

section
set_option maxRecDepth 100000
set_option maxHeartbeats 0

namespace K17
open PySem M3 L2
theorem gl_ok : glOk gl infos := by
  intro x f h
  have hm : (x, Gb.fn f) ∈ gl := PySem.mem_of_lookup h
  simp only [gl, List.mem_cons, List.not_mem_nil, or_false, Prod.mk.injEq, Gb.fn.injEq, reduceCtorEq, and_false, or_false, false_or] at hm
  rcases hm with ⟨rfl, rfl⟩ | ⟨rfl, rfl⟩ | ⟨rfl, rfl⟩ | ⟨rfl, rfl⟩ | ⟨rfl, rfl⟩ | ⟨rfl, rfl⟩ | ⟨rfl, rfl⟩ | ⟨rfl, rfl⟩ <;> exact ⟨_, rfl, rfl⟩
theorem binds : ∀ i ∈ infos, BindT i := by
  unfold infos
  repeat' (refine List.forall_mem_cons.mpr ⟨?_, ?_⟩)
  · exact fun _ _ _ _ _ _ us hl => match us, hl with | [_, _, _], _ => rfl
  · exact fun _ _ _ _ _ _ us hl => match us, hl with | [_], _ => rfl
  · exact fun _ _ _ _ _ _ us hl => match us, hl with | [_], _ => rfl
  · exact fun _ _ _ _ _ _ us hl => match us, hl with | [_, _], _ => rfl
  · exact fun _ _ _ _ _ _ us hl => match us, hl with | [_], _ => rfl
  · exact fun _ _ _ _ _ _ us hl => match us, hl with | [_, _], _ => rfl
  · exact fun _ _ _ _ _ _ us hl => match us, hl with | [_], _ => rfl
  · exact fun _ _ _ _ _ _ us hl => match us, hl with | [_], _ => rfl
  · intro i hi; cases hi
theorem tops {K : PySem.W.Frag} (h0 : TopDef K (infos.getD 0 ⟨"", .Pass ⟨0,0,0,0⟩, [], []⟩)) (h1 : TopDef K (infos.getD 1 ⟨"", .Pass ⟨0,0,0,0⟩, [], []⟩)) (h2 : TopDef K (infos.getD 2 ⟨"", .Pass ⟨0,0,0,0⟩, [], []⟩)) (h3 : TopDef K (infos.getD 3 ⟨"", .Pass ⟨0,0,0,0⟩, [], []⟩)) (h4 : TopDef K (infos.getD 4 ⟨"", .Pass ⟨0,0,0,0⟩, [], []⟩)) (h5 : TopDef K (infos.getD 5 ⟨"", .Pass ⟨0,0,0,0⟩, [], []⟩)) (h6 : TopDef K (infos.getD 6 ⟨"", .Pass ⟨0,0,0,0⟩, [], []⟩)) (h7 : TopDef K (infos.getD 7 ⟨"", .Pass ⟨0,0,0,0⟩, [], []⟩)) : ∀ i ∈ infos, TopDef K i := by
  unfold infos
  repeat' (refine List.forall_mem_cons.mpr ⟨?_, ?_⟩)
  · exact h0
  · exact h1
  · exact h2
  · exact h3
  · exact h4
  · exact h5
  · exact h6
  · exact h7
  · intro i hi; cases hi
theorem mod_ok {K : PySem.W.Frag} (z0 : PySem.W.nsIn K mainGlobals "len" = some none) (z1 : PySem.W.nsIn K mainGlobals "abs" = some none) (z2 : PySem.W.nsIn K mainGlobals "int" = some none) (z3 : PySem.W.nsIn K mainGlobals "all" = some none) (z4 : PySem.W.nsIn K mainGlobals "max" = some none) (z5 : PySem.W.nsIn K mainGlobals "sorted" = some none) (z6 : PySem.W.nsIn K mainGlobals "tuple" = some none) (z7 : PySem.W.nsIn K mainGlobals "list" = some none) (z8 : PySem.W.nsIn K mainGlobals "dict" = some none) (z9 : PySem.W.nsIn K mainGlobals "isinstance" = some none) (z10 : PySem.W.nsIn K mainGlobals "range" = some none) (z11 : PySem.W.nsIn K mainGlobals "bool" = some none) {mg : Str → Option Value} {h : Heap} (X : K.In h) (G : h.Ns mainGlobals mg) : ModG K mg gl := by
  refine ⟨fun x d h => ?_, fun x xs h => ?_, fun x h => ?_⟩
  · have hm := PySem.mem_of_lookup h; simp [gl] at hm
  · have hm := PySem.mem_of_lookup h; simp [gl] at hm
  · have hm : (x, Gb.bi) ∈ gl := PySem.mem_of_lookup h
    simp only [gl, List.mem_cons, List.not_mem_nil, or_false, Prod.mk.injEq, reduceCtorEq, and_false, and_true, false_or] at hm
    rcases hm with rfl | rfl | rfl | rfl | rfl | rfl | rfl | rfl | rfl | rfl | rfl | rfl
    · exact PySem.W.mg_none_of X G z0
    · exact PySem.W.mg_none_of X G z1
    · exact PySem.W.mg_none_of X G z2
    · exact PySem.W.mg_none_of X G z3
    · exact PySem.W.mg_none_of X G z4
    · exact PySem.W.mg_none_of X G z5
    · exact PySem.W.mg_none_of X G z6
    · exact PySem.W.mg_none_of X G z7
    · exact PySem.W.mg_none_of X G z8
    · exact PySem.W.mg_none_of X G z9
    · exact PySem.W.mg_none_of X G z10
    · exact PySem.W.mg_none_of X G z11
end K17
open PySem PySem.W PyProof.Rows in
set_option maxRecDepth 100000 in
set_option maxHeartbeats 0 in
theorem PySem.Challenge.cw_lateriver_k17_pairs_counted_holds : PySem.Challenge.rw_lateriver_k17_pairs_counted.Holds := by
  w_on; o_law; k_head; (case hw => w_witness2)
  k_fill
  refine M3.walk_law (l := PySem.Challenge.rw_lateriver_k17_pairs_counted) (prg := K17.prg) (k := 60) (f := 7) (n := 11) (infos := K17.infos) (gl := K17.gl) (iL := K17.infos.getD 7 ⟨"", .Pass ⟨0,0,0,0⟩, [], []⟩) (x := "_law_script") K17.law_true rfl rfl ⟨rfl, by decide, by decide⟩ (fun w h Y => PySem.W.kIn_of Y) K17.gl_ok K17.comp_ok rfl rfl rfl K17.binds ?goalT ?goalM
  case goalT =>
    intro w
    refine' K17.tops ?h0 ?h1 ?h2 ?h3 ?h4 ?h5 ?h6 ?h7
    (case h0 => (refine' M3.top_mk ?a ?l ?c ?k; (case a => k_is); (case l => k_is); (case c => k_is); (case k => k_is)))
    (case h1 => (refine' M3.top_mk ?a ?l ?c ?k; (case a => k_is); (case l => k_is); (case c => k_is); (case k => k_is)))
    (case h2 => (refine' M3.top_mk ?a ?l ?c ?k; (case a => k_is); (case l => k_is); (case c => k_is); (case k => k_is)))
    (case h3 => (refine' M3.top_mk ?a ?l ?c ?k; (case a => k_is); (case l => k_is); (case c => k_is); (case k => k_is)))
    (case h4 => (refine' M3.top_mk ?a ?l ?c ?k; (case a => k_is); (case l => k_is); (case c => k_is); (case k => k_is)))
    (case h5 => (refine' M3.top_mk ?a ?l ?c ?k; (case a => k_is); (case l => k_is); (case c => k_is); (case k => k_is)))
    (case h6 => (refine' M3.top_mk ?a ?l ?c ?k; (case a => k_is); (case l => k_is); (case c => k_is); (case k => k_is)))
    (case h7 => (refine' M3.top_mk ?a ?l ?c ?k; (case a => k_is); (case l => k_is); (case c => k_is); (case k => k_is)))
  case goalM =>
    intro w mg h X G
    refine' K17.mod_ok ?z0 ?z1 ?z2 ?z3 ?z4 ?z5 ?z6 ?z7 ?z8 ?z9 ?z10 ?z11 X G
    (case z0 => k_is)
    (case z1 => k_is)
    (case z2 => k_is)
    (case z3 => k_is)
    (case z4 => k_is)
    (case z5 => k_is)
    (case z6 => k_is)
    (case z7 => k_is)
    (case z8 => k_is)
    (case z9 => k_is)
    (case z10 => k_is)
    (case z11 => k_is)
end
