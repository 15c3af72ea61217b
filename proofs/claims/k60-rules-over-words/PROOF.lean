import PyProof.Rows.All
import HandS.ForMost
import HandS.Exc
import HandS.TryOnly
import HandS.TryMany
import HandS.ExcOwn
import HandS.ExcInit
import HandS.WordsExc
import HandS.Wide
import HandS.WideMore
import HandS.Flow
import HandS.Style
import HandS.TupAny
import HandS.TupMul
import HandS.IsInst
import HandS.Deep
import HandS.Small
import HandS.Conv
import PyProof.Draws
import PyProof.TupleIter
import PyProof.EnumMake
import HandS.ExcField
import PySem.Challenge.RW_neverstops_k60_rules_over_words
set_option Elab.async false
set_option linter.all false
/-! Core1: clean values, the clean store, a small syntax, its predicate transformer. -/
namespace Core
open PySem L2

/-- a clean value -/
inductive P where
  | non
  | bl (b : Bool)
  | int (i : Int)
  | str (s : Str)
  | tup (xs : List P)
  | frl (xs : List P)
  | loc (a : Addr)
  | fn (f : Nat)

/-- what stands at a location -/
inductive MO where
  | lst (xs : List P)
  | dct (kvs : List (P × P))
  | ins (c : Nat) (fs : List (Nat × P))

abbrev Store := Addr → Option MO
abbrev Loc := List (Option P)
def Store.upd (S : Store) (a : Addr) (o : MO) : Store := fun b => if b = a then some o else S b
theorem Store.upd_same {S : Store} {a : Addr} {o : MO} : S.upd a o a = some o := by unfold Store.upd; rw [if_pos rfl]
theorem Store.upd_ne {S : Store} {a b : Addr} {o : MO} (h : b ≠ a) : S.upd a o b = S b := by unfold Store.upd; rw [if_neg h]
theorem Store.upd_upd {S : Store} {a : Addr} {o u : MO} : (S.upd a o).upd a u = S.upd a u := by
  funext b; unfold Store.upd; split <;> rfl

/-- an error of one's own: its class, its fields -/
structure Exc where
  cls : Nat
  fs : List (Nat × P)

abbrev QP := P → Store → Prop
abbrev QE := Exc → Store → Prop
abbrev PSpec := List P → Store → QP → QE → Prop

/-- built-in functions -/
inductive Bf where
  | len | int | list | tuple | abs | min | max | sum | any | all | sorted | bool | str | set | dict | divmod | repr
  deriving DecidableEq
/-- types named in isinstance -/
inductive Ty where
  | int | bool | str | tuple | list
  deriving DecidableEq
/-- what is walked -/
inductive IK where
  | seq | range | enum | zip | items | keys | values | rev
  deriving DecidableEq
/-- methods of built-in types -/
inductive Bm where
  | append | pop | extend | index | insert | get | setdefault | reverse | items | split | find | join
  deriving DecidableEq
/-- targets without expressions -/
inductive VT where
  | nm (i : Nat)
  | tup (ts : List VT)

inductive CE where
  | var (i : Nat)
  | lit (p : P)
  | con (i : Nat)
  | fnv (i : Nat)
  | tup (es : List CE)
  | lst (es : List CE)
  | bin (op : Operator) (a b : CE)
  | neg (a : CE)
  | cmp (op : CmpOp) (a b : CE)
  | chn (op op' : CmpOp) (a b c : CE)
  | and_ (a b : CE)
  | or_ (a b : CE)
  | not_ (a : CE)
  | ife (c a b : CE)
  | idx (a i : CE)
  | slc (a : CE) (lo hi : Option CE)
  | fld (a : CE) (f : Nat)
  | call (f : Nat) (es : List CE)
  | mk (c : Nat) (es : List CE)
  | blt (f : Bf) (es : List CE)
  | isi (a : CE) (ts : List Ty)
  | mth (a : CE) (m : Nat) (es : List CE)
  | bmt (a : CE) (m : Bm) (es : List CE)
  | cmpr (own : List Nat) (k : IK) (args : List CE) (tg : VT) (elt : CE) (cond : Option CE)
  | rev (a : CE)
  | slw (a w : CE)
  | dct (ks vs : List CE)
  | cvar (i : Nat) (es : List CE)

inductive Tgt where
  | nm (i : Nat)
  | tup (ts : List Tgt)
  | sub (a i : CE)
  | fld (a : CE) (f : Nat)

/-- what an except suite does -/
inductive HS where
  | lit (p : P)
  | fld (f : Nat)
  | pre (s : Str) (f : Nat)

inductive CS where
  | asg (t : Tgt) (e : CE)
  | par (is : List Nat) (es : List CE)
  | aug (i : Nat) (op : Operator) (e : CE)
  | augF (a : CE) (f : Nat) (op : Operator) (e : CE)
  | if_ (c : CE) (a b : List CS)
  | whl (c : CE) (b : List CS)
  | for_ (k : IK) (args : List CE) (tg : VT) (b : List CS)
  | ret (e : CE)
  | retN
  | rse (c : Nat) (es : List CE)
  | exp (e : CE)
  | brk
  | cnt
  | pass
  | try_ (b : List CS) (hs : List (Nat × Option Nat × HS))

/-- what the program's top gives, at a level of calls -/
structure Env where
  con : Nat → P
  fn : Nat → PSpec
  mth : Nat → Nat → PSpec
  has : Nat → Nat → Bool
  ini : Nat → PSpec
  /-- the classes of errors: made without arguments, or with one that is kept in a field -/
  xc : Nat → Option (Option Nat)
  /-- how deep calls may go -/
  lv : Nat

/-! ### operators by values -/
/-- plain data, lists in the store among them, to a depth -/
def dataS (S : Store) : Nat → P → Option PyData
  | 0, _ => none
  | n + 1, .tup xs => (xs.mapM (dataS S n)).map .tuple
  | n + 1, .frl xs => (xs.mapM (dataS S n)).map .list
  | n + 1, .loc a => match S a with
    | some (.lst xs) => (xs.mapM (dataS S n)).map .list
    | _ => none
  | _ + 1, .non => some .none
  | _ + 1, .bl b => some (.bool b)
  | _ + 1, .int i => some (.int i)
  | _ + 1, .str s => if PyData.strOk s then some (.str s) else none
  | _ + 1, .fn _ => none
def eqS (S : Store) (x y : P) (k : Bool → Prop) : Prop :=
  ∃ d e, dataS S 62 x = some d ∧ dataS S 62 y = some e ∧ k (PyData.eqv d e)

def truthS (S : Store) : P → Option Bool
  | .non => some false
  | .bl b => some b
  | .int i => some (i != 0)
  | .str _ => none
  | .tup xs => some (!xs.isEmpty)
  | .frl xs => some (!xs.isEmpty)
  | .loc a => match S a with
    | some (.lst xs) => some (!xs.isEmpty)
    | _ => none
  | .fn _ => none

def opAdd (x y : P) (S : Store) (Q : QP) : Prop :=
  match x, y with
  | .int i, .int j => Q (.int (i + j)) S
  | .str a, .str b => a.length + b.length ≤ sizeLine ∧ Q (.str (a ++ b)) S
  | .tup xs, .tup ys => xs.length + ys.length ≤ sizeLine ∧ Q (.tup (xs ++ ys)) S
  | .loc a, .loc b => ∃ xs ys, S a = some (.lst xs) ∧ S b = some (.lst ys) ∧ xs.length + ys.length ≤ sizeLine ∧ ∀ c, S c = none → Q (.loc c) (S.upd c (.lst (xs ++ ys)))
  | _, _ => False
/-- a product that the model takes -/
def MulOk (i j : Int) : Prop := CMul i j ∨ CMulW i j
def DivOk (i j : Int) : Prop := 0 < j ∧ j.natAbs.log2 < 9000
def opMul (x y : P) (S : Store) (Q : QP) : Prop :=
  match x, y with
  | .int i, .int j => MulOk i j ∧ Q (.int (i * j)) S
  | .loc a, .int k => ∃ xs, S a = some (.lst xs) ∧ -(2 ^ 63) ≤ k ∧ k < 2 ^ 63 ∧ xs.length * k.toNat ≤ sizeLine ∧ ∀ c, S c = none → Q (.loc c) (S.upd c (.lst (List.replicate k.toNat xs).flatten))
  | .tup xs, .int k => -(2 ^ 63) ≤ k ∧ k < 2 ^ 63 ∧ xs.length * k.toNat ≤ sizeLine ∧ Q (.tup (List.replicate k.toNat xs).flatten) S
  | _, _ => False
def opBin (op : Operator) (x y : P) (S : Store) (Q : QP) : Prop :=
  match op with
  | .Add => opAdd x y S Q
  | .Sub => match x, y with
    | .int i, .int j => Q (.int (i - j)) S
    | _, _ => False
  | .Mult => opMul x y S Q
  | .FloorDiv => match x, y with
    | .int i, .int j => DivOk i j ∧ Q (.int (i / j)) S
    | _, _ => False
  | .Mod => match x, y with
    | .int i, .int j => 0 < j ∧ Q (.int (i % j)) S
    | _, _ => False
  | .Pow => match x, y with
    | .int i, .int j => CPow i j ∧ Q (.int (i ^ j.toNat)) S
    | _, _ => False
  | _ => False
/-- x op= y of ints -/
def opAug (op : Operator) (x y : P) (S : Store) (Q : QP) : Prop :=
  match x, y with
  | .int i, .int j => (match op with
    | .Add => Q (.int (i + j)) S
    | .Sub => Q (.int (i - j)) S
    | .Mult => MulOk i j ∧ Q (.int (i * j)) S
    | .FloorDiv => DivOk i j ∧ Q (.int (i / j)) S
    | _ => False)
  | _, _ => False
/-- the rest of a division by a number that may be below zero is not served -/
def flatP : P → Bool
  | .non => true | .bl _ => true | .int _ => true | .str _ => true | _ => false
def flV : P → V
  | .bl b => .bl b | .int i => .int i | .str s => .str s | _ => .non
/-- x in a tuple of flat items -/
def inF (x : P) (xs : List P) (k : Bool → Prop) : Prop := flatP x = true ∧ xs.all flatP = true ∧ k (inV (flV x) (xs.map flV))
/-- x in the items, plain data of any depth -/
def inS (S : Store) (x : P) (xs : List P) (k : Bool → Prop) : Prop :=
  ∃ d es, dataS S 62 x = some d ∧ xs.mapM (dataS S 62) = some es ∧ k (es.any fun e => PyData.eqv e d)
def lexLt : List Int → List Int → Bool := HT.lexLt
def opCmp (op : CmpOp) (x y : P) (S : Store) (Q : QP) : Prop :=
  match op with
  | .Eq => eqS S x y fun b => Q (.bl b) S
  | .NotEq => eqS S x y fun b => Q (.bl (!b)) S
  | .Lt => match x, y with
    | .int i, .int j => Q (.bl (decide (i < j))) S
    | _, _ => False
  | .LtE => match x, y with
    | .int i, .int j => Q (.bl (decide (i ≤ j))) S
    | _, _ => False
  | .Gt => match x, y with
    | .int i, .int j => Q (.bl (decide (j < i))) S
    | _, _ => False
  | .GtE => match x, y with
    | .int i, .int j => Q (.bl (decide (j ≤ i))) S
    | _, _ => False
  | .Is => match x, y with
    | .non, .non => Q (.bl true) S
    | _, .non => Q (.bl false) S
    | .bl a, .bl b => Q (.bl (decide (a = b))) S
    | _, _ => False
  | .IsNot => match x, y with
    | .non, .non => Q (.bl false) S
    | _, .non => Q (.bl true) S
    | .bl a, .bl b => Q (.bl (!decide (a = b))) S
    | _, _ => False
  | .In => match y with
    | .tup ys => inF x ys fun b => Q (.bl b) S
    | .loc a => match S a with
      | some (.lst ys) => inS S x ys fun b => Q (.bl b) S
      | _ => False
    | _ => False
  | .NotIn => match y with
    | .tup ys => inF x ys fun b => Q (.bl (!b)) S
    | .loc a => match S a with
      | some (.lst ys) => inS S x ys fun b => Q (.bl (!b)) S
      | _ => False
    | _ => False
/-- the items of a list or tuple -/
def seqOf (S : Store) : P → Option (List P)
  | .tup xs => some xs
  | .frl xs => some xs
  | .loc a => match S a with
    | some (.lst xs) => some xs
    | _ => none
  | _ => none
def opIdx (x y : P) (S : Store) (Q : QP) : Prop :=
  match y with
  | .int i => match seqOf S x with
    | some xs => xs.length ≤ sizeLine → ∃ v, atI xs i = some v ∧ Q v S
    | none => False
  | _ => False
def partOf : Option P → Option (Option Int)
  | none => some none
  | some (.int i) => some (some i)
  | some _ => none
def cutP (xs : List P) (lo hi : Option Int) : List P := (xs.drop (HT.sIx xs.length 0 lo)).take (HT.sIx xs.length xs.length hi - HT.sIx xs.length 0 lo)
def opSlc (x : P) (l h : Option Int) (S : Store) (Q : QP) : Prop :=
  match x with
  | .tup xs => xs.length ≤ sizeLine → Q (.tup (cutP xs l h)) S
  | .loc a => match S a with
    | some (.lst xs) => xs.length ≤ sizeLine → ∀ c, S c = none → Q (.loc c) (S.upd c (.lst (cutP xs l h)))
    | _ => False
  | .frl xs => xs.length ≤ sizeLine → ∀ c, S c = none → Q (.loc c) (S.upd c (.lst (cutP xs l h)))
  | _ => False
def tyOf (S : Store) : P → Option (Option Ty)
  | .non => some none
  | .bl _ => some (some .bool)
  | .int _ => some (some .int)
  | .str _ => some (some .str)
  | .tup _ => some (some .tuple)
  | .frl _ => some (some .list)
  | .loc a => match S a with
    | some (.lst _) => some (some .list)
    | _ => none
  | .fn _ => none
def isTy (t : Option Ty) (u : Ty) : Bool :=
  match t with
  | none => false
  | some t => t == u || (t == .bool && u == .int)
def intsP : List P → Option (List Int)
  | [] => some []
  | .int i :: r => (intsP r).map (i :: ·)
  | _ :: _ => none
def boolsP : List P → Option (List Bool)
  | [] => some []
  | .bl b :: r => (boolsP r).map (b :: ·)
  | _ :: _ => none
def bfS (f : Bf) (vs : List P) (S : Store) (Q : QP) : Prop :=
  match f, vs with
  | .len, [x] => match seqOf S x with
    | some xs => xs.length ≤ sizeLine → Q (.int xs.length) S
    | none => False
  | .int, [.int i] => Q (.int i) S
  | .int, [.bl b] => Q (.int (if b then 1 else 0)) S
  | .bool, [.int i] => Q (.bl (i != 0)) S
  | .bool, [.bl b] => Q (.bl b) S
  | .list, [x] => match seqOf S x with
    | some xs => xs.length ≤ sizeLine → ∀ c, S c = none → Q (.loc c) (S.upd c (.lst xs))
    | none => False
  | .tuple, [x] => match seqOf S x with
    | some xs => xs.length ≤ sizeLine → Q (.tup xs) S
    | none => False
  | .abs, [.int i] => Q (.int (if i < 0 then -i else i)) S
  | .min, [.int i, .int j] => Q (.int (if j < i then j else i)) S
  | .max, [.int i, .int j] => Q (.int (if j > i then j else i)) S
  | .min, [.loc a] => match S a with
    | some (.lst xs) => ∃ ns, intsP xs = some ns ∧ 0 < ns.length ∧ ∀ m, m ∈ ns → (∀ y, y ∈ ns → m ≤ y) → Q (.int m) S
    | _ => False
  | .max, [.loc a] => match S a with
    | some (.lst xs) => ∃ ns, intsP xs = some ns ∧ 0 < ns.length ∧ ∀ m, m ∈ ns → (∀ y, y ∈ ns → y ≤ m) → Q (.int m) S
    | _ => False
  | .sum, [.loc a] => match S a with
    | some (.lst xs) => ∃ ns, intsP xs = some ns ∧ Q (.int ns.sum) S
    | _ => False
  | .any, [.loc a] => match S a with
    | some (.lst xs) => ∃ bs, boolsP xs = some bs ∧ Q (.bl (bs.any id)) S
    | _ => False
  | .all, [.loc a] => match S a with
    | some (.lst xs) => ∃ bs, boolsP xs = some bs ∧ Q (.bl (bs.all id)) S
    | _ => False
  | _, _ => False
def lstS (x : P) (S : Store) : Option (Addr × List P) :=
  match x with
  | .loc a => match S a with
    | some (.lst xs) => some (a, xs)
    | _ => none
  | _ => none
def bmS (m : Bm) (x : P) (vs : List P) (S : Store) (Q : QP) : Prop :=
  match m, vs with
  | .append, [y] => match lstS x S with
    | some (a, xs) => xs.length < sizeLine ∧ Q .non (S.upd a (.lst (xs ++ [y])))
    | none => False
  | .pop, [] => match lstS x S with
    | some (a, xs) => ∃ y, xs[xs.length - 1]? = some y ∧ Q y (S.upd a (.lst xs.dropLast))
    | none => False
  | .pop, [.int i] => match lstS x S with
    | some (a, xs) => xs.length ≤ sizeLine → ∃ k y, seqIndex? i xs.length = some k ∧ xs[k]? = some y ∧ Q y (S.upd a (.lst (xs.eraseIdx k)))
    | none => False
  | .extend, [y] => match lstS x S, lstS y S with
    | some (a, xs), some (_, ys) => xs.length + ys.length ≤ sizeLine ∧ Q .non (S.upd a (.lst (xs ++ ys)))
    | _, _ => False
  | .reverse, [] => match lstS x S with
    | some (a, xs) => Q .non (S.upd a (.lst xs.reverse))
    | none => False
  | _, _ => False
/-- the items that a loop walks, and what must stay true of the store meanwhile -/
def iterS (k : IK) (vs : List P) (S : Store) (K : List P → (Store → Prop) → Prop) : Prop :=
  match k, vs with
  | .seq, [.tup xs] => xs.length ≤ sizeLine → K xs fun _ => True
  | .seq, [.frl xs] => xs.length ≤ sizeLine → K xs fun _ => True
  | .seq, [.loc a] => match S a with
    | some (.lst xs) => xs.length ≤ sizeLine → K xs fun S' => S' a = some (.lst xs)
    | _ => False
  | .range, [.int n] => (-(2 ^ 62) ≤ n ∧ n ≤ sizeLine) ∧ K ((List.range n.toNat).map fun (i : Nat) => P.int i) fun _ => True
  | .range, [.int m, .int n] => (-(2 ^ 62) ≤ m ∧ m < 2 ^ 62 ∧ -(2 ^ 62) ≤ n ∧ n < 2 ^ 62 ∧ n - m ≤ sizeLine) ∧ K ((List.range (n - m).toNat).map fun (i : Nat) => P.int (m + i)) fun _ => True
  | .enum, [.loc a] => match S a with
    | some (.lst xs) => xs.length ≤ sizeLine → K (xs.zipIdx.map fun p => P.tup [.int p.2, p.1]) fun S' => S' a = some (.lst xs)
    | _ => False
  | .enum, [.tup xs] => xs.length ≤ sizeLine → K (xs.zipIdx.map fun p => P.tup [.int p.2, p.1]) fun _ => True
  | _, _ => False

def putN (f : Nat) (p : P) : List (Nat × P) → List (Nat × P)
  | [] => [(f, p)]
  | (g, q) :: r => if g = f then (g, p) :: r else (g, q) :: putN f p r

mutual
def wpVT : VT → P → Loc → (Loc → Prop) → Prop
  | .nm i, p, ρ, Q => Q (ρ.set i (some p))
  | .tup ts, p, ρ, Q => match p with
    | .tup xs => wpVTs ts xs ρ Q
    | _ => False
def wpVTs : List VT → List P → Loc → (Loc → Prop) → Prop
  | [], xs, ρ, Q => match xs with
    | [] => Q ρ
    | _ :: _ => False
  | t :: ts, xs, ρ, Q => match xs with
    | x :: xs => wpVT t x ρ fun ρ' => wpVTs ts xs ρ' Q
    | [] => False
end
def wipeP (ρ : Loc) : List Nat → Loc
  | [] => ρ
  | v :: vs => (wipeP ρ vs).set v none
def noE : QE := fun _ _ => False

mutual
def wpE (G : Env) : CE → Loc → Store → QP → QE → Prop
  | .var i, ρ, S, Q, _ => match ρ[i]? with
    | some (some p) => Q p S
    | _ => False
  | .lit p, _, S, Q, _ => Q p S
  | .con i, _, S, Q, _ => Q (G.con i) S
  | .fnv i, _, S, Q, _ => Q (.fn i) S
  | .tup es, ρ, S, Q, E => wpEs G es ρ S (fun ps S' => Q (.tup ps) S') E
  | .lst es, ρ, S, Q, E => wpEs G es ρ S (fun ps S' => ∀ a, S' a = none → Q (.loc a) (S'.upd a (.lst ps))) E
  | .bin op a b, ρ, S, Q, E => wpE G a ρ S (fun x S1 => wpE G b ρ S1 (fun y S2 => opBin op x y S2 Q) E) E
  | .neg a, ρ, S, Q, E => wpE G a ρ S (fun x S1 => match x with
    | .int i => Q (.int (-i)) S1
    | _ => False) E
  | .cmp op a b, ρ, S, Q, E => wpE G a ρ S (fun x S1 => wpE G b ρ S1 (fun y S2 => opCmp op x y S2 Q) E) E
  | .chn op op' a b c, ρ, S, Q, E => wpE G a ρ S (fun x S1 => wpE G b ρ S1 (fun y S2 => opCmp op x y S2 fun z S3 => match z with
    | .bl true => wpE G c ρ S3 (fun u S4 => opCmp op' y u S4 Q) E
    | .bl false => Q (.bl false) S3
    | _ => False) E) E
  | .and_ a b, ρ, S, Q, E => wpE G a ρ S (fun x S1 => match truthS S1 x with
    | some true => wpE G b ρ S1 Q E
    | some false => Q x S1
    | none => False) E
  | .or_ a b, ρ, S, Q, E => wpE G a ρ S (fun x S1 => match truthS S1 x with
    | some true => Q x S1
    | some false => wpE G b ρ S1 Q E
    | none => False) E
  | .not_ a, ρ, S, Q, E => wpE G a ρ S (fun x S1 => match truthS S1 x with
    | some b => Q (.bl (!b)) S1
    | none => False) E
  | .ife c a b, ρ, S, Q, E => wpE G c ρ S (fun x S1 => match truthS S1 x with
    | some true => wpE G a ρ S1 Q E
    | some false => wpE G b ρ S1 Q E
    | none => False) E
  | .idx a i, ρ, S, Q, E => wpE G a ρ S (fun x S1 => wpE G i ρ S1 (fun y S2 => opIdx x y S2 Q) E) E
  | .slc a lo hi, ρ, S, Q, E => wpE G a ρ S (fun x S1 => wpO G lo ρ S1 (fun l S2 => match partOf l with
    | some l => wpO G hi ρ S2 (fun h S3 => match partOf h with
      | some h => opSlc x l h S3 Q
      | none => False) E
    | none => False) E) E
  | .fld a f, ρ, S, Q, E => wpE G a ρ S (fun x S1 => match x with
    | .loc l => match S1 l with
      | some (.ins _ fs) => match fs.lookup f with
        | some p => Q p S1
        | none => False
      | _ => False
    | _ => False) E
  | .call f es, ρ, S, Q, E => wpEs G es ρ S (fun ps S1 => G.fn f ps S1 Q E) E
  | .mk c es, ρ, S, Q, E => wpEs G es ρ S (fun ps S1 => ∀ a, S1 a = none → G.ini c (.loc a :: ps) (S1.upd a (.ins c [])) (fun v S2 => v = .non ∧ Q (.loc a) S2) E) E
  | .blt f es, ρ, S, Q, E => wpEs G es ρ S (fun ps S1 => bfS f ps S1 Q) E
  | .isi a ts, ρ, S, Q, E => wpE G a ρ S (fun x S1 => match tyOf S1 x with
    | some t => Q (.bl (ts.any fun u => isTy t u)) S1
    | none => False) E
  | .mth a m es, ρ, S, Q, E => wpE G a ρ S (fun x S1 => match x with
    | .loc l => match S1 l with
      | some (.ins c _) => G.has c m = true ∧ wpEs G es ρ S1 (fun ps S2 => G.mth c m (.loc l :: ps) S2 Q E) E
      | _ => False
    | _ => False) E
  | .bmt a m es, ρ, S, Q, E => wpE G a ρ S (fun x S1 => (∃ a xs, x = .loc a ∧ S1 a = some (.lst xs)) ∧ wpEs G es ρ S1 (fun ps S2 => bmS m x ps S2 Q) E) E
  | .cmpr own k args tg elt cond, ρ, S, Q, E => wpEs G args ρ S (fun vs S1 => iterS k vs S1 fun items Gd => ∀ D, S1 D = none →
      ∃ I : Nat → List P → Store → Prop, I 0 [] (S1.upd D (.lst [])) ∧
        (∀ i x acc S2, items[i]? = some x → I i acc S2 → acc.length ≤ i → Gd S2 ∧ wpVT tg x (wipeP ρ own) fun ρ2 => wpC G cond ρ2 S2 (fun b S3 =>
          if b = true then wpE G elt ρ2 S3 (fun p S4 => S4 D = some (.lst acc) ∧ I (i + 1) (acc ++ [p]) (S4.upd D (.lst (acc ++ [p])))) noE else I (i + 1) acc S3)) ∧
        (∀ acc S2, I items.length acc S2 → acc.length ≤ items.length → Gd S2 ∧ Q (.loc D) S2)) E
  | .rev _, _, _, _, _ => False
  | .slw _ _, _, _, _, _ => False
  | .dct _ _, _, _, _, _ => False
  | .cvar i es, ρ, S, Q, E => match ρ[i]? with
    | some (some (.fn f)) => wpEs G es ρ S (fun ps S1 => G.fn f ps S1 Q E) E
    | _ => False
def wpEs (G : Env) : List CE → Loc → Store → (List P → Store → Prop) → QE → Prop
  | [], _, S, Q, _ => Q [] S
  | e :: es, ρ, S, Q, E => wpE G e ρ S (fun p S1 => wpEs G es ρ S1 (fun ps S2 => Q (p :: ps) S2) E) E
def wpO (G : Env) : Option CE → Loc → Store → (Option P → Store → Prop) → QE → Prop
  | none, _, S, Q, _ => Q none S
  | some e, ρ, S, Q, E => wpE G e ρ S (fun p S1 => Q (some p) S1) E
def wpC (G : Env) : Option CE → Loc → Store → (Bool → Store → Prop) → Prop
  | none, _, S, Q => Q true S
  | some e, ρ, S, Q => wpE G e ρ S (fun p S1 => match truthS S1 p with
    | some b => Q b S1
    | none => False) noE
end

/-- what is wanted behind a statement -/
structure DE where
  nx : Loc → Store → Prop
  rt : QP
  bk : Loc → Store → Prop
  ct : Loc → Store → Prop
  ex : QE

mutual
def wpT (G : Env) : Tgt → P → Loc → Store → (Loc → Store → Prop) → QE → Prop
  | .nm i, p, ρ, S, Q, _ => Q (ρ.set i (some p)) S
  | .tup ts, p, ρ, S, Q, E => match p with
    | .tup xs => xs.length = ts.length ∧ wpTs G ts xs ρ S Q E
    | _ => False
  | .sub a i, p, ρ, S, Q, E => wpE G a ρ S (fun x S1 => wpE G i ρ S1 (fun y S2 => match lstS x S2, y with
    | some (l, xs), .int k => xs.length ≤ sizeLine → ∃ j, ixN xs.length k = some j ∧ Q ρ (S2.upd l (.lst (xs.set j p)))
    | _, _ => False) E) E
  | .fld a f, p, ρ, S, Q, E => wpE G a ρ S (fun x S1 => match x with
    | .loc l => match S1 l with
      | some (.ins c fs) => fs.length < 1000 ∧ Q ρ (S1.upd l (.ins c (putN f p fs)))
      | _ => False
    | _ => False) E
def wpTs (G : Env) : List Tgt → List P → Loc → Store → (Loc → Store → Prop) → QE → Prop
  | [], xs, ρ, S, Q, _ => match xs with
    | [] => Q ρ S
    | _ :: _ => False
  | t :: ts, xs, ρ, S, Q, E => match xs with
    | x :: xs => wpT G t x ρ S (fun ρ' S' => wpTs G ts xs ρ' S' Q E) E
    | [] => False
end

def setAll (ρ : Loc) : List Nat → List P → Loc
  | i :: is, p :: ps => setAll (ρ.set i (some p)) is ps
  | _, _ => ρ
/-- what the clauses make of an error -/
def wpH (hs : List (Nat × Option Nat × HS)) (D : DE) (ρ : Loc) (ex : Exc) (S : Store) : Prop :=
  match hs with
  | [] => D.ex ex S
  | (c, i, h) :: r => if ex.cls = c then
      (match h with
      | .lit p => D.rt p S
      | .fld f => (match ex.fs.lookup f with
        | some p => D.rt p S
        | none => False)
      | .pre s f => match ex.fs.lookup f with
        | some (.str t) => s.length + t.length ≤ sizeLine ∧ D.rt (.str (s ++ t)) S
        | _ => False)
    else wpH r D ρ ex S

mutual
def wpS (G : Env) : CS → Loc → Store → DE → Prop
  | .asg t e, ρ, S, D => wpE G e ρ S (fun p S1 => wpT G t p ρ S1 D.nx D.ex) D.ex
  | .par is es, ρ, S, D => wpEs G es ρ S (fun ps S1 => D.nx (setAll ρ is ps) S1) D.ex
  | .aug i op e, ρ, S, D => match ρ[i]? with
    | some (some x) => wpE G e ρ S (fun y S1 => opAug op x y S1 fun z S2 => D.nx (ρ.set i (some z)) S2) D.ex
    | _ => False
  | .augF a f op e, ρ, S, D => wpE G a ρ S (fun x S1 => match x with
    | .loc l => match S1 l with
      | some (.ins _ fs) => match fs.lookup f with
        | some p => wpE G e ρ S1 (fun y S2 => opAug op p y S2 fun z S3 => match S3 l with
          | some (.ins c fs) => fs.length < 1000 ∧ D.nx ρ (S3.upd l (.ins c (putN f z fs)))
          | _ => False) D.ex
        | none => False
      | _ => False
    | _ => False) D.ex
  | .if_ c a b, ρ, S, D => wpE G c ρ S (fun x S1 => match truthS S1 x with
    | some true => wpB G a ρ S1 D
    | some false => wpB G b ρ S1 D
    | none => False) D.ex
  | .whl c b, ρ, S, D => ∃ (I : Loc → Store → Prop) (μ : Loc → Store → Nat), I ρ S ∧ ∀ ρ S, I ρ S → wpE G c ρ S (fun x S1 => match truthS S1 x with
    | some true => wpB G b ρ S1 { D with nx := fun ρ' S' => I ρ' S' ∧ μ ρ' S' < μ ρ S, ct := fun ρ' S' => I ρ' S' ∧ μ ρ' S' < μ ρ S, bk := D.nx }
    | some false => D.nx ρ S1
    | none => False) D.ex
  | .for_ k args tg b, ρ, S, D => wpEs G args ρ S (fun vs S1 => iterS k vs S1 fun items Gd =>
      ∃ I : Nat → Loc → Store → Prop, I 0 ρ S1 ∧
        (∀ i x ρ S, items[i]? = some x → I i ρ S → Gd S ∧ wpVT tg x ρ fun ρ2 => wpB G b ρ2 S { D with nx := I (i + 1), ct := I (i + 1), bk := D.nx }) ∧
        (∀ ρ S, I items.length ρ S → Gd S ∧ D.nx ρ S)) D.ex
  | .ret e, ρ, S, D => wpE G e ρ S D.rt D.ex
  | .retN, _, S, D => D.rt .non S
  | .rse c es, ρ, S, D => 2 ≤ G.lv ∧ wpEs G es ρ S (fun ps S1 => match G.xc c, ps with
    | some none, [] => D.ex ⟨c, []⟩ S1
    | some (some f), [v] => D.ex ⟨c, [(f, v)]⟩ S1
    | _, _ => False) D.ex
  | .exp e, ρ, S, D => wpE G e ρ S (fun _ S1 => D.nx ρ S1) D.ex
  | .brk, ρ, S, D => D.bk ρ S
  | .cnt, ρ, S, D => D.ct ρ S
  | .pass, ρ, S, D => D.nx ρ S
  | .try_ b hs, ρ, S, D => wpB G b ρ S { D with ex := fun ex S' => wpH hs D ρ ex S' }
def wpB (G : Env) : List CS → Loc → Store → DE → Prop
  | [], ρ, S, D => D.nx ρ S
  | s :: ss, ρ, S, D => wpS G s ρ S { D with nx := fun ρ' S' => wpB G ss ρ' S' D }
end
end Core

/-! Core2: how clean values lie in the abstract heap; the translation. -/
namespace Core
open PySem L2

/-- the names of the program's top -/
structure Tab where
  fns : List Str
  cns : List Str
  cls : List Str
  att : List Str
  mts : List Str
  xc : Nat → Option (Option Nat)

/-- what the heap's facts lean on -/
structure Bs where
  K : PySem.W.Frag
  mg : Str → Option Value
  T : Tab

mutual
def Rep (B : Bs) (H : Hp) : P → V → Prop
  | .non, v => v = .non
  | .bl b, v => v = .bl b
  | .int i, v => v = .int i
  | .str s, v => v = .str s
  | .tup ps, v => ∃ a vs, v = .ref a ∧ SqT B.K H a vs ∧ vs.length ≤ sizeLine ∧ Reps B H ps vs
  | .frl ps, v => ∃ a vs, v = .ref a ∧ ((∃ o, H a = some (.frz o (.lst vs))) ∨ ∃ (o : Obj) (its : Array Value) (n : Nat), B.K.lookup a = some o ∧ o.cls = .type "list" ∧ o.dict = none ∧ o.data = .seq its n ∧ its.size ≤ sizeLine ∧ Vals vs its.toList) ∧
      vs.length ≤ sizeLine ∧ Reps B H ps vs
  | .loc a, v => v = .ref a
  | .fn i, v => ∃ x a, B.T.fns[i]? = some x ∧ B.mg x = some (.ref a) ∧ v = .ref a
def Reps (B : Bs) (H : Hp) : List P → List V → Prop
  | [], vs => vs = []
  | p :: ps, vs => ∃ v r, vs = v :: r ∧ Rep B H p v ∧ Reps B H ps r
end

theorem Reps.length {B : Bs} {H : Hp} : ∀ {ps : List P} {vs : List V}, Reps B H ps vs → vs.length = ps.length
  | [], vs, h => by unfold Reps at h; subst h; rfl
  | p :: ps, vs, h => by
    unfold Reps at h
    obtain ⟨v, r, rfl, _, h⟩ := h
    simp [Reps.length h]
theorem Reps.nil {B : Bs} {H : Hp} : Reps B H [] [] := by unfold Reps; rfl
theorem Reps.cons {B : Bs} {H : Hp} {p : P} {ps : List P} {v : V} {vs : List V} (h : Rep B H p v) (t : Reps B H ps vs) : Reps B H (p :: ps) (v :: vs) := by
  unfold Reps; exact ⟨v, vs, rfl, h, t⟩
theorem Reps.cons_inv {B : Bs} {H : Hp} {p : P} {ps : List P} {vs : List V} (h : Reps B H (p :: ps) vs) : ∃ v r, vs = v :: r ∧ Rep B H p v ∧ Reps B H ps r := by
  unfold Reps at h; exact h
theorem Reps.nil_inv {B : Bs} {H : Hp} {vs : List V} (h : Reps B H [] vs) : vs = [] := by unfold Reps at h; exact h
theorem Reps.get {B : Bs} {H : Hp} : ∀ {ps : List P} {vs : List V} {i : Nat} {p : P}, Reps B H ps vs → ps[i]? = some p → ∃ v, vs[i]? = some v ∧ Rep B H p v
  | [], _, _, _, _, e => by simp at e
  | q :: ps, _, 0, p, h, e => by
    obtain ⟨v, r, rfl, h1, _⟩ := h.cons_inv
    simp at e; subst e
    exact ⟨v, rfl, h1⟩
  | q :: ps, _, i + 1, p, h, e => by
    obtain ⟨v, r, rfl, _, h2⟩ := h.cons_inv
    obtain ⟨u, e1, e2⟩ := Reps.get (i := i) h2 (by simpa using e)
    exact ⟨u, by simpa using e1, e2⟩
theorem Reps.get' {B : Bs} {H : Hp} {ps : List P} {vs : List V} {i : Nat} {v : V} (h : Reps B H ps vs) (e : vs[i]? = some v) : ∃ p, ps[i]? = some p ∧ Rep B H p v := by
  have hi : i < ps.length := by
    have := (List.getElem?_eq_some_iff.mp e).1
    rw [h.length] at this; exact this
  obtain ⟨u, e1, e2⟩ := h.get (i := i) (p := ps[i]) (by simp [hi])
  rw [e] at e1; cases e1
  exact ⟨ps[i], by simp [hi], e2⟩
theorem Reps.append {B : Bs} {H : Hp} : ∀ {ps qs : List P} {vs us : List V}, Reps B H ps vs → Reps B H qs us → Reps B H (ps ++ qs) (vs ++ us)
  | [], _, _, _, h, t => by rw [h.nil_inv]; exact t
  | p :: ps, _, _, _, h, t => by
    obtain ⟨v, r, rfl, h1, h2⟩ := h.cons_inv
    exact .cons h1 (Reps.append h2 t)
theorem Reps.take {B : Bs} {H : Hp} : ∀ {ps : List P} {vs : List V} (n : Nat), Reps B H ps vs → Reps B H (ps.take n) (vs.take n)
  | [], _, n, h => by rw [h.nil_inv]; simp; exact .nil
  | p :: ps, _, 0, h => .nil
  | p :: ps, _, n + 1, h => by
    obtain ⟨v, r, rfl, h1, h2⟩ := h.cons_inv
    exact .cons h1 (Reps.take n h2)
theorem Reps.drop {B : Bs} {H : Hp} : ∀ {ps : List P} {vs : List V} (n : Nat), Reps B H ps vs → Reps B H (ps.drop n) (vs.drop n)
  | [], _, n, h => by rw [h.nil_inv]; simp; exact .nil
  | p :: ps, _, 0, h => h
  | p :: ps, _, n + 1, h => by
    obtain ⟨v, r, rfl, h1, h2⟩ := h.cons_inv
    exact Reps.drop n h2
theorem Reps.set {B : Bs} {H : Hp} {p : P} {v : V} (r : Rep B H p v) : ∀ {ps : List P} {vs : List V} (i : Nat), Reps B H ps vs → Reps B H (ps.set i p) (vs.set i v)
  | [], _, n, h => by rw [h.nil_inv]; simp; exact .nil
  | q :: ps, _, 0, h => by
    obtain ⟨v, r', rfl, h1, h2⟩ := h.cons_inv
    exact .cons r h2
  | q :: ps, _, n + 1, h => by
    obtain ⟨v, r', rfl, h1, h2⟩ := h.cons_inv
    exact .cons h1 (Reps.set r n h2)
theorem Reps.dropLast {B : Bs} {H : Hp} {ps : List P} {vs : List V} (h : Reps B H ps vs) : Reps B H ps.dropLast vs.dropLast := by
  rw [List.dropLast_eq_take, List.dropLast_eq_take, h.length]
  exact h.take _
theorem Reps.eraseIdx {B : Bs} {H : Hp} : ∀ {ps : List P} {vs : List V} (i : Nat), Reps B H ps vs → Reps B H (ps.eraseIdx i) (vs.eraseIdx i)
  | [], _, n, h => by rw [h.nil_inv]; simp; exact .nil
  | q :: ps, _, 0, h => by
    obtain ⟨v, r', rfl, h1, h2⟩ := h.cons_inv
    exact h2
  | q :: ps, _, n + 1, h => by
    obtain ⟨v, r', rfl, h1, h2⟩ := h.cons_inv
    exact .cons h1 (Reps.eraseIdx n h2)
theorem Reps.reverse {B : Bs} {H : Hp} : ∀ {ps : List P} {vs : List V}, Reps B H ps vs → Reps B H ps.reverse vs.reverse
  | [], _, h => by rw [h.nil_inv]; exact .nil
  | q :: ps, _, h => by
    obtain ⟨v, r', rfl, h1, h2⟩ := h.cons_inv
    rw [List.reverse_cons, List.reverse_cons]
    exact (Reps.reverse h2).append (.cons h1 .nil)
theorem Reps.rep {B : Bs} {H : Hp} {ps : List P} {vs : List V} (h : Reps B H ps vs) : ∀ k : Nat, Reps B H (List.replicate k ps).flatten (List.replicate k vs).flatten
  | 0 => .nil
  | k + 1 => by
    rw [List.replicate_succ, List.replicate_succ, List.flatten_cons, List.flatten_cons]
    exact h.append (Reps.rep h k)

/-- the heap keeps what never changes -/
structure Ext (H H' : Hp) : Prop where
  tup : ∀ a vs, H a = some (.tup vs) → H' a = some (.tup vs)
  frz : ∀ a o u, H a = some (.frz o u) → H' a = some (.frz o u)
theorem Ext.refl (H : Hp) : Ext H H := ⟨fun _ _ h => h, fun _ _ _ h => h⟩
theorem Ext.trans {H H1 H2 : Hp} (a : Ext H H1) (b : Ext H1 H2) : Ext H H2 := ⟨fun x v h => b.tup x v (a.tup x v h), fun x o u h => b.frz x o u (a.frz x o u h)⟩
theorem Ext.fresh {H : Hp} {p : Addr} {o : HO} (h : H p = none) : Ext H (upd H p o) :=
  ⟨fun a vs e => by rw [upd_ne (ne_of_none e h)]; exact e, fun a ob u e => by rw [upd_ne (ne_of_none e h)]; exact e⟩
theorem Ext.mut {H : Hp} {p : Addr} {o o' : HO} (h : H p = some o) (h1 : ∀ vs, o ≠ .tup vs) (h2 : ∀ ob u, o ≠ .frz ob u) : Ext H (upd H p o') :=
  ⟨fun a vs e => by rw [upd_ne (ne_of e h (fun z => h1 vs z.symm))]; exact e, fun a ob u e => by rw [upd_ne (ne_of e h (fun z => h2 ob u z.symm))]; exact e⟩
theorem Ext.lst {H : Hp} {p : Addr} {xs : List V} {o' : HO} (h : H p = some (.lst xs)) : Ext H (upd H p o') := .mut h (fun _ z => by cases z) (fun _ _ z => by cases z)
theorem Ext.ins {H : Hp} {p C dx : Addr} {fs : List (Str × V)} {o' : HO} (h : H p = some (.ins C dx fs)) : Ext H (upd H p o') := .mut h (fun _ z => by cases z) (fun _ _ z => by cases z)
theorem Ext.sqt {K : PySem.W.Frag} {H H' : Hp} (e : Ext H H') {a : Addr} {vs : List V} (h : SqT K H a vs) : SqT K H' a vs := by
  rcases h with (h | ⟨o, h⟩) | h
  · exact .inl (.inl (e.tup _ _ h))
  · exact .inl (.inr ⟨o, e.frz _ _ _ h⟩)
  · exact .inr h

mutual
theorem Rep.ext {B : Bs} {H H' : Hp} (e : Ext H H') : ∀ {p : P} {v : V}, Rep B H p v → Rep B H' p v
  | .non, _, h => by unfold Rep at h ⊢; exact h
  | .bl b, _, h => by unfold Rep at h ⊢; exact h
  | .int i, _, h => by unfold Rep at h ⊢; exact h
  | .str s, _, h => by unfold Rep at h ⊢; exact h
  | .tup ps, _, h => by
    unfold Rep at h ⊢
    obtain ⟨a, vs, h1, h2, h3, h4⟩ := h
    exact ⟨a, vs, h1, e.sqt h2, h3, Reps.ext e h4⟩
  | .frl ps, _, h => by
    unfold Rep at h ⊢
    obtain ⟨a, vs, h1, h2, h3, h4⟩ := h
    refine ⟨a, vs, h1, ?_, h3, Reps.ext e h4⟩
    rcases h2 with ⟨o, h2⟩ | h2
    · exact .inl ⟨o, e.frz _ _ _ h2⟩
    · exact .inr h2
  | .loc a, _, h => by unfold Rep at h ⊢; exact h
  | .fn i, _, h => by unfold Rep at h ⊢; exact h
theorem Reps.ext {B : Bs} {H H' : Hp} (e : Ext H H') : ∀ {ps : List P} {vs : List V}, Reps B H ps vs → Reps B H' ps vs
  | [], _, h => by unfold Reps at h ⊢; exact h
  | p :: ps, _, h => by
    unfold Reps at h ⊢
    obtain ⟨v, r, h1, h2, h3⟩ := h
    exact ⟨v, r, h1, Rep.ext e h2, Reps.ext e h3⟩
end

/-- the fields of an instance, by name -/
def RepF (B : Bs) (H : Hp) : List (Nat × P) → List (Str × V) → Prop
  | [], fs => fs = []
  | (f, p) :: r, fs => ∃ x v t, fs = (x, v) :: t ∧ B.T.att[f]? = some x ∧ Rep B H p v ∧ RepF B H r t
theorem RepF.ext {B : Bs} {H H' : Hp} (e : Ext H H') : ∀ {fs : List (Nat × P)} {gs : List (Str × V)}, RepF B H fs gs → RepF B H' fs gs
  | [], _, h => h
  | (f, p) :: r, _, ⟨x, v, t, h1, h2, h3, h4⟩ => ⟨x, v, t, h1, h2, h3.ext e, RepF.ext e h4⟩
theorem RepF.length {B : Bs} {H : Hp} : ∀ {fs : List (Nat × P)} {gs : List (Str × V)}, RepF B H fs gs → gs.length = fs.length
  | [], _, h => by rw [show _ = [] from h]; rfl
  | (f, p) :: r, _, ⟨x, v, t, h1, _, _, h4⟩ => by rw [h1]; simp [RepF.length h4]

def MRep (B : Bs) (H : Hp) (a : Addr) : MO → Prop
  | .lst ps => ∃ vs, H a = some (.lst vs) ∧ vs.length ≤ sizeLine ∧ Reps B H ps vs
  | .dct _ => False
  | .ins c fs => ∃ x C dx gs, (B.T.cls[c]? = some x ∧ B.mg x = some (.ref C) ∧ Cls B.K C ∧ ∀ (f : Nat) (y : Str), B.T.att[f]? = some y → NoAttr B.K C y) ∧ H a = some (.ins C dx gs) ∧ RepF B H fs gs
def RelS (B : Bs) (S : Store) (H : Hp) : Prop := ∀ a o, S a = some o → MRep B H a o
theorem MRep.ext {B : Bs} {H H' : Hp} {a : Addr} {o : MO} (e : Ext H H') (k : H' a = H a) (h : MRep B H a o) : MRep B H' a o := by
  cases o with
  | lst ps => obtain ⟨vs, h1, h2, h3⟩ := h; exact ⟨vs, k.trans h1, h2, h3.ext e⟩
  | dct _ => exact h
  | ins c fs => obtain ⟨x, C, dx, gs, h1, h3, h4⟩ := h; exact ⟨x, C, dx, gs, h1, k.trans h3, h4.ext e⟩
theorem RelS.free {B : Bs} {S : Store} {H : Hp} (h : RelS B S H) {a : Addr} (e : H a = none) : S a = none := by
  cases q : S a with
  | none => rfl
  | some o =>
    have := h a o q
    cases o with
    | lst ps => obtain ⟨vs, h1, _⟩ := this; rw [e] at h1; cases h1
    | dct _ => exact this.elim
    | ins c fs => obtain ⟨x, C, dx, gs, _, h3, _⟩ := this; rw [e] at h3; cases h3
/-- an object is laid or written, in both -/
theorem RelS.upd {B : Bs} {S : Store} {H : Hp} {a : Addr} {o : MO} {u : HO} (h : RelS B S H) (e : Ext H (upd H a u)) (n : MRep B (upd H a u) a o) : RelS B (S.upd a o) (upd H a u) := fun b ob q => by
  by_cases hb : b = a
  · subst hb
    rw [Store.upd_same] at q; cases q
    exact n
  · rw [Store.upd_ne hb] at q
    exact (h b ob q).ext e (upd_ne hb)
/-- a new object that the store does not bear -/
theorem RelS.ext {B : Bs} {S : Store} {H : Hp} {a : Addr} {u : HO} (h : RelS B S H) (n : H a = none) : RelS B S (L2.upd H a u) := fun b ob q => by
  have hb : b ≠ a := fun z => by rw [z, h.free n] at q; cases q
  exact (h b ob q).ext (.fresh n) (upd_ne hb)
theorem RelS.sub {B : Bs} {S S' : Store} {H : Hp} (h : RelS B S H) (k : ∀ a o, S' a = some o → S a = some o) : RelS B S' H := fun a o e => h a o (k a o e)

/-- slots -/
structure RelL (B : Bs) (H : Hp) (σ : St) (ρ : Loc) : Prop where
  len : σ.length = ρ.length
  at_ : ∀ (i : Nat) (p : P), ρ[i]? = some (some p) → ∃ v, σ[i]? = some (some v) ∧ Rep B H p v
theorem RelL.ext {B : Bs} {H H' : Hp} {σ : St} {ρ : Loc} (e : Ext H H') (h : RelL B H σ ρ) : RelL B H' σ ρ := ⟨h.len, fun i p q => by
  obtain ⟨v, h1, h2⟩ := h.at_ i p q
  exact ⟨v, h1, h2.ext e⟩⟩
theorem RelL.set {B : Bs} {H : Hp} {σ : St} {ρ : Loc} {i : Nat} {p : P} {v : V} (h : RelL B H σ ρ) (r : Rep B H p v) : RelL B H (σ.set i (some v)) (ρ.set i (some p)) := by
  refine ⟨by simpa using h.len, fun j q e => ?_⟩
  by_cases hj : i = j
  · subst hj
    by_cases hl : i < ρ.length
    · rw [List.getElem?_set_self hl] at e
      cases e
      exact ⟨v, List.getElem?_set_self (by rw [h.len]; exact hl), r⟩
    · rw [List.getElem?_eq_none (by simpa using hl)] at e; cases e
  · rw [List.getElem?_set_ne hj] at e ⊢
    exact h.at_ j q e
theorem RelL.wipe {B : Bs} {H : Hp} {σ : St} {ρ : Loc} (h : RelL B H σ ρ) : ∀ own : List Nat, RelL B H (L2.wipe σ own) (wipeP ρ own)
  | [] => h
  | v :: vs => by
    have ih := h.wipe vs
    unfold L2.wipe wipeP
    refine ⟨by simpa using ih.len, fun j q e => ?_⟩
    by_cases hj : v = j
    · subst hj
      by_cases hl : v < (wipeP ρ vs).length
      · rw [List.getElem?_set_self hl] at e; cases e
      · rw [List.getElem?_eq_none (by simpa using hl)] at e; cases e
    · rw [List.getElem?_set_ne hj] at e ⊢
      exact ih.at_ j q e

/-- how an error lies -/
def ExR (B : Bs) (H : Hp) (ex : Exc) (cls : Value) (d : Option Addr) : Prop :=
  ∃ x C, B.T.cls[ex.cls]? = some x ∧ (B.T.xc ex.cls).isSome = true ∧ B.mg x = some (.ref C) ∧ cls = .ref C ∧ (ex.fs = [] ∨ ∃ da gs, d = some da ∧ H da = some (.xd gs) ∧ RepF B H ex.fs gs)

/-! ### the translation -/
def slotOf (N : List Str) (sc : Scope) (x : Str) : Option Nat :=
  if x == ("__debug__" : Str) || x == ("__classdict__" : Str) then none else
  match sc.names.lookup x with
  | some .local => N.idxOf? x
  | some .cell => N.idxOf? x
  | some .free => N.idxOf? x
  | _ => none
def isGl (sc : Scope) (x : Str) : Bool := sc.names.lookup x == some .globalImplicit && !(x == ("__debug__" : Str))
def plainBase0 : PySem.Expr → Bool
  | .Call .. => false
  | _ => true
def plainIx : PySem.Expr → Bool
  | .Slice .. => false
  | _ => true
def ownOf (N : List Str) (scope : Scope) : List (Str × Nat) :=
  scope.names.filterMap fun y => match y.2 with
    | .local => (N.idxOf? y.1).map fun i => (y.1, i)
    | .cell => (N.idxOf? y.1).map fun i => (y.1, i)
    | _ => none
def bfOf (x : Str) : Option Bf :=
  if x = "len" then some .len else if x = "int" then some .int else if x = "list" then some .list else if x = "tuple" then some .tuple else if x = "abs" then some .abs
  else if x = "min" then some .min else if x = "max" then some .max else if x = "sum" then some .sum else if x = "any" then some .any else if x = "all" then some .all
  else if x = "bool" then some .bool else none
def tyName (x : Str) : Option Ty :=
  if x = "int" then some .int else if x = "bool" then some .bool else if x = "str" then some .str else if x = "tuple" then some .tuple else if x = "list" then some .list else none
def bmOf (x : Str) : Option Bm :=
  if x = "append" then some .append else if x = "pop" then some .pop else if x = "extend" then some .extend else if x = "reverse" then some .reverse else none
def ikOf (x : Str) : Option IK :=
  if x = "range" then some .range else if x = "enumerate" then some .enum else none

def trVT (c : Bool) (N : List Str) (sc : Scope) : Nat → PySem.Expr → Option VT
  | 0, _ => none
  | n + 1, .Name x _ => match sc.names.lookup x with
    | some .local => (N.idxOf? x).map .nm
    | some .cell => if c then (N.idxOf? x).map .nm else none
    | _ => none
  | n + 1, .Tuple es _ _ => (es.mapM (trVT c N sc n)).map .tup
  | _ + 1, _ => none

mutual
def vtSlots : VT → List Nat
  | .nm i => [i]
  | .tup ts => vtSlotss ts
def vtSlotss : List VT → List Nat
  | [] => []
  | t :: ts => vtSlots t ++ vtSlotss ts
end
def trBo (b : BoolOp) (x y : CE) : CE := match b with
  | .And => .and_ x y
  | .Or => .or_ x y
def trBool (b : BoolOp) : List CE → Option CE
  | [] => none
  | [x] => some x
  | x :: r => (trBool b r).map (trBo b x)

/-- what is walked: a built-in maker of turns, or any list or tuple -/
def trI (tr : PySem.Expr → Option CE) (T : Tab) (sc : Scope) (tg : PySem.Expr) (iter : PySem.Expr) : Option (IK × List CE) :=
  match iter with
  | .Call (.Name f _) args [] _ => if isGl sc f then (match T.fns.idxOf? f with
    | some _ => (tr iter).map fun e => (IK.seq, [e])
    | none => match T.cls.idxOf? f with
      | some _ => none
      | none => match ikOf f, args with
        | some .range, [a] => (tr a).map fun x => (IK.range, [x])
        | some .range, [a, b] => do let x ← tr a; let y ← tr b; some (IK.range, [x, y])
        | some .enum, [a] => (match tg with
          | .Tuple .. => (tr a).map fun x => (IK.enum, [x])
          | _ => none)
        | some _, _ => none
        | none, _ => (tr iter).map fun e => (IK.seq, [e])) else none
  | .Set .. => none
  | _ => (tr iter).map fun e => (IK.seq, [e])

def trE (T : Tab) (N : List Str) : Nat → Scope → PySem.Expr → Option CE
  | 0, _, _ => none
  | n + 1, sc, e => match e with
    | .Constant .none _ _ => some (.lit .non)
    | .Constant (.bool b) _ _ => some (.lit (.bl b))
    | .Constant (.int i) _ _ => some (.lit (.int i))
    | .Constant (.str s) _ _ => some (.lit (.str s))
    | .Name x _ => match slotOf N sc x with
      | some i => some (.var i)
      | none => if isGl sc x then (match T.cns.idxOf? x with
        | some i => some (.con i)
        | none => (T.fns.idxOf? x).map .fnv) else none
    | .Tuple es _ _ => if es.length ≤ 1000 then (es.mapM (trE T N n sc)).map .tup else none
    | .List es _ => if es.length ≤ 1000 then (es.mapM (trE T N n sc)).map .lst else none
    | .BinOp a op b _ => do let x ← trE T N n sc a; let y ← trE T N n sc b; some (.bin op x y)
    | .UnaryOp .USub a _ => (trE T N n sc a).map .neg
    | .UnaryOp .Not a _ => (trE T N n sc a).map .not_
    | .BoolOp b es _ => do let xs ← es.mapM (trE T N n sc); trBool b xs
    | .Compare a [op] [b] _ => do let x ← trE T N n sc a; let y ← trE T N n sc b; some (.cmp op x y)
    | .Compare a [op, op'] [b, c] _ => do let x ← trE T N n sc a; let y ← trE T N n sc b; let z ← trE T N n sc c; some (.chn op op' x y z)
    | .IfExp c a b _ => do let z ← trE T N n sc c; let x ← trE T N n sc a; let y ← trE T N n sc b; some (.ife z x y)
    | .Subscript a (.Slice lo hi none _) _ => do
      let x ← trE T N n sc a
      let l ← (match lo with | none => some none | some e => (trE T N n sc e).map some)
      let h ← (match hi with | none => some none | some e => (trE T N n sc e).map some)
      some (.slc x l h)
    | .Subscript a i _ => if plainIx i then (do let x ← trE T N n sc a; let y ← trE T N n sc i; some (.idx x y)) else none
    | .Attribute a f _ => if plainBase0 a then (do let x ← trE T N n sc a; let i ← T.att.idxOf? f; some (.fld x i)) else none
    | .Call (.Name f _) args [] _ => if !args.isEmpty && (slotOf N sc f).isSome then (do let i ← slotOf N sc f; let xs ← args.mapM (trE T N n sc); some (.cvar i xs)) else if isGl sc f then (match T.fns.idxOf? f with
        | some i => do let xs ← args.mapM (trE T N n sc); some (.call i xs)
        | none => match T.cls.idxOf? f with
          | some i => do let xs ← args.mapM (trE T N n sc); some (.mk i xs)
          | none => if f = "isinstance" then (match args with
              | [a, .Name t _] => if isGl sc t then (do let x ← trE T N n sc a; let u ← tyName t; some (.isi x [u])) else none
              | _ => none)
            else match bfOf f with
              | some b => do let xs ← args.mapM (trE T N n sc); some (.blt b xs)
              | none => none) else none
    | .Call (.Attribute a m apos) args [] cpos => if !plainBase0 a then none else match T.mts.idxOf? m with
      | some i => if apos.endLine == cpos.line && decide (args.length ≤ 20) then (do let x ← trE T N n sc a; let xs ← args.mapM (trE T N n sc); some (.mth x i xs)) else none
      | none => match bmOf m with
        | some b => if apos.endLine == cpos.line && decide (args.length ≤ 3) then (do let x ← trE T N n sc a; let xs ← args.mapM (trE T N n sc); some (.bmt x b xs)) else none
        | none => none
    | .ListComp elt [⟨tg, iter, ifs, 0⟩] scope _ =>
      let own := ownOf N scope
      let sc' := relS scope sc
      if blkC N sc scope own then (do
        let t ← trVT false N sc' 8 tg
        let x ← trE T N n sc' elt
        let c ← (match ifs with | [] => some none | [e] => (trE T N n sc' e).map some | _ => none)
        let (k, as) ← trI (trE T N n sc) T sc tg iter
        if (vtSlots t).all (fun i => (own.map (·.2)).contains i) then some (.cmpr (own.map (·.2)) k as t x c) else none) else none
    | _ => none

/-! ### statements -/
def isCompr : PySem.Expr → Bool
  | .ListComp .. => true
  | .SetComp .. => true
  | .DictComp .. => true
  | _ => false
def isTupleE : PySem.Expr → Bool
  | .Tuple .. => true
  | _ => false
/-- a target -/
def trT (T : Tab) (N : List Str) (tr : PySem.Expr → Option CE) (sc : Scope) : Nat → PySem.Expr → Option Tgt
  | 0, _ => none
  | n + 1, .Name x _ => match sc.names.lookup x with
    | some .local => (N.idxOf? x).map .nm
    | some .cell => (N.idxOf? x).map .nm
    | _ => none
  | n + 1, .Tuple es _ _ => (es.mapM (trT T N tr sc n)).map .tup
  | _ + 1, .Subscript a i _ => if plainIx i then (do let x ← tr a; let y ← tr i; some (.sub x y)) else none
  | _ + 1, .Attribute a f _ => if plainBase0 a then (do let x ← tr a; let i ← T.att.idxOf? f; some (.fld x i)) else none
  | _ + 1, _ => none
/-- two or three plain local names, all different, on one line: stored from the right, no tuple made -/
def parNames (N : List Str) (sc : Scope) (ts : List PySem.Expr) : Option (List Nat) :=
  ts.mapM fun
    | .Name x _ => match sc.names.lookup x with
      | some .local => N.idxOf? x
      | _ => none
    | _ => none
def trHs (T : Tab) (N : List Str) (sc : Scope) : List ExceptHandler → Option (List (Nat × Option Nat × HS))
  | [] => some []
  | .ExceptHandler (some (.Name x _)) nm body _ :: r =>
    if isGl sc x then (do
      let c ← T.cls.idxOf? x
      let _ ← T.xc c
      let h ← (match body with
        | [.Return (some (.Constant (.str s) _ _)) _] => some (HS.lit (.str s))
        | [.Return (some (.Constant .none _ _)) _] => some (HS.lit .non)
        | [.Return (some (.Constant (.bool b) _ _)) _] => some (HS.lit (.bl b))
        | [.Return (some (.Constant (.int i) _ _)) _] => some (HS.lit (.int i))
        | [.Return (some (.Attribute (.Name y _) f _)) _] => if nm = some y && (slotOf N sc y).isSome then (T.att.idxOf? f).map HS.fld else none
        | [.Return (some (.BinOp (.Constant (.str s) _ _) .Add (.Attribute (.Name y _) f _) _)) _] => if nm = some y && (slotOf N sc y).isSome then (T.att.idxOf? f).map (HS.pre s) else none
        | _ => none)
      let i ← (match nm with
        | none => some none
        | some y => match sc.names.lookup y with
          | some .local => (N.idxOf? y).map some
          | _ => none)
      let hs ← trHs T N sc r
      some ((c, i, h) :: hs)) else none
  | _ :: _ => none
def trS (T : Tab) (N : List Str) (sc : Scope) : Nat → Stmt → Option CS
  | 0, _ => none
  | n + 1, s => match s with
    | .Assign [.Tuple ts k tp] (.Tuple vs k2 vp) p => (do
      let is ← parNames N sc ts
      if (is.length == 2 || is.length == 3) && vs.length == is.length && decide is.Nodup && decide (ts.all fun t => t.pos.line == (ts.head?.map (·.pos.line)).getD 0) && !vs.all (foldedForSure 8) && !vs.all (constantsAlone 8) then
        (do let xs ← vs.mapM (trE T N 40 sc); some (.par is xs))
      else none)
    | .Assign [t] e p => if isTupleE t && isTupleE e then none else (do
      let g ← trT T N (trE T N 40 sc) sc 6 t
      let x ← trE T N 40 sc e
      some (.asg g x))
    | .AugAssign (.Name x _) op e _ => match sc.names.lookup x with
      | some .local => (do let i ← N.idxOf? x; let y ← trE T N 40 sc e; some (.aug i op y))
      | some .cell => (do let i ← N.idxOf? x; let y ← trE T N 40 sc e; some (.aug i op y))
      | _ => none
    | .If c a b _ => (do
      let x ← trE T N 40 sc c
      let y ← a.mapM (trS T N sc n)
      let z ← b.mapM (trS T N sc n)
      some (.if_ x y z))
    | .While c b [] _ => (do
      let x ← trE T N 40 sc c
      let y ← b.mapM (trS T N sc n)
      some (.whl x y))
    | .For tg it b [] _ => (do
      let t ← trVT true N sc 8 tg
      let (k, as) ← trI (trE T N 40 sc) T sc tg it
      let y ← b.mapM (trS T N sc n)
      some (.for_ k as t y))
    | .Return none _ => some .retN
    | .Return (some e) _ => (trE T N 40 sc e).map .ret
    | .Raise (some (.Call (.Name x _) args [] _)) none _ => if isGl sc x then (do
      let c ← T.cls.idxOf? x
      match T.xc c, args with
      | some none, [] => some (.rse c [])
      | some (some _), [e] => (trE T N 40 sc e).map fun y => .rse c [y]
      | _, _ => none) else none
    | .Expr (.Constant (.str _) _ _) _ => some .pass
    | .Expr e _ => if isCompr e then none else (trE T N 40 sc e).map .exp
    | .Pass _ => some .pass
    | .Break _ => some .brk
    | .Continue _ => some .cnt
    | .Try b (h :: hs) [] [] _ => (do
      let y ← b.mapM (trS T N sc n)
      let z ← trHs T N sc (h :: hs)
      some (.try_ y z))
    | _ => none
end Core

/-! Core3: the transformer is monotone. -/
namespace Core
open PySem L2

def SpMono (sp : PSpec) : Prop := ∀ as S (Q Q' : QP) (E E' : QE), (∀ p S, Q p S → Q' p S) → (∀ x S, E x S → E' x S) → sp as S Q E → sp as S Q' E'
structure GMono (G : Env) : Prop where
  fn : ∀ i, SpMono (G.fn i)
  mth : ∀ c m, SpMono (G.mth c m)
  ini : ∀ c, SpMono (G.ini c)

section
variable {Q Q' : QP} {S : Store} {x y : P}
theorem eqS_mono {k k' : Bool → Prop} (h : ∀ b, k b → k' b) : eqS S x y k → eqS S x y k' := fun ⟨d, e, h1, h2, h3⟩ => ⟨d, e, h1, h2, h _ h3⟩
theorem inS_mono {xs : List P} {k k' : Bool → Prop} (h : ∀ b, k b → k' b) : inS S x xs k → inS S x xs k' := fun ⟨d, e, h1, h2, h3⟩ => ⟨d, e, h1, h2, h _ h3⟩
theorem inF_mono {xs : List P} {k k' : Bool → Prop} (h : ∀ b, k b → k' b) : inF x xs k → inF x xs k' := fun ⟨h1, h2, h3⟩ => ⟨h1, h2, h _ h3⟩
theorem opAdd_mono (hQ : ∀ p S, Q p S → Q' p S) : opAdd x y S Q → opAdd x y S Q' := by
  unfold opAdd
  split
  · exact hQ _ _
  · exact fun h => ⟨h.1, hQ _ _ h.2⟩
  · exact fun h => ⟨h.1, hQ _ _ h.2⟩
  · exact fun ⟨xs, ys, h1, h2, h3, h4⟩ => ⟨xs, ys, h1, h2, h3, fun c hc => hQ _ _ (h4 c hc)⟩
  · exact id
theorem opMul_mono (hQ : ∀ p S, Q p S → Q' p S) : opMul x y S Q → opMul x y S Q' := by
  unfold opMul
  split
  · exact fun h => ⟨h.1, hQ _ _ h.2⟩
  · exact fun ⟨xs, h1, h2, h3, h4, h5⟩ => ⟨xs, h1, h2, h3, h4, fun c hc => hQ _ _ (h5 c hc)⟩
  · exact fun ⟨h1, h2, h3, h4⟩ => ⟨h1, h2, h3, hQ _ _ h4⟩
  · exact id
theorem opBin_mono {op : Operator} (hQ : ∀ p S, Q p S → Q' p S) : opBin op x y S Q → opBin op x y S Q' := by
  unfold opBin
  split
  · exact opAdd_mono hQ
  · split
    · exact hQ _ _
    · exact id
  · exact opMul_mono hQ
  · split
    · exact fun h => ⟨h.1, hQ _ _ h.2⟩
    · exact id
  · split
    · exact fun h => ⟨h.1, hQ _ _ h.2⟩
    · exact id
  · split
    · exact fun h => ⟨h.1, hQ _ _ h.2⟩
    · exact id
  · exact id
theorem opAug_mono {op : Operator} (hQ : ∀ p S, Q p S → Q' p S) : opAug op x y S Q → opAug op x y S Q' := by
  unfold opAug
  split
  · split
    · exact hQ _ _
    · exact hQ _ _
    · exact fun h => ⟨h.1, hQ _ _ h.2⟩
    · exact fun h => ⟨h.1, hQ _ _ h.2⟩
    · exact id
  · exact id
theorem opCmp_mono {op : CmpOp} (hQ : ∀ p S, Q p S → Q' p S) : opCmp op x y S Q → opCmp op x y S Q' := by
  unfold opCmp
  split
  · exact eqS_mono fun b => hQ _ _
  · exact eqS_mono fun b => hQ _ _
  · split <;> first | exact hQ _ _ | exact id
  · split <;> first | exact hQ _ _ | exact id
  · split <;> first | exact hQ _ _ | exact id
  · split <;> first | exact hQ _ _ | exact id
  · split <;> first | exact hQ _ _ | exact id
  · split <;> first | exact hQ _ _ | exact id
  · split
    · exact inF_mono fun b => hQ _ _
    · split
      · exact inS_mono fun b => hQ _ _
      · exact id
    · exact id
  · split
    · exact inF_mono fun b => hQ _ _
    · split
      · exact inS_mono fun b => hQ _ _
      · exact id
    · exact id
theorem opIdx_mono (hQ : ∀ p S, Q p S → Q' p S) : opIdx x y S Q → opIdx x y S Q' := by
  unfold opIdx
  split
  · split
    · exact fun h z => let ⟨v, h1, h2⟩ := h z; ⟨v, h1, hQ _ _ h2⟩
    · exact id
  · exact id
theorem opSlc_mono {lo hi : Option Int} (hQ : ∀ p S, Q p S → Q' p S) : opSlc x lo hi S Q → opSlc x lo hi S Q' := by
  unfold opSlc
  split
  · exact fun h z => hQ _ _ (h z)
  · split
    · exact fun h z c hc => hQ _ _ (h z c hc)
    · exact id
  · exact fun h z c hc => hQ _ _ (h z c hc)
  · exact id
theorem bfS_mono {f : Bf} {vs : List P} (hQ : ∀ p S, Q p S → Q' p S) : bfS f vs S Q → bfS f vs S Q' := by
  unfold bfS
  split
  · split
    · exact fun h z => hQ _ _ (h z)
    · exact id
  · exact hQ _ _
  · exact hQ _ _
  · exact hQ _ _
  · exact hQ _ _
  · split
    · exact fun h z c hc => hQ _ _ (h z c hc)
    · exact id
  · split
    · exact fun h z => hQ _ _ (h z)
    · exact id
  · exact hQ _ _
  · exact hQ _ _
  · exact hQ _ _
  · split
    · exact fun ⟨ns, h1, h2, h3⟩ => ⟨ns, h1, h2, fun m hm hy => hQ _ _ (h3 m hm hy)⟩
    · exact id
  · split
    · exact fun ⟨ns, h1, h2, h3⟩ => ⟨ns, h1, h2, fun m hm hy => hQ _ _ (h3 m hm hy)⟩
    · exact id
  · split
    · exact fun ⟨ns, h1, h2⟩ => ⟨ns, h1, hQ _ _ h2⟩
    · exact id
  · split
    · exact fun ⟨ns, h1, h2⟩ => ⟨ns, h1, hQ _ _ h2⟩
    · exact id
  · split
    · exact fun ⟨ns, h1, h2⟩ => ⟨ns, h1, hQ _ _ h2⟩
    · exact id
  · exact id
theorem bmS_mono {m : Bm} {vs : List P} (hQ : ∀ p S, Q p S → Q' p S) : bmS m x vs S Q → bmS m x vs S Q' := by
  unfold bmS
  split
  · split
    · exact fun h => ⟨h.1, hQ _ _ h.2⟩
    · exact id
  · split
    · exact fun ⟨y, h1, h2⟩ => ⟨y, h1, hQ _ _ h2⟩
    · exact id
  · split
    · exact fun h z => let ⟨k, y, h1, h2, h3⟩ := h z; ⟨k, y, h1, h2, hQ _ _ h3⟩
    · exact id
  · split
    · exact fun h => ⟨h.1, hQ _ _ h.2⟩
    · exact id
  · split
    · exact hQ _ _
    · exact id
  · exact id
theorem iterS_mono {k : IK} {vs : List P} {K K' : List P → (Store → Prop) → Prop} (hK : ∀ xs g, K xs g → K' xs g) : iterS k vs S K → iterS k vs S K' := by
  unfold iterS
  split
  · exact fun h z => hK _ _ (h z)
  · exact fun h z => hK _ _ (h z)
  · split
    · exact fun h z => hK _ _ (h z)
    · exact id
  · exact fun h => ⟨h.1, hK _ _ h.2⟩
  · exact fun h => ⟨h.1, hK _ _ h.2⟩
  · split
    · exact fun h z => hK _ _ (h z)
    · exact id
  · exact fun h z => hK _ _ (h z)
  · exact id
end

mutual
theorem wpVT_mono : ∀ (t : VT) {p : P} {ρ : Loc} {Q Q' : Loc → Prop}, (∀ ρ, Q ρ → Q' ρ) → wpVT t p ρ Q → wpVT t p ρ Q'
  | .nm i, p, ρ, Q, Q', hQ, h => by unfold wpVT at h ⊢; exact hQ _ h
  | .tup ts, p, ρ, Q, Q', hQ, h => by
    cases p <;> unfold wpVT at h ⊢ <;> try exact h
    exact wpVTs_mono ts hQ h
theorem wpVTs_mono : ∀ (ts : List VT) {xs : List P} {ρ : Loc} {Q Q' : Loc → Prop}, (∀ ρ, Q ρ → Q' ρ) → wpVTs ts xs ρ Q → wpVTs ts xs ρ Q'
  | [], xs, ρ, Q, Q', hQ, h => by
    cases xs <;> unfold wpVTs at h ⊢
    · exact hQ _ h
    · exact h
  | t :: ts, xs, ρ, Q, Q', hQ, h => by
    cases xs <;> unfold wpVTs at h ⊢
    · exact h
    · exact wpVT_mono t (fun ρ' => wpVTs_mono ts hQ) h
end

section
variable {G : Env} (gm : GMono G)
include gm
mutual
theorem wpE_mono : ∀ (c : CE) {ρ : Loc} {S : Store} {Q Q' : QP} {E E' : QE}, (∀ p S, Q p S → Q' p S) → (∀ x S, E x S → E' x S) → wpE G c ρ S Q E → wpE G c ρ S Q' E'
  | .var i, ρ, S, Q, Q', E, E', hQ, hE, h => by
    unfold wpE at h ⊢
    split at h
    · exact hQ _ _ h
    · exact h.elim
  | .lit p, ρ, S, Q, Q', E, E', hQ, hE, h => by unfold wpE at h ⊢; exact hQ _ _ h
  | .con i, ρ, S, Q, Q', E, E', hQ, hE, h => by unfold wpE at h ⊢; exact hQ _ _ h
  | .fnv i, ρ, S, Q, Q', E, E', hQ, hE, h => by unfold wpE at h ⊢; exact hQ _ _ h
  | .tup es, ρ, S, Q, Q', E, E', hQ, hE, h => by
    unfold wpE at h ⊢
    exact wpEs_mono es (fun ps S h => hQ _ _ h) hE h
  | .lst es, ρ, S, Q, Q', E, E', hQ, hE, h => by
    unfold wpE at h ⊢
    exact wpEs_mono es (fun ps S h a ha => hQ _ _ (h a ha)) hE h
  | .bin op a b, ρ, S, Q, Q', E, E', hQ, hE, h => by
    unfold wpE at h ⊢
    exact wpE_mono a (fun x S1 h => wpE_mono b (fun y S2 h => opBin_mono hQ h) hE h) hE h
  | .neg a, ρ, S, Q, Q', E, E', hQ, hE, h => by
    unfold wpE at h ⊢
    refine wpE_mono a (fun x S1 h => ?_) hE h
    cases x <;> first | exact hQ _ _ h | exact h
  | .cmp op a b, ρ, S, Q, Q', E, E', hQ, hE, h => by
    unfold wpE at h ⊢
    exact wpE_mono a (fun x S1 h => wpE_mono b (fun y S2 h => opCmp_mono hQ h) hE h) hE h
  | .chn op op' a b c, ρ, S, Q, Q', E, E', hQ, hE, h => by
    unfold wpE at h ⊢
    refine wpE_mono a (fun x S1 h => wpE_mono b (fun y S2 h => opCmp_mono (fun z S3 h => ?_) h) hE h) hE h
    split at h
    · exact wpE_mono c (fun u S4 h => opCmp_mono hQ h) hE h
    · exact hQ _ _ h
    · exact h
  | .and_ a b, ρ, S, Q, Q', E, E', hQ, hE, h => by
    unfold wpE at h ⊢
    refine wpE_mono a (fun x S1 h => ?_) hE h
    split at h
    · exact wpE_mono b hQ hE h
    · exact hQ _ _ h
    · exact h
  | .or_ a b, ρ, S, Q, Q', E, E', hQ, hE, h => by
    unfold wpE at h ⊢
    refine wpE_mono a (fun x S1 h => ?_) hE h
    split at h
    · exact hQ _ _ h
    · exact wpE_mono b hQ hE h
    · exact h
  | .not_ a, ρ, S, Q, Q', E, E', hQ, hE, h => by
    unfold wpE at h ⊢
    refine wpE_mono a (fun x S1 h => ?_) hE h
    split at h
    · exact hQ _ _ h
    · exact h
  | .ife c a b, ρ, S, Q, Q', E, E', hQ, hE, h => by
    unfold wpE at h ⊢
    refine wpE_mono c (fun x S1 h => ?_) hE h
    split at h
    · exact wpE_mono a hQ hE h
    · exact wpE_mono b hQ hE h
    · exact h
  | .idx a i, ρ, S, Q, Q', E, E', hQ, hE, h => by
    unfold wpE at h ⊢
    exact wpE_mono a (fun x S1 h => wpE_mono i (fun y S2 h => opIdx_mono hQ h) hE h) hE h
  | .slc a lo hi, ρ, S, Q, Q', E, E', hQ, hE, h => by
    unfold wpE at h ⊢
    refine wpE_mono a (fun x S1 h => wpO_mono lo (fun l S2 h => ?_) hE h) hE h
    split at h
    · refine wpO_mono hi (fun u S3 h => ?_) hE h
      split at h
      · exact opSlc_mono hQ h
      · exact h
    · exact h
  | .fld a f, ρ, S, Q, Q', E, E', hQ, hE, h => by
    unfold wpE at h ⊢
    refine wpE_mono a (fun x S1 h => ?_) hE h
    split at h
    · split at h
      · split at h
        · exact hQ _ _ h
        · exact h
      · exact h
    · exact h
  | .call f es, ρ, S, Q, Q', E, E', hQ, hE, h => by
    unfold wpE at h ⊢
    exact wpEs_mono es (fun ps S1 h => gm.fn f ps S1 _ _ _ _ hQ hE h) hE h
  | .mk c es, ρ, S, Q, Q', E, E', hQ, hE, h => by
    unfold wpE at h ⊢
    exact wpEs_mono es (fun ps S1 h a ha => gm.ini c _ _ _ _ _ _ (fun p S2 h => ⟨h.1, hQ _ _ h.2⟩) hE (h a ha)) hE h
  | .blt f es, ρ, S, Q, Q', E, E', hQ, hE, h => by
    unfold wpE at h ⊢
    exact wpEs_mono es (fun ps S1 h => bfS_mono hQ h) hE h
  | .isi a ts, ρ, S, Q, Q', E, E', hQ, hE, h => by
    unfold wpE at h ⊢
    refine wpE_mono a (fun x S1 h => ?_) hE h
    split at h
    · exact hQ _ _ h
    · exact h
  | .mth a m es, ρ, S, Q, Q', E, E', hQ, hE, h => by
    unfold wpE at h ⊢
    refine wpE_mono a (fun x S1 h => ?_) hE h
    split at h
    · split at h
      · exact ⟨h.1, wpEs_mono es (fun ps S2 h => gm.mth _ m _ _ _ _ _ _ hQ hE h) hE h.2⟩
      · exact h
    · exact h
  | .bmt a m es, ρ, S, Q, Q', E, E', hQ, hE, h => by
    unfold wpE at h ⊢
    exact wpE_mono a (fun x S1 h => ⟨h.1, wpEs_mono es (fun ps S2 h => bmS_mono hQ h) hE h.2⟩) hE h
  | .cmpr own k args tg elt cond, ρ, S, Q, Q', E, E', hQ, hE, h => by
    unfold wpE at h ⊢
    refine wpEs_mono args (fun vs S1 h => iterS_mono (fun items Gd h D hD => ?_) h) hE h
    obtain ⟨I, h0, hs, hd⟩ := h D hD
    exact ⟨I, h0, hs, fun acc S2 hi hl => ⟨(hd acc S2 hi hl).1, hQ _ _ (hd acc S2 hi hl).2⟩⟩
  | .rev _, ρ, S, Q, Q', E, E', hQ, hE, h => by unfold wpE at h; exact h.elim
  | .slw _ _, ρ, S, Q, Q', E, E', hQ, hE, h => by unfold wpE at h; exact h.elim
  | .dct _ _, ρ, S, Q, Q', E, E', hQ, hE, h => by unfold wpE at h; exact h.elim
  | .cvar i es, ρ, S, Q, Q', E, E', hQ, hE, h => by
    unfold wpE at h ⊢
    split at h
    · exact wpEs_mono es (fun ps S1 h => gm.fn _ ps S1 _ _ _ _ hQ hE h) hE h
    · exact h.elim
theorem wpEs_mono : ∀ (es : List CE) {ρ : Loc} {S : Store} {Q Q' : List P → Store → Prop} {E E' : QE}, (∀ ps S, Q ps S → Q' ps S) → (∀ x S, E x S → E' x S) → wpEs G es ρ S Q E → wpEs G es ρ S Q' E'
  | [], ρ, S, Q, Q', E, E', hQ, hE, h => by unfold wpEs at h ⊢; exact hQ _ _ h
  | e :: es, ρ, S, Q, Q', E, E', hQ, hE, h => by
    unfold wpEs at h ⊢
    exact wpE_mono e (fun p S1 h => wpEs_mono es (fun ps S2 h => hQ _ _ h) hE h) hE h
theorem wpO_mono : ∀ (o : Option CE) {ρ : Loc} {S : Store} {Q Q' : Option P → Store → Prop} {E E' : QE}, (∀ ps S, Q ps S → Q' ps S) → (∀ x S, E x S → E' x S) → wpO G o ρ S Q E → wpO G o ρ S Q' E'
  | none, ρ, S, Q, Q', E, E', hQ, hE, h => by unfold wpO at h ⊢; exact hQ _ _ h
  | some e, ρ, S, Q, Q', E, E', hQ, hE, h => by
    unfold wpO at h ⊢
    exact wpE_mono e (fun p S1 h => hQ _ _ h) hE h
end
theorem wpC_mono (o : Option CE) {ρ : Loc} {S : Store} {Q Q' : Bool → Store → Prop} (hQ : ∀ b S, Q b S → Q' b S) (h : wpC G o ρ S Q) : wpC G o ρ S Q' := by
  cases o with
  | none => unfold wpC at h ⊢; exact hQ _ _ h
  | some e =>
    unfold wpC at h ⊢
    refine wpE_mono gm e (fun p S1 h => ?_) (fun _ _ h => h) h
    split at h
    · exact hQ _ _ h
    · exact h
end

section
variable {G : Env} (gm : GMono G)
include gm
mutual
theorem wpT_mono : ∀ (t : Tgt) {p : P} {ρ : Loc} {S : Store} {Q Q' : Loc → Store → Prop} {E E' : QE}, (∀ ρ S, Q ρ S → Q' ρ S) → (∀ x S, E x S → E' x S) → wpT G t p ρ S Q E → wpT G t p ρ S Q' E'
  | .nm i, p, ρ, S, Q, Q', E, E', hQ, hE, h => by unfold wpT at h ⊢; exact hQ _ _ h
  | .tup ts, p, ρ, S, Q, Q', E, E', hQ, hE, h => by
    cases p <;> unfold wpT at h ⊢ <;> try exact h
    exact ⟨h.1, wpTs_mono ts hQ hE h.2⟩
  | .sub a i, p, ρ, S, Q, Q', E, E', hQ, hE, h => by
    unfold wpT at h ⊢
    refine wpE_mono gm a (fun x S1 h => wpE_mono gm i (fun y S2 h => ?_) hE h) hE h
    split at h
    · exact fun z => let ⟨j, h1, h2⟩ := h z; ⟨j, h1, hQ _ _ h2⟩
    · exact h
  | .fld a f, p, ρ, S, Q, Q', E, E', hQ, hE, h => by
    unfold wpT at h ⊢
    refine wpE_mono gm a (fun x S1 h => ?_) hE h
    split at h
    · split at h
      · exact ⟨h.1, hQ _ _ h.2⟩
      · exact h
    · exact h
theorem wpTs_mono : ∀ (ts : List Tgt) {xs : List P} {ρ : Loc} {S : Store} {Q Q' : Loc → Store → Prop} {E E' : QE}, (∀ ρ S, Q ρ S → Q' ρ S) → (∀ x S, E x S → E' x S) → wpTs G ts xs ρ S Q E → wpTs G ts xs ρ S Q' E'
  | [], xs, ρ, S, Q, Q', E, E', hQ, hE, h => by
    cases xs <;> unfold wpTs at h ⊢
    · exact hQ _ _ h
    · exact h
  | t :: ts, xs, ρ, S, Q, Q', E, E', hQ, hE, h => by
    cases xs <;> unfold wpTs at h ⊢
    · exact h
    · exact wpT_mono t (fun ρ' S' h => wpTs_mono ts hQ hE h) hE h
end
structure DE.Le (D D' : DE) : Prop where
  nx : ∀ ρ S, D.nx ρ S → D'.nx ρ S
  rt : ∀ p S, D.rt p S → D'.rt p S
  bk : ∀ ρ S, D.bk ρ S → D'.bk ρ S
  ct : ∀ ρ S, D.ct ρ S → D'.ct ρ S
  ex : ∀ x S, D.ex x S → D'.ex x S
omit gm in
theorem wpH_mono {D D' : DE} (hD : DE.Le D D') {ρ : Loc} {ex : Exc} {S : Store} : ∀ hs, wpH hs D ρ ex S → wpH hs D' ρ ex S
  | [], h => hD.ex _ _ h
  | (c, i, hh) :: r, h => by
    unfold wpH at h ⊢
    split at h
    · rename_i hc
      rw [if_pos hc]
      cases hh with
      | lit p => exact hD.rt _ _ h
      | fld f =>
        simp only at h ⊢
        split at h
        · exact hD.rt _ _ h
        · exact h.elim
      | pre s f =>
        simp only at h ⊢
        split at h
        · exact ⟨h.1, hD.rt _ _ h.2⟩
        · exact h.elim
    · rename_i hc
      rw [if_neg hc]
      exact wpH_mono hD r h
mutual
theorem wpS_mono : ∀ (s : CS) {ρ : Loc} {S : Store} {D D' : DE}, DE.Le D D' → wpS G s ρ S D → wpS G s ρ S D'
  | .asg t e, ρ, S, D, D', hD, h => by
    unfold wpS at h ⊢
    exact wpE_mono gm e (fun p S1 h => wpT_mono gm t hD.nx hD.ex h) hD.ex h
  | .par is es, ρ, S, D, D', hD, h => by
    unfold wpS at h ⊢
    exact wpEs_mono gm es (fun ps S1 h => hD.nx _ _ h) hD.ex h
  | .aug i op e, ρ, S, D, D', hD, h => by
    unfold wpS at h ⊢
    split at h
    · exact wpE_mono gm e (fun y S1 h => opAug_mono (fun z S2 h => hD.nx _ _ h) h) hD.ex h
    · exact h.elim
  | .augF a f op e, ρ, S, D, D', hD, h => by
    unfold wpS at h ⊢
    refine wpE_mono gm a (fun x S1 h => ?_) hD.ex h
    split at h
    · split at h
      · split at h
        · refine wpE_mono gm e (fun y S2 h => opAug_mono (fun z S3 h => ?_) h) hD.ex h
          split at h
          · exact ⟨h.1, hD.nx _ _ h.2⟩
          · exact h
        · exact h
      · exact h
    · exact h
  | .if_ c a b, ρ, S, D, D', hD, h => by
    unfold wpS at h ⊢
    refine wpE_mono gm c (fun x S1 h => ?_) hD.ex h
    split at h
    · exact wpB_mono a hD h
    · exact wpB_mono b hD h
    · exact h
  | .whl c b, ρ, S, D, D', hD, h => by
    unfold wpS at h ⊢
    obtain ⟨I, μ, h0, hs⟩ := h
    refine ⟨I, μ, h0, fun ρ S hi => wpE_mono gm c (fun x S1 h => ?_) hD.ex (hs ρ S hi)⟩
    split at h
    · refine wpB_mono b ?_ h
      exact ⟨fun _ _ h => h, hD.rt, hD.nx, fun _ _ h => h, hD.ex⟩
    · exact hD.nx _ _ h
    · exact h
  | .for_ k args tg b, ρ, S, D, D', hD, h => by
    unfold wpS at h ⊢
    refine wpEs_mono gm args (fun vs S1 h => iterS_mono (fun items Gd h => ?_) h) hD.ex h
    obtain ⟨I, h0, hs, hd⟩ := h
    exact ⟨I, h0, fun i x ρ S hx hi => ⟨(hs i x ρ S hx hi).1, wpVT_mono tg (fun ρ2 h => by refine wpB_mono b ?_ h; exact ⟨fun _ _ h => h, hD.rt, hD.nx, fun _ _ h => h, hD.ex⟩) (hs i x ρ S hx hi).2⟩,
      fun ρ S hi => ⟨(hd ρ S hi).1, hD.nx _ _ (hd ρ S hi).2⟩⟩
  | .ret e, ρ, S, D, D', hD, h => by unfold wpS at h ⊢; exact wpE_mono gm e hD.rt hD.ex h
  | .retN, ρ, S, D, D', hD, h => by unfold wpS at h ⊢; exact hD.rt _ _ h
  | .rse c es, ρ, S, D, D', hD, h => by
    unfold wpS at h ⊢
    refine ⟨h.1, wpEs_mono gm es (fun ps S1 h => ?_) hD.ex h.2⟩
    split at h
    · exact hD.ex _ _ h
    · exact hD.ex _ _ h
    · exact h
  | .exp e, ρ, S, D, D', hD, h => by unfold wpS at h ⊢; exact wpE_mono gm e (fun p S1 h => hD.nx _ _ h) hD.ex h
  | .brk, ρ, S, D, D', hD, h => by unfold wpS at h ⊢; exact hD.bk _ _ h
  | .cnt, ρ, S, D, D', hD, h => by unfold wpS at h ⊢; exact hD.ct _ _ h
  | .pass, ρ, S, D, D', hD, h => by unfold wpS at h ⊢; exact hD.nx _ _ h
  | .try_ b hs, ρ, S, D, D', hD, h => by
    unfold wpS at h ⊢
    refine wpB_mono b ?_ h
    exact ⟨hD.nx, hD.rt, hD.bk, hD.ct, fun x S h => wpH_mono hD hs h⟩
theorem wpB_mono : ∀ (b : List CS) {ρ : Loc} {S : Store} {D D' : DE}, DE.Le D D' → wpB G b ρ S D → wpB G b ρ S D'
  | [], ρ, S, D, D', hD, h => by unfold wpB at h ⊢; exact hD.nx _ _ h
  | s :: ss, ρ, S, D, D', hD, h => by
    unfold wpB at h ⊢
    refine wpS_mono s ?_ h
    exact ⟨fun ρ' S' h => wpB_mono ss hD h, hD.rt, hD.bk, hD.ct, hD.ex⟩
end
end
end Core

set_option maxRecDepth 100000
set_option maxHeartbeats 4000000
/-! CoreA: a tuple times an int, of any size that fits. -/
namespace L2
open PySem PySem.Spec PyProof.Rows
theorem tuple_mulSame (at_ : Addr) (row : Array Value) (n : Nat) (sl : Array (Option Value)) (dd : Option Addr) (x : Int) (u : Tok) (g0 : (decide (x < -(2 ^ 63)) || decide (x ≥ 2 ^ 63)) = false) (g1 : (row.isEmpty || x == 1) = true) :
    Meets (Builtin.«tuple.__mul__» ⟨[.ref at_, .int x u], []⟩) (fun _ R s => s.heap.get? at_ = some { cls := .type "tuple", dict := dd, data := .seq row n, slots := sl } ∧ R (.ok (.ret (Value.ref at_))) s) :=
  .of_wp fun prog w A R s h => by
    obtain ⟨hp, g, d, tk, os⟩ := s
    obtain ⟨hl, h⟩ := h
    have f1 := AutoSeq1.idx_int
    wp_walk using wpAny_loadPart' hl
    repeat (first
      | (refine wpAny_ite_false (decide_eq_false (by rw [g0]; exact Bool.false_ne_true)) ?_; wp_walk using wpAny_loadPart' hl)
      | (refine wpAny_ite_true (decide_eq_true (by rw [g1])) ?_; wp_walk using wpAny_loadPart' hl))
    exact ⟨_, rfl, h⟩
theorem tuple_mulNone (at_ : Addr) (row : Array Value) (n : Nat) (sl : Array (Option Value)) (dd : Option Addr) (x : Int) (u : Tok) (g0 : (decide (x < -(2 ^ 63)) || decide (x ≥ 2 ^ 63)) = false) (g1 : (row.isEmpty || x == 1) = false) (g2 : (decide (x ≤ 0) || row.isEmpty) = true) :
    Meets (Builtin.«tuple.__mul__» ⟨[.ref at_, .int x u], []⟩) (fun _ R s => s.heap.get? at_ = some { cls := .type "tuple", dict := dd, data := .seq row n, slots := sl } ∧
      R (.ok (.ret (Value.ref s.heap.objs.size))) { s with heap := s.heap.push { cls := Value.type "tuple", data := Data.seq #[] }, toks := s.toks }) :=
  .of_wp fun prog w A R s h => by
    obtain ⟨hp, g, d, tk, os⟩ := s
    obtain ⟨hl, h⟩ := h
    have f1 := AutoSeq1.idx_int
    wp_walk using wpAny_loadPart' hl
    repeat (first
      | (refine wpAny_ite_false (decide_eq_false (by rw [g0]; exact Bool.false_ne_true)) ?_; wp_walk using wpAny_loadPart' hl)
      | (refine wpAny_ite_false (decide_eq_false (by rw [g1]; exact Bool.false_ne_true)) ?_; wp_walk using wpAny_loadPart' hl)
      | (refine wpAny_ite_true (decide_eq_true (by rw [g2])) ?_; wp_walk using wpAny_loadPart' hl))
    exact ⟨_, rfl, h⟩
/-- a tuple times an int: itself, or a new one -/
def rTimes (K : PySem.W.Frag) : R2 := fun x y H Q => ∃ l k xs, x = .ref l ∧ y = .int k ∧ SqT K H l xs ∧ -(2 ^ 63) ≤ k ∧ k < 2 ^ 63 ∧ xs.length * k.toNat ≤ sizeLine ∧ (xs = [] ∨ k = 1 → Q (.ref l) H) ∧
  ∀ p, H p = none → Q (.ref p) (upd H p (.tup (List.replicate k.toNat xs).flatten))
theorem op_times {X : Cx} : OpR X (binaryOp .Mult) (rTimes X.K) := by
  intro pins s σ H x y v u Q I rx ry h
  obtain ⟨l, k, xs, rfl, rfl, hT, lo, hi, fit, same, fresh⟩ := h
  cases rx
  obtain ⟨t, rfl⟩ := ry
  obtain ⟨row, rr, ⟨⟨cls, dd, data, sl⟩, get, hc, n, hd⟩, _⟩ := I.tuple hT
  simp only at hc hd
  subst hc hd
  have len : row.length = xs.length := rr.length.symm
  have g0 : (decide (k < -(2 ^ 63)) || decide (k ≥ 2 ^ 63)) = false := by
    rw [decide_eq_false (by omega), decide_eq_false (by omega)] <;> rfl
  have size : row.toArray.size = xs.length := by rw [List.size_toArray, len]
  by_cases e1 : (row.toArray.isEmpty || k == 1) = true
  · refine wpAny_binaryOp_repeat_ref (T := "tuple") (U := "int") (by decide) ⟨_, get, rfl⟩ (fun z => typeIs_int z k t) noFill_tuple_mul F.fills_int_mul F.slot_int_rmul repeat_tuple F.slot_int_index.lookup
      (call_meets F.slot_int_rmul (typeIs_int s k t) F.entry_int_rmul (F.args_int_rmul_2 _ _) (int_rmul_tuple k t l row.toArray n dd sl)
        ⟨get, rfl, ⟨_, get, rfl⟩, call_meets F.slot_tuple_mul ⟨_, get, rfl⟩ F.entry_tuple_mul (F.args_tuple_mul_2 _ _) (tuple_mulSame l row.toArray n sl dd k t g0 e1) ⟨get, ?_⟩⟩)
    refine ⟨.ref l, H, I, rfl, same ?_⟩
    rcases Bool.or_eq_true_iff.mp e1 with z | z
    · refine .inl (List.eq_nil_of_length_eq_zero ?_)
      rw [← len]
      cases row with
      | nil => rfl
      | cons _ _ => cases z
    · exact .inr (beq_iff_eq.mp z)
  · have e1 : (row.toArray.isEmpty || k == 1) = false := by simpa using e1
    by_cases e2 : (decide (k ≤ 0) || row.toArray.isEmpty) = true
    · refine wpAny_binaryOp_repeat_ref (T := "tuple") (U := "int") (by decide) ⟨_, get, rfl⟩ (fun z => typeIs_int z k t) noFill_tuple_mul F.fills_int_mul F.slot_int_rmul repeat_tuple F.slot_int_index.lookup
        (call_meets F.slot_int_rmul (typeIs_int s k t) F.entry_int_rmul (F.args_int_rmul_2 _ _) (int_rmul_tuple k t l row.toArray n dd sl)
          ⟨get, rfl, ⟨_, get, rfl⟩, call_meets F.slot_tuple_mul ⟨_, get, rfl⟩ F.entry_tuple_mul (F.args_tuple_mul_2 _ _) (tuple_mulNone l row.toArray n sl dd k t g0 e1 e2) ⟨get, ?_⟩⟩)
      have z : (List.replicate k.toNat xs).flatten = [] := by
        rcases Bool.or_eq_true_iff.mp e2 with z | z
        · have : k.toNat = 0 := by have := of_decide_eq_true z; omega
          rw [this]; rfl
        · rw [(Bool.or_eq_false_iff.mp e1).1] at z; cases z
      refine ⟨.ref s.heap.objs.size, _, I.laid (t' := s.toks) (o := .tup (List.replicate k.toNat xs).flatten) (fun b ob q => Heap.get?_push_of_some _ q) (Nat.le_refl _) ?_, rfl, fresh _ (I.hok.fresh (Nat.le_refl _))⟩
      rw [z]
      exact ⟨Nat.zero_le _, [], .nil, IsTup.new _ _⟩
    · have e2 : (decide (k ≤ 0) || row.toArray.isEmpty) = false := by simpa using e2
      have kpos : 0 < k := by
        have := of_decide_eq_false (Bool.or_eq_false_iff.mp e2).1
        omega
      have flen : (List.replicate k.toNat row).flatten.length ≤ sizeLine := by
        rw [PyProof.Rows.lm_len_rep_flat, len, Nat.mul_comm]
        exact fit
      have cast : ((row.toArray.size : Nat) : Int) * k = ((xs.length * k.toNat : Nat) : Int) := by
        rw [size, Int.natCast_mul, Int.toNat_of_nonneg (Int.le_of_lt kpos)]
      have big := sizeLine_eq
      have g4 : Builtin.Tuple.tupleTooMany (((row.toArray.size : Nat) : Int) * k) = false := by
        unfold Builtin.Tuple.tupleTooMany
        rw [cast]
        exact decide_eq_false (by omega)
      refine wpAny_binaryOp_repeat_ref (T := "tuple") (U := "int") (by decide) ⟨_, get, rfl⟩ (fun z => typeIs_int z k t) noFill_tuple_mul F.fills_int_mul F.slot_int_rmul repeat_tuple F.slot_int_index.lookup
        (call_meets F.slot_int_rmul (typeIs_int s k t) F.entry_int_rmul (F.args_int_rmul_2 _ _) (int_rmul_tuple k t l row.toArray n dd sl)
          ⟨get, rfl, ⟨_, get, rfl⟩, call_meets F.slot_tuple_mul ⟨_, get, rfl⟩ F.entry_tuple_mul (F.args_tuple_mul_2 _ _) (tuple_mulW l row.toArray n dd sl k t g0 e1 e2 (by rw [cast]; omega) g4 (by rw [size_rep, List.size_toArray]; exact flen)) ⟨get, ?_⟩⟩)
      rw [size_rep]
      refine ⟨.ref s.heap.objs.size, _, I.laid (t' := s.toks) (o := .tup (List.replicate k.toNat xs).flatten) (fun b ob q => Heap.get?_push_of_some _ q) (Nat.le_refl _) ?_, rfl, fresh _ (I.hok.fresh (Nat.le_refl _))⟩
      exact ⟨by rw [PyProof.Rows.lm_len_rep_flat, Nat.mul_comm]; exact fit, _, rr.rep k.toNat, IsTup.new _ _⟩
end L2

set_option maxRecDepth 100000
/-! Core4: operators by values: the clean rule is served by the layer's. -/
namespace Core
open PySem L2

/-- what is wanted in the heap, from what is wanted of the clean end -/
def OkQ (B : Bs) (H : Hp) (Q0 : QP) (Q : VK) : Prop := ∀ p S' H' v, Ext H H' → RelS B S' H' → Rep B H' p v → Q0 p S' → Q v H'
theorem OkQ.at {B : Bs} {H H1 : Hp} {Q0 : QP} {Q : VK} (h : OkQ B H Q0 Q) (e : Ext H H1) : OkQ B H1 Q0 Q := fun p S' H' v e' => h p S' H' v (e.trans e')
def Serves (B : Bs) (r : R2) (t : P → P → Store → QP → Prop) : Prop :=
  ∀ x y S vx vy H Q0 Q, RelS B S H → Rep B H x vx → Rep B H y vy → OkQ B H Q0 Q → t x y S Q0 → r vx vy H Q
def rNo : R2 := fun _ _ _ _ => False
theorem op_no {X : Cx} {f : Value → Value → Sem Value} : OpR X f rNo := by
  intro pins s σ H x y v u Q I rx ry h
  exact h.elim

section
variable {B : Bs} {H : Hp} {S : Store}
theorem rep_int {i : Int} : Rep B H (.int i) (.int i) := by unfold Rep; rfl
theorem rep_bl {i : Bool} : Rep B H (.bl i) (.bl i) := by unfold Rep; rfl
theorem rep_str {i : Str} : Rep B H (.str i) (.str i) := by unfold Rep; rfl
theorem rep_non : Rep B H .non .non := by unfold Rep; rfl
theorem rep_loc {a : Addr} : Rep B H (.loc a) (.ref a) := by unfold Rep; rfl
theorem rep_tup {ps : List P} {vs : List V} {a : Addr} (h : SqT B.K H a vs) (z : vs.length ≤ sizeLine) (r : Reps B H ps vs) : Rep B H (.tup ps) (.ref a) := by
  unfold Rep; exact ⟨a, vs, rfl, h, z, r⟩
theorem Rep.int_inv {i : Int} {v : V} (h : Rep B H (.int i) v) : v = .int i := by unfold Rep at h; exact h
theorem Rep.bl_inv {i : Bool} {v : V} (h : Rep B H (.bl i) v) : v = .bl i := by unfold Rep at h; exact h
theorem Rep.str_inv {i : Str} {v : V} (h : Rep B H (.str i) v) : v = .str i := by unfold Rep at h; exact h
theorem Rep.non_inv {v : V} (h : Rep B H .non v) : v = .non := by unfold Rep at h; exact h
theorem Rep.loc_inv {a : Addr} {v : V} (h : Rep B H (.loc a) v) : v = .ref a := by unfold Rep at h; exact h
theorem Rep.tup_inv {ps : List P} {v : V} (h : Rep B H (.tup ps) v) : ∃ a vs, v = .ref a ∧ SqT B.K H a vs ∧ vs.length ≤ sizeLine ∧ Reps B H ps vs := by unfold Rep at h; exact h
theorem Rep.frl_inv {ps : List P} {v : V} (h : Rep B H (.frl ps) v) : ∃ a vs, v = .ref a ∧ SqL B.K H a vs ∧ vs.length ≤ sizeLine ∧ Reps B H ps vs := by
  unfold Rep at h
  obtain ⟨a, vs, h1, h2, h3, h4⟩ := h
  refine ⟨a, vs, h1, ?_, h3, h4⟩
  rcases h2 with ⟨o, h2⟩ | h2
  · exact .inl (.inr ⟨o, h2⟩)
  · exact .inr h2
theorem RelS.lst (h : RelS B S H) {a : Addr} {ps : List P} (e : S a = some (.lst ps)) : ∃ vs, H a = some (.lst vs) ∧ vs.length ≤ sizeLine ∧ Reps B H ps vs := h a _ e
theorem RelS.newL (h : RelS B S H) {c : Addr} (n : H c = none) {ps : List P} {vs : List V} (z : vs.length ≤ sizeLine) (r : Reps B H ps vs) : RelS B (S.upd c (.lst ps)) (L2.upd H c (.lst vs)) :=
  h.upd (.fresh n) ⟨vs, L2.upd_same, z, r.ext (.fresh n)⟩
theorem RelS.setL (h : RelS B S H) {c : Addr} {us : List V} (n : H c = some (.lst us)) {ps : List P} {vs : List V} (z : vs.length ≤ sizeLine) (r : Reps B H ps vs) : RelS B (S.upd c (.lst ps)) (L2.upd H c (.lst vs)) :=
  h.upd (.lst n) ⟨vs, L2.upd_same, z, r.ext (.lst n)⟩
/-- a new tuple -/
theorem tup_new {Q0 : QP} {Q : VK} (k : OkQ B H Q0 Q) (hS : RelS B S H) {p : Addr} (n : H p = none) {ps : List P} {vs : List V} (z : vs.length ≤ sizeLine) (r : Reps B H ps vs) (q : Q0 (.tup ps) S) : Q (.ref p) (upd H p (.tup vs)) :=
  k _ S _ _ (.fresh n) (hS.ext n) (rep_tup (SqT.of L2.upd_same) z (r.ext (.fresh n))) q
theorem lst_new {Q0 : QP} {Q : VK} (k : OkQ B H Q0 Q) (hS : RelS B S H) {p : Addr} (n : H p = none) {ps : List P} {vs : List V} (z : vs.length ≤ sizeLine) (r : Reps B H ps vs) (q : ∀ c, S c = none → Q0 (.loc c) (S.upd c (.lst ps))) : Q (.ref p) (upd H p (.lst vs)) :=
  k _ _ _ _ (.fresh n) (hS.newL n z r) rep_loc (q p (hS.free n))
theorem here {Q0 : QP} {Q : VK} (k : OkQ B H Q0 Q) (hS : RelS B S H) {p : P} {v : V} (r : Rep B H p v) (q : Q0 p S) : Q v H := k p S H v (.refl H) hS r q
end

section
variable {X : Cx} {B : Bs}
def rAddP (K : PySem.W.Frag) : R2 := fun x y H Q => (rI0 (fun i j => .int (i + j))) x y H Q ∨ (∃ i j, x = .str i ∧ y = .str j ∧ i.length + j.length ≤ sizeLine ∧ Q (.str (i ++ j)) H) ∨ rCatA K x y H Q ∨ rCat x y H Q
theorem op_addP : OpR X (binaryOp .Add) (rAddP X.K) := op_add.or (op_add_str.or (op_catA.or op_cat))
theorem serves_add : Serves B (rAddP B.K) opAdd := by
  intro x y S vx vy H Q0 Q hS rx ry k h
  unfold opAdd at h
  split at h
  · exact .inl ⟨_, _, rx.int_inv, ry.int_inv, here k hS rep_int h⟩
  · exact .inr (.inl ⟨_, _, rx.str_inv, ry.str_inv, h.1, here k hS rep_str h.2⟩)
  · obtain ⟨a, vs, e1, s1, z1, r1⟩ := rx.tup_inv
    obtain ⟨b, us, e2, s2, z2, r2⟩ := ry.tup_inv
    have l1 := r1.length
    have l2 := r2.length
    have z : (vs ++ us).length ≤ sizeLine := by rw [List.length_append]; have := h.1; omega
    have r := r1.append r2
    refine .inr (.inr (.inl ⟨a, b, vs, us, e1, e2, s1, s2, by rw [l1, l2]; exact h.1, fun e => ?_, fun _ e => ?_, fun _ _ p hp => tup_new k hS hp z r h.2⟩))
    · subst e
      exact here k hS (rep_tup s2 z2 (by simpa using r)) h.2
    · subst e
      exact here k hS (rep_tup s1 z1 (by simpa using r)) h.2
  · obtain ⟨xs, ys, h1, h2, h3, h4⟩ := h
    obtain ⟨vs, e1, z1, r1⟩ := hS.lst h1
    obtain ⟨us, e2, z2, r2⟩ := hS.lst h2
    have l1 := r1.length
    have l2 := r2.length
    exact .inr (.inr (.inr ⟨_, _, vs, us, rx.loc_inv, ry.loc_inv, e1, e2, by omega, fun p hp => lst_new k hS hp (by rw [List.length_append]; omega) (r1.append r2) h4⟩))
  · exact h.elim
def rMulP (K : PySem.W.Frag) : R2 := fun x y H Q => (rI CMul (fun i j => .int (i * j))) x y H Q ∨ (rI CMulW (fun i j => .int (i * j))) x y H Q ∨ rRep x y H Q ∨ rTimes K x y H Q
theorem op_mulP : OpR X (binaryOp .Mult) (rMulP X.K) := op_mul.or (op_mulW.or (op_rep.or op_times))
theorem serves_mul : Serves B (rMulP B.K) opMul := by
  intro x y S vx vy H Q0 Q hS rx ry k h
  unfold opMul at h
  split at h
  · obtain ⟨h1 | h1, h2⟩ := h
    · exact .inl ⟨_, _, rx.int_inv, ry.int_inv, h1, here k hS rep_int h2⟩
    · exact .inr (.inl ⟨_, _, rx.int_inv, ry.int_inv, h1, here k hS rep_int h2⟩)
  · obtain ⟨xs, h1, h2, h3, h4, h5⟩ := h
    obtain ⟨vs, e1, z1, r1⟩ := hS.lst h1
    have l1 := r1.length
    refine .inr (.inr (.inl ⟨_, _, vs, rx.loc_inv, ry.int_inv, e1, h2, h3, by rw [l1]; exact h4, fun p hp => lst_new k hS hp ?_ (r1.rep _) h5⟩))
    rw [PyProof.Rows.lm_len_rep_flat, l1, Nat.mul_comm]
    exact h4
  · obtain ⟨h1, h2, h3, h4⟩ := h
    obtain ⟨a, vs, e1, s1, z1, r1⟩ := rx.tup_inv
    have l1 := r1.length
    refine .inr (.inr (.inr ⟨a, _, vs, e1, ry.int_inv, s1, h1, h2, by rw [l1]; exact h3, fun same => ?_, fun p hp => tup_new k hS hp ?_ (r1.rep _) h4⟩))
    · rename_i xs j
      have e : (List.replicate j.toNat xs).flatten = xs := by
        rcases same with z | z
        · rw [z] at l1
          have : xs = [] := List.eq_nil_of_length_eq_zero l1.symm
          rw [this]; simp
        · rw [z]; simp
      rw [e] at h4
      exact here k hS (rep_tup s1 z1 r1) h4
    · rw [PyProof.Rows.lm_len_rep_flat, l1, Nat.mul_comm]
      exact h3
  · exact h.elim
theorem bin_ok (hK : X.K = B.K) (op : Operator) : ∃ r, OpR X (binaryOp op) r ∧ Serves B r (opBin op) := by
  cases op with
  | Add => exact ⟨_, op_addP, by rw [hK]; exact serves_add⟩
  | Sub =>
    refine ⟨_, op_sub, fun x y S vx vy H Q0 Q hS rx ry k h => ?_⟩
    unfold opBin at h
    simp only at h
    split at h
    · exact ⟨_, _, rx.int_inv, ry.int_inv, here k hS rep_int h⟩
    · exact h.elim
  | Mult => exact ⟨_, op_mulP, by rw [hK]; exact serves_mul⟩
  | FloorDiv =>
    refine ⟨_, op_fdivW, fun x y S vx vy H Q0 Q hS rx ry k h => ?_⟩
    unfold opBin at h
    simp only at h
    split at h
    · exact ⟨_, _, rx.int_inv, ry.int_inv, h.1, here k hS rep_int h.2⟩
    · exact h.elim
  | Mod =>
    refine ⟨_, op_mod, fun x y S vx vy H Q0 Q hS rx ry k h => ?_⟩
    unfold opBin at h
    simp only at h
    split at h
    · exact ⟨_, _, rx.int_inv, ry.int_inv, h.1, here k hS rep_int h.2⟩
    · exact h.elim
  | Pow =>
    refine ⟨_, op_pow, fun x y S vx vy H Q0 Q hS rx ry k h => ?_⟩
    unfold opBin at h
    simp only at h
    split at h
    · exact ⟨_, _, rx.int_inv, ry.int_inv, h.1, here k hS rep_int h.2⟩
    · exact h.elim
  | _ =>
    refine ⟨_, op_no, fun x y S vx vy H Q0 Q hS rx ry k h => ?_⟩
    unfold opBin at h
    exact h.elim
theorem iop_mulW : OpR X (inplaceOp .Mult) (rI CMulW fun i j => .int (i * j)) := opI fun _ _ _ _ _ _ _ hc q => PyProof.Rows.imul_int q hc.ok
/-- x op= y of ints -/
theorem aug_ok (op : Operator) : ∃ r : TIp, PIp X op r ∧ Serves B r (opAug op) := by
  have no : ∃ r : TIp, PIp X op r ∧ ∀ x y S vx vy H Q0 Q, RelS B S H → Rep B H x vx → Rep B H y vy → OkQ B H Q0 Q → False → r vx vy H Q := ⟨fun _ _ _ _ => False, fun pins s σ H x y v u Q I rx ry h => h.elim, fun x y S vx vy H Q0 Q _ _ _ _ h => h⟩
  cases op with
  | Add =>
    refine ⟨_, (fun pins s σ H x y v u Q I rx ry h => augR iop_add I rx ry h : PIp X .Add (rI0 fun i j => .int (i + j))), fun x y S vx vy H Q0 Q hS rx ry k h => ?_⟩
    unfold opAug at h
    split at h
    · exact ⟨_, _, rx.int_inv, ry.int_inv, here k hS rep_int h⟩
    · exact h.elim
  | Sub =>
    refine ⟨_, (fun pins s σ H x y v u Q I rx ry h => augR iop_sub I rx ry h : PIp X .Sub (rI0 fun i j => .int (i - j))), fun x y S vx vy H Q0 Q hS rx ry k h => ?_⟩
    unfold opAug at h
    split at h
    · exact ⟨_, _, rx.int_inv, ry.int_inv, here k hS rep_int h⟩
    · exact h.elim
  | FloorDiv =>
    refine ⟨_, (fun pins s σ H x y v u Q I rx ry h => augR iop_fdivW I rx ry h : PIp X .FloorDiv (rI CDivW fun i j => .int (i / j))), fun x y S vx vy H Q0 Q hS rx ry k h => ?_⟩
    unfold opAug at h
    split at h
    · exact ⟨_, _, rx.int_inv, ry.int_inv, h.1, here k hS rep_int h.2⟩
    · exact h.elim
  | Mult =>
    refine ⟨_, (fun pins s σ H x y v u Q I rx ry h => augR (iop_mul.or iop_mulW) I rx ry h : PIp X .Mult (fun x y H Q => (rI CMul fun i j => .int (i * j)) x y H Q ∨ (rI CMulW fun i j => .int (i * j)) x y H Q)), fun x y S vx vy H Q0 Q hS rx ry k h => ?_⟩
    unfold opAug at h
    split at h
    · obtain ⟨h1 | h1, h2⟩ := h
      · exact .inl ⟨_, _, rx.int_inv, ry.int_inv, h1, here k hS rep_int h2⟩
      · exact .inr ⟨_, _, rx.int_inv, ry.int_inv, h1, here k hS rep_int h2⟩
    · exact h.elim
  | _ =>
    refine ⟨_, (fun pins s σ H x y v u Q I rx ry h => h.elim : PIp X _ (fun _ _ _ _ => False)), fun x y S vx vy H Q0 Q hS rx ry k h => ?_⟩
    unfold opAug at h
    split at h <;> exact h.elim

/-! ### comparisons -/
mutual
theorem dataS_ok {S : Store} {H : Hp} (hS : RelS B S H) : ∀ (n : Nat) (p : P) (v : V) (d : PyData), Rep B H p v → dataS S n p = some d → Dp B.K H v d ∧ PyData.canLay0 d = true ∧ PyData.depth d ≤ n
  | 0, p, v, d, r, e => by cases p <;> simp [dataS] at e
  | n + 1, .non, v, d, r, e => by
    simp only [dataS, Option.some.injEq] at e
    subst e; rw [r.non_inv]
    exact ⟨.non, rfl, Nat.zero_le _⟩
  | n + 1, .bl b, v, d, r, e => by
    simp only [dataS, Option.some.injEq] at e
    subst e; rw [r.bl_inv]
    exact ⟨.bl _, rfl, Nat.zero_le _⟩
  | n + 1, .int b, v, d, r, e => by
    simp only [dataS, Option.some.injEq] at e
    subst e; rw [r.int_inv]
    exact ⟨.int _, rfl, Nat.zero_le _⟩
  | n + 1, .str b, v, d, r, e => by
    simp only [dataS] at e
    split at e
    · rename_i hb
      cases e; rw [r.str_inv]
      exact ⟨.str _, by simpa [PyData.canLay0] using hb, Nat.zero_le _⟩
    · cases e
  | n + 1, .fn b, v, d, r, e => by simp [dataS] at e
  | n + 1, .tup xs, v, d, r, e => by
    simp only [dataS, Option.map_eq_some_iff] at e
    obtain ⟨ds, e1, e2⟩ := e
    subst e2
    obtain ⟨a, vs, rfl, s1, z1, r1⟩ := r.tup_inv
    obtain ⟨q1, q2, q3⟩ := datasS_ok hS n xs vs ds r1 e1
    exact ⟨.tup s1 q1, by simpa [PyData.canLay0] using q2, by simp only [PyData.depth]; omega⟩
  | n + 1, .frl xs, v, d, r, e => by
    simp only [dataS, Option.map_eq_some_iff] at e
    obtain ⟨ds, e1, e2⟩ := e
    subst e2
    obtain ⟨a, vs, rfl, s1, z1, r1⟩ := r.frl_inv
    obtain ⟨q1, q2, q3⟩ := datasS_ok hS n xs vs ds r1 e1
    exact ⟨.lst s1 q1, by simpa [PyData.canLay0] using q2, by simp only [PyData.depth]; omega⟩
  | n + 1, .loc a, v, d, r, e => by
    simp only [dataS] at e
    split at e
    · rename_i xs hx
      simp only [Option.map_eq_some_iff] at e
      obtain ⟨ds, e1, e2⟩ := e
      subst e2
      obtain ⟨vs, s1, z1, r1⟩ := hS.lst hx
      obtain ⟨q1, q2, q3⟩ := datasS_ok hS n xs vs ds r1 e1
      rw [r.loc_inv]
      exact ⟨.lst (SqL.of s1) q1, by simpa [PyData.canLay0] using q2, by simp only [PyData.depth]; omega⟩
    · cases e
theorem datasS_ok {S : Store} {H : Hp} (hS : RelS B S H) : ∀ (n : Nat) (ps : List P) (vs : List V) (ds : List PyData), Reps B H ps vs → ps.mapM (dataS S n) = some ds → DpAll B.K H vs ds ∧ PyData.canLayAll0 ds = true ∧ PyData.depthAll ds ≤ n
  | n, [], vs, ds, r, e => by
    rw [r.nil_inv]
    simp at e
    subst e
    exact ⟨.nil, rfl, Nat.zero_le _⟩
  | n, p :: ps, vs, ds, r, e => by
    obtain ⟨v, t, rfl, r1, r2⟩ := r.cons_inv
    rw [List.mapM_cons] at e
    cases h1 : dataS S n p with
    | none => rw [h1] at e; cases e
    | some d =>
      cases h2 : ps.mapM (dataS S n) with
      | none => rw [h1, h2] at e; cases e
      | some es =>
        rw [h1, h2] at e
        cases e
        obtain ⟨q1, q2, q3⟩ := dataS_ok hS n p v d r1 h1
        obtain ⟨w1, w2, w3⟩ := datasS_ok hS n ps t es r2 h2
        refine ⟨.cons q1 w1, by simp only [PyData.canLayAll0, q2, w2, Bool.and_self], by simp only [PyData.depthAll]; omega⟩
end
theorem shaped_ok {d : PyData} {n : Nat} (h : PyData.canLay0 d = true) (z : PyData.depth d ≤ n) (hn : n ≤ 64) : SeqAt.shaped d = true := by
  unfold SeqAt.shaped
  rw [h, decide_eq_true (by omega : PyData.depth d ≤ 64)]
  rfl
theorem flV_ok {S : Store} {H : Hp} {p : P} {v : V} (r : Rep B H p v) (f : flatP p = true) : v = flV p ∧ flatV v = true := by
  cases p with
  | non => rw [r.non_inv]; exact ⟨rfl, rfl⟩
  | bl b => rw [r.bl_inv]; exact ⟨rfl, rfl⟩
  | int b => rw [r.int_inv]; exact ⟨rfl, rfl⟩
  | str b => rw [r.str_inv]; exact ⟨rfl, rfl⟩
  | _ => cases f
theorem flVs_ok {S : Store} {H : Hp} : ∀ {ps : List P} {vs : List V}, Reps B H ps vs → ps.all flatP = true → vs = ps.map flV ∧ vs.all flatV = true
  | [], _, r, _ => by rw [r.nil_inv]; exact ⟨rfl, rfl⟩
  | p :: ps, _, r, f => by
    obtain ⟨v, t, rfl, r1, r2⟩ := r.cons_inv
    rw [List.all_cons, Bool.and_eq_true] at f
    obtain ⟨e1, f1⟩ := flV_ok (S := S) r1 f.1
    obtain ⟨e2, f2⟩ := flVs_ok (S := S) r2 f.2
    exact ⟨by rw [List.map_cons, ← e1, ← e2], by rw [List.all_cons, f1, f2]; rfl⟩
theorem Rep.non_of {H : Hp} {p : P} (r : Rep B H p .non) : p = .non := by
  cases p with
  | non => rfl
  | bl b => exact nomatch r.bl_inv
  | int b => exact nomatch r.int_inv
  | str b => exact nomatch r.str_inv
  | tup b => obtain ⟨_, _, e, _⟩ := r.tup_inv; exact nomatch e
  | frl b => obtain ⟨_, _, e, _⟩ := r.frl_inv; exact nomatch e
  | loc b => exact nomatch r.loc_inv
  | fn b => unfold Rep at r; obtain ⟨_, _, _, _, e⟩ := r; exact nomatch e
def isNonP : P → Bool
  | .non => true
  | _ => false
theorem bl_non {H : Hp} {x : P} {v : V} (r : Rep B H x v) : decide (v = .non) = isNonP x := by
  cases x with
  | non => rw [r.non_inv]; rfl
  | bl b => rw [r.bl_inv]; rfl
  | int b => rw [r.int_inv]; rfl
  | str b => rw [r.str_inv]; rfl
  | tup b => obtain ⟨_, _, e, _⟩ := r.tup_inv; rw [e]; rfl
  | frl b => obtain ⟨_, _, e, _⟩ := r.frl_inv; rw [e]; rfl
  | loc b => rw [r.loc_inv]; rfl
  | fn b => unfold Rep at r; obtain ⟨_, _, _, _, e⟩ := r; rw [e]; rfl
theorem serves_is : Serves B (fun x y H Q => (y = .non ∧ Q (.bl (decide (x = .non))) H) ∨ rIsB x y H Q) (opCmp .Is) := by
  intro x y S vx vy H Q0 Q hS rx ry k h
  unfold opCmp at h
  simp only at h
  split at h
  · rw [rx.non_inv]
    exact .inl ⟨ry.non_inv, here k hS rep_bl h⟩
  · rename_i hx
    refine .inl ⟨ry.non_inv, ?_⟩
    have e := bl_non rx
    have e2 : isNonP x = false := by cases x <;> first | rfl | exact absurd rfl hx
    rw [e, e2]
    exact here k hS rep_bl h
  · exact .inr ⟨_, _, rx.bl_inv, ry.bl_inv, here k hS rep_bl h⟩
  · exact h.elim
theorem serves_isnot : Serves B (fun x y H Q => (y = .non ∧ Q (.bl (!decide (x = .non))) H) ∨ rNotB x y H Q) (opCmp .IsNot) := by
  intro x y S vx vy H Q0 Q hS rx ry k h
  unfold opCmp at h
  simp only at h
  split at h
  · rw [rx.non_inv]
    exact .inl ⟨ry.non_inv, here k hS rep_bl h⟩
  · rename_i hx
    refine .inl ⟨ry.non_inv, ?_⟩
    have e := bl_non rx
    have e2 : isNonP x = false := by cases x <;> first | rfl | exact absurd rfl hx
    rw [e, e2]
    exact here k hS rep_bl h
  · exact .inr ⟨_, _, rx.bl_inv, ry.bl_inv, here k hS rep_bl h⟩
  · exact h.elim
theorem serves_in : Serves B (fun x y H Q => rIn B.K false x y H Q ∨ rInD B.K x y H Q) (opCmp .In) := by
  intro x y S vx vy H Q0 Q hS rx ry k h
  unfold opCmp at h
  simp only at h
  split at h
  · obtain ⟨h1, h2, h3⟩ := h
    obtain ⟨a, vs, e, s1, z1, r1⟩ := ry.tup_inv
    obtain ⟨e1, f1⟩ := flV_ok (S := S) rx h1
    obtain ⟨e2, f2⟩ := flVs_ok (S := S) r1 h2
    refine .inl ⟨a, vs, e, .inr s1, f1, f2, ?_⟩
    rw [e1, e2]
    exact here k hS rep_bl h3
  · split at h
    · rename_i ys hy
      obtain ⟨d, es, h1, h2, h3⟩ := h
      obtain ⟨vs, s1, z1, r1⟩ := hS.lst hy
      obtain ⟨q1, q2, q3⟩ := dataS_ok hS _ _ _ _ rx h1
      obtain ⟨w1, w2, w3⟩ := datasS_ok hS _ _ _ _ r1 h2
      refine .inr ⟨d, es, q1, ?_, shaped_ok q2 q3 (by decide), shaped_ok (n := 63) (by simpa [PyData.canLay0] using w2) (by simp only [PyData.depth]; omega) (by decide), here k hS rep_bl h3⟩
      rw [ry.loc_inv]
      exact .lst (SqL.of s1) w1
    · exact h.elim
  · exact h.elim
theorem serves_notin : Serves B (fun x y H Q => rIn B.K true x y H Q ∨ rNotInD B.K x y H Q) (opCmp .NotIn) := by
  intro x y S vx vy H Q0 Q hS rx ry k h
  unfold opCmp at h
  simp only at h
  split at h
  · obtain ⟨h1, h2, h3⟩ := h
    obtain ⟨a, vs, e, s1, z1, r1⟩ := ry.tup_inv
    obtain ⟨e1, f1⟩ := flV_ok (S := S) rx h1
    obtain ⟨e2, f2⟩ := flVs_ok (S := S) r1 h2
    refine .inl ⟨a, vs, e, .inr s1, f1, f2, ?_⟩
    rw [e1, e2]
    exact here k hS rep_bl h3
  · split at h
    · rename_i ys hy
      obtain ⟨d, es, h1, h2, h3⟩ := h
      obtain ⟨vs, s1, z1, r1⟩ := hS.lst hy
      obtain ⟨q1, q2, q3⟩ := dataS_ok hS _ _ _ _ rx h1
      obtain ⟨w1, w2, w3⟩ := datasS_ok hS _ _ _ _ r1 h2
      refine .inr ⟨d, es, q1, ?_, shaped_ok q2 q3 (by decide), shaped_ok (n := 63) (by simpa [PyData.canLay0] using w2) (by simp only [PyData.depth]; omega) (by decide), here k hS rep_bl h3⟩
      rw [ry.loc_inv]
      exact .lst (SqL.of s1) w1
    · exact h.elim
  · exact h.elim
theorem serves_eq : Serves B (rEqD B.K) (opCmp .Eq) := by
  intro x y S vx vy H Q0 Q hS rx ry k h
  obtain ⟨d, e, h1, h2, h3⟩ := h
  obtain ⟨q1, q2, q3⟩ := dataS_ok hS _ _ _ _ rx h1
  obtain ⟨w1, w2, w3⟩ := dataS_ok hS _ _ _ _ ry h2
  exact ⟨d, e, q1, w1, shaped_ok q2 q3 (by decide), shaped_ok w2 w3 (by decide), here k hS rep_bl h3⟩
theorem serves_ne : Serves B (rNeD B.K) (opCmp .NotEq) := by
  intro x y S vx vy H Q0 Q hS rx ry k h
  obtain ⟨d, e, h1, h2, h3⟩ := h
  obtain ⟨q1, q2, q3⟩ := dataS_ok hS _ _ _ _ rx h1
  obtain ⟨w1, w2, w3⟩ := dataS_ok hS _ _ _ _ ry h2
  exact ⟨d, e, q1, w1, shaped_ok q2 q3 (by decide), shaped_ok w2 w3 (by decide), here k hS rep_bl h3⟩
theorem cmp_ok (hK : X.K = B.K) {n : Nat} (hr : Room n X.A) (op : CmpOp) : ∃ r, OpR X (compareOp op) r ∧ Serves B r (opCmp op) := by
  cases op with
  | Eq => exact ⟨_, op_eqD hr.units, by rw [hK]; exact serves_eq⟩
  | NotEq => exact ⟨_, op_neD hr.units, by rw [hK]; exact serves_ne⟩
  | Is => exact ⟨_, op_isN.or op_isBl, serves_is⟩
  | IsNot => exact ⟨_, op_notN.or op_notBl, serves_isnot⟩
  | In => exact ⟨_, op_in_seq.or (op_inD (by have := hr.un; omega)), by rw [hK]; exact serves_in⟩
  | NotIn => exact ⟨_, op_notIn_seq.or (op_notInD (by have := hr.un; omega)), by rw [hK]; exact serves_notin⟩
  | Lt =>
    refine ⟨_, op_lt, fun x y S vx vy H Q0 Q hS rx ry k h => ?_⟩
    unfold opCmp at h
    simp only at h
    split at h
    · exact ⟨_, _, rx.int_inv, ry.int_inv, here k hS rep_bl h⟩
    · exact h.elim
  | LtE =>
    refine ⟨_, op_le, fun x y S vx vy H Q0 Q hS rx ry k h => ?_⟩
    unfold opCmp at h
    simp only at h
    split at h
    · exact ⟨_, _, rx.int_inv, ry.int_inv, here k hS rep_bl h⟩
    · exact h.elim
  | Gt =>
    refine ⟨_, op_gt, fun x y S vx vy H Q0 Q hS rx ry k h => ?_⟩
    unfold opCmp at h
    simp only at h
    split at h
    · exact ⟨_, _, rx.int_inv, ry.int_inv, here k hS rep_bl h⟩
    · exact h.elim
  | GtE =>
    refine ⟨_, op_ge, fun x y S vx vy H Q0 Q hS rx ry k h => ?_⟩
    unfold opCmp at h
    simp only at h
    split at h
    · exact ⟨_, _, rx.int_inv, ry.int_inv, here k hS rep_bl h⟩
    · exact h.elim
end
end Core

set_option maxRecDepth 100000
/-! Core5: truth, items, slices, built-in functions and methods, what is walked. -/
namespace Core
open PySem L2 PySem.Spec PyProof.Rows
section
variable {X : Cx} {B : Bs} {H : Hp} {S : Store}
theorem truth_ok (hS : RelS B S H) {x : P} {v : V} {b : Bool} (r : Rep B H x v) (h : truthS S x = some b) : TruV B.K v H b := by
  cases x with
  | non => rw [r.non_inv]; simp only [truthS, Option.some.injEq] at h; exact h.symm
  | bl c => rw [r.bl_inv]; simp only [truthS, Option.some.injEq] at h; exact h.symm
  | int c => rw [r.int_inv]; simp only [truthS, Option.some.injEq] at h; exact h.symm
  | str c => simp [truthS] at h
  | fn c => simp [truthS] at h
  | tup xs =>
    obtain ⟨a, vs, rfl, s1, z1, r1⟩ := r.tup_inv
    simp only [truthS, Option.some.injEq] at h
    refine .inr (.inl ⟨vs, s1, ?_⟩)
    rw [← h]
    cases xs with
    | nil => rw [r1.nil_inv]; rfl
    | cons p ps => obtain ⟨v, t, e, _, _⟩ := r1.cons_inv; rw [e]; rfl
  | frl xs =>
    obtain ⟨a, vs, rfl, s1, z1, r1⟩ := r.frl_inv
    simp only [truthS, Option.some.injEq] at h
    refine .inl ⟨vs, s1, ?_⟩
    rw [← h]
    cases xs with
    | nil => rw [r1.nil_inv]; rfl
    | cons p ps => obtain ⟨v, t, e, _, _⟩ := r1.cons_inv; rw [e]; rfl
  | loc a =>
    simp only [truthS] at h
    split at h
    · rename_i xs hx
      obtain ⟨vs, s1, z1, r1⟩ := hS.lst hx
      rw [r.loc_inv]
      simp only [Option.some.injEq] at h
      refine .inl ⟨vs, SqL.of s1, ?_⟩
      rw [← h]
      cases xs with
      | nil => rw [r1.nil_inv]; rfl
      | cons p ps => obtain ⟨v, t, e, _, _⟩ := r1.cons_inv; rw [e]; rfl
    · cases h
/-- a list or a tuple -/
theorem seq_ok (hS : RelS B S H) {x : P} {v : V} {xs : List P} (r : Rep B H x v) (h : seqOf S x = some xs) : ∃ a vs, v = .ref a ∧ (SqL B.K H a vs ∨ SqT B.K H a vs) ∧ vs.length ≤ sizeLine ∧ Reps B H xs vs := by
  cases x with
  | tup ys =>
    simp only [seqOf, Option.some.injEq] at h; subst h
    obtain ⟨a, vs, rfl, s1, z1, r1⟩ := r.tup_inv
    exact ⟨a, vs, rfl, .inr s1, z1, r1⟩
  | frl ys =>
    simp only [seqOf, Option.some.injEq] at h; subst h
    obtain ⟨a, vs, rfl, s1, z1, r1⟩ := r.frl_inv
    exact ⟨a, vs, rfl, .inl s1, z1, r1⟩
  | loc a =>
    simp only [seqOf] at h
    split at h
    · rename_i ys hx
      simp only [Option.some.injEq] at h; subst h
      obtain ⟨vs, s1, z1, r1⟩ := hS.lst hx
      exact ⟨a, vs, r.loc_inv, .inl (SqL.of s1), z1, r1⟩
    · cases h
  | _ => simp [seqOf] at h
theorem Reps.atI {ps : List P} {vs : List V} {i : Int} {p : P} (r : Reps B H ps vs) (h : atI ps i = some p) : ∃ v, L2.atI vs i = some v ∧ Rep B H p v := by
  unfold L2.atI at h ⊢
  rw [r.length]
  cases e : ixN ps.length i with
  | none => rw [e] at h; cases h
  | some j =>
    rw [e] at h
    simp only [Option.bind_some] at h ⊢
    exact r.get h
theorem serves_idx : Serves B (rIx B.K) opIdx := by
  intro x y S vx vy H Q0 Q hS rx ry k h
  unfold opIdx at h
  split at h
  · split at h
    · rename_i xs hx
      obtain ⟨a, vs, e, s, z, r⟩ := seq_ok hS rx hx
      obtain ⟨p, h1, h2⟩ := h (by rw [← r.length]; exact z)
      obtain ⟨v, e1, r1⟩ := r.atI h1
      rcases s with s | s
      · exact .inl ⟨a, vs, _, v, e, ry.int_inv, s, e1, here k hS r1 h2⟩
      · exact .inr (.inl ⟨a, vs, _, v, e, ry.int_inv, s, e1, here k hS r1 h2⟩)
    · exact h.elim
  · exact h.elim
/-! slices -/
theorem Reps.cut {ps : List P} {vs : List V} (r : Reps B H ps vs) (lo hi : Option Int) : Reps B H (cutP ps lo hi) (cutV vs lo hi) := by
  unfold cutP cutV
  rw [r.length]
  exact (r.drop _).take _
theorem cut_le {ps : List P} {lo hi : Option Int} : (cutP ps lo hi).length ≤ ps.length := by
  unfold cutP
  rw [List.length_take, List.length_drop]
  omega
theorem cut_whole {ps : List P} {lo hi : Option Int} (h : HT.sIx ps.length 0 lo = 0 ∧ HT.sIx ps.length ps.length hi = ps.length) : cutP ps lo hi = ps := by
  unfold cutP
  rw [h.1, h.2]
  simp
/-- a slice's part -/
def PartV (o : Option P) (u : Option Int) : Prop := partOf o = some u
theorem serves_slc {x : P} {l u : Option Int} {vx : V} {Q0 : QP} {Q : VK} (hS : RelS B S H) (rx : Rep B H x vx) (k : OkQ B H Q0 Q) (h : opSlc x l u S Q0) :
    rSlA B.K vx l u H Q ∨ rSlL B.K vx l u H Q := by
  unfold opSlc at h
  split at h
  · obtain ⟨a, vs, rfl, s1, z1, r1⟩ := rx.tup_inv
    have q := h (by rw [← r1.length]; exact z1)
    refine .inl ⟨a, vs, rfl, s1, fun w => ?_, fun w p hp => ?_⟩
    · rw [cut_whole (by rw [← r1.length]; exact w)] at q
      exact here k hS (rep_tup s1 z1 r1) q
    · exact tup_new k hS hp (Nat.le_trans (cutV_length _ _ _) z1) (r1.cut l u) q
  · split at h
    · rename_i xs hx
      obtain ⟨vs, s1, z1, r1⟩ := hS.lst hx
      exact .inr ⟨_, vs, rx.loc_inv, SqL.of s1, fun p hp => lst_new k hS hp (Nat.le_trans (cutV_length _ _ _) z1) (r1.cut l u) (h (by rw [← r1.length]; exact z1))⟩
    · exact h.elim
  · obtain ⟨a, vs, rfl, s1, z1, r1⟩ := rx.frl_inv
    exact .inr ⟨a, vs, rfl, s1, fun p hp => lst_new k hS hp (Nat.le_trans (cutV_length _ _ _) z1) (r1.cut l u) (h (by rw [← r1.length]; exact z1))⟩
  · exact h.elim

/-! ### isinstance -/
def tyStr : Ty → String
  | .int => "int" | .bool => "bool" | .str => "str" | .tuple => "tuple" | .list => "list"
theorem ty_ok (hK : X.K = B.K) (hS : RelS B S H) {x : P} {v : V} {t : Option Ty} (r : Rep B H x v) (h : tyOf S x = some t) :
    ∃ n : String, TyX B.K H v (.type n) ∧ ∀ u : Ty, kitB n (tyStr u) = some (isTy t u) := by
  cases x with
  | non =>
    rw [r.non_inv]; simp only [tyOf, Option.some.injEq] at h; subst h
    exact ⟨"NoneType", .base .non, fun u => by cases u <;> decide +kernel⟩
  | bl c =>
    rw [r.bl_inv]; simp only [tyOf, Option.some.injEq] at h; subst h
    exact ⟨"bool", .base (.bl c), fun u => by cases u <;> decide +kernel⟩
  | int c =>
    rw [r.int_inv]; simp only [tyOf, Option.some.injEq] at h; subst h
    exact ⟨"int", .base (.int c), fun u => by cases u <;> decide +kernel⟩
  | str c =>
    rw [r.str_inv]; simp only [tyOf, Option.some.injEq] at h; subst h
    exact ⟨"str", .base (.str c), fun u => by cases u <;> decide +kernel⟩
  | tup ps =>
    obtain ⟨a, vs, rfl, s1, z1, r1⟩ := r.tup_inv
    simp only [tyOf, Option.some.injEq] at h; subst h
    refine ⟨"tuple", ?_, fun u => by cases u <;> decide +kernel⟩
    rcases s1 with (s1 | ⟨o, s1⟩) | ⟨o, its, n, hk, hc, _⟩
    · exact .base (.tup s1)
    · exact .fTuple s1
    · exact .kTuple hk hc
  | frl ps =>
    unfold Rep at r
    obtain ⟨a, vs, rfl, s1, z1, r1⟩ := r
    simp only [tyOf, Option.some.injEq] at h; subst h
    refine ⟨"list", ?_, fun u => by cases u <;> decide +kernel⟩
    rcases s1 with ⟨o, s1⟩ | ⟨o, its, n, hk, hc, _⟩
    · exact .base (.frz s1)
    · exact .kList hk hc
  | loc a =>
    rw [r.loc_inv]
    simp only [tyOf] at h
    split at h
    · rename_i xs hx
      simp only [Option.some.injEq] at h; subst h
      obtain ⟨vs, s1, z1, r1⟩ := hS.lst hx
      exact ⟨"list", .base (.lst s1), fun u => by cases u <;> decide +kernel⟩
    · cases h
  | fn c => simp [tyOf] at h
end

/-! ### built-in functions -/
def ServesC (B : Bs) (r : List V → Hp → VK → Prop) (t : List P → Store → QP → Prop) : Prop :=
  ∀ ps S vs H Q0 Q, RelS B S H → Reps B H ps vs → OkQ B H Q0 Q → t ps S Q0 → r vs H Q
def bfName : Bf → Str
  | .len => "len" | .int => "int" | .list => "list" | .tuple => "tuple" | .abs => "abs" | .min => "min" | .max => "max" | .sum => "sum" | .any => "any" | .all => "all"
  | .sorted => "sorted" | .bool => "bool" | .str => "str" | .set => "set" | .dict => "dict" | .divmod => "divmod" | .repr => "repr"
theorem bfOf_name {x : Str} {f : Bf} (h : bfOf x = some f) : x = bfName f := by
  unfold bfOf at h
  repeat' (split at h; (rename_i e; cases h; exact e))
  cases h
theorem Reps.one {B : Bs} {H : Hp} {p : P} {vs : List V} (h : Reps B H [p] vs) : ∃ v, vs = [v] ∧ Rep B H p v := by
  obtain ⟨v, r, rfl, h1, h2⟩ := h.cons_inv
  rw [h2.nil_inv]
  exact ⟨v, rfl, h1⟩
theorem Reps.two {B : Bs} {H : Hp} {p q : P} {vs : List V} (h : Reps B H [p, q] vs) : ∃ v u, vs = [v, u] ∧ Rep B H p v ∧ Rep B H q u := by
  obtain ⟨v, r, rfl, h1, h2⟩ := h.cons_inv
  obtain ⟨u, rfl, h3⟩ := h2.one
  exact ⟨v, u, rfl, h1, h3⟩
theorem ints_ok {B : Bs} {H : Hp} : ∀ {ps : List P} {vs : List V} {ns : List Int}, Reps B H ps vs → intsP ps = some ns → vs = ns.map V.int
  | [], vs, ns, r, h => by
    simp only [intsP, Option.some.injEq] at h; subst h
    rw [r.nil_inv]; rfl
  | p :: ps, vs, ns, r, h => by
    obtain ⟨v, t, rfl, r1, r2⟩ := r.cons_inv
    cases p with
    | int i =>
      simp only [intsP, Option.map_eq_some_iff] at h
      obtain ⟨ms, h1, h2⟩ := h
      subst h2
      rw [r1.int_inv, ints_ok r2 h1]; rfl
    | _ => simp [intsP] at h
theorem bools_ok {B : Bs} {H : Hp} : ∀ {ps : List P} {vs : List V} {ns : List Bool}, Reps B H ps vs → boolsP ps = some ns → vs = ns.map V.bl
  | [], vs, ns, r, h => by
    simp only [boolsP, Option.some.injEq] at h; subst h
    rw [r.nil_inv]; rfl
  | p :: ps, vs, ns, r, h => by
    obtain ⟨v, t, rfl, r1, r2⟩ := r.cons_inv
    cases p with
    | bl i =>
      simp only [boolsP, Option.map_eq_some_iff] at h
      obtain ⟨ms, h1, h2⟩ := h
      subst h2
      rw [r1.bl_inv, bools_ok r2 h1]; rfl
    | _ => simp [boolsP] at h
/-- a built-in function, called -/
inductive BCall (X : Cx) (x : Str) (r : List V → Hp → VK → Prop) : Prop where
  | fn (id : String) (h : bootBuiltins x = some (.builtin id)) (c : CallR X (.builtin id) r)
  | ty (T : String) (h : bootBuiltins x = some (.type T)) (c : CallR X (.type T) r)
section
variable {X : Cx} {B : Bs}
theorem bf_ok (hK : X.K = B.K) (hc : X.calm = true) (f : Bf) : ∃ r, BCall X (bfName f) r ∧ ServesC B r (bfS f) := by
  have no : ∃ r, BCall X (bfName f) r ∧ ServesC B r (fun _ _ _ => False) → True := ⟨fun _ _ _ => False, fun _ => trivial⟩
  cases f with
  | len =>
    refine ⟨_, .fn "len" PySem.boot_len call_len_seq, fun ps S vs H Q0 Q hS r k h => ?_⟩
    unfold bfS at h
    split at h <;> first | contradiction | skip
    split at h
    · rename_i xs hx
      obtain ⟨v, rfl, r1⟩ := r.one
      obtain ⟨a, us, rfl, s, z, q⟩ := seq_ok hS r1 hx
      rw [hK]
      refine ⟨a, us, rfl, s, ?_⟩
      rw [q.length]
      exact here k hS rep_int (h (by rw [← q.length]; exact z))
    · exact h.elim
  | int =>
    refine ⟨_, .ty "int" boot_int call_int1, fun ps S vs H Q0 Q hS r k h => ?_⟩
    unfold bfS at h
    split at h <;> first | contradiction | skip
    · obtain ⟨v, rfl, r1⟩ := r.one
      exact .inl ⟨_, by rw [r1.int_inv], here k hS rep_int h⟩
    · obtain ⟨v, rfl, r1⟩ := r.one
      exact .inr ⟨_, by rw [r1.bl_inv], here k hS rep_int h⟩
  | bool =>
    refine ⟨_, .ty "bool" boot_bool call_bool1, fun ps S vs H Q0 Q hS r k h => ?_⟩
    unfold bfS at h
    split at h <;> first | contradiction | skip
    · obtain ⟨v, rfl, r1⟩ := r.one
      exact .inl ⟨_, by rw [r1.int_inv], here k hS rep_bl h⟩
    · obtain ⟨v, rfl, r1⟩ := r.one
      exact .inr ⟨_, by rw [r1.bl_inv], here k hS rep_bl h⟩
  | list =>
    refine ⟨_, .ty "list" boot_list call_list_of, fun ps S vs H Q0 Q hS r k h => ?_⟩
    unfold bfS at h
    split at h <;> first | contradiction | skip
    split at h
    · rename_i xs hx
      obtain ⟨v, rfl, r1⟩ := r.one
      obtain ⟨a, us, rfl, s, z, q⟩ := seq_ok hS r1 hx
      rw [hK]
      exact ⟨a, us, rfl, s, fun l hl => lst_new k hS hl z q (h (by rw [← q.length]; exact z))⟩
    · exact h.elim
  | tuple =>
    refine ⟨_, .ty "tuple" boot_tuple call_tuple_of, fun ps S vs H Q0 Q hS r k h => ?_⟩
    unfold bfS at h
    split at h <;> first | contradiction | skip
    split at h
    · rename_i xs hx
      obtain ⟨v, rfl, r1⟩ := r.one
      obtain ⟨a, us, rfl, s, z, q⟩ := seq_ok hS r1 hx
      have h' := h (by rw [← q.length]; exact z)
      rw [hK]
      refine ⟨a, us, rfl, ?_⟩
      rcases s with s | s
      · exact .inl ⟨s, fun l hl => tup_new k hS hl z q h'⟩
      · exact .inr ⟨s, here k hS (rep_tup s z q) h'⟩
    · exact h.elim
  | abs =>
    refine ⟨_, .fn "abs" boot_abs call_abs, fun ps S vs H Q0 Q hS r k h => ?_⟩
    unfold bfS at h
    split at h <;> first | contradiction | skip
    obtain ⟨v, rfl, r1⟩ := r.one
    exact ⟨_, by rw [r1.int_inv], here k hS rep_int h⟩
  | min =>
    refine ⟨_, .fn "min" boot_min (CallR.or (call_min2 hc) (cr_min hc)), fun ps S vs H Q0 Q hS r k h => ?_⟩
    unfold bfS at h
    split at h <;> first | contradiction | skip
    · obtain ⟨v, u, rfl, r1, r2⟩ := r.two
      exact .inl ⟨_, _, by rw [r1.int_inv, r2.int_inv], here k hS rep_int h⟩
    · split at h
      · rename_i xs hx
        obtain ⟨ns, h1, h2, h3⟩ := h
        obtain ⟨v, rfl, r1⟩ := r.one
        obtain ⟨us, s, z, q⟩ := hS.lst hx
        rw [ints_ok q h1] at s
        rw [hK]
        exact .inr ⟨_, ns, by rw [r1.loc_inv], SqL.of s, h2, fun m hm hy => here k hS rep_int (h3 m hm hy)⟩
      · exact h.elim
  | max =>
    refine ⟨_, .fn "max" boot_max (CallR.or (call_max2 hc) (cr_max hc)), fun ps S vs H Q0 Q hS r k h => ?_⟩
    unfold bfS at h
    split at h <;> first | contradiction | skip
    · obtain ⟨v, u, rfl, r1, r2⟩ := r.two
      exact .inl ⟨_, _, by rw [r1.int_inv, r2.int_inv], here k hS rep_int h⟩
    · split at h
      · rename_i xs hx
        obtain ⟨ns, h1, h2, h3⟩ := h
        obtain ⟨v, rfl, r1⟩ := r.one
        obtain ⟨us, s, z, q⟩ := hS.lst hx
        rw [ints_ok q h1] at s
        rw [hK]
        exact .inr ⟨_, ns, by rw [r1.loc_inv], SqL.of s, h2, fun m hm hy => here k hS rep_int (h3 m hm hy)⟩
      · exact h.elim
  | sum =>
    refine ⟨_, .fn "sum" (by decide +kernel) (cr_sum hc), fun ps S vs H Q0 Q hS r k h => ?_⟩
    unfold bfS at h
    split at h <;> first | contradiction | skip
    split at h
    · rename_i xs hx
      obtain ⟨ns, h1, h2⟩ := h
      obtain ⟨v, rfl, r1⟩ := r.one
      obtain ⟨us, s, z, q⟩ := hS.lst hx
      rw [ints_ok q h1] at s
      rw [hK]
      exact ⟨_, ns, by rw [r1.loc_inv], SqL.of s, here k hS rep_int h2⟩
    · exact h.elim
  | any =>
    refine ⟨_, .fn "any" (by decide +kernel) (cr_any hc), fun ps S vs H Q0 Q hS r k h => ?_⟩
    unfold bfS at h
    split at h <;> first | contradiction | skip
    split at h
    · rename_i xs hx
      obtain ⟨ns, h1, h2⟩ := h
      obtain ⟨v, rfl, r1⟩ := r.one
      obtain ⟨us, s, z, q⟩ := hS.lst hx
      rw [bools_ok q h1] at s
      rw [hK]
      exact ⟨_, ns, by rw [r1.loc_inv], SqL.of s, here k hS rep_bl h2⟩
    · exact h.elim
  | all =>
    refine ⟨_, .fn "all" (by decide +kernel) (cr_all hc), fun ps S vs H Q0 Q hS r k h => ?_⟩
    unfold bfS at h
    split at h <;> first | contradiction | skip
    split at h
    · rename_i xs hx
      obtain ⟨ns, h1, h2⟩ := h
      obtain ⟨v, rfl, r1⟩ := r.one
      obtain ⟨us, s, z, q⟩ := hS.lst hx
      rw [bools_ok q h1] at s
      rw [hK]
      exact ⟨_, ns, by rw [r1.loc_inv], SqL.of s, here k hS rep_bl h2⟩
    · exact h.elim
  | sorted => exact ⟨fun _ _ _ => False, .fn "sorted" boot_sorted (fun pins s σ H xs us Q I r h => h.elim), fun ps S vs H Q0 Q hS r k h => by unfold bfS at h; split at h <;> first | contradiction | exact h.elim⟩
  | str => exact ⟨fun _ _ _ => False, .ty "str" boot_str (fun pins s σ H xs us Q I r h => h.elim), fun ps S vs H Q0 Q hS r k h => by unfold bfS at h; split at h <;> first | contradiction | exact h.elim⟩
  | set => exact ⟨fun _ _ _ => False, .ty "set" boot_set (fun pins s σ H xs us Q I r h => h.elim), fun ps S vs H Q0 Q hS r k h => by unfold bfS at h; split at h <;> first | contradiction | exact h.elim⟩
  | dict => exact ⟨fun _ _ _ => False, .ty "dict" boot_dict (fun pins s σ H xs us Q I r h => h.elim), fun ps S vs H Q0 Q hS r k h => by unfold bfS at h; split at h <;> first | contradiction | exact h.elim⟩
  | divmod => exact ⟨fun _ _ _ => False, .fn "divmod" boot_divmod (fun pins s σ H xs us Q I r h => h.elim), fun ps S vs H Q0 Q hS r k h => by unfold bfS at h; split at h <;> first | contradiction | exact h.elim⟩
  | repr => exact ⟨fun _ _ _ => False, .fn "repr" boot_repr (fun pins s σ H xs us Q I r h => h.elim), fun ps S vs H Q0 Q hS r k h => by unfold bfS at h; split at h <;> first | contradiction | exact h.elim⟩
end
end Core

set_option maxRecDepth 100000
set_option maxHeartbeats 4000000
/-! Core5a: enumerate over a tuple. -/
namespace PySem
open Sem (wp)
open Builtin
section
variable {prog : Program} {w : World} {A : Around} {E : Value → Shared → Prop} {s : Shared}
theorem drawT_item {me tp : Addr} {k : Nat} {row : Array Value} {x : Value} {Q : Value → Shared → Prop} (st : s.heap.IsTupleIter me tp k) (tt : s.heap.IsTuple tp row) (at_ : row[k]? = some x)
    (hQ : ∀ h1, h1.IsTupleIter me tp (k + 1) → Heap.SameBut me s.heap h1 → Q x { s with heap := h1 }) : wpAny (model prog w) A (SmallTypes.nextOf (.ref me)) Q E s := by
  obtain ⟨ob, get, cl, dt⟩ := id st
  obtain ⟨ot, gett, _, nt, dtt⟩ := tt
  unfold SmallTypes.nextOf
  refine wpAny_bind (wpAny_callSpecial?_slot (name := Str.ofString "__next__") st.typeIs F.slot_tuple_iterator_next (wpAny_call_entry F.slot_tuple_iterator_next st.typeIs F.entry_tuple_iterator_next ?_ (F.args_tuple_iterator_next_1 _)))
  show wpAny _ _ (field (.ref me) 0 >>= _) _ _ s
  refine wpAny_bind (wpAny_field get dt (x := .ref tp) rfl ?_)
  show wpAny _ _ (if (Value.ref tp == Value.none) = true then _ else _) _ _ s
  rw [if_neg (show ¬ ((Value.ref tp == Value.none) = true) from Bool.false_ne_true)]
  show wpAny _ _ (field (.ref me) 1 >>= _) _ _ s
  refine wpAny_bind (wpAny_field get dt (x := .int k 0) rfl ?_)
  show wpAny _ _ (seqItems? (.ref tp) >>= _) _ _ s
  refine wpAny_bind (wpAny_seqItems gett dtt ?_)
  simp only [Int.toNat_natCast, at_]
  refine wpAny_bind (wpAny_setField get dt (by simp) (wpAny_pure ⟨x, rfl, wpAny_pure (hQ _ ?_ (Heap.SameBut.update ..))⟩))
  exact ⟨_, Heap.get?_update_self _ get (Obj.isFreed_of_fields (Obj.data_mapFields dt _)), (Obj.cls_mapFields ..).trans cl, by rw [Obj.data_mapFields dt]; simp [rawInt]⟩
theorem drawT_end {me tp : Addr} {k : Nat} {row : Array Value} {Q : Value → Shared → Prop} (calm : A.handled = none) (st : s.heap.IsTupleIter me tp k) (tt : s.heap.IsTuple tp row) (out : row[k]? = none)
    (hE : ∀ h1 e, Heap.ExtBut me s.heap h1 → (∃ o, h1.get? e = some o ∧ o.cls = .type "StopIteration") → E (.ref e) { s with heap := h1 }) : wpAny (model prog w) A (SmallTypes.nextOf (.ref me)) Q E s := by
  obtain ⟨ob, get, cl, dt⟩ := id st
  obtain ⟨ot, gett, _, nt, dtt⟩ := tt
  unfold SmallTypes.nextOf
  refine wpAny_bind (wpAny_callSpecial?_slot (name := Str.ofString "__next__") st.typeIs F.slot_tuple_iterator_next (wpAny_call_entry F.slot_tuple_iterator_next st.typeIs F.entry_tuple_iterator_next ?_ (F.args_tuple_iterator_next_1 _)))
  show wpAny _ _ (field (.ref me) 0 >>= _) _ _ s
  refine wpAny_bind (wpAny_field get dt (x := .ref tp) rfl ?_)
  show wpAny _ _ (if (Value.ref tp == Value.none) = true then _ else _) _ _ s
  rw [if_neg (show ¬ ((Value.ref tp == Value.none) = true) from Bool.false_ne_true)]
  show wpAny _ _ (field (.ref me) 1 >>= _) _ _ s
  refine wpAny_bind (wpAny_field get dt (x := .int k 0) rfl ?_)
  show wpAny _ _ (seqItems? (.ref tp) >>= _) _ _ s
  refine wpAny_bind (wpAny_seqItems gett dtt ?_)
  simp only [Int.toNat_natCast, out]
  refine wpAny_bind (wpAny_rule (wpAny_bind (wpAny_setField get dt (by simp) ?_)))
  show wpAny _ _ (newExc (.type "StopIteration") [] >>= _) _ _ _
  refine wpAny_bind ?_
  simp only [newExc, newTuple]
  refine wpAny_bind (wpAny_newObj_type ?_ (by size_fits))
  refine wpAny_bind (m := firstArgMember _ _) (wpAny_of_eq (a := Value.none) (by first | rfl | (simp only [firstArgMember]; rfl)) ?_)
  refine wpAny_newObj_type ?_ (by size_fits)
  simp only [raiseNew]
  refine wpAny_bind (wpAny_handled ?_)
  first | rw [show A.in1.handled = none from calm] | rw [calm]
  refine wpAny_bind (wpAny_pure (wpAny_throw ?_))
  exact hE _ _ (((Heap.SameBut.update ..).extBut.push _).push _) ⟨_, Heap.get?_push_size _ rfl, rfl⟩
theorem enumT_new (tp : Addr) (row : Array Value) (n : Nat) (dd : Option Addr) (sl : Array (Option Value)) :
    Meets (Builtin.«enumerate.__new__» ⟨[.type "enumerate", .ref tp], []⟩) (fun _ R s => s.heap.get? tp = some { cls := .type "tuple", dict := dd, data := .seq row n, slots := sl } ∧
      R (.ok (.ret (.ref (s.heap.push { cls := .type "tuple_iterator", data := .fields #[.ref tp, .int 0 0] }).objs.size)))
        { s with heap := (s.heap.push { cls := .type "tuple_iterator", data := .fields #[.ref tp, .int 0 0] }).push { cls := .type "enumerate", data := .fields #[.none, .bool false, .ref s.heap.objs.size, rawInt 0, .none, .none] } }) :=
  .of_wp fun prog w A R s h => by
    obtain ⟨hp, g, d, tk, os⟩ := s; obtain ⟨hl, h⟩ := h
    have hsub := sub_enumerate
    have hT : Heap.IsTuple (Shared.heap ⟨hp, g, d, tk, os⟩) tp row := ⟨_, hl, rfl, n, rfl⟩
    wp_walk using AutoSeq1.wpAny_loadPart' hl
    refine wpAny_stack_any fun st => wpAny_pure ?_
    split
    · rename_i c _ _ _ _ _
      cases (c == Value.type "enumerate")
      · wp_walk using AutoSeq1.wpAny_loadPart' hl, wpAny_pyIter_tuple hT
        exact ⟨_, rfl, h⟩
      · wp_walk using AutoSeq1.wpAny_loadPart' hl, wpAny_pyIter_tuple hT
        exact ⟨_, rfl, h⟩
    · wp_walk using AutoSeq1.wpAny_loadPart' hl, wpAny_pyIter_tuple hT
      exact ⟨_, rfl, h⟩
theorem call_enumT {tp : Addr} {row : Array Value} {Q : Value → Shared → Prop} (hT : s.heap.IsTuple tp row)
    (h : ∀ h1, IsEnum h1 (s.heap.objs.size + 1) s.heap.objs.size 0 .none → h1.IsTupleIter s.heap.objs.size tp 0 → (∀ b o, s.heap.get? b = some o → h1.get? b = some o) → Q (.ref (s.heap.objs.size + 1)) { s with heap := h1 }) :
    wpAny (model prog w) A (call (.type "enumerate") [.ref tp]) Q E s := by
  obtain ⟨⟨c, dd, dt, sl⟩, get, hc, n, hd⟩ := hT
  replace hc : c = .type "tuple" := hc
  replace hd : dt = .seq row n := hd
  subst hc hd
  refine callType_new F.called_enumerate (by decide) (F.typeCall_enumerate_1 _) (F.newCall_enumerate_1 _) (fun obj => F.args_object_init_2 obj _) F.entry_enumerate_new (enumT_new tp row n dd sl) ⟨get, ?_⟩
  have size : (s.heap.push { cls := .type "tuple_iterator", data := .fields #[.ref tp, .int 0 0] }).objs.size = s.heap.objs.size + 1 := Heap.size_push ..
  show _ ∧ _
  rw [size]
  have en : IsEnum ((s.heap.push { cls := .type "tuple_iterator", data := .fields #[.ref tp, .int 0 0] }).push { cls := .type "enumerate", data := .fields #[.none, .bool false, .ref s.heap.objs.size, rawInt 0, .none, .none] }) (s.heap.objs.size + 1) s.heap.objs.size 0 .none := by
    have q := Heap.get?_push_size (s.heap.push { cls := .type "tuple_iterator", data := .fields #[.ref tp, .int 0 0] }) (o := { cls := .type "enumerate", data := .fields #[.none, .bool false, .ref s.heap.objs.size, rawInt 0, .none, .none] }) rfl
    rw [size] at q
    exact q
  exact ⟨⟨_, en, rfl⟩, h _ en ⟨_, Heap.get?_push_of_some _ (Heap.get?_push_size _ rfl), rfl, rfl⟩ fun b o x => Heap.get?_push_of_some _ (Heap.get?_push_of_some _ x)⟩
theorem Draws.tuple (calm : A.handled = none) (me tp : Addr) (ne : tp ≠ me) (row : Array Value) :
    Draws prog w A me [me, tp] row.size (fun i v => row[i]? = some v) (fun i h => h.IsTupleIter me tp i ∧ h.IsTuple tp row) where
  live := fun _ _ st => let ⟨o, ho, _⟩ := st.1; ⟨o, ho⟩
  frame := fun _ _ _ st hk => ⟨st.1.at fun o e => hk me (by simp) o e, let ⟨o, ho, r⟩ := st.2; ⟨o, hk tp (by simp) o ho, r⟩⟩
  item := fun i s Q E hi st hQ => by
    refine drawT_item st.1 st.2 (x := row[i]) (by simp [hi]) fun h1 it1 sb => ?_
    exact hQ _ h1 s.toks (by simp [hi]) ⟨it1, st.2.extBut sb.extBut ne⟩ sb
  done := fun s Q E st hE => drawT_end calm st.1 st.2 (by simp) hE
end
end PySem
namespace L2
open PySem PySem.Spec PyProof.Rows
/-- the tuple at a, its items in new pairs -/
def IteT (K : PySem.W.Frag) (a : Addr) : It :=
  ⟨fun i H => ∃ (xs : List V) (x : V), SqT K H a xs ∧ xs[i]? = some x, fun i H v H' => ∃ T x, v = .ref T ∧ H T = none ∧ H' = upd H T (.tup [.int (i : Nat), x]) ∧ ∀ xs, SqT K H a xs → xs[i]? = some x, fun i H => ∃ xs : List V, SqT K H a xs ∧ xs.length ≤ i⟩
theorem turn_enumT {P : Program} {w : World} {K : PySem.W.Frag} {elts : List PySem.Expr} {kk : Nat} {tpos : Pos} (a e me : Addr) :
    Turn P w K (.Tuple elts kk tpos) (IteT K a) [e, me] e (fun i h => (∃ old, IsEnum h e me ((i : Nat) : Int) old) ∧ h.IsTupleIter me a i ∧ e ≠ me) where
  mem := by simp
  obj := fun i h st b hb => by
    obtain ⟨⟨old, en⟩, ⟨o, ho, hc, hd⟩, _⟩ := st
    have which : b = e ∨ b = me := by simpa using hb
    rcases which with z | z
    · rw [z]; exact ⟨_, en, fun v q => nomatch q⟩
    · rw [z]; exact ⟨o, ho, fun v q => by rw [hd] at q; cases q⟩
  keep := fun i h h' st k => let ⟨⟨old, en⟩, hi, ne⟩ := st; ⟨⟨old, k e (by simp) _ en⟩, hi.at fun o q => k me (by simp) o q, ne⟩
  item := by
    intro X hP hw hK hc i pins s σ H E I hf st hg
    subst hP hw hK
    obtain ⟨⟨old, en⟩, it, ne⟩ := st
    obtain ⟨xs, x, hq, hx⟩ := hg
    obtain ⟨its, rv, p, hz⟩ := I.tuple hq
    obtain ⟨u, hu, ru⟩ := rv.get hx
    have lt1 : e < s.heap.objs.size := Heap.lt_size en
    have lt2 : me < s.heap.objs.size := by obtain ⟨_, q, _⟩ := it; exact Heap.lt_size q
    have tt : s.heap.IsTuple a its.toArray := p
    have ane : a ≠ me := fun z => by
      obtain ⟨o1, g1, c1, _⟩ := it
      obtain ⟨o2, g2, c2, _⟩ := tt
      rw [z, g1] at g2
      cases g2
      rw [c1] at c2
      exact absurd c2 (by decide)
    have ane2 : a ≠ e := fun z => by
      obtain ⟨o2, g2, c2, _⟩ := tt
      rw [z] at g2
      have g1 : s.heap.get? e = _ := en
      rw [g1] at g2
      cases g2
      exact absurd (show Value.type "enumerate" = Value.type "tuple" from c2) (by decide)
    have ui : its[i]? = some u := hu
    have ilt : i < its.toArray.size := by
      have := (List.getElem?_eq_some_iff.mp ui).1
      simpa using this
    have out2 : e ∉ [me, a] := fun z => by
      rcases List.mem_cons.mp z with z | z
      · exact ne z
      · exact ane2 (List.mem_singleton.mp z).symm
    refine wpAny_pyNext_enum_itemD (Draws.tuple (A := X.A.in1) (show X.A.in1.handled = none from I.ok.hd hc) me a ane its.toArray) en ⟨it, tt⟩ ilt ne out2 fun y h1 tk hy out st1 hT hsz hk => ?_
    have ey : y = u := by
      have hy : its.toArray[i]? = some y := hy
      have : its[i]? = some y := by simpa using hy
      rw [ui] at this
      exact (Option.some.inj this).symm
    subst ey
    refine ⟨_, rfl, wpAny_letOwnedTupleGo_enum (s := { s with heap := h1, toks := tk + 1 }) out fun h2 en2 sb => ?_⟩
    have hT2 : h2.get? s.heap.objs.size = some { cls := .type "tuple", data := .seq #[.int i tk, y] } := (sb.2 _ (Nat.ne_of_gt lt1)).trans hT
    have new : ObjOk X.prog X.w (upd H s.heap.objs.size (.tup [.int (i : Nat), x])) h2 s.heap.objs.size (.tup [.int (i : Nat), x]) :=
      ⟨by show 2 ≤ sizeLine; decide, [.int i tk, y], .cons ⟨_, rfl⟩ (.cons ru .nil), ⟨_, hT2, rfl, _, rfl⟩⟩
    have I1 : Inv X pins σ (upd H s.heap.objs.size (.tup [.int (i : Nat), x])) { s with heap := h2, toks := tk + 1 } :=
      I.turnedNew (ch := [e, me]) (fun b ob hb q => (sb.2 b (fun z => hb (by simp [z]))).trans (hk b ob (fun z => hb (by simp [z])) (fun z => hb (by simp [z])) q)) hf (Nat.le_refl _) new
    refine ⟨.ref s.heap.objs.size, _, I1, rfl, ⟨_, x, rfl, I.hok.fresh (Nat.le_refl _), rfl, fun ys hy => by rw [I.tuple_inj hy hq]; exact hx⟩, ⟨⟨y, ?_⟩, st1.1.at fun o q => (sb.2 me (Ne.symm ne)).trans q, ne⟩, fun b hb => ?_⟩
    · have e1 : ((i + 1 : Nat) : Int) = (i : Int) + 1 := by omega
      rw [e1]; exact en2
    · have lt3 : b < s.heap.objs.size := by
        have which : b = e ∨ b = me := by simpa using hb
        rcases which with z | z
        · rw [z]; exact lt1
        · rw [z]; exact lt2
      rw [upd_ne (Nat.ne_of_lt lt3)]
      exact (hf b hb).1
  done := by
    intro X hP hw hK hc i pins s σ H E I hf st hg
    subst hP hw hK
    obtain ⟨⟨old, en⟩, it, ne⟩ := st
    obtain ⟨xs, hq, hx⟩ := hg
    obtain ⟨its, rv, p, hz⟩ := I.tuple hq
    have tt : s.heap.IsTuple a its.toArray := p
    obtain ⟨f0, f1, f2, f3, f4, f5⟩ := hf me (by simp)
    have hl := rv.length
    have hT : s.TypeIs (.ref e) "enumerate" := ⟨_, en, rfl⟩
    unfold pyNext
    refine wpAny_bind (wpAny_attempt (wpAny_callSpecial?_slot (name := Str.ofString "__next__") hT F.slot_enumerate_next (wpAny_call_entry F.slot_enumerate_next hT F.entry_enumerate_next ?_ (F.args_enumerate_next_1 _))))
    show wpAny _ _ (field (.ref e) 2 >>= _) _ _ _
    refine wpAny_bind (wpAny_field en rfl (x := .ref me) rfl ?_)
    refine wpAny_bind (drawT_end (show X.A.in1.handled = none from I.ok.hd hc) it tt (by simp; omega) fun h1 x ext hx' => ?_)
    obtain ⟨o, ho, hcl⟩ := hx'
    refine wpAny_bind (wpAny_isInstance (T := "StopIteration") (b := true) ⟨o, ho, hcl⟩ isSubtype_stop ?_)
    exact wpAny_pure ⟨rfl, I.turned (t' := s.toks) (fun b o hb q => ext b o hb q) f0 f1 f3 f4 f5⟩
  self := fun A i s Q E st h => let ⟨⟨_, en⟩, _⟩ := st; wpAny_pyIter_enum en h
/-- enumerate(list or tuple) -/
def iEnumB (K : PySem.W.Frag) (ta : TA) : TI := fun σ H R => ta σ H fun vs H1 => ∃ a, vs = [.ref a] ∧ ((∃ xs, SqL K H1 a xs ∧ R (Ite K a) H1) ∨ ∃ xs, SqT K H1 a xs ∧ R (IteT K a) H1)
theorem pi_enumB {X : Cx} {e : PySem.Expr} {ta : TA} {p pos tpos : Pos} {elts : List PySem.Expr} {kk : Nat} (hg : Gl X "enumerate") (hm : X.mg "enumerate" = none) (ha : PA X [e] ta) (hs : starEach [e] X.env = [(false, eval e X.env)] := by rfl) :
    PI X (.Tuple elts kk tpos) (.Call (.Name "enumerate" p) [e] [] pos) (iEnumB X.K ta) := by
  refine ⟨fun pins s σ H R I h => ?_⟩
  refine Call_ (ld_blt I hg hm boot_enumerate (PyProof.Rows.callWith_type1 (thn (ha.run pos pins s σ H _ I h) fun us s1 ⟨vs, H1, I1, r1, a, ex, q1⟩ => ?_) hs rfl))
  subst ex
  cases r1 with
  | cons r rr =>
    cases rr
    cases r
    have fp : ∀ b ∈ [s1.heap.objs.size + 1, s1.heap.objs.size], FpOk X pins H1 b := fun b hb => by
      have which : b = s1.heap.objs.size + 1 ∨ b = s1.heap.objs.size := by simpa using hb
      have hle : s1.heap.objs.size ≤ b := by
        rcases which with z | z
        · rw [z]; exact Nat.le_add_right _ _
        · rw [z]; exact Nat.le_refl _
      exact I1.fpOk hle (I1.hok.fresh hle)
    rcases q1 with ⟨xs, hq, q⟩ | ⟨xs, hq, q⟩
    · obtain ⟨its, rv, p', hz⟩ := I1.list hq
      refine call_enumerate_list p'.isList fun h1 en it hsz hk => wpAny_pyIter_enum en ?_
      exact ⟨s1.heap.objs.size + 1, [s1.heap.objs.size + 1, s1.heap.objs.size], _, _, H1, rfl, I1.kept (t' := s1.toks) hk, turn_enum a _ _, ⟨⟨.none, en⟩, it, Nat.succ_ne_self _⟩, fp, q⟩
    · obtain ⟨its, rv, p', hz⟩ := I1.tuple hq
      refine call_enumT (show s1.heap.IsTuple a its.toArray from p') fun h1 en it hk => wpAny_pyIter_enum en ?_
      exact ⟨s1.heap.objs.size + 1, [s1.heap.objs.size + 1, s1.heap.objs.size], _, _, H1, rfl, I1.kept (t' := s1.toks) hk, turn_enumT a _ _, ⟨⟨.none, en⟩, it, Nat.succ_ne_self _⟩, fp, q⟩
end L2

set_option maxRecDepth 100000
/-! Core6: methods of lists, what is walked. -/
namespace Core
open PySem L2 PySem.Spec PyProof.Rows
def bmName : Bm → Str
  | .append => "append" | .pop => "pop" | .extend => "extend" | .index => "index" | .insert => "insert" | .get => "get" | .setdefault => "setdefault" | .reverse => "reverse" | .items => "items"
  | .split => "split" | .find => "find" | .join => "join"
theorem bmOf_name {x : Str} {f : Bm} (h : bmOf x = some f) : x = bmName f := by
  unfold bmOf at h
  repeat' (split at h; (rename_i e; cases h; exact e))
  cases h
/-- a method of lists -/
inductive BMeth (X : Cx) (x : Str) (r : V → List V → Hp → VK → Prop) : Prop where
  | mk (id : String) (slot : Slot "list" x id) (hty : typeOf (.builtin id) = pure (.type "method_descriptor")) (hm : MtR X id r)
def ServesM (B : Bs) (r : V → List V → Hp → VK → Prop) (t : P → List P → Store → QP → Prop) : Prop :=
  ∀ x ps S vx vs H Q0 Q, RelS B S H → Rep B H x vx → Reps B H ps vs → OkQ B H Q0 Q → t x ps S Q0 → r vx vs H Q
theorem ix_bound {i : Int} {n j : Nat} (h : seqIndex? i n = some j) (z : n ≤ sizeLine) : -(2 ^ 63 : Int) ≤ i ∧ i < 2 ^ 63 := by
  have hz := sizeLine_eq
  unfold seqIndex? at h
  dsimp only at h
  by_cases c : i < 0
  · rw [if_pos c] at h
    split at h
    · rename_i hc
      simp at hc
      constructor <;> omega
    · cases h
  · rw [if_neg c] at h
    split at h
    · rename_i hc
      simp at hc
      constructor <;> omega
    · cases h
theorem lstS_inv {x : P} {S : Store} {a : Addr} {xs : List P} (h : lstS x S = some (a, xs)) : x = .loc a ∧ S a = some (.lst xs) := by
  unfold lstS at h
  split at h
  · split at h
    · rename_i hx
      cases h
      exact ⟨rfl, hx⟩
    · cases h
  · cases h
section
variable {X : Cx} {B : Bs}
theorem lst_set {H : Hp} {S : Store} {Q0 : QP} {Q : VK} (k : OkQ B H Q0 Q) (hS : RelS B S H) {a : Addr} {us vs : List V} {ps : List P} (e : H a = some (.lst us)) (z : vs.length ≤ sizeLine) (r : Reps B H ps vs) {p : P} {v : V} (rp : Rep B H p v)
    (q : Q0 p (S.upd a (.lst ps))) : Q v (upd H a (.lst vs)) := k _ _ _ _ (.lst e) (hS.setL e z r) (rp.ext (.lst e)) q
theorem bm_ok (m : Bm) (n : Nat) : ∃ r, (∀ hm : m = .append ∨ m = .pop ∨ m = .extend ∨ m = .reverse, BMeth X (bmName m) r) ∧ ServesM B r (fun x ps S Q => ps.length = n ∧ bmS m x ps S Q) := by
  cases m with
  | append =>
    refine ⟨_, fun _ => .mk _ PySem.F.slot_list_append PySem.F.type_list_append mt_append, fun x ps S vx vs H Q0 Q hS rx rs k ⟨_, h⟩ => ?_⟩
    unfold bmS at h
    split at h <;> first | contradiction | skip
    split at h
    · rename_i a xs hx
      obtain ⟨rfl, hx'⟩ := lstS_inv hx
      obtain ⟨v, rfl, r1⟩ := rs.one
      obtain ⟨us, e, z, q⟩ := hS.lst hx'
      refine ⟨a, us, v, rx.loc_inv, rfl, e, by rw [q.length]; exact h.1, lst_set k hS e ?_ (q.append (.cons r1 .nil)) rep_non h.2⟩
      rw [List.length_append, q.length]
      exact h.1
    · exact h.elim
  | extend =>
    refine ⟨_, fun _ => .mk _ PySem.F.slot_list_extend PySem.F.type_list_extend mt_extend, fun x ps S vx vs H Q0 Q hS rx rs k ⟨_, h⟩ => ?_⟩
    unfold bmS at h
    split at h <;> first | contradiction | skip
    split at h
    · rename_i a xs b ys hx hy
      obtain ⟨rfl, hx'⟩ := lstS_inv hx
      obtain ⟨rfl, hy'⟩ := lstS_inv hy
      obtain ⟨v, rfl, r1⟩ := rs.one
      obtain ⟨us, e, z, q⟩ := hS.lst hx'
      obtain ⟨ws, e2, z2, q2⟩ := hS.lst hy'
      refine ⟨a, b, us, ws, rx.loc_inv, by rw [r1.loc_inv], e, e2, by rw [q.length, q2.length]; exact h.1, lst_set k hS e ?_ (q.append q2) rep_non h.2⟩
      rw [List.length_append, q.length, q2.length]
      exact h.1
    · exact h.elim
  | reverse =>
    refine ⟨_, fun _ => .mk _ PySem.F.slot_list_reverse PySem.F.type_list_reverse mt_reverse, fun x ps S vx vs H Q0 Q hS rx rs k ⟨_, h⟩ => ?_⟩
    unfold bmS at h
    split at h <;> first | contradiction | skip
    split at h
    · rename_i a xs hx
      obtain ⟨rfl, hx'⟩ := lstS_inv hx
      obtain ⟨us, e, z, q⟩ := hS.lst hx'
      exact ⟨a, us, rx.loc_inv, rs.nil_inv, e, lst_set k hS e (by simpa using z) q.reverse rep_non h⟩
    · exact h.elim
  | pop =>
    by_cases hn : n = 0
    · refine ⟨_, fun _ => .mk _ PySem.F.slot_list_pop PySem.F.type_list_pop mt_pop, fun x ps S vx vs H Q0 Q hS rx rs k ⟨hl, h⟩ => ?_⟩
      unfold bmS at h
      split at h <;> first | contradiction | skip
      · split at h
        · rename_i a xs hx
          obtain ⟨rfl, hx'⟩ := lstS_inv hx
          obtain ⟨us, e, z, q⟩ := hS.lst hx'
          obtain ⟨y, h1, h2⟩ := h
          obtain ⟨v, e1, r1⟩ := q.get h1
          refine ⟨a, us, v, rx.loc_inv, rs.nil_inv, e, by rw [q.length]; exact e1, lst_set k hS e (by rw [List.length_dropLast]; omega) q.dropLast r1 h2⟩
        · exact h.elim
      · simp at hl; omega
    · refine ⟨_, fun _ => .mk _ PySem.F.slot_list_pop PySem.F.type_list_pop mt_popAt, fun x ps S vx vs H Q0 Q hS rx rs k ⟨hl, h⟩ => ?_⟩
      unfold bmS at h
      split at h <;> first | contradiction | skip
      · simp at hl; omega
      · split at h
        · rename_i a xs hx
          obtain ⟨rfl, hx'⟩ := lstS_inv hx
          obtain ⟨us, e, z, q⟩ := hS.lst hx'
          obtain ⟨j, y, h0, h1, h2⟩ := h (by rw [← q.length]; exact z)
          obtain ⟨v, e1, r1⟩ := q.get h1
          obtain ⟨u, rfl, ru⟩ := rs.one
          have hz := sizeLine_eq
          have hb := ix_bound h0 (by rw [← q.length]; exact z)
          refine ⟨a, us, _, j, v, rx.loc_inv, by rw [ru.int_inv], e, hb.1, hb.2, by rw [q.length]; exact h0, e1, lst_set k hS e (Nat.le_trans (len_erase _ _) z) (q.eraseIdx j) r1 h2⟩
        · exact h.elim
  | _ => exact ⟨fun _ _ _ _ => False, fun hm => by simp at hm, fun x ps S vx vs H Q0 Q hS rx rs k ⟨_, h⟩ => by unfold bmS at h; split at h <;> first | contradiction | exact h.elim⟩

/-! ### what is walked -/
structure WalksI (B : Bs) (J : It) (items : List P) (Gd : Store → Prop) (H0 : Hp) : Prop where
  big : items.length ≤ sizeLine
  go : ∀ (i : Nat) H S, RelS B S H → Ext H0 H → Gd S → i < items.length → J.go i H
  stop : ∀ H S, RelS B S H → Ext H0 H → Gd S → J.stop items.length H
  yld : ∀ (i : Nat) H S x H', RelS B S H → Ext H0 H → Gd S → i < items.length → J.yld i H x H' → Ext H H' ∧ RelS B S H' ∧ ∃ p, items[i]? = some p ∧ Rep B H' p x
theorem walks_list {H0 : Hp} {a : Addr} {items : List P} (big : items.length ≤ sizeLine) : WalksI B (Itl B.K a) items (fun S' => S' a = some (.lst items)) H0 where
  big := big
  go := fun i H S hS _ g hi => by
    obtain ⟨vs, e, z, r⟩ := hS.lst g
    obtain ⟨v, e1, _⟩ := r.get (i := i) (p := items[i]) (by simp [hi])
    exact ⟨vs, v, SqL.of e, e1⟩
  stop := fun H S hS _ g => by
    obtain ⟨vs, e, z, r⟩ := hS.lst g
    exact ⟨vs, SqL.of e, Nat.le_of_eq r.length⟩
  yld := fun i H S x H' hS _ g hi y => by
    obtain ⟨rfl, y⟩ := y
    obtain ⟨vs, e, z, r⟩ := hS.lst g
    obtain ⟨p, e1, r1⟩ := r.get' (y vs (SqL.of e))
    exact ⟨.refl _, hS, p, e1, r1⟩
theorem walks_frl {H0 : Hp} {a : Addr} {items : List P} {vs : List V} {Gd : Store → Prop} (s : ∀ H, Ext H0 H → SqL B.K H a vs) (r : Reps B H0 items vs) (big : items.length ≤ sizeLine) : WalksI B (Itl B.K a) items Gd H0 where
  big := big
  go := fun i H S hS e g hi => by
    obtain ⟨v, e1, _⟩ := r.get (i := i) (p := items[i]) (by simp [hi])
    exact ⟨vs, v, s H e, e1⟩
  stop := fun H S hS e g => ⟨vs, s H e, Nat.le_of_eq r.length⟩
  yld := fun i H S x H' hS e g hi y => by
    obtain ⟨rfl, y⟩ := y
    obtain ⟨p, e1, r1⟩ := r.get' (y vs (s _ e))
    exact ⟨.refl _, hS, p, e1, r1.ext e⟩
theorem walks_tup {H0 : Hp} {a : Addr} {items : List P} {vs : List V} {Gd : Store → Prop} (s : SqT B.K H0 a vs) (r : Reps B H0 items vs) (big : items.length ≤ sizeLine) : WalksI B (Itt B.K a) items Gd H0 where
  big := big
  go := fun i H S hS e g hi => by
    obtain ⟨v, e1, _⟩ := r.get (i := i) (p := items[i]) (by simp [hi])
    exact ⟨vs, v, e.sqt s, e1⟩
  stop := fun H S hS e g => ⟨vs, e.sqt s, Nat.le_of_eq r.length⟩
  yld := fun i H S x H' hS e g hi y => by
    obtain ⟨rfl, y⟩ := y
    obtain ⟨p, e1, r1⟩ := r.get' (y vs (e.sqt s))
    exact ⟨.refl _, hS, p, e1, r1.ext e⟩
theorem walks_range {H0 : Hp} {lo : Int} {n : Nat} {Gd : Store → Prop} {items : List P} (hi : items = (List.range n).map fun (i : Nat) => P.int (lo + i)) (hn : n ≤ sizeLine) : WalksI B (Itr lo n) items Gd H0 where
  big := by subst hi; simpa using hn
  go := fun i H S hS e g h => by subst hi; show i < n; simpa using h
  stop := fun H S hS e g => by subst hi; show n ≤ _; simp
  yld := fun i H S x H' hS e g h y => by
    obtain ⟨rfl, rfl⟩ := y
    subst hi
    refine ⟨.refl _, hS, .int (lo + i), ?_, rep_int⟩
    have h' : i < n := by simpa using h
    simp [h']
theorem walks_enum {H0 : Hp} {a : Addr} {items : List P} (big : items.length ≤ sizeLine) : WalksI B (Ite B.K a) (items.zipIdx.map fun p => P.tup [.int p.2, p.1]) (fun S' => S' a = some (.lst items)) H0 where
  big := by simpa using big
  go := fun i H S hS _ g hi => by
    obtain ⟨vs, e, z, r⟩ := hS.lst g
    have hi' : i < items.length := by simpa using hi
    obtain ⟨v, e1, _⟩ := r.get (i := i) (p := items[i]) (by simp [hi'])
    exact ⟨vs, v, SqL.of e, e1⟩
  stop := fun H S hS _ g => by
    obtain ⟨vs, e, z, r⟩ := hS.lst g
    exact ⟨vs, SqL.of e, by simp [r.length]⟩
  yld := fun i H S x H' hS _ g hi y => by
    obtain ⟨T, v, rfl, hT, rfl, y⟩ := y
    obtain ⟨vs, e, z, r⟩ := hS.lst g
    obtain ⟨p, e1, r1⟩ := r.get' (y vs (SqL.of e))
    refine ⟨.fresh hT, hS.ext hT, .tup [.int i, p], ?_, rep_tup (SqT.of L2.upd_same) (by show 2 ≤ sizeLine; decide) (.cons rep_int (.cons (r1.ext (.fresh hT)) .nil))⟩
    have hi' : i < items.length := by simpa using hi
    simp only [List.getElem?_map, List.getElem?_zipIdx, e1, Option.map_some, Nat.zero_add]
theorem walks_enumT {H0 : Hp} {a : Addr} {items : List P} {vs : List V} {Gd : Store → Prop} (s : SqT B.K H0 a vs) (r : Reps B H0 items vs) (big : items.length ≤ sizeLine) : WalksI B (IteT B.K a) (items.zipIdx.map fun p => P.tup [.int p.2, p.1]) Gd H0 where
  big := by simpa using big
  go := fun i H S hS e g hi => by
    have hi' : i < items.length := by simpa using hi
    obtain ⟨v, e1, _⟩ := r.get (i := i) (p := items[i]) (by simp [hi'])
    exact ⟨vs, v, e.sqt s, e1⟩
  stop := fun H S hS e g => ⟨vs, e.sqt s, by simp [r.length]⟩
  yld := fun i H S x H' hS e g hi y => by
    obtain ⟨T, v, rfl, hT, rfl, y⟩ := y
    obtain ⟨p, e1, r1⟩ := r.get' (y vs (e.sqt s))
    refine ⟨.fresh hT, hS.ext hT, .tup [.int i, p], ?_, rep_tup (SqT.of L2.upd_same) (by show 2 ≤ sizeLine; decide) (.cons rep_int (.cons ((r1.ext e).ext (.fresh hT)) .nil))⟩
    simp only [List.getElem?_map, List.getElem?_zipIdx, e1, Option.map_some, Nat.zero_add]
end

/-- a list or a tuple, whichever -/
def iSeq (K : PySem.W.Frag) (tl : TE) : TI := fun σ H R => tl σ H fun x H1 => ∃ a, x = .ref a ∧ (((∃ xs, SqL K H1 a xs) ∧ R (Itl K a) H1) ∨ ((∃ xs, SqT K H1 a xs) ∧ R (Itt K a) H1))
theorem pi_seq {X : Cx} {tg l : PySem.Expr} {tl : TE} (hl : PE X l tl) : PI X tg l (iSeq X.K tl) := by
  refine ⟨fun pins s σ H R I h => ?_⟩
  refine thn (hl.run pins s σ H _ I h) fun v s1 ⟨x, H1, I1, r1, q1⟩ => ?_
  obtain ⟨a, e, ⟨⟨xs, hq⟩, q⟩ | ⟨⟨xs, hq⟩, q⟩⟩ := q1
  · subst e
    cases r1
    obtain ⟨its, rv, p, hz⟩ := I1.list hq
    refine wpAny_pyIter_list p.isList ?_
    refine ⟨s1.heap.objs.size, [s1.heap.objs.size], _, _, H1, rfl, I1.kept (t' := s1.toks) fun b o e => Heap.get?_push_of_some _ e, turn_list a _, ⟨_, Heap.get?_push_size _ rfl, rfl, rfl⟩, fun b hb => ?_, q⟩
    have e : b = s1.heap.objs.size := by simpa using hb
    subst e
    exact I1.fpOk (Nat.le_refl _) (I1.hok.fresh (Nat.le_refl _))
  · subst e
    cases r1
    obtain ⟨its, rv, p, hz⟩ := I1.tuple hq
    refine wpAny_pyIter_tuple (show s1.heap.IsTuple a its.toArray from p) ?_
    refine ⟨s1.heap.objs.size, [s1.heap.objs.size], _, _, H1, rfl, I1.kept (t' := s1.toks) fun b o e => Heap.get?_push_of_some _ e, turn_tuple a _, ⟨_, Heap.get?_push_size _ rfl, rfl, rfl⟩, fun b hb => ?_, q⟩
    have e : b = s1.heap.objs.size := by simpa using hb
    subst e
    exact I1.fpOk (Nat.le_refl _) (I1.hok.fresh (Nat.le_refl _))
end Core

set_option maxRecDepth 100000
/-! Core7: what the program's top gives; the translation of expressions is sound. -/
namespace Core
open PySem L2 PySem.Spec PyProof.Rows

def OkX (B : Bs) (H : Hp) (E0 : QE) (E : XK) : Prop := ∀ ex S' H' cls d, Ext H H' → RelS B S' H' → ExR B H' ex cls d → E0 ex S' → E cls d H'
theorem OkX.at {B : Bs} {H H1 : Hp} {E0 : QE} {E : XK} (h : OkX B H E0 E) (e : Ext H H1) : OkX B H1 E0 E := fun ex S' H' cls d e' => h ex S' H' cls d (e.trans e')
theorem OkX.no {B : Bs} {H : Hp} {E : XK} : OkX B H noE E := fun _ _ _ _ _ _ _ _ h => h.elim
def OkA (B : Bs) (H : Hp) (Q0 : List P → Store → Prop) (Q : List V → Hp → Prop) : Prop := ∀ ps S' H' vs, Ext H H' → RelS B S' H' → Reps B H' ps vs → Q0 ps S' → Q vs H'
/-- a def's promise, from its clean one -/
def spOf (B : Bs) (n : Nat) (sp : PSpec) : Sp := fun vs H Q E => vs.length = n ∧ ∃ (ps : List P) (S : Store) (Q0 : QP) (E0 : QE), Reps B H ps vs ∧ RelS B S H ∧ OkQ B H Q0 Q ∧ OkX B H E0 E ∧ sp ps S Q0 E0
def bltNames : List Str := ["len", "int", "list", "tuple", "abs", "min", "max", "sum", "any", "all", "bool", "isinstance", "range", "enumerate", "str"]

/-- what __init__ of an error with one field promises -/
def spXi (C : Addr) (y : Str) : Sp := fun vs H Q _ => ∃ a v, vs = [.ref a, v] ∧ H a = some (exo a C none) ∧ ∀ dx, H dx = none → dx ≠ a → Q .non (L2.upd (L2.upd H dx (exd dx [(y, v)])) a (exo a C (some dx)))
/-- what the top has written, and what the defs keep, k calls deep -/
structure PFact (P : Program) (w : World) (base : Heap) (B : Bs) (G : Env) (k : Nat) : Prop where
  con : ∀ (i : Nat) (x : Str), B.T.cns[i]? = some x → ∃ v u, B.mg x = some u ∧ RelV v u ∧ ∀ H, Rep B H (G.con i) v
  fnv : ∀ (i : Nat) (x : Str), B.T.fns[i]? = some x → ∃ a, B.mg x = some (.ref a) ∧ PySem.W.keepIn B.K (.ref a) = true
  clv : ∀ (i : Nat) (x : Str), B.T.cls[i]? = some x → ∃ a, B.mg x = some (.ref a) ∧ PySem.W.keepIn B.K (.ref a) = true
  fn : ∀ (i : Nat) (x : Str) (f : Addr) as S Q E, B.T.fns[i]? = some x → B.mg x = some (.ref f) → G.fn i as S Q E → ∃ fd ps, Binds B.K fd ps [] ∧ FnOk P w B.K B.mg base (L2.CX P w) k f fd ps (spOf B ps.length (G.fn i)) ∧ as.length = ps.length
  has : ∀ (i j : Nat) (x m : Str) (C : Addr), B.T.cls[i]? = some x → B.mg x = some (.ref C) → B.T.mts[j]? = some m → G.has i j = true → ∃ f, Meth B.K C m f
  mth : ∀ (i j : Nat) (x m : Str) (C f : Addr) as S Q E, B.T.cls[i]? = some x → B.mg x = some (.ref C) → B.T.mts[j]? = some m → Meth B.K C m f → G.mth i j as S Q E → ∃ fd ps, Binds B.K fd ps [] ∧ FnOk P w B.K B.mg base (L2.CX P w) k f fd ps (spOf B ps.length (G.mth i j)) ∧ as.length = ps.length
  ini : ∀ (i : Nat) (x : Str) (C : Addr) as S Q E, B.T.cls[i]? = some x → B.mg x = some (.ref C) → G.ini i as S Q E → ∃ f fd ps k', k = k' + 1 ∧ Cls B.K C ∧ (∀ (f : Nat) (y : Str), B.T.att[f]? = some y → NoAttr B.K C y) ∧ Mk B.K C f ∧ Binds B.K fd ps [] ∧
    FnOk P w B.K B.mg base (L2.CX P w) k' f fd ps (spOf B ps.length (G.ini i)) ∧ as.length = ps.length
  blt : ∀ x ∈ bltNames, B.mg x = none
  att : B.T.att.Nodup
  gm : GMono G
  xc : G.xc = B.T.xc
  lv : G.lv = k
  /-- an error's class is caught by its own name alone -/
  exm : ∀ (i j : Nat) (x y : Str) (C D : Addr), B.T.cls[i]? = some x → B.T.cls[j]? = some y → (B.T.xc i).isSome = true → (B.T.xc j).isSome = true → B.mg x = some (.ref C) → B.mg y = some (.ref D) → PySem.W.exmOne B.K (.ref C) (.ref D) = some (decide (i = j))
  xfs : ∀ (i : Nat) (x : Str) (C : Addr), B.T.cls[i]? = some x → (B.T.xc i).isSome = true → B.mg x = some (.ref C) → XfC B.K C ∧ (∀ (f : Nat) (y : Str), B.T.att[f]? = some y → PySem.W.findIn B.K (.ref C) y = some none) ∧
    PySem.W.subIn B.K (.ref C) (.type "BaseException") = some true ∧ PySem.W.typeIn B.K (.ref C) = some (.type "type")
  xc0 : ∀ (i : Nat) (x : Str) (C : Addr), B.T.cls[i]? = some x → B.T.xc i = some none → B.mg x = some (.ref C) → PySem.W.excIn B.K C PySem.HandSPX.veTail "ValueError.__new__" = true
  xc1 : ∀ (i f : Nat) (x y : Str) (C : Addr), B.T.cls[i]? = some x → B.T.xc i = some (some f) → B.T.att[f]? = some y → B.mg x = some (.ref C) → ∃ fI fd ps, OexC B.K C ∧ PySem.W.findIn B.K (.ref C) "__init__" = some (some (.ref fI)) ∧ PySem.W.typeIn B.K (.ref fI) = some (.type "function") ∧
    Binds B.K fd ps [] ∧ FnOk P w B.K B.mg base L2.CX0 1 fI fd ps (spXi C y)
  xcf : ∀ (i f : Nat), B.T.xc i = some (some f) → ∃ y, B.T.att[f]? = some y
  dis : ∀ (i j : Nat) (x : Str), B.T.att[i]? = some x → B.T.mts[j]? = some x → False

/-- where an expression stands -/
structure XOk (B : Bs) (N : List Str) (G : Env) (k : Nat) (sc : Scope) (W : WX) (X : Cx) : Prop where
  hK : X.K = B.K
  hM : X.mg = B.mg
  hN : X.N = N
  nd : X.N.Nodup
  hS : X.env.scope = sc
  calm : X.calm = true
  room : Room k X.A
  tk : Takes X W
  pf : PFact X.prog X.w X.base B G k

def tE (B : Bs) (G : Env) (W : WX) (c : CE) : TE := fun σ H Q => ∃ (ρ : Loc) (S : Store) (Q0 : QP) (E0 : QE), RelL B H σ ρ ∧ RelS B S H ∧ OkQ B H Q0 Q ∧ OkX B H E0 (fun cls d H' => W cls d σ H') ∧ wpE G c ρ S Q0 E0
def tA (B : Bs) (G : Env) (W : WX) (cs : List CE) : TA := fun σ H Q => ∃ (ρ : Loc) (S : Store) (Q0 : List P → Store → Prop) (E0 : QE), RelL B H σ ρ ∧ RelS B S H ∧ OkA B H Q0 Q ∧ OkX B H E0 (fun cls d H' => W cls d σ H') ∧ wpEs G cs ρ S Q0 E0

theorem PE.imp {X : Cx} {e : PySem.Expr} {t t' : TE} (h : PE X e t) (k : ∀ σ H Q, t' σ H Q → t σ H Q) : PE X e t' := ⟨fun pins s σ H Q I hw => h.run pins s σ H Q I (k σ H Q hw)⟩
theorem PT.imp {X : Cx} {e : PySem.Expr} {t t' : TT} (h : PT X e t) (k : ∀ σ H Q, t' σ H Q → t σ H Q) : PT X e t' := ⟨fun pins s σ H Q I hw => h.run pins s σ H Q I (k σ H Q hw)⟩
theorem PA.imp {X : Cx} {e : List PySem.Expr} {t t' : TA} (h : PA X e t) (k : ∀ σ H Q, t' σ H Q → t σ H Q) : PA X e t' := ⟨fun pos pins s σ H Q I hw => h.run pos pins s σ H Q I (k σ H Q hw)⟩

def noStar : PySem.Expr → Bool
  | .Starred .. => false
  | _ => true
theorem star_cons {e : PySem.Expr} {es : List PySem.Expr} {env : PySem.Env} (h : noStar e = true) : starEach (e :: es) env = (false, eval e env) :: starEach es env := by
  cases e <;> first | rfl | cases h
theorem star_all {env : PySem.Env} {pos : Pos} : ∀ {es : List PySem.Expr}, (∀ e ∈ es, noStar e = true) → (backTo pos (starEach es env)).any (·.1) = false
  | [], _ => rfl
  | e :: es, h => by
    rw [star_cons (h e List.mem_cons_self)]
    have ih := star_all (env := env) (pos := pos) (es := es) fun e he => h e (List.mem_cons_of_mem _ he)
    unfold backTo at ih ⊢
    rw [List.map_cons, List.any_cons, ih]
    rfl
theorem star_all' {env : PySem.Env} {pos : Pos} : ∀ {es : List PySem.Expr}, (∀ e ∈ es, noStar e = true) → (backTo pos (starEach es env)).all (fun x => !x.1) = true
  | [], _ => rfl
  | e :: es, h => by
    rw [star_cons (h e List.mem_cons_self)]
    have ih := star_all' (env := env) (pos := pos) (es := es) fun e he => h e (List.mem_cons_of_mem _ he)
    unfold backTo at ih ⊢
    rw [List.map_cons, List.all_cons, ih]
    rfl
theorem trE_noStar {T : Tab} {N : List Str} {n : Nat} {sc : Scope} {e : PySem.Expr} {c : CE} (h : trE T N n sc e = some c) : noStar e = true := by
  cases n with
  | zero => simp [trE] at h
  | succ n => cases e <;> first | rfl | simp [trE] at h
theorem mapM_noStar {T : Tab} {N : List Str} {n : Nat} {sc : Scope} : ∀ {es : List PySem.Expr} {cs : List CE}, es.mapM (trE T N n sc) = some cs → ∀ e ∈ es, noStar e = true
  | [], _, _, e, he => by simp at he
  | a :: es, cs, h, e, he => by
    rw [List.mapM_cons] at h
    cases h1 : trE T N n sc a with
    | none => rw [h1] at h; cases h
    | some c =>
      cases h2 : es.mapM (trE T N n sc) with
      | none => rw [h1, h2] at h; cases h
      | some ds =>
        rcases List.mem_cons.mp he with rfl | he
        · exact trE_noStar h1
        · exact mapM_noStar h2 e he
theorem mapM_len {α β : Type} {f : α → Option β} : ∀ {es : List α} {cs : List β}, es.mapM f = some cs → cs.length = es.length
  | [], cs, h => by simp at h; subst h; rfl
  | a :: es, cs, h => by
    rw [List.mapM_cons] at h
    cases h1 : f a with
    | none => rw [h1] at h; cases h
    | some c =>
      cases h2 : es.mapM f with
      | none => rw [h1, h2] at h; cases h
      | some ds => rw [h1, h2] at h; cases h; simp [mapM_len h2]

theorem wpEs_len {G : Env} : ∀ {cs : List CE} {ρ : Loc} {S : Store} {Q : List P → Store → Prop} {E : QE}, GMono G → wpEs G cs ρ S Q E → wpEs G cs ρ S (fun ps S' => ps.length = cs.length ∧ Q ps S') E
  | [], ρ, S, Q, E, gm, h => by unfold wpEs at h ⊢; exact ⟨rfl, h⟩
  | c :: cs, ρ, S, Q, E, gm, h => by
    unfold wpEs at h ⊢
    refine wpE_mono gm c (fun p S1 h => ?_) (fun _ _ h => h) h
    exact wpEs_mono gm cs (fun ps S2 h => ⟨by simp [h.1], h.2⟩) (fun _ _ h => h) (wpEs_len gm h)

section
variable {B : Bs} {N : List Str} {G : Env} {k : Nat} {sc : Scope} {W : WX} {X : Cx}
theorem slotOf_ok {x : Str} {i : Nat} (h : slotOf N sc x = some i) : N[i]? = some x ∧ (sc.names.lookup x = some .local ∨ sc.names.lookup x = some .cell ∨ sc.names.lookup x = some .free) ∧ (x == ("__debug__" : Str)) = false ∧ (x == ("__classdict__" : Str)) = false := by
  unfold slotOf at h
  split at h
  · cases h
  · rename_i hx
    have hx' : (x == ("__debug__" : Str)) = false ∧ (x == ("__classdict__" : Str)) = false := by simpa using hx
    have ix : ∀ {j}, N.idxOf? x = some j → N[j]? = some x := fun {j} e => by
      rw [List.idxOf?_eq_some_iff] at e
      obtain ⟨h1, h2, _⟩ := e
      rw [List.getElem?_eq_getElem h1]
      simpa using h2
    split at h
    · rename_i e; exact ⟨ix h, .inl e, hx'⟩
    · rename_i e; exact ⟨ix h, .inr (.inl e), hx'⟩
    · rename_i e; exact ⟨ix h, .inr (.inr e), hx'⟩
    · cases h
theorem idx_get {l : List Str} {x : Str} {j : Nat} (e : l.idxOf? x = some j) : l[j]? = some x := by
  rw [List.idxOf?_eq_some_iff] at e
  obtain ⟨h1, h2, _⟩ := e
  rw [List.getElem?_eq_getElem h1]
  simpa using h2
theorem isGl_ok (ok : XOk B N G k sc W X) {x : Str} (h : isGl sc x = true) : Gl X x ∧ (x == ("__debug__" : Str)) = false := by
  unfold isGl at h
  simp only [Bool.and_eq_true, beq_iff_eq, Bool.not_eq_true'] at h
  refine ⟨?_, h.2⟩
  show X.env.scope.names.lookup x = some .globalImplicit
  rw [ok.hS]
  exact h.1
theorem pa_of (IH : ∀ e c, trE B.T N n sc e = some c → PE X e (tE B G W c)) : ∀ {es : List PySem.Expr} {cs : List CE}, es.mapM (trE B.T N n sc) = some cs → PA X es (tA B G W cs)
  | [], cs, h => by
    simp at h; subst h
    refine PA.imp pa_nil fun σ H Q ⟨ρ, S, Q0, E0, hL, hS, kQ, kE, h⟩ => ?_
    unfold wpEs at h
    exact kQ _ _ _ _ (.refl H) hS .nil h
  | e :: es, cs, h => by
    rw [List.mapM_cons] at h
    cases h1 : trE B.T N n sc e with
    | none => rw [h1] at h; cases h
    | some c =>
      cases h2 : es.mapM (trE B.T N n sc) with
      | none => rw [h1, h2] at h; cases h
      | some ds =>
        rw [h1, h2] at h
        cases h
        refine PA.imp (pa_cons (IH e c h1) (pa_of IH h2) (star_cons (trE_noStar h1))) fun σ H Q ⟨ρ, S, Q0, E0, hL, hS, kQ, kE, h⟩ => ?_
        unfold wpEs at h
        refine ⟨ρ, S, _, E0, hL, hS, fun p S1 H1 v e1 s1 r1 q1 => ?_, kE, h⟩
        exact ⟨ρ, S1, _, E0, hL.ext e1, s1, fun ps S2 H2 vs e2 s2 r2 q2 => kQ _ _ _ _ (e1.trans e2) s2 (.cons (r1.ext e2) r2) q2, kE.at e1, q1⟩

/-- a call of a def, what it promises known when the arguments are there -/
def tCallD (X : Cx) (f : Addr) (E : L2.St → XK) (t : TA) : TE := fun σ H Q => t σ H fun vs H1 => ∃ fd ps sp k, FnOk X.prog X.w X.K X.mg X.base (L2.CX X.prog X.w) k f fd ps sp ∧ Room k X.A ∧ Binds X.K fd ps [] ∧ sp vs H1 Q (E σ)
theorem pe_callD0 {f : Addr} {E : L2.St → XK} {x : Str} {p pos : Pos} (hg : Gl X x) (hm : X.mg x = some (.ref f)) (hk : PySem.W.keepIn X.K (.ref f) = true)
    (hx : ∀ σ, PassesAt (L2.CX X.prog X.w) X σ (E σ)) (hdb : (x == ("__debug__" : Str)) = false) : PE X (.Call (.Name x p) [] [] pos) (tCallD X f E tNil) := by
  refine ⟨fun pins s σ H Q I ⟨fd, ps, sp, k, F, hr, hb, h⟩ => ?_⟩
  refine wpAny_Call_Name_kw (ld_glob I hg hm ?_ hdb)
  exact PySem.W.callWith_K0 I.kIn hk (run_fnS (us := []) F hr hb (hx σ) I .nil h)
theorem pe_callD {f : Addr} {E : L2.St → XK} {x : Str} {p pos : Pos} {e : PySem.Expr} {es : List PySem.Expr} {t : TA} (hg : Gl X x) (hm : X.mg x = some (.ref f)) (hk : PySem.W.keepIn X.K (.ref f) = true)
    (hx : ∀ σ, PassesAt (L2.CX X.prog X.w) X σ (E σ)) (ha : PA X (e :: es) t) (hdb : (x == ("__debug__" : Str)) = false) (he : starEach (e :: es) X.env = (false, eval e X.env) :: starEach es X.env) (hpl : (backTo pos (starEach es X.env)).any (·.1) = false) :
    PE X (.Call (.Name x p) (e :: es) [] pos) (tCallD X f E t) := by
  refine ⟨fun pins s σ H Q I h => ?_⟩
  refine wpAny_Call_Name_kw (ld_glob I hg hm ?_ hdb)
  refine PySem.W.callWith_K (h₀ := X.base) I.ok.mod.kin hk (thn (ha.run pos pins s σ H _ I h) fun us s1 ⟨vs, H1, I1, r, fd, ps, sp, k, F, hr, hb, q⟩ => ⟨I1.kIn, ?_⟩) he hpl
  exact run_fnS F hr hb (hx σ) I1 r q

/-- a method's call, the class known when the object is there -/
def tMethD (X : Cx) (m : Str) (E : L2.St → XK) (ta : TE) (t : TA) : TE := fun σ H Q => ta σ H fun x H1 => ∃ a C dx fs f, x = .ref a ∧ H1 a = some (.ins C dx fs) ∧ fs.lookup m = none ∧ Cls X.K C ∧ Meth X.K C m f ∧
  t σ H1 fun vs H2 => ∃ fd ps sp k, FnOk X.prog X.w X.K X.mg X.base (L2.CX X.prog X.w) k f fd ps sp ∧ Room k X.A ∧ Binds X.K fd ps [] ∧ sp (x :: vs) H2 Q (E σ)
theorem pe_methD {m : Str} {E : L2.St → XK} {o e : PySem.Expr} {es : List PySem.Expr} {ta : TE} {t : TA} {apos pos : Pos} {pl : Sem Bool} (he : PE X o ta) (hx : ∀ σ, PassesAt (L2.CX X.prog X.w) X σ (E σ)) (ha : PA X (e :: es) t)
    (hst : starEach (e :: es) X.env = (false, eval e X.env) :: starEach es X.env) (hpl : (backTo pos (starEach es X.env)).any (·.1) = false)
    (ht : eval (.Call (.Attribute o m apos) (e :: es) [] pos) X.env = (do
      let ov ← eval o X.env
      standAt apos.atName
      let (f, first) ← holding [ov] (getMethod ov m pl)
      callWith pos f first (backTo pos (starEach (e :: es) X.env)) (backToKw pos (keywordEach [] X.env)))) :
    PE X (.Call (.Attribute o m apos) (e :: es) [] pos) (tMethD X m E ta t) := by
  refine ⟨fun pins s σ H Q I h => ?_⟩
  refine PySem.W.methodCall_KW (pl := pl) (thn (he.run pins s σ H _ I h) fun u s1 ⟨x, H1, I1, rx, a, C, dx, fs, f, ex, ea, l, c, hm, q⟩ => ?_) ht
  subst ex
  obtain rfl : u = Value.ref a := rx
  refine getmeth_ok I1 ea c hm l ?_
  refine PySem.W.callWith_K (first := [.ref a]) (h₀ := X.base) I.ok.mod.kin hm.kp (thn (ha.run pos pins s1 σ H1 _ I1 q) fun us s2 ⟨vs, H2, I2, r, fd, ps, sp, k, F, hr, hb, q2⟩ => ⟨I2.kIn, ?_⟩) hst hpl
  exact run_fnS (us := .ref a :: us) (vs := .ref a :: vs) F hr hb (hx σ) I2 (.cons rfl r) q2
theorem pe_methD0 {m : Str} {E : L2.St → XK} {o : PySem.Expr} {ta : TE} {apos pos : Pos} {pl : Sem Bool} (he : PE X o ta) (hx : ∀ σ, PassesAt (L2.CX X.prog X.w) X σ (E σ))
    (ht : eval (.Call (.Attribute o m apos) [] [] pos) X.env = (do
      let ov ← eval o X.env
      standAt apos.atName
      let (f, first) ← holding [ov] (getMethod ov m pl)
      callWith pos f first (backTo pos (starEach [] X.env)) (backToKw pos (keywordEach [] X.env)))) :
    PE X (.Call (.Attribute o m apos) [] [] pos) (tMethD X m E ta tNil) := by
  refine ⟨fun pins s σ H Q I h => ?_⟩
  refine PySem.W.methodCall_KW (pl := pl) (thn (he.run pins s σ H _ I h) fun u s1 ⟨x, H1, I1, rx, a, C, dx, fs, f, ex, ea, l, c, hm, fd, ps, sp, k, F, hr, hb, q⟩ => ?_) ht
  subst ex
  obtain rfl : u = Value.ref a := rx
  refine getmeth_ok I1 ea c hm l ?_
  exact PySem.W.callWith_K0 (first := [.ref a]) I1.kIn hm.kp (run_fnS (us := [.ref a]) (vs := [.ref a]) F hr hb (hx σ) I1 (.cons rfl .nil) q)
theorem run_makeS {C : Addr} {E : L2.St → XK} {pins : List (Addr × Obj)} {σ : L2.St} {H : Hp} {s : Shared} {Q : VK} {us : List Value} {vs : List V}
    (hx : PassesAt (L2.CX X.prog X.w) X σ (E σ)) (I : Inv X pins σ H s) (r : Vals vs us)
    (h : ∀ x dx, H x = none → H dx = none → dx ≠ x → ∃ f fd ps sp k, Mk X.K C f ∧ FnOk X.prog X.w X.K X.mg X.base (L2.CX X.prog X.w) k f fd ps sp ∧ Room (k + 1) X.A ∧ Binds X.K fd ps [] ∧
      sp (.ref x :: vs) (L2.upd (L2.upd H dx (.own x)) x (.ins C dx [])) (fun v H2 => v = .non ∧ Q (.ref x) H2) (E σ)) :
    wpAny (model X.prog X.w) X.A (call (.ref C) us) (EP X pins σ Q) X.xe s := by
  obtain ⟨f, fd, ps, sp, k, M, F, hr, hb, hq⟩ := h (s.heap.objs.size + 1) s.heap.objs.size (I.hok.fresh (Nat.le_succ _)) (I.hok.fresh (Nat.le_refl _)) (Nat.ne_of_lt (Nat.lt_succ_self _))
  have I2 := Inv.made (C := C) I
  have r2 : Vals (V.ref (s.heap.objs.size + 1) :: vs) (Value.ref (s.heap.objs.size + 1) :: us) := .cons rfl r
  have hl : (Value.ref (s.heap.objs.size + 1) :: us).length = ps.length := by
    have e := r2.length
    rw [F.len _ _ _ _ hq] at e
    exact e.symm
  have b := hb _ (Value.ref (s.heap.objs.size + 1) :: us) I2.kIn (by rw [List.append_nil]; exact hl)
  rw [List.append_nil] at b
  refine wpAny_call (make_map (f := f) I.kIn M.makes M.init (beq_iff_eq.mp M.fn) (codeAny_mono (F.run _ X.stack _ _ ⟨Value.ref (s.heap.objs.size + 1) :: us, []⟩ (Value.ref (s.heap.objs.size + 1) :: us) _ _ (E σ) (hr.make C us [])
    (I2.env0.make C us []) b r2 hq) fun r s' hq' => ?_))
  cases r with
  | error e => exact hx pins _ _ e s' I2 hq'
  | ok fl =>
    cases fl with
    | ret u =>
      obtain ⟨v, H', I3, rv, ev, q3⟩ := I2.after hq'
      subst ev
      exact ⟨rv, ⟨V.ref (s.heap.objs.size + 1), H', I3, rfl, q3⟩⟩
    | next => exact False.elim hq'
    | brk => exact False.elim hq'
    | cont => exact False.elim hq'
/-- C(..), what __init__ promises known when the arguments are there -/
def tMakeD (X : Cx) (C : Addr) (E : L2.St → XK) (t : TA) : TE := fun σ H Q => t σ H fun vs H1 => ∀ x dx, H1 x = none → H1 dx = none → dx ≠ x → ∃ f fd ps sp k, Mk X.K C f ∧ FnOk X.prog X.w X.K X.mg X.base (L2.CX X.prog X.w) k f fd ps sp ∧ Room (k + 1) X.A ∧ Binds X.K fd ps [] ∧
  sp (.ref x :: vs) (L2.upd (L2.upd H1 dx (.own x)) x (.ins C dx [])) (fun v H2 => v = .non ∧ Q (.ref x) H2) (E σ)
theorem pe_makeD {C : Addr} {E : L2.St → XK} {x : Str} {p pos : Pos} {e : PySem.Expr} {es : List PySem.Expr} {t : TA} (hg : Gl X x) (hm : X.mg x = some (.ref C)) (hk : PySem.W.keepIn X.K (.ref C) = true)
    (hx : ∀ σ, PassesAt (L2.CX X.prog X.w) X σ (E σ)) (ha : PA X (e :: es) t) (hdb : (x == ("__debug__" : Str)) = false) (he : starEach (e :: es) X.env = (false, eval e X.env) :: starEach es X.env) (hpl : (backTo pos (starEach es X.env)).any (·.1) = false) :
    PE X (.Call (.Name x p) (e :: es) [] pos) (tMakeD X C E t) := by
  refine ⟨fun pins s σ H Q I h => ?_⟩
  refine wpAny_Call_Name_kw (ld_glob I hg hm ?_ hdb)
  refine PySem.W.callWith_K (h₀ := X.base) I.ok.mod.kin hk (thn (ha.run pos pins s σ H _ I h) fun us s1 ⟨vs, H1, I1, r, q⟩ => ⟨I1.kIn, ?_⟩) he hpl
  exact run_makeS (hx σ) I1 r q
theorem pe_makeD0 {C : Addr} {E : L2.St → XK} {x : Str} {p pos : Pos} (hg : Gl X x) (hm : X.mg x = some (.ref C)) (hk : PySem.W.keepIn X.K (.ref C) = true)
    (hx : ∀ σ, PassesAt (L2.CX X.prog X.w) X σ (E σ)) (hdb : (x == ("__debug__" : Str)) = false) : PE X (.Call (.Name x p) [] [] pos) (tMakeD X C E tNil) := by
  refine ⟨fun pins s σ H Q I q => ?_⟩
  refine wpAny_Call_Name_kw (ld_glob I hg hm ?_ hdb)
  exact PySem.W.callWith_K0 I.kIn hk (run_makeS (us := []) (hx σ) I .nil q)

/-! ### side facts by the form of an expression -/
def plainBaseX : PySem.Expr → Bool
  | .Call .. => false
  | _ => true
theorem attrBase_ok {e : PySem.Expr} {f : Str} {env : PySem.Env} {w : Sem Value} (h : plainBase0 e = true) : attributeBase e f env w = w := by
  cases e <;> first | rfl | cases h
theorem plainIx_ok {b : PySem.Expr} (h : plainIx b = true) : PlainIx b := by
  intro o i
  cases b <;> first | rfl | cases h
def noSet : PySem.Expr → Bool
  | .Set .. => false
  | _ => true
theorem trE_noSet {T : Tab} {N : List Str} {n : Nat} {sc : Scope} {e : PySem.Expr} {c : CE} (h : trE T N n sc e = some c) : noSet e = true := by
  cases n with
  | zero => simp [trE] at h
  | succ n => cases e <;> first | rfl | simp [trE] at h
theorem marks_ok {op : CmpOp} {b : PySem.Expr} (h : noSet b = true) : behindInMarks op b = false := by
  cases b <;> first | rfl | cases h
theorem lastMarks_ok {op op' : CmpOp} {b c : PySem.Expr} (h : noSet c = true) : lastMarks [op, op'] [b, c] = false := by
  show lastMarks [op'] [c] = false
  exact marks_ok h
theorem folded_ok {e : PySem.Expr} {env : PySem.Env} (h : noSet e = true) (x : Value) : foldedSetIterable e env x = pure x := by
  cases e <;> first | rfl | cases h
def plainTest : PySem.Expr → Bool
  | .UnaryOp .Not _ _ => false
  | .BoolOp .. => false
  | .IfExp .. => false
  | .Compare .. => false
  | _ => true
theorem isTrue_ok {e : PySem.Expr} {env : PySem.Env} (h : plainTest e = true) (whole : Sem Value) : isTrue e env whole = (do let v ← whole; standAt e.pos; holding [v] (truthy v)) := by
  cases e with
  | UnaryOp op a p => cases op <;> first | rfl | cases h
  | BoolOp => cases h
  | IfExp => cases h
  | Compare => cases h
  | _ => rfl
end
end Core

set_option maxRecDepth 100000
/-! Core8: expressions are sound. -/
namespace Core
open PySem L2 PySem.Spec PyProof.Rows
def OkT (B : Bs) (H : Hp) (Q0 : QP) (Q : Bool → Hp → Prop) : Prop := ∀ p S' H', Ext H H' → RelS B S' H' → Q0 p S' → ∃ b, truthS S' p = some b ∧ Q b H'
def tT (B : Bs) (G : Env) (W : WX) (c : CE) : TT := fun σ H Q => ∃ (ρ : Loc) (S : Store) (Q0 : QP) (E0 : QE), RelL B H σ ρ ∧ RelS B S H ∧ OkT B H Q0 Q ∧ OkX B H E0 (fun cls d H' => W cls d σ H') ∧ wpE G c ρ S Q0 E0

section
variable {B : Bs} {N : List Str} {G : Env} {k : Nat} {sc : Scope} {W : WX} {X : Cx}
/-- an operator's way -/
theorem via_op {r : R2} {t : P → P → Store → QP → Prop} {a b : CE} {σ : L2.St} {H : Hp} {Q : VK} {ρ : Loc} {S : Store} {Q0 : QP} {E0 : QE} (hr : Serves B r t) (hL : RelL B H σ ρ) (hS : RelS B S H) (kQ : OkQ B H Q0 Q) (kE : OkX B H E0 (fun cls d H' => W cls d σ H'))
    (h : wpE G a ρ S (fun x S1 => wpE G b ρ S1 (fun y S2 => t x y S2 Q0) E0) E0) : tOp r (tE B G W a) (tE B G W b) σ H Q := by
  refine ⟨ρ, S, _, E0, hL, hS, fun x S1 H1 vx e1 s1 r1 q1 => ?_, kE, h⟩
  refine ⟨ρ, S1, _, E0, hL.ext e1, s1, fun y S2 H2 vy e2 s2 r2 q2 => ?_, kE.at e1, q1⟩
  exact hr x y S2 vx vy H2 Q0 Q s2 (r1.ext e2) r2 ((kQ.at e1).at e2) q2
theorem or_ok {x y : CE} {a b : PySem.Expr} {rest : List PySem.Expr} {pos : Pos} (hK : X.K = B.K) (ha : PE X a (tE B G W x)) (hb : PE X (.BoolOp .Or (b :: rest) pos) (tE B G W y)) : PE X (.BoolOp .Or (a :: b :: rest) pos) (tE B G W (.or_ x y)) := by
  refine PE.imp (pe_orT ha hb) fun σ H Q ⟨ρ, S, Q0, E0, hL, hS, kQ, kE, h⟩ => ?_
  unfold wpE at h
  refine ⟨ρ, S, _, E0, hL, hS, fun p S1 H1 v e1 s1 r1 q1 => ?_, kE, h⟩
  rw [hK]
  split at q1
  · rename_i ht
    exact ⟨true, truth_ok s1 r1 ht, iteT (kQ _ _ _ _ e1 s1 r1 q1)⟩
  · rename_i ht
    refine ⟨false, truth_ok s1 r1 ht, ?_⟩
    refine iteF ?_
    exact ⟨ρ, S1, Q0, E0, hL.ext e1, s1, kQ.at e1, kE.at e1, q1⟩
  · exact q1.elim
theorem and_ok {x y : CE} {a b : PySem.Expr} {rest : List PySem.Expr} {pos : Pos} (hK : X.K = B.K) (ha : PE X a (tE B G W x)) (hb : PE X (.BoolOp .And (b :: rest) pos) (tE B G W y)) : PE X (.BoolOp .And (a :: b :: rest) pos) (tE B G W (.and_ x y)) := by
  refine PE.imp (pe_andT ha hb) fun σ H Q ⟨ρ, S, Q0, E0, hL, hS, kQ, kE, h⟩ => ?_
  unfold wpE at h
  refine ⟨ρ, S, _, E0, hL, hS, fun p S1 H1 v e1 s1 r1 q1 => ?_, kE, h⟩
  rw [hK]
  split at q1
  · rename_i ht
    refine ⟨true, truth_ok s1 r1 ht, ?_⟩
    refine iteT ?_
    exact ⟨ρ, S1, Q0, E0, hL.ext e1, s1, kQ.at e1, kE.at e1, q1⟩
  · rename_i ht
    exact ⟨false, truth_ok s1 r1 ht, iteF (kQ _ _ _ _ e1 s1 r1 q1)⟩
  · exact q1.elim
theorem bool_ok {f : PySem.Expr → Option CE} (hK : X.K = B.K) (IH : ∀ e c, f e = some c → PE X e (tE B G W c)) {b : BoolOp} {pos : Pos} : ∀ {es : List PySem.Expr} {xs : List CE} {c : CE}, es.mapM f = some xs → trBool b xs = some c → PE X (.BoolOp b es pos) (tE B G W c)
  | [], xs, c, h, h2 => by simp at h; subst h; simp [trBool] at h2
  | [e], xs, c, h, h2 => by
    rw [List.mapM_cons] at h
    cases h1 : f e with
    | none => rw [h1] at h; cases h
    | some d =>
      rw [h1] at h
      simp at h; subst h
      simp only [trBool, Option.some.injEq] at h2
      subst h2
      exact pe_one (IH e d h1)
  | e :: e' :: es, xs, c, h, h2 => by
    rw [List.mapM_cons] at h
    cases h1 : f e with
    | none => rw [h1] at h; cases h
    | some d =>
      cases h3 : (e' :: es).mapM f with
      | none => rw [h1, h3] at h; cases h
      | some ds =>
        rw [h1, h3] at h
        cases h
        have hl := mapM_len h3
        cases ds with
        | nil => simp at hl
        | cons d' ds =>
          simp only [trBool, Option.map_eq_some_iff] at h2
          obtain ⟨c', h4, h5⟩ := h2
          subst h5
          have ih := bool_ok hK IH (b := b) (pos := pos) h3 (show trBool b (d' :: ds) = some c' from h4)
          cases b with
          | And => exact and_ok hK (IH e d h1) ih
          | Or => exact or_ok hK (IH e d h1) ih
theorem boolT_ok {f : PySem.Expr → Option CE} (IH : ∀ e c, f e = some c → PT X e (tT B G W c)) {b : BoolOp} {pos : Pos} : ∀ {es : List PySem.Expr} {xs : List CE} {c : CE}, es.mapM f = some xs → trBool b xs = some c → PW X (.BoolOp b es pos) (tT B G W c)
  | [], xs, c, h, h2 => by simp at h; subst h; simp [trBool] at h2
  | [e], xs, c, h, h2 => by
    rw [List.mapM_cons] at h
    cases h1 : f e with
    | none => rw [h1] at h; cases h
    | some d =>
      rw [h1] at h
      simp at h; subst h
      simp only [trBool, Option.some.injEq] at h2
      subst h2
      cases b with
      | And => exact pw_and1 (IH e d h1)
      | Or => exact pw_or1 (IH e d h1)
  | e :: e' :: es, xs, c, h, h2 => by
    rw [List.mapM_cons] at h
    cases h1 : f e with
    | none => rw [h1] at h; cases h
    | some d =>
      cases h3 : (e' :: es).mapM f with
      | none => rw [h1, h3] at h; cases h
      | some ds =>
        rw [h1, h3] at h
        cases h
        have hl := mapM_len h3
        cases ds with
        | nil => simp at hl
        | cons d' ds =>
          simp only [trBool, Option.map_eq_some_iff] at h2
          obtain ⟨c', h4, h5⟩ := h2
          subst h5
          have ih := boolT_ok IH (b := b) (pos := pos) h3 (show trBool b (d' :: ds) = some c' from h4)
          cases b with
          | And =>
            refine ⟨fun wh pins s σ H Q I hw => (pw_and (IH e d h1) ih).run wh pins s σ H Q I ?_⟩
            obtain ⟨ρ, S, Q0, E0, hL, hS, kQ, kE, hw⟩ := hw
            simp only [trBo] at hw
            unfold wpE at hw
            refine ⟨ρ, S, _, E0, hL, hS, fun p S1 H1 e1 s1 q1 => ?_, kE, hw⟩
            split at q1
            · rename_i ht
              refine ⟨true, ht, ?_⟩
              refine iteT ?_
              exact ⟨ρ, S1, Q0, E0, hL.ext e1, s1, fun p S2 H2 e2 => kQ p S2 H2 (e1.trans e2), kE.at e1, q1⟩
            · rename_i ht
              refine ⟨false, ht, ?_⟩
              refine iteF ?_
              obtain ⟨b, hb, q⟩ := kQ _ _ _ e1 s1 q1
              rw [ht] at hb; cases hb
              exact q
            · exact q1.elim
          | Or =>
            refine ⟨fun wh pins s σ H Q I hw => (pw_or (IH e d h1) ih).run wh pins s σ H Q I ?_⟩
            obtain ⟨ρ, S, Q0, E0, hL, hS, kQ, kE, hw⟩ := hw
            simp only [trBo] at hw
            unfold wpE at hw
            refine ⟨ρ, S, _, E0, hL, hS, fun p S1 H1 e1 s1 q1 => ?_, kE, hw⟩
            split at q1
            · rename_i ht
              refine ⟨true, ht, ?_⟩
              refine iteT ?_
              obtain ⟨b, hb, q⟩ := kQ _ _ _ e1 s1 q1
              rw [ht] at hb; cases hb
              exact q
            · rename_i ht
              refine ⟨false, ht, ?_⟩
              refine iteF ?_
              exact ⟨ρ, S1, Q0, E0, hL.ext e1, s1, fun p S2 H2 e2 => kQ p S2 H2 (e1.trans e2), kE.at e1, q1⟩
            · exact q1.elim
/-- a test from its value's truth -/
theorem test_of {e : PySem.Expr} {c : CE} (hK : X.K = B.K) (h : PE X e (tE B G W c)) (hp : plainTest e = true) : PT X e (tT B G W c) := by
  refine PT.imp (pt_truth h (isTrue_ok hp)) fun σ H Q ⟨ρ, S, Q0, E0, hL, hS, kQ, kE, hw⟩ => ?_
  refine ⟨ρ, S, Q0, E0, hL, hS, fun p S1 H1 v e1 s1 r1 q1 => ?_, kE, hw⟩
  obtain ⟨b, hb, q⟩ := kQ _ _ _ e1 s1 q1
  rw [hK]
  exact ⟨b, truth_ok s1 r1 hb, q⟩
theorem RepF.look {H : Hp} {T : Tab} : ∀ {fs : List (Nat × P)} {gs : List (Str × V)} {f : Nat} {x : Str} {p : P}, B.T.att.Nodup → RepF B H fs gs → B.T.att[f]? = some x → fs.lookup f = some p → ∃ v, gs.lookup x = some v ∧ Rep B H p v
  | [], _, f, x, p, nd, h, hx, hl => by simp at hl
  | (g, q) :: r, _, f, x, p, nd, ⟨y, v, t, rfl, h2, h3, h4⟩, hx, hl => by
    by_cases e : f = g
    · subst e
      rw [hx] at h2; cases h2
      simp only [List.lookup_cons, beq_self_eq_true] at hl ⊢
      cases hl
      exact ⟨v, rfl, h3⟩
    · have ne : ¬ x = y := fun z => e (nodup_ix nd hx (z ▸ h2))
      have e1 : (f == g) = false := by simpa using e
      have e2 : (x == y) = false := by simpa using ne
      simp only [List.lookup_cons, e1, e2] at hl ⊢
      exact RepF.look (T := T) nd h4 hx hl
theorem RepF.none {H : Hp} : ∀ {fs : List (Nat × P)} {gs : List (Str × V)} {x : Str}, (∀ f : Nat, B.T.att[f]? ≠ some x) → RepF B H fs gs → gs.lookup x = none
  | [], _, x, hn, h => by rw [show _ = [] from h]; rfl
  | (g, q) :: r, _, x, hn, ⟨y, v, t, rfl, h2, h3, h4⟩ => by
    have ne : ¬ x = y := fun z => hn g (z ▸ h2)
    have e2 : (x == y) = false := by simpa using ne
    simp only [List.lookup_cons, e2]
    exact RepF.none hn h4
end
end Core

set_option maxRecDepth 100000
/-! Core9: what is walked, comprehensions, the theorem of expressions. -/
namespace Core
open PySem L2 PySem.Spec PyProof.Rows
theorem ikOf_range {x : Str} (h : ikOf x = some .range) : x = "range" := by
  unfold ikOf at h
  split at h
  · assumption
  · split at h <;> cases h
theorem ikOf_enum {x : Str} (h : ikOf x = some .enum) : x = "enumerate" := by
  unfold ikOf at h
  split at h
  · cases h
  · split at h
    · assumption
    · cases h
/-- what a walk's reading needs of the clean one -/
def WI (B : Bs) (G : Env) (W : WX) (k : IK) (as : List CE) (wi : TI) : Prop :=
  ∀ σ H R ρ S E0 (Z : List P → (Store → Prop) → Store → Prop), RelL B H σ ρ → RelS B S H → OkX B H E0 (fun cls d H' => W cls d σ H') → wpEs G as ρ S (fun vs S1 => iterS k vs S1 fun items Gd => Z items Gd S1) E0 →
    (∀ items Gd S1 H1 J, Ext H H1 → RelS B S1 H1 → WalksI B J items Gd H1 → Z items Gd S1 → R J H1) → wi σ H R
theorem iterS_seq {vs : List P} {S : Store} {K : List P → (Store → Prop) → Prop} (h : iterS .seq vs S K) :
    (∃ xs, vs = [.tup xs] ∧ (xs.length ≤ sizeLine → K xs fun _ => True)) ∨ (∃ xs, vs = [.frl xs] ∧ (xs.length ≤ sizeLine → K xs fun _ => True)) ∨ ∃ a xs, vs = [.loc a] ∧ S a = some (.lst xs) ∧ (xs.length ≤ sizeLine → K xs fun S' => S' a = some (.lst xs)) := by
  cases vs with
  | nil => exact h.elim
  | cons v r =>
    cases r with
    | cons _ _ => cases v <;> exact h.elim
    | nil =>
      cases v with
      | tup xs => exact .inl ⟨xs, rfl, h⟩
      | frl xs => exact .inr (.inl ⟨xs, rfl, h⟩)
      | loc a =>
        unfold iterS at h
        simp only at h
        split at h
        · rename_i xs hx
          exact .inr (.inr ⟨a, xs, rfl, hx, h⟩)
        · exact h.elim
      | _ => exact h.elim
theorem iterS_range {vs : List P} {S : Store} {K : List P → (Store → Prop) → Prop} (h : iterS .range vs S K) :
    (∃ n : Int, vs = [.int n] ∧ (-(2 ^ 62) ≤ n ∧ n ≤ sizeLine) ∧ K ((List.range n.toNat).map fun (i : Nat) => P.int i) fun _ => True) ∨
    (∃ m n : Int, vs = [.int m, .int n] ∧ (-(2 ^ 62) ≤ m ∧ m < 2 ^ 62 ∧ -(2 ^ 62) ≤ n ∧ n < 2 ^ 62 ∧ n - m ≤ sizeLine) ∧ K ((List.range (n - m).toNat).map fun (i : Nat) => P.int (m + i)) fun _ => True) := by
  cases vs with
  | nil => exact h.elim
  | cons v r =>
    cases r with
    | nil => cases v <;> first | exact .inl ⟨_, rfl, h⟩ | exact h.elim
    | cons w r =>
      cases r with
      | nil => cases v <;> first | exact h.elim | (cases w <;> first | exact .inr ⟨_, _, rfl, h⟩ | exact h.elim)
      | cons _ _ => cases v <;> first | exact h.elim | (cases w <;> exact h.elim)
theorem iterS_enum {vs : List P} {S : Store} {K : List P → (Store → Prop) → Prop} (h : iterS .enum vs S K) :
    (∃ a xs, vs = [.loc a] ∧ S a = some (.lst xs) ∧ (xs.length ≤ sizeLine → K (xs.zipIdx.map fun p => P.tup [.int p.2, p.1]) fun S' => S' a = some (.lst xs))) ∨
    ∃ xs, vs = [.tup xs] ∧ (xs.length ≤ sizeLine → K (xs.zipIdx.map fun p => P.tup [.int p.2, p.1]) fun _ => True) := by
  cases vs with
  | nil => exact h.elim
  | cons v r =>
    cases r with
    | cons _ _ => cases v <;> exact h.elim
    | nil =>
      cases v with
      | loc a =>
        unfold iterS at h
        simp only at h
        split at h
        · rename_i xs hx
          exact .inl ⟨a, xs, rfl, hx, h⟩
        · exact h.elim
      | tup xs => exact .inr ⟨xs, rfl, h⟩
      | _ => exact h.elim
section
variable {B : Bs} {N : List Str} {G : Env} {k : Nat} {sc : Scope} {W : WX} {X : Cx}
theorem seq_wi {e : PySem.Expr} {c : CE} {tg : PySem.Expr} (hK : X.K = B.K) (h : PE X e (tE B G W c)) : PI X tg e (iSeq X.K (tE B G W c)) ∧ WI B G W .seq [c] (iSeq X.K (tE B G W c)) := by
  refine ⟨pi_seq h, fun σ H R ρ S E0 Z hL hS kE hw fin => ?_⟩
  unfold wpEs wpEs at hw
  refine ⟨ρ, S, _, E0, hL, hS, fun p S1 H1 v e1 s1 r1 q1 => ?_, kE, hw⟩
  rw [hK]
  rcases iterS_seq q1 with ⟨xs, heq, q2⟩ | ⟨xs, heq, q2⟩ | ⟨a, xs, heq, hx, q2⟩
  · cases heq
    obtain ⟨a, vs, rfl, t1, z1, rr⟩ := r1.tup_inv
    exact ⟨a, rfl, .inr ⟨⟨vs, t1⟩, fin xs _ S1 H1 _ e1 s1 (walks_tup t1 rr (by rw [← rr.length]; exact z1)) (q2 (by rw [← rr.length]; exact z1))⟩⟩
  · cases heq
    unfold Rep at r1
    obtain ⟨a, vs, rfl, t1, z1, rr⟩ := r1
    have t2 : ∀ H, Ext H1 H → SqL B.K H a vs := fun H e => by
      rcases t1 with ⟨o, t1⟩ | t1
      · exact .inl (.inr ⟨o, e.frz _ _ _ t1⟩)
      · exact .inr t1
    exact ⟨a, rfl, .inl ⟨⟨vs, t2 _ (.refl _)⟩, fin xs _ S1 H1 _ e1 s1 (walks_frl t2 rr (by rw [← rr.length]; exact z1)) (q2 (by rw [← rr.length]; exact z1))⟩⟩
  · cases heq
    obtain ⟨vs, t1, z1, rr⟩ := s1.lst hx
    exact ⟨a, r1.loc_inv, .inl ⟨⟨vs, SqL.of t1⟩, fin xs _ S1 H1 _ e1 s1 (walks_list (by rw [← rr.length]; exact z1)) (q2 (by rw [← rr.length]; exact z1))⟩⟩
theorem iter_ok (ok : XOk B N G k sc W X) {n : Nat} (IH : ∀ e c, trE B.T N n sc e = some c → PE X e (tE B G W c)) {tg iter : PySem.Expr} {ik : IK} {as : List CE} (h : trI (trE B.T N n sc) B.T sc tg iter = some (ik, as)) : ∃ wi, PI X tg iter wi ∧ WI B G W ik as wi := by
  have seqC : ∀ {e : PySem.Expr}, (trE B.T N n sc e).map (fun e => (IK.seq, [e])) = some (ik, as) → ∃ wi, PI X tg e wi ∧ WI B G W ik as wi := fun {e} h => by
    rw [Option.map_eq_some_iff] at h
    obtain ⟨c, h1, h2⟩ := h
    cases h2
    exact ⟨_, seq_wi ok.hK (IH _ c h1)⟩
  unfold trI at h
  split at h
  · rename_i f _ args pos
    split at h
    · rename_i hg
      split at h
      · exact seqC h
      · split at h
        · cases h
        · obtain ⟨hg1, hg2⟩ := isGl_ok ok hg
          split at h
          · rename_i a hk
            rw [Option.map_eq_some_iff] at h
            obtain ⟨x, h1, h2⟩ := h
            cases h2
            have hf := ikOf_range hk
            subst hf
            refine ⟨_, pi_range1 hg1 (by rw [ok.hM]; exact ok.pf.blt _ (by decide +kernel)) (pa_of IH (es := [a]) (cs := [x]) (by simp [h1])) (by rw [star_cons (trE_noStar h1)]; rfl), fun σ H R ρ S E0 Z hL hS kE hw fin => ?_⟩
            refine ⟨ρ, S, _, E0, hL, hS, fun ps S1 H1 vs e1 s1 r1 q1 => ?_, kE, wpEs_len ok.pf.gm hw⟩
            have hz := sizeLine_eq
            rcases iterS_range q1.2 with ⟨m, rfl, q2, q3⟩ | ⟨m, l, rfl, q2, q3⟩
            · obtain ⟨v, rfl, r2⟩ := r1.one
              exact ⟨m, by rw [r2.int_inv], q2.1, by omega, fin _ _ S1 H1 _ e1 s1 (walks_range (by simp) (by omega)) q3⟩
            · exact absurd q1.1 (by simp)
          · rename_i a b hk
            cases h1 : trE B.T N n sc a with
            | none => rw [h1] at h; cases h
            | some x =>
              cases h2 : trE B.T N n sc b with
              | none => rw [h1, h2] at h; cases h
              | some y =>
                rw [h1, h2] at h
                cases h
                have hf := ikOf_range hk
                subst hf
                refine ⟨_, pi_range2 hg1 (by rw [ok.hM]; exact ok.pf.blt _ (by decide +kernel)) (pa_of IH (es := [a, b]) (cs := [x, y]) (by simp [h1, h2])) (by rw [star_cons (trE_noStar h1), star_cons (trE_noStar h2)]; rfl) (by rw [star_cons (trE_noStar h2)]; rfl), fun σ H R ρ S E0 Z hL hS kE hw fin => ?_⟩
                refine ⟨ρ, S, _, E0, hL, hS, fun ps S1 H1 vs e1 s1 r1 q1 => ?_, kE, wpEs_len ok.pf.gm hw⟩
                rcases iterS_range q1.2 with ⟨m, rfl, q2, q3⟩ | ⟨m, l, rfl, q2, q3⟩
                · exact absurd q1.1 (by simp)
                · obtain ⟨v, u, rfl, r2, r3⟩ := r1.two
                  exact ⟨m, l, by rw [r2.int_inv, r3.int_inv], ⟨q2.1, q2.2.1, q2.2.2.1, q2.2.2.2.1⟩, fin _ _ S1 H1 _ e1 s1 (walks_range rfl (by omega)) q3⟩
          · rename_i a hk
            split at h
            · rename_i elts kk tpos
              rw [Option.map_eq_some_iff] at h
              obtain ⟨x, h1, h2⟩ := h
              cases h2
              have hf := ikOf_enum hk
              subst hf
              refine ⟨_, pi_enumB hg1 (by rw [ok.hM]; exact ok.pf.blt _ (by decide +kernel)) (pa_of IH (es := [a]) (cs := [x]) (by simp [h1])) (by rw [star_cons (trE_noStar h1)]; rfl), fun σ H R ρ S E0 Z hL hS kE hw fin => ?_⟩
              refine ⟨ρ, S, _, E0, hL, hS, fun ps S1 H1 vs e1 s1 r1 q1 => ?_, kE, hw⟩
              rw [ok.hK]
              rcases iterS_enum q1 with ⟨a, xs, rfl, hx, q1⟩ | ⟨xs, rfl, q1⟩
              · obtain ⟨v, rfl, r2⟩ := r1.one
                obtain ⟨us, t1, z1, rr⟩ := s1.lst hx
                exact ⟨a, by rw [r2.loc_inv], .inl ⟨us, SqL.of t1, fin _ _ S1 H1 _ e1 s1 (walks_enum (by rw [← rr.length]; exact z1)) (q1 (by rw [← rr.length]; exact z1))⟩⟩
              · obtain ⟨v, rfl, r2⟩ := r1.one
                obtain ⟨a, us, rfl, t1, z1, rr⟩ := r2.tup_inv
                exact ⟨a, rfl, .inr ⟨us, t1, fin _ _ S1 H1 _ e1 s1 (walks_enumT t1 rr (by rw [← rr.length]; exact z1)) (q1 (by rw [← rr.length]; exact z1))⟩⟩
            · cases h
          · cases h
          · exact seqC h
    · cases h
  · cases h
  · exact seqC h

/-! ### targets without expressions -/
mutual
theorem wpVT_no : ∀ (t : VT) {p : P} {ρ : Loc}, wpVT t p ρ (fun _ => False) → False
  | .nm i, p, ρ, h => by unfold wpVT at h; exact h
  | .tup ts, p, ρ, h => by
    cases p <;> unfold wpVT at h <;> try exact h
    exact wpVTs_no ts h
theorem wpVTs_no : ∀ (ts : List VT) {xs : List P} {ρ : Loc}, wpVTs ts xs ρ (fun _ => False) → False
  | [], xs, ρ, h => by cases xs <;> unfold wpVTs at h <;> exact h
  | t :: ts, xs, ρ, h => by
    cases xs <;> unfold wpVTs at h
    · exact h
    · exact wpVT_no t (wpVT_mono t (fun ρ' h => wpVTs_no ts h) h)
end
theorem trVT_local {c : Bool} {n : Nat} {e : PySem.Expr} {i : Nat} (h : trVT c N sc n e = some (.nm i)) : ∃ x p, e = .Name x p ∧ (sc.names.lookup x = some .local ∨ (c = true ∧ sc.names.lookup x = some .cell)) ∧ N[i]? = some x := by
  cases n with
  | zero => simp [trVT] at h
  | succ n =>
    cases e <;> try (simp [trVT] at h; done)
    simp only [trVT] at h
    split at h
    · rename_i hx
      rw [Option.map_eq_some_iff] at h
      obtain ⟨j, h1, h2⟩ := h
      cases h2
      exact ⟨_, _, rfl, .inl hx, idx_get h1⟩
    · rename_i hx
      split at h
      · rename_i hc
        rw [Option.map_eq_some_iff] at h
        obtain ⟨j, h1, h2⟩ := h
        cases h2
        exact ⟨_, _, rfl, .inr ⟨hc, hx⟩, idx_get h1⟩
      · cases h
    · cases h
/-- two rows of slots, alike but at some places -/
def SlB (is : List Nat) (σ σ' : L2.St) : Prop := σ'.length = σ.length ∧ ∀ j : Nat, j ∉ is → σ'[j]? = σ[j]?
theorem SlB.trans {is js : List Nat} {a b c : L2.St} (h : SlB is a b) (h' : SlB js b c) : SlB (is ++ js) a c := ⟨h'.1.trans h.1, fun j hj => by
  rw [List.mem_append, not_or] at hj
  exact (h'.2 j hj.2).trans (h.2 j hj.1)⟩
def gVT (B : Bs) (t : VT) : TG := fun v σ H Q => ∃ (p : P) (ρ : Loc) (Q0 : Loc → Prop), RelL B H σ ρ ∧ Rep B H p v ∧ (∀ σ' ρ', RelL B H σ' ρ' → SlB (vtSlots t) σ σ' → Q0 ρ' → Q σ' H) ∧ wpVT t p ρ Q0
def gVTs (B : Bs) (ts : List VT) : TGs := fun vs σ H Q => ∃ (ps : List P) (ρ : Loc) (Q0 : Loc → Prop), RelL B H σ ρ ∧ Reps B H ps vs ∧ (∀ σ' ρ', RelL B H σ' ρ' → SlB (vtSlotss ts) σ σ' → Q0 ρ' → Q σ' H) ∧ wpVTs ts ps ρ Q0
theorem PG.imp {X : Cx} {e : PySem.Expr} {t t' : TG} (h : PG X e t) (k : ∀ v σ H Q, t' v σ H Q → t v σ H Q) : PG X e t' := ⟨fun pins s σ H v u Q I r hw => h.run pins s σ H v u Q I r (k v σ H Q hw)⟩
theorem PGs.imp {X : Cx} {e : List PySem.Expr} {t t' : TGs} (h : PGs X e t) (k : ∀ v σ H Q, t' v σ H Q → t v σ H Q) : PGs X e t' := ⟨fun pins s σ H v u Q I r hw => h.run pins s σ H v u Q I r (k v σ H Q hw)⟩
theorem assign_star {e : PySem.Expr} {es : List PySem.Expr} {env : PySem.Env} (h : noStar e = true) : assignEach (e :: es) env = (false, assign e env) :: assignEach es env := by
  cases e <;> first | rfl | cases h
theorem trVT_star {c : Bool} {n : Nat} {e : PySem.Expr} {t : VT} (h : trVT c N sc n e = some t) : noStar e = true := by
  cases n with
  | zero => simp [trVT] at h
  | succ n => cases e <;> first | rfl | simp [trVT] at h
theorem assign_len {env : PySem.Env} : ∀ {es : List PySem.Expr}, (∀ e ∈ es, noStar e = true) → (assignEach es env).length = es.length ∧ (assignEach es env).findIdx? (·.1) = none
  | [], _ => ⟨rfl, rfl⟩
  | e :: es, h => by
    rw [assign_star (h e List.mem_cons_self)]
    obtain ⟨h1, h2⟩ := assign_len (env := env) (es := es) fun e he => h e (List.mem_cons_of_mem _ he)
    refine ⟨by simp [h1], ?_⟩
    rw [List.findIdx?_cons]
    simp [h2]
theorem vtM_star {cb : Bool} {n : Nat} : ∀ {es : List PySem.Expr} {ts : List VT}, es.mapM (trVT cb N sc n) = some ts → ∀ e ∈ es, noStar e = true
  | [], _, _, e, he => by simp at he
  | a :: es, cs, h, e, he => by
    rw [List.mapM_cons] at h
    cases h1 : trVT cb N sc n a with
    | none => rw [h1] at h; cases h
    | some c =>
      cases h2 : es.mapM (trVT cb N sc n) with
      | none => rw [h1, h2] at h; cases h
      | some ds =>
        rcases List.mem_cons.mp he with rfl | he
        · exact trVT_star h1
        · exact vtM_star h2 e he
theorem vt_ok {c : Bool} {X : Cx} {N : List Str} {sc : Scope} (hfn : c = true → ∀ x, X.fn x = true) (hK : X.K = B.K) (hN : X.N = N) (nd : X.N.Nodup) (hS : X.env.scope = sc) (hc : X.calm = true) : ∀ (n : Nat) (e : PySem.Expr) (t : VT), trVT c N sc n e = some t → PG X e (gVT B t)
  | 0, e, t, h => by simp [trVT] at h
  | n + 1, e, t, h => by
    cases e with
    | Name x pos =>
      cases t with
      | tup ts =>
        simp only [trVT] at h
        split at h
        · simp at h
        · split at h <;> simp at h
        · cases h
      | nm i =>
        obtain ⟨y, p, e, hx, hi⟩ := trVT_local h
        cases e
        have hl : L2.Loc X.env.scope x := by
          rw [hS]
          rcases hx with hx | hx
          · exact .inl hx
          · exact .inr hx.2
        have hf : X.fn x = true ∨ X.env.scope.names.lookup x = some .local := by
          rw [hS]
          rcases hx with hx | hx
          · exact .inr hx
          · exact .inl (hfn hx.1 x)
        refine PG.imp (pg_name (i := i) nd (by rw [hN]; exact hi) hl hf) fun v σ H Q ⟨p, ρ, Q0, hL, r, k, hw⟩ => ?_
        refine k _ _ (hL.set r) ⟨by simp, fun j hj => ?_⟩ hw
        unfold vtSlots at hj
        exact List.getElem?_set_ne (by simpa using fun e => hj (by simp [e]))
    | Tuple es kk pos =>
      simp only [trVT, Option.map_eq_some_iff] at h
      obtain ⟨ts, h1, h2⟩ := h
      subst h2
      have all : ∀ {es : List PySem.Expr} {ts : List VT}, es.mapM (trVT c N sc n) = some ts → PGs X es (gVTs B ts) := by
        intro es
        induction es with
        | nil =>
          intro ts h
          simp at h; subst h
          refine PGs.imp pgs_nil fun vs σ H Q ⟨ps, ρ, Q0, hL, r, k, hw⟩ => ?_
          cases ps with
          | nil => exact ⟨r.nil_inv, k σ ρ hL ⟨rfl, fun _ _ => rfl⟩ hw⟩
          | cons _ _ => exact hw.elim
        | cons a es ih =>
          intro ts h
          rw [List.mapM_cons] at h
          cases h1 : trVT c N sc n a with
          | none => rw [h1] at h; cases h
          | some t =>
            cases h2 : es.mapM (trVT c N sc n) with
            | none => rw [h1, h2] at h; cases h
            | some ts =>
              rw [h1, h2] at h
              cases h
              refine PGs.imp (pgs_cons (vt_ok hfn hK hN nd hS hc n a t h1) (ih h2) (by rw [assign_star (trVT_star h1)]; rfl)) fun vs σ H Q ⟨ps, ρ, Q0, hL, r, k, hw⟩ => ?_
              cases ps with
              | nil => exact hw.elim
              | cons p ps =>
                obtain ⟨v, rest, rfl, r1, r2⟩ := r.cons_inv
                refine ⟨v, rest, rfl, p, ρ, _, hL, r1, fun σ' ρ' hL' b1 q => ?_, hw⟩
                exact ⟨ps, ρ', Q0, hL', r2, fun σ2 ρ2 hL2 b2 q2 => k σ2 ρ2 hL2 (by unfold vtSlotss; exact b1.trans b2) q2, q⟩
      obtain ⟨hl, hi⟩ := assign_len (env := X.env) (vtM_star h1)
      refine PG.imp (pg_tup hc (all h1) hl hi) fun v σ H Q ⟨p, ρ, Q0, hL, r, k, hw⟩ => ?_
      cases p <;> try (exact hw.elim)
      rename_i ps
      obtain ⟨a, vs, rfl, s1, z1, r1⟩ := r.tup_inv
      rw [hK]
      have hlen : ps.length = ts.length := by
        have gen : ∀ (ts : List VT) (ps : List P) (ρ : Loc) (Q0 : Loc → Prop), wpVTs ts ps ρ Q0 → ps.length = ts.length := by
          intro ts
          induction ts with
          | nil => intro ps ρ Q0 h; cases ps with
            | nil => rfl
            | cons _ _ => exact h.elim
          | cons t ts ih =>
            intro ps ρ Q0 h
            cases ps with
            | nil => exact h.elim
            | cons p ps =>
              have h' : wpVT t p ρ fun ρ' => wpVTs ts ps ρ' Q0 := h
              by_cases e : ps.length = ts.length
              · simp [e]
              · exact absurd (wpVT_no t (wpVT_mono t (Q' := fun _ => False) (fun ρ' q => e (ih ps ρ' Q0 q)) h')) id
        exact gen ts ps ρ Q0 hw
      exact ⟨a, vs, rfl, s1, by rw [r1.length, hlen, mapM_len h1], ps, ρ, Q0, hL, r1, (fun σ' ρ' hL' b q => k σ' ρ' hL' (by unfold vtSlots; exact b) q), hw⟩
    | _ => simp [trVT] at h
end
end Core

set_option maxRecDepth 100000
/-! Core10: comprehensions, the theorem of expressions. -/
namespace Core
open PySem L2 PySem.Spec PyProof.Rows
abbrev noW : WX := fun _ _ _ _ => False
section
variable {B : Bs} {N : List Str} {G : Env} {k : Nat} {sc : Scope} {W : WX} {X : Cx}
theorem wipe_get {σ : L2.St} : ∀ (vs : List Nat) (j : Nat), (L2.wipe σ vs)[j]? = if j ∈ vs ∧ j < σ.length then some none else σ[j]?
  | [], j => by simp [L2.wipe]
  | v :: vs, j => by
    have ih := wipe_get (σ := σ) vs j
    unfold L2.wipe
    by_cases hj : v = j
    · subst hj
      by_cases hl : v < σ.length
      · rw [List.getElem?_set_self (by rw [wipe_length]; exact hl), if_pos ⟨List.mem_cons_self, hl⟩]
      · rw [List.getElem?_eq_none (by simpa [wipe_length] using hl), if_neg (fun z => hl z.2), List.getElem?_eq_none (by omega)]
    · rw [List.getElem?_set_ne hj, ih]
      have e : (j ∈ v :: vs) ↔ j ∈ vs := by simp [Ne.symm hj]
      simp only [e]
theorem wipe_eq {σ σ' : L2.St} {vs : List Nat} (h : SlB vs (L2.wipe σ vs) σ') : L2.wipe σ' vs = L2.wipe σ vs := by
  have hl : σ'.length = σ.length := by rw [h.1, wipe_length]
  refine List.ext_getElem? fun j => ?_
  rw [wipe_get, wipe_get, hl]
  by_cases c : j ∈ vs ∧ j < σ.length
  · rw [if_pos c, if_pos c]
  · rw [if_neg c, if_neg c]
    by_cases hj : j ∈ vs
    · have : ¬ j < σ.length := fun z => c ⟨hj, z⟩
      rw [List.getElem?_eq_none (by omega), List.getElem?_eq_none (by omega)]
    · rw [h.2 j hj, wipe_get, if_neg c]
theorem XOk.blk (ok : XOk B N G k sc W X) (s : Shared) (H : Hp) (scope : Scope) (C : Addr) (cl : List (Str × Addr)) (fp : List Addr) : XOk B N G k (relS scope sc) noW (X.blk s H scope (compEnvC scope cl C X.env) fp) :=
  ⟨ok.hK, ok.hM, ok.hN, ok.nd, by rw [← ok.hS]; rfl, ok.calm, ok.room, takes0, ok.pf⟩
def tCond (B : Bs) (G : Env) : Option CE → TT
  | none => tYes
  | some e => tT B G noW e
theorem comp_ok (ok : XOk B N G k sc W X) {tg iter elt : PySem.Expr} {ifs : List PySem.Expr} {scope : Scope} {pos : Pos} {own : List (Str × Nat)} {t : VT} {x : CE} {c : Option CE} {ik : IK} {as : List CE} {wi : TI}
    (hb : blkC N sc scope own = true) (hv : (vtSlots t).all (fun i => (own.map (·.2)).contains i) = true) (hi : PI X tg iter wi) (hw : WI B G W ik as wi) (hset : noSet iter = true)
    (hg : ∀ (s : Shared) (H : Hp) (C : Addr) (cl : List (Str × Addr)) (fp : List Addr), PG (X.blk s H scope (compEnvC scope cl C X.env) fp) tg (gVT B t)) (ht : ∀ (s : Shared) (H : Hp) (C : Addr) (cl : List (Str × Addr)) (fp : List Addr), PTs (X.blk s H scope (compEnvC scope cl C X.env) fp) ifs (tCond B G c))
    (he : ∀ (s : Shared) (H : Hp) (C : Addr) (cl : List (Str × Addr)) (fp : List Addr), PE (X.blk s H scope (compEnvC scope cl C X.env) fp) elt (tE B G noW x)) {σ : L2.St} {H : Hp} {Q : VK} (h : tE B G W (.cmpr (own.map (·.2)) ik as t x c) σ H Q) :
    tLc wi (gVT B t) (tCond B G c) (tE B G noW x) (own.map (·.2)) σ H Q := by
  obtain ⟨ρ, S, Q0, E0, hL, hS, kQ, kE, h⟩ := h
  unfold wpE at h
  refine hw σ H _ ρ S E0 _ hL hS kE h fun items Gd S1 H1 J e1 s1 wk hZ D hD => ?_
  obtain ⟨I, i0, hs, hd⟩ := hZ D (s1.free hD)
  refine ⟨fun i m H' => m = items.length - i ∧ i ≤ items.length ∧ ∃ acc S2, RelS B S2 H' ∧ Ext H1 H' ∧ I i acc S2 ∧ acc.length ≤ i ∧ items.length ≤ sizeLine, ⟨items.length, by simp, Nat.zero_le _, [], _, s1.newL hD (Nat.zero_le _) .nil, .fresh hD, i0, Nat.le_refl _, ?_⟩, ?_⟩
  · exact wk.big
  rintro i m H2 ⟨rfl, hil, acc, S2, r2, e2, hI, hacc, hbig⟩
  by_cases hlt : i < items.length
  · have hx : items[i]? = some items[i] := by simp [hlt]
    obtain ⟨g2, hstep⟩ := hs i items[i] acc S2 hx hI hacc
    refine .inr ⟨wk.go i H2 S2 r2 e2 g2 hlt, fun H' => (i + 1) ≤ items.length ∧ ∃ acc S2, RelS B S2 H' ∧ Ext H1 H' ∧ I (i + 1) acc S2 ∧ acc.length ≤ i + 1, fun H' ⟨q1, acc', S', q2, q3, q4, q5⟩ => ⟨items.length - (i + 1), by omega, rfl, q1, acc', S', q2, q3, q4, q5, hbig⟩, fun v H3 hy => ?_⟩
    obtain ⟨e3, r3, p, hp, rp⟩ := wk.yld i H2 S2 v H3 r2 e2 g2 hlt hy
    rw [hx] at hp; cases hp
    have e13 := e2.trans e3
    refine ⟨items[i], wipeP ρ (own.map (·.2)), _, ((hL.ext e1).ext e13).wipe _, rp, fun σ' ρ' hL' hb' q => ?_, hstep⟩
    have hsub : ∀ j ∈ vtSlots t, j ∈ own.map (·.2) := fun j hj => by
      have := List.all_eq_true.mp hv j hj
      simpa using this
    refine ⟨wipe_eq ⟨hb'.1, fun j hj => hb'.2 j fun z => hj (hsub j z)⟩, ?_⟩
    -- the tests, then the element
    have fin : ∀ (b : Bool) (S4 : Store) (H4 : Hp), Ext H3 H4 → RelS B S4 H4 → (if b = true then wpE G x ρ' S4 (fun p S5 => S5 D = some (.lst acc) ∧ I (i + 1) (acc ++ [p]) (S5.upd D (.lst (acc ++ [p])))) noE else I (i + 1) acc S4) →
        (if b = true then tE B G noW x σ' H4 (fun y H5 => ∃ ac, H5 D = some (.lst ac) ∧ ac.length < sizeLine ∧ ((i + 1) ≤ items.length ∧ ∃ acc S2, RelS B S2 (L2.upd H5 D (.lst (ac ++ [y]))) ∧ Ext H1 (L2.upd H5 D (.lst (ac ++ [y]))) ∧ I (i + 1) acc S2 ∧ acc.length ≤ i + 1))
          else ((i + 1) ≤ items.length ∧ ∃ acc S2, RelS B S2 H4 ∧ Ext H1 H4 ∧ I (i + 1) acc S2 ∧ acc.length ≤ i + 1)) := by
      intro b S4 H4 e4 r4 q4
      cases b with
      | false => exact iteF ⟨hlt, acc, S4, r4, e13.trans e4, by simpa using q4, by omega⟩
      | true =>
        refine iteT ?_
        rw [if_pos rfl] at q4
        refine ⟨ρ', S4, _, noE, hL'.ext e4, r4, fun p S5 H5 v e5 r5 rp5 q5 => ?_, .no, q4⟩
        obtain ⟨q5, q6⟩ := q5
        obtain ⟨us, d1, d2, d3⟩ := r5.lst q5
        have hl := d3.length
        have rn := d3.append (.cons rp5 .nil)
        have hz : (us ++ [v]).length ≤ sizeLine := by rw [List.length_append, hl, List.length_singleton]; omega
        exact ⟨us, d1, by omega, hlt, acc ++ [p], _, r5.setL d1 hz rn, ((e13.trans e4).trans e5).trans (.lst d1), q6, by rw [List.length_append, List.length_singleton]; omega⟩
    cases c with
    | none =>
      have q : (if true = true then wpE G x ρ' S2 (fun p S5 => S5 D = some (.lst acc) ∧ I (i + 1) (acc ++ [p]) (S5.upd D (.lst (acc ++ [p])))) noE else I (i + 1) acc S2) := by
        unfold wpC at q
        exact q
      exact fin true S2 H3 (.refl _) r3 q
    | some ce =>
      unfold wpC at q
      refine ⟨ρ', S2, _, noE, hL', r3, fun p S4 H4 e4 r4 q4 => ?_, .no, q⟩
      split at q4
      · rename_i b hb4
        exact ⟨b, hb4, fin b S4 H4 e4 r4 q4⟩
      · exact q4.elim
  · have e : i = items.length := by omega
    subst e
    obtain ⟨g2, q⟩ := hd acc S2 hI hacc
    exact .inl ⟨wk.stop H2 S2 r2 e2 g2, kQ _ _ _ _ (e1.trans e2) r2 rep_loc q⟩
end
end Core

set_option maxRecDepth 100000
set_option maxHeartbeats 4000000
/-! Core11: the theorem of expressions. -/
namespace Core
open PySem L2 PySem.Spec PyProof.Rows
section
variable {B : Bs} {N : List Str} {G : Env} {k : Nat} {sc : Scope} {W : WX} {X : Cx}
theorem relX {H : Hp} {E0 : QE} {W : WX} {σ : L2.St} (kE : OkX B H E0 (fun cls d H' => W cls d σ H')) : OkX B H E0 (WE W σ) := kE
theorem map2 {α β γ : Type} {x : Option α} {y : Option β} {f : α → β → Option γ} {c : γ} (h : (do let a ← x; let b ← y; f a b) = some c) : ∃ a b, x = some a ∧ y = some b ∧ f a b = some c := by
  cases x with
  | none => cases h
  | some a => cases y with
    | none => cases h
    | some b => exact ⟨a, b, rfl, rfl, h⟩
theorem map1 {α γ : Type} {x : Option α} {f : α → Option γ} {c : γ} (h : (do let a ← x; f a) = some c) : ∃ a, x = some a ∧ f a = some c := by
  cases x with
  | none => cases h
  | some a => exact ⟨a, rfl, h⟩
/-- a called def -/
theorem call_ok (ok : XOk B N G k sc W X) {f : Str} {fp pos : Pos} {args : List PySem.Expr} {i : Nat} {xs : List CE} (hg : isGl sc f = true) (hf : B.T.fns[i]? = some f) (ha : PA X args (tA B G W xs)) (hs : ∀ e ∈ args, noStar e = true) (hl : xs.length = args.length) :
    PE X (.Call (.Name f fp) args [] pos) (tE B G W (.call i xs)) := by
  obtain ⟨hg1, hg2⟩ := isGl_ok ok hg
  obtain ⟨fa, h1, h2⟩ := ok.pf.fnv i f hf
  have hm : X.mg f = some (.ref fa) := by rw [ok.hM]; exact h1
  have hkp : PySem.W.keepIn X.K (.ref fa) = true := by rw [ok.hK]; exact h2
  have end_ : ∀ {qs : List P} {S1 : Store} {Q0 : QP} {E0 : QE} {H1 : Hp} {vs : List V} {σ : L2.St} {Q : VK}, G.fn i qs S1 Q0 E0 → Reps B H1 qs vs → RelS B S1 H1 → OkQ B H1 Q0 Q → OkX B H1 E0 (WE W σ) →
      ∃ fd ps sp k, FnOk X.prog X.w X.K X.mg X.base (L2.CX X.prog X.w) k fa fd ps sp ∧ Room k X.A ∧ Binds X.K fd ps [] ∧ sp vs H1 Q (WE W σ) := fun {qs S1 Q0 E0 H1 vs σ Q} h r s kQ kE => by
    obtain ⟨fd, ps, b, F, l⟩ := ok.pf.fn i f fa qs S1 Q0 E0 hf h1 h
    rw [ok.hK, ok.hM]
    exact ⟨fd, ps, _, k, F, ok.room, b, by rw [r.length]; exact l, qs, S1, Q0, E0, r, s, kQ, kE, h⟩
  cases args with
  | nil =>
    have : xs = [] := List.eq_nil_of_length_eq_zero hl
    subst this
    refine PE.imp (pe_callD0 hg1 hm hkp (fun σ => passAt ok.tk σ) hg2) fun σ H Q ⟨ρ, S, Q0, E0, hL, hS, kQ, kE, h⟩ => ?_
    unfold wpE wpEs at h
    exact end_ h .nil hS kQ kE
  | cons e es =>
    refine PE.imp (pe_callD hg1 hm hkp (fun σ => passAt ok.tk σ) ha hg2 (star_cons (hs e List.mem_cons_self)) (star_all fun e he => hs e (List.mem_cons_of_mem _ he))) fun σ H Q ⟨ρ, S, Q0, E0, hL, hS, kQ, kE, h⟩ => ?_
    unfold wpE at h
    exact ⟨ρ, S, _, E0, hL, hS, fun qs S1 H1 vs e1 s1 r1 q1 => end_ q1 r1 s1 (kQ.at e1) (kE.at e1), kE, h⟩
/-- a name that holds a def, called -/
def tCallW (X : Cx) (i : Nat) (E : L2.St → XK) (t : TA) : TE := fun σ H Q => ∃ fa, σ[i]? = some (some (.ref fa)) ∧ PySem.W.keepIn X.K (.ref fa) = true ∧ t σ H fun vs H1 => ∃ fd ps sp k, FnOk X.prog X.w X.K X.mg X.base (L2.CX X.prog X.w) k fa fd ps sp ∧ Room k X.A ∧ Binds X.K fd ps [] ∧ sp vs H1 Q (E σ)
theorem pe_callW {i : Nat} {E : L2.St → XK} {x : Str} {p pos : Pos} {e : PySem.Expr} {es : List PySem.Expr} {t : TA} (h1 : X.N[i]? = some x) (h2 : Vis X.env.scope x) (hx : ∀ σ, PassesAt (L2.CX X.prog X.w) X σ (E σ)) (ha : PA X (e :: es) t) (d1 : (x == ("__debug__" : Str)) = false)
    (d2 : (x == ("__classdict__" : Str)) = false) (he : starEach (e :: es) X.env = (false, eval e X.env) :: starEach es X.env) (hpl : (backTo pos (starEach es X.env)).any (·.1) = false) : PE X (.Call (.Name x p) (e :: es) [] pos) (tCallW X i E t) := by
  refine ⟨fun pins s σ H Q I ⟨fa, hs, hk, h⟩ => ?_⟩
  refine wpAny_Call_Name_kw (thn ((pe_var (pos := p) h1 h2 d1 d2).run pins s σ H (fun v H1 => v = .ref fa ∧ H1 = H) I ⟨.ref fa, hs, rfl, rfl⟩) fun u s1 ⟨v, H1, I1, r1, e1, e2⟩ => ?_)
  subst e1 e2
  cases r1
  refine PySem.W.callWith_K (h₀ := X.base) I.ok.mod.kin hk (thn (ha.run pos pins s1 σ _ _ I1 h) fun us s2 ⟨vs, H2, I2, r, fd, ps, sp, k, F, hr, hb, q⟩ => ⟨I2.kIn, ?_⟩) he hpl
  exact run_fnS F hr hb (hx σ) I2 r q
theorem cvar_ok (ok : XOk B N G k sc W X) {f : Str} {fp pos : Pos} {args : List PySem.Expr} {i : Nat} {xs : List CE} (hi : slotOf N sc f = some i) (hne : args ≠ []) (ha : PA X args (tA B G W xs)) (hs : ∀ e ∈ args, noStar e = true) :
    PE X (.Call (.Name f fp) args [] pos) (tE B G W (.cvar i xs)) := by
  obtain ⟨g1, g2, g3, g4⟩ := slotOf_ok hi
  cases args with
  | nil => exact absurd rfl hne
  | cons e es =>
    refine PE.imp (pe_callW (i := i) (by rw [ok.hN]; exact g1) (by show Vis X.env.scope f; rw [ok.hS]; exact g2) (fun σ => passAt ok.tk σ) ha g3 g4 (star_cons (hs e List.mem_cons_self)) (star_all fun e he => hs e (List.mem_cons_of_mem _ he))) fun σ H Q ⟨ρ, S, Q0, E0, hL, hS, kQ, kE, h⟩ => ?_
    unfold wpE at h
    split at h
    · rename_i fi hf
      obtain ⟨v, e1, r1⟩ := hL.at_ i _ hf
      unfold Rep at r1
      obtain ⟨x, fa, n1, n2, rfl⟩ := r1
      obtain ⟨fa', m1, m2⟩ := ok.pf.fnv fi x n1
      rw [n2] at m1; cases m1
      refine ⟨fa, e1, by rw [ok.hK]; exact m2, ρ, S, _, E0, hL, hS, fun qs S1 H1 vs e2 s1 r2 q1 => ?_, kE, h⟩
      obtain ⟨fd, ps, b, F, l⟩ := ok.pf.fn fi x fa qs S1 Q0 E0 n1 n2 q1
      rw [ok.hK, ok.hM]
      exact ⟨fd, ps, _, k, F, ok.room, b, by rw [r2.length]; exact l, qs, S1, Q0, E0, r2, s1, kQ.at e2, kE.at e2, q1⟩
    · exact h.elim
/-- a class, called -/
theorem mk_ok (ok : XOk B N G k sc W X) {f : Str} {fp pos : Pos} {args : List PySem.Expr} {i : Nat} {xs : List CE} (hg : isGl sc f = true) (hf : B.T.cls[i]? = some f) (ha : PA X args (tA B G W xs)) (hs : ∀ e ∈ args, noStar e = true) (hl : xs.length = args.length) :
    PE X (.Call (.Name f fp) args [] pos) (tE B G W (.mk i xs)) := by
  obtain ⟨hg1, hg2⟩ := isGl_ok ok hg
  obtain ⟨C, h1, h2⟩ := ok.pf.clv i f hf
  have hm : X.mg f = some (.ref C) := by rw [ok.hM]; exact h1
  have hkp : PySem.W.keepIn X.K (.ref C) = true := by rw [ok.hK]; exact h2
  have end_ : ∀ {qs : List P} {S1 : Store} {Q0 : QP} {E0 : QE} {H1 : Hp} {vs : List V} {σ : L2.St} {Q : VK}, (∀ a, S1 a = none → G.ini i (.loc a :: qs) (S1.upd a (.ins i [])) (fun v S2 => v = .non ∧ Q0 (.loc a) S2) E0) → Reps B H1 qs vs → RelS B S1 H1 → OkQ B H1 Q0 Q → OkX B H1 E0 (WE W σ) →
      ∀ x dx, H1 x = none → H1 dx = none → dx ≠ x → ∃ f fd ps sp k, Mk X.K C f ∧ FnOk X.prog X.w X.K X.mg X.base (L2.CX X.prog X.w) k f fd ps sp ∧ Room (k + 1) X.A ∧ Binds X.K fd ps [] ∧
        sp (.ref x :: vs) (L2.upd (L2.upd H1 dx (.own x)) x (.ins C dx [])) (fun v H2 => v = .non ∧ Q (.ref x) H2) (WE W σ) := fun {qs S1 Q0 E0 H1 vs σ Q} h r s kQ kE x dx nx ndx ne => by
    have hx := h x (s.free nx)
    obtain ⟨g, fd, ps, k', ek, c, noA, M, b, F, l⟩ := ok.pf.ini i f C _ _ _ _ hf h1 hx
    rw [ok.hK, ok.hM]
    have n2 : (L2.upd H1 dx (.own x)) x = none := by rw [L2.upd_ne (Ne.symm ne)]; exact nx
    have e1 : Ext H1 (L2.upd (L2.upd H1 dx (.own x)) x (.ins C dx [])) := Ext.trans (.fresh ndx) (.fresh n2)
    refine ⟨g, fd, ps, _, k', M, F, by rw [← ek]; exact ok.room, b, by rw [List.length_cons, r.length]; exact l, .loc x :: qs, S1.upd x (.ins i []), _, E0, .cons rep_loc (r.ext e1), ?_, fun p S2 H2 v e2 s2 r2 q2 => ?_, kE.at e1, hx⟩
    · exact (s.ext ndx).upd (.fresh n2) ⟨f, C, dx, [], ⟨hf, h1, c, noA⟩, L2.upd_same, rfl⟩
    · obtain ⟨rfl, q2⟩ := q2
      exact ⟨r2.non_inv, kQ _ _ _ _ (e1.trans e2) s2 rep_loc q2⟩
  cases args with
  | nil =>
    have : xs = [] := List.eq_nil_of_length_eq_zero hl
    subst this
    refine PE.imp (pe_makeD0 hg1 hm hkp (fun σ => passAt ok.tk σ) hg2) fun σ H Q ⟨ρ, S, Q0, E0, hL, hS, kQ, kE, h⟩ => ?_
    unfold wpE wpEs at h
    exact end_ h .nil hS kQ kE
  | cons e es =>
    refine PE.imp (pe_makeD hg1 hm hkp (fun σ => passAt ok.tk σ) ha hg2 (star_cons (hs e List.mem_cons_self)) (star_all fun e he => hs e (List.mem_cons_of_mem _ he))) fun σ H Q ⟨ρ, S, Q0, E0, hL, hS, kQ, kE, h⟩ => ?_
    unfold wpE at h
    exact ⟨ρ, S, _, E0, hL, hS, fun qs S1 H1 vs e1 s1 r1 q1 => end_ q1 r1 s1 (kQ.at e1) (kE.at e1), kE, h⟩
theorem call_form {o : PySem.Expr} {m : Str} {apos pos : Pos} {args : List PySem.Expr} {env : PySem.Env} (h : plainBase0 o = true) (hs : ∀ e ∈ args, noStar e = true) (hl : args.length ≤ 20) (hline : (apos.endLine == pos.line) = true) : ∃ pl : Sem Bool, eval (.Call (.Attribute o m apos) args [] pos) env = (do
      let ov ← eval o env
      standAt apos.atName
      let (f, first) ← holding [ov] (getMethod ov m pl)
      callWith pos f first (backTo pos (starEach args env)) (backToKw pos (keywordEach [] env))) := by
  refine ⟨(do return (← importBound o env).getD true), ?_⟩
  show (do
    let ov ← attributeBase o m env (eval o env)
    standAt apos.atName
    methodCall o m apos pos env ov (args.length + 0) (backTo pos (starEach args env)) (backToKw pos (keywordEach [] env))) = _
  rw [attrBase_ok h]
  have f : methodCallForm (args.length + 0) (backTo pos (starEach args env)) (backToKw pos (keywordEach [] env)) = true := by
    unfold methodCallForm
    rw [star_all' hs]
    show (true && true && decide (args.length + 0 + 0 < 30)) = true
    rw [decide_eq_true (by omega)]
    rfl
  have p : methodCallPos true o env apos pos = pure pos := by
    unfold methodCallPos
    rw [if_pos (by rw [hline]; rfl)]
  unfold methodCall
  rw [f, p]
  rfl
/-- a method, called -/
theorem mth_ok (ok : XOk B N G k sc W X) {m : Str} {apos pos : Pos} {o : PySem.Expr} {args : List PySem.Expr} {j : Nat} {x : CE} {xs : List CE} (hm : B.T.mts[j]? = some m) (hb : plainBase0 o = true) (hline : (apos.endLine == pos.line) = true) (hfew : args.length ≤ 20) (ho : PE X o (tE B G W x)) (ha : PA X args (tA B G W xs)) (hs : ∀ e ∈ args, noStar e = true) (hl : xs.length = args.length) :
    PE X (.Call (.Attribute o m apos) args [] pos) (tE B G W (.mth x j xs)) := by
  have obj : ∀ {p : P} {S1 : Store} {H1 : Hp} {v : V} {R : Nat → Addr → Prop}, RelS B S1 H1 → Rep B H1 p v → (match p with
      | .loc l => match S1 l with
        | some (.ins c _) => G.has c j = true ∧ R c l
        | _ => False
      | _ => False) → ∃ a C dx gs f c y, p = .loc a ∧ v = .ref a ∧ H1 a = some (.ins C dx gs) ∧ gs.lookup m = none ∧ Cls X.K C ∧ Meth X.K C m f ∧ B.T.cls[c]? = some y ∧ B.mg y = some (.ref C) ∧ R c a := by
    intro p S1 H1 v R s r h
    cases p <;> try exact h.elim
    rename_i a
    simp only at h
    split at h
    · rename_i c fs hx
      obtain ⟨y, C, dx, gs, ⟨h1, h2, h3, _⟩, h5, h6⟩ := s a _ hx
      obtain ⟨f, hf⟩ := ok.pf.has c j y m C h1 h2 hm h.1
      rw [ok.hK]
      exact ⟨a, C, dx, gs, f, c, y, rfl, r.loc_inv, h5, RepF.none (fun g hg => ok.pf.dis g j m hg hm) h6, h3, hf, h1, h2, h.2⟩
    · exact h.elim
  have end_ : ∀ {c : Nat} {y : Str} {C f a : Addr} {qs : List P} {S1 : Store} {Q0 : QP} {E0 : QE} {H1 : Hp} {vs : List V} {σ : L2.St} {Q : VK}, B.T.cls[c]? = some y → B.mg y = some (.ref C) → Meth X.K C m f → G.mth c j (.loc a :: qs) S1 Q0 E0 → Reps B H1 qs vs → RelS B S1 H1 → OkQ B H1 Q0 Q → OkX B H1 E0 (WE W σ) →
      ∃ fd ps sp k, FnOk X.prog X.w X.K X.mg X.base (L2.CX X.prog X.w) k f fd ps sp ∧ Room k X.A ∧ Binds X.K fd ps [] ∧ sp (.ref a :: vs) H1 Q (WE W σ) := fun {c y C f a qs S1 Q0 E0 H1 vs σ Q} h1 h2 hf h r s kQ kE => by
    obtain ⟨fd, ps, b, F, l⟩ := ok.pf.mth c j y m C f _ _ _ _ h1 h2 hm (by rw [← ok.hK]; exact hf) h
    rw [ok.hK, ok.hM]
    exact ⟨fd, ps, _, k, F, ok.room, b, by rw [List.length_cons, r.length]; exact l, .loc a :: qs, S1, Q0, E0, .cons rep_loc r, s, kQ, kE, h⟩
  cases args with
  | nil =>
    have : xs = [] := List.eq_nil_of_length_eq_zero hl
    subst this
    obtain ⟨pl, hf⟩ := call_form (m := m) (apos := apos) (pos := pos) (args := []) (env := X.env) hb hs hfew hline
    refine PE.imp (pe_methD0 (E := WE W) ho (fun σ => passAt ok.tk σ) hf) fun σ H Q ⟨ρ, S, Q0, E0, hL, hS, kQ, kE, h⟩ => ?_
    unfold wpE wpEs at h
    refine ⟨ρ, S, _, E0, hL, hS, fun p S1 H1 v e1 s1 r1 q1 => ?_, kE, h⟩
    obtain ⟨a, C, dx, gs, f, c, y, rfl, rfl, h1, h2, h3, h4, h5, h6, q⟩ := obj s1 r1 q1
    exact ⟨a, C, dx, gs, f, rfl, h1, h2, h3, h4, end_ h5 h6 h4 q .nil s1 (kQ.at e1) (kE.at e1)⟩
  | cons e es =>
    obtain ⟨pl, hf⟩ := call_form (m := m) (apos := apos) (pos := pos) (args := e :: es) (env := X.env) hb hs hfew hline
    refine PE.imp (pe_methD (E := WE W) ho (fun σ => passAt ok.tk σ) ha (star_cons (hs e List.mem_cons_self)) (star_all fun e he => hs e (List.mem_cons_of_mem _ he)) hf) fun σ H Q ⟨ρ, S, Q0, E0, hL, hS, kQ, kE, h⟩ => ?_
    unfold wpE at h
    refine ⟨ρ, S, _, E0, hL, hS, fun p S1 H1 v e1 s1 r1 q1 => ?_, kE, h⟩
    obtain ⟨a, C, dx, gs, f, c, y, rfl, rfl, h1, h2, h3, h4, h5, h6, q⟩ := obj s1 r1 q1
    refine ⟨a, C, dx, gs, f, rfl, h1, h2, h3, h4, ρ, S1, _, E0, hL.ext e1, s1, fun qs S2 H2 vs e2 s2 r2 q2 => ?_, kE.at e1, q⟩
    exact end_ h5 h6 h4 q2 r2 s2 ((kQ.at e1).at e2) ((kE.at e1).at e2)
/-- a list's method, called -/
theorem bmt_ok (ok : XOk B N G k sc W X) {m : Str} {apos pos : Pos} {o : PySem.Expr} {args : List PySem.Expr} {b : Bm} {x : CE} {xs : List CE} (hm : bmOf m = some b) (hb : plainBase0 o = true) (hline : (apos.endLine == pos.line) = true) (hfew : args.length ≤ 3)
    (ho : PE X o (tE B G W x)) (ha : PA X args (tA B G W xs)) (hs : ∀ e ∈ args, noStar e = true) (hl : xs.length = args.length) :
    PE X (.Call (.Attribute o m apos) args [] pos) (tE B G W (.bmt x b xs)) := by
  have hn := bmOf_name hm
  have hin : b = .append ∨ b = .pop ∨ b = .extend ∨ b = .reverse := by
    unfold bmOf at hm
    split at hm
    · cases hm; exact .inl rfl
    · split at hm
      · cases hm; exact .inr (.inl rfl)
      · split at hm
        · cases hm; exact .inr (.inr (.inl rfl))
        · split at hm
          · cases hm; exact .inr (.inr (.inr rfl))
          · cases hm
  subst hn
  obtain ⟨r, hr, hv⟩ := bm_ok (X := X) (B := B) b xs.length
  obtain ⟨id, slot, hty, hmt⟩ := hr hin
  have ty : ∀ {p : P} {S1 : Store} {H1 : Hp} {v : V}, RelS B S1 H1 → Rep B H1 p v → (∃ a ys, p = .loc a ∧ S1 a = some (.lst ys)) → tyV X.K "list" v H1 := fun {p S1 H1 v} s r ⟨a, ys, e, h⟩ => by
    subst e
    obtain ⟨us, h1, _⟩ := s.lst h
    rw [r.loc_inv]
    exact .inl ⟨rfl, us, SqL.of h1⟩
  cases args with
  | nil =>
    have : xs = [] := List.eq_nil_of_length_eq_zero hl
    subst this
    refine PE.imp (pe_bm0 PySem.F.plainAttrs_list slot hty hmt ho (attrBase_ok hb) hline) fun σ H Q ⟨ρ, S, Q0, E0, hL, hS, kQ, kE, h⟩ => ?_
    unfold wpE wpEs at h
    refine ⟨ρ, S, _, E0, hL, hS, fun p S1 H1 v e1 s1 r1 q1 => ?_, kE, h⟩
    exact ⟨ty s1 r1 q1.1, hv p [] S1 v [] H1 Q0 Q s1 r1 .nil (kQ.at e1) ⟨rfl, q1.2⟩⟩
  | cons e es =>
    refine PE.imp (pe_bm PySem.F.plainAttrs_list slot hty hmt ho ha (attrBase_ok hb) ?_ hline (star_cons (hs e List.mem_cons_self)) (star_all fun e he => hs e (List.mem_cons_of_mem _ he))) fun σ H Q ⟨ρ, S, Q0, E0, hL, hS, kQ, kE, h⟩ => ?_
    · rw [star_all' hs, decide_eq_true (by simp at hfew ⊢; omega)]
      rfl
    · unfold wpE at h
      refine ⟨ρ, S, _, E0, hL, hS, fun p S1 H1 v e1 s1 r1 q1 => ?_, kE, h⟩
      refine ⟨ty s1 r1 q1.1, ρ, S1, _, E0, hL.ext e1, s1, fun qs S2 H2 vs e2 s2 r2 q2 => ?_, kE.at e1, wpEs_len ok.pf.gm q1.2⟩
      exact hv p qs S2 v vs H2 Q0 Q s2 (r1.ext e2) r2 ((kQ.at e1).at e2) q2
end
end Core

set_option maxRecDepth 100000
set_option maxHeartbeats 4000000
/-! Core12: expressions are sound. -/
namespace Core
open PySem L2 PySem.Spec PyProof.Rows
section
variable {B : Bs} {N : List Str} {G : Env} {k : Nat}
theorem mapM_tup {T : Tab} {n : Nat} {sc : Scope} {es : List PySem.Expr} {c : CE} {f : List CE → CE} (h : (es.mapM (trE T N n sc)).map f = some c) : ∃ cs, es.mapM (trE T N n sc) = some cs ∧ f cs = c := by
  rw [Option.map_eq_some_iff] at h; exact h
theorem part_ok {X : Cx} {W : WX} {o : Option PySem.Expr} {n : Nat} {sc : Scope} {l : Option CE} (IH : ∀ e c, trE B.T N n sc e = some c → PE X e (tE B G W c)) (h : (match o with | none => some none | some e => (trE B.T N n sc e).map some) = some l) :
    PO X o (fun σ H Q => ∃ (ρ : Loc) (S : Store) (Q0 : Option P → Store → Prop) (E0 : QE), RelL B H σ ρ ∧ RelS B S H ∧ (∀ p S' H', Ext H H' → RelS B S' H' → Q0 p S' → ∃ u, partOf p = some u ∧ Q u H') ∧ OkX B H E0 (fun cls d H' => W cls d σ H') ∧ wpO G l ρ S Q0 E0) := by
  cases o with
  | none =>
    simp only [Option.some.injEq] at h
    subst h
    refine ⟨fun pins s σ H Q I ⟨ρ, S, Q0, E0, hL, hS, kQ, kE, h⟩ => po_none.run pins s σ H Q I ?_⟩
    unfold wpO at h
    obtain ⟨u, h1, h2⟩ := kQ _ _ _ (.refl H) hS h
    cases h1
    exact h2
  | some e =>
    simp only [Option.map_eq_some_iff] at h
    obtain ⟨c, h1, h2⟩ := h
    subst h2
    refine ⟨fun pins s σ H Q I ⟨ρ, S, Q0, E0, hL, hS, kQ, kE, h⟩ => (po_some (IH e c h1)).run pins s σ H Q I ?_⟩
    unfold wpO at h
    refine ⟨ρ, S, _, E0, hL, hS, fun p S1 H1 v e1 s1 r1 q1 => ?_, kE, h⟩
    obtain ⟨u, h1, h2⟩ := kQ _ _ _ e1 s1 q1
    cases p <;> first | (simp [partOf] at h1; done) | skip
    simp only [partOf, Option.some.injEq] at h1
    subst h1
    exact ⟨_, r1.int_inv, h2⟩
theorem tyName_ok {x : Str} {u : Ty} (h : tyName x = some u) : bootBuiltins x = some (.type (tyStr u)) ∧ (x ∈ bltNames) ∧ x ≠ "__name__" ∧ (x == ("__debug__" : Str)) = false := by
  unfold tyName at h
  split at h
  · rename_i e; cases h; subst e; exact ⟨boot_int, by decide +kernel, by decide, by decide⟩
  · split at h
    · rename_i e; cases h; subst e; exact ⟨boot_bool, by decide +kernel, by decide, by decide⟩
    · split at h
      · rename_i e; cases h; subst e; exact ⟨boot_str, by decide +kernel, by decide, by decide⟩
      · split at h
        · rename_i e; cases h; subst e; exact ⟨boot_tuple, by decide +kernel, by decide, by decide⟩
        · split at h
          · rename_i e; cases h; subst e; exact ⟨boot_list, by decide +kernel, by decide, by decide⟩
          · cases h
theorem bfOf_mem {x : Str} {f : Bf} (h : bfOf x = some f) : x ∈ bltNames ∧ x ≠ "__name__" ∧ (x == ("__debug__" : Str)) = false := by
  have e := bfOf_name h
  unfold bfOf at h
  repeat' (split at h; (rename_i e; cases h; subst e; exact ⟨by decide +kernel, by decide, by decide⟩))
  cases h
theorem opCmp_bl {op : CmpOp} {x y : P} {S : Store} {Q : QP} : opCmp op x y S Q → opCmp op x y S (fun p S' => (∃ b, p = .bl b) ∧ Q p S') := by
  unfold opCmp
  split
  · exact eqS_mono fun b h => ⟨⟨b, rfl⟩, h⟩
  · exact eqS_mono fun b h => ⟨⟨_, rfl⟩, h⟩
  · split <;> first | exact fun h => ⟨⟨_, rfl⟩, h⟩ | exact id
  · split <;> first | exact fun h => ⟨⟨_, rfl⟩, h⟩ | exact id
  · split <;> first | exact fun h => ⟨⟨_, rfl⟩, h⟩ | exact id
  · split <;> first | exact fun h => ⟨⟨_, rfl⟩, h⟩ | exact id
  · split <;> first | exact fun h => ⟨⟨_, rfl⟩, h⟩ | exact id
  · split <;> first | exact fun h => ⟨⟨_, rfl⟩, h⟩ | exact id
  · split
    · exact inF_mono fun b h => ⟨⟨_, rfl⟩, h⟩
    · split
      · exact inS_mono fun b h => ⟨⟨_, rfl⟩, h⟩
      · exact id
    · exact id
  · split
    · exact inF_mono fun b h => ⟨⟨_, rfl⟩, h⟩
    · split
      · exact inS_mono fun b h => ⟨⟨_, rfl⟩, h⟩
      · exact id
    · exact id
theorem cmp_bl (gm : GMono G) {op : CmpOp} {a b : CE} {ρ : Loc} {S : Store} {Q : QP} {E : QE} (h : wpE G (.cmp op a b) ρ S Q E) : wpE G (.cmp op a b) ρ S (fun p S' => (∃ b, p = .bl b) ∧ Q p S') E := by
  unfold wpE at h ⊢
  exact wpE_mono gm a (fun x S1 h => wpE_mono gm b (fun y S2 h => opCmp_bl h) (fun _ _ h => h) h) (fun _ _ h => h) h
theorem chn_bl (gm : GMono G) {op op' : CmpOp} {a b c : CE} {ρ : Loc} {S : Store} {Q : QP} {E : QE} (h : wpE G (.chn op op' a b c) ρ S Q E) : wpE G (.chn op op' a b c) ρ S (fun p S' => (∃ b, p = .bl b) ∧ Q p S') E := by
  unfold wpE at h ⊢
  refine wpE_mono gm a (fun x S1 h => wpE_mono gm b (fun y S2 h => opCmp_mono (fun z S3 h => ?_) h) (fun _ _ h => h) h) (fun _ _ h => h) h
  split at h
  · exact wpE_mono gm c (fun u S4 h => opCmp_bl h) (fun _ _ h => h) h
  · exact ⟨⟨_, rfl⟩, h⟩
  · exact h
theorem pt_ifExp {X : Cx} {c a b : PySem.Expr} {tc ta tb : TT} {pos : Pos} (hc : PT X c tc) (ha : PT X a ta) (hb : PT X b tb) : PT X (.IfExp c a b pos) (fun σ H Q => tc σ H fun d H1 => if d = true then ta σ H1 Q else tb σ H1 Q) := by
  refine ⟨fun pins s σ H Q I h => ?_⟩
  show wpAny _ _ (do if ← isTrue c X.env (eval c X.env) then isTrue a X.env (eval a X.env) else isTrue b X.env (eval b X.env)) _ _ s
  refine wpAny_bind (thn (hc.run pins s σ H _ I h) fun d s1 ⟨H1, I1, q1⟩ => ?_)
  cases d with
  | true => exact ha.run pins s1 σ H1 Q I1 q1
  | false => exact hb.run pins s1 σ H1 Q I1 q1
theorem sE_T : ∀ (n : Nat), (∀ (X : Cx) (sc : Scope) (W : WX), XOk B N G k sc W X → ∀ e c, trE B.T N n sc e = some c → PE X e (tE B G W c)) ∧ (∀ (X : Cx) (sc : Scope) (W : WX), XOk B N G k sc W X → ∀ e c, trE B.T N n sc e = some c → PT X e (tT B G W c)) := by
  intro n
  induction n with
  | zero => exact ⟨fun X sc W ok e c h => by simp [trE] at h, fun X sc W ok e c h => by simp [trE] at h⟩
  | succ n ih =>
    obtain ⟨ihE, ihT⟩ := ih
    have main : ∀ (X : Cx) (sc : Scope) (W : WX), XOk B N G k sc W X → ∀ e c, trE B.T N (n + 1) sc e = some c → PE X e (tE B G W c) := by
      intro X sc W ok e c h
      have IH := ihE X sc W ok
      have hK := ok.hK
      unfold trE at h
      split at h
      · cases h
        refine PE.imp pe_non fun σ H Q ⟨ρ, S, Q0, E0, hL, hS, kQ, kE, h⟩ => ?_
        unfold wpE at h
        exact here kQ hS rep_non h
      · cases h
        refine PE.imp pe_bl fun σ H Q ⟨ρ, S, Q0, E0, hL, hS, kQ, kE, h⟩ => ?_
        unfold wpE at h
        exact here kQ hS rep_bl h
      · cases h
        refine PE.imp pe_int fun σ H Q ⟨ρ, S, Q0, E0, hL, hS, kQ, kE, h⟩ => ?_
        unfold wpE at h
        exact here kQ hS rep_int h
      · cases h
        refine PE.imp pe_str fun σ H Q ⟨ρ, S, Q0, E0, hL, hS, kQ, kE, h⟩ => ?_
        unfold wpE at h
        exact here kQ hS rep_str h
      · -- a name
        rename_i x pos
        split at h
        · rename_i i hi
          cases h
          obtain ⟨h1, h2, h3, h4⟩ := slotOf_ok hi
          refine PE.imp (pe_var (i := i) (by rw [ok.hN]; exact h1) (by show Vis X.env.scope x; rw [ok.hS]; exact h2) h3 h4) fun σ H Q ⟨ρ, S, Q0, E0, hL, hS, kQ, kE, h⟩ => ?_
          unfold wpE at h
          split at h
          · rename_i p hp
            obtain ⟨v, e1, r1⟩ := hL.at_ i p hp
            exact ⟨v, e1, here kQ hS r1 h⟩
          · exact h.elim
        · split at h
          · rename_i hg
            obtain ⟨hg1, hg2⟩ := isGl_ok ok hg
            split at h
            · rename_i i hi
              cases h
              obtain ⟨v, u, h1, h2, h3⟩ := ok.pf.con i x (idx_get hi)
              refine PE.imp (pe_glob hg1 (by rw [ok.hM]; exact h1) h2 hg2) fun σ H Q ⟨ρ, S, Q0, E0, hL, hS, kQ, kE, h⟩ => ?_
              unfold wpE at h
              exact here kQ hS (h3 H) h
            · rw [Option.map_eq_some_iff] at h
              obtain ⟨i, hi, h⟩ := h
              subst h
              obtain ⟨a, h1, h2⟩ := ok.pf.fnv i x (idx_get hi)
              refine PE.imp (pe_glob (v := .ref a) hg1 (by rw [ok.hM]; exact h1) rfl hg2) fun σ H Q ⟨ρ, S, Q0, E0, hL, hS, kQ, kE, h⟩ => ?_
              unfold wpE at h
              exact here kQ hS (by unfold Rep; exact ⟨x, a, idx_get hi, h1, rfl⟩) h
          · cases h
      · -- a tuple
        split at h
        · rename_i hlen
          obtain ⟨cs, h1, h2⟩ := mapM_tup h
          subst h2
          refine PE.imp (pe_tup (pa_of IH h1)) fun σ H Q ⟨ρ, S, Q0, E0, hL, hS, kQ, kE, h⟩ => ?_
          unfold wpE at h
          refine ⟨ρ, S, _, E0, hL, hS, fun ps S1 H1 vs e1 s1 r1 q1 => ?_, kE, wpEs_len ok.pf.gm h⟩
          have hz : vs.length ≤ sizeLine := by
            rw [r1.length, q1.1, mapM_len h1]
            exact Nat.le_trans hlen (by rw [sizeLine_eq]; decide)
          exact ⟨hz, fun p hp => tup_new (kQ.at e1) s1 hp hz r1 q1.2⟩
        · cases h
      · -- a list
        split at h
        · rename_i hlen
          obtain ⟨cs, h1, h2⟩ := mapM_tup h
          subst h2
          refine PE.imp (pe_lst (pa_of IH h1)) fun σ H Q ⟨ρ, S, Q0, E0, hL, hS, kQ, kE, h⟩ => ?_
          unfold wpE at h
          refine ⟨ρ, S, _, E0, hL, hS, fun ps S1 H1 vs e1 s1 r1 q1 => ?_, kE, wpEs_len ok.pf.gm h⟩
          have hz : vs.length ≤ sizeLine := by
            rw [r1.length, q1.1, mapM_len h1]
            exact Nat.le_trans hlen (by rw [sizeLine_eq]; decide)
          exact ⟨hz, fun p hp => lst_new (kQ.at e1) s1 hp hz r1 q1.2⟩
        · cases h
      · -- an operator
        rename_i a op b pos
        obtain ⟨x, y, h1, h2, h3⟩ := map2 h
        cases h3
        obtain ⟨r, hr, hv⟩ := bin_ok (X := X) hK op
        refine PE.imp (pe_op hr (IH a x h1) (IH b y h2)) fun σ H Q ⟨ρ, S, Q0, E0, hL, hS, kQ, kE, h⟩ => ?_
        unfold wpE at h
        exact via_op hv hL hS kQ kE h
      · rename_i a pos
        rw [Option.map_eq_some_iff] at h
        obtain ⟨x, h1, h2⟩ := h
        subst h2
        refine PE.imp (pe_un un_neg (IH a x h1)) fun σ H Q ⟨ρ, S, Q0, E0, hL, hS, kQ, kE, h⟩ => ?_
        unfold wpE at h
        refine ⟨ρ, S, _, E0, hL, hS, fun p S1 H1 v e1 s1 r1 q1 => ?_, kE, h⟩
        cases p <;> try exact q1.elim
        exact ⟨_, r1.int_inv, here (kQ.at e1) s1 rep_int q1⟩
      · rename_i a pos
        rw [Option.map_eq_some_iff] at h
        obtain ⟨x, h1, h2⟩ := h
        subst h2
        refine PE.imp (pe_notT (IH a x h1)) fun σ H Q ⟨ρ, S, Q0, E0, hL, hS, kQ, kE, h⟩ => ?_
        unfold wpE at h
        refine ⟨ρ, S, _, E0, hL, hS, fun p S1 H1 v e1 s1 r1 q1 => ?_, kE, h⟩
        split at q1
        · rename_i b hb
          rw [hK]
          exact ⟨b, truth_ok s1 r1 hb, here (kQ.at e1) s1 rep_bl q1⟩
        · exact q1.elim
      · obtain ⟨xs, h1, h2⟩ := map1 h
        exact bool_ok hK IH h1 h2
      · -- a comparison
        rename_i a op b pos
        obtain ⟨x, y, h1, h2, h3⟩ := map2 h
        cases h3
        obtain ⟨r, hr, hv⟩ := cmp_ok (X := X) hK ok.room op
        refine PE.imp (pe_cmpR hr (IH a x h1) (IH b y h2) (marks_ok (trE_noSet h2))) fun σ H Q ⟨ρ, S, Q0, E0, hL, hS, kQ, kE, h⟩ => ?_
        unfold wpE at h
        exact via_op hv hL hS kQ kE h
      · rename_i a op op' b d pos
        obtain ⟨x, y, h1, h2, h3⟩ := map2 h
        obtain ⟨z, h5, h4⟩ := map1 h3
        cases h4
        obtain ⟨r, hr, hv⟩ := cmp_ok (X := X) hK ok.room op
        obtain ⟨r', hr', hv'⟩ := cmp_ok (X := X) hK ok.room op'
        refine PE.imp (pe_chain hr hr' (IH a x h1) (IH b y h2) (IH d z h5) (lastMarks_ok (trE_noSet h5))) fun σ H Q ⟨ρ, S, Q0, E0, hL, hS, kQ, kE, h⟩ => ?_
        unfold wpE at h
        refine ⟨ρ, S, _, E0, hL, hS, fun p S1 H1 v e1 s1 r1 q1 => ?_, kE, h⟩
        refine ⟨ρ, S1, _, E0, hL.ext e1, s1, fun q S2 H2 u e2 s2 r2 q2 => ?_, kE.at e1, q1⟩
        refine hv p q S2 v u H2 _ _ s2 (r1.ext e2) r2 (fun t S3 H3 w e3 s3 r3 q3 => ?_) q2
        split at q3
        · exact ⟨true, r3.bl_inv, iteT ⟨ρ, S3, _, E0, ((hL.ext e1).ext e2).ext e3, s3, fun t' S4 H4 w' e4 s4 r4 q4 => hv' q t' S4 u w' H4 Q0 Q s4 ((r2.ext e3).ext e4) r4 ((((kQ.at e1).at e2).at e3).at e4) q4, ((kE.at e1).at e2).at e3, q3⟩⟩
        · exact ⟨false, r3.bl_inv, iteF (here (((kQ.at e1).at e2).at e3) s3 rep_bl q3)⟩
        · exact q3.elim
      · -- a if c else b
        rename_i d a b pos
        obtain ⟨z, x, h1, h2, h3⟩ := map2 h
        obtain ⟨y, h5, h4⟩ := map1 h3
        cases h4
        refine PE.imp (pe_ifExp (ihT X sc W ok d z h1) (IH a x h2) (IH b y h5)) fun σ H Q ⟨ρ, S, Q0, E0, hL, hS, kQ, kE, h⟩ => ?_
        unfold wpE at h
        refine ⟨ρ, S, _, E0, hL, hS, fun p S1 H1 e1 s1 q1 => ?_, kE, h⟩
        split at q1
        · rename_i ht
          exact ⟨true, ht, iteT ⟨ρ, S1, Q0, E0, hL.ext e1, s1, kQ.at e1, kE.at e1, q1⟩⟩
        · rename_i ht
          exact ⟨false, ht, iteF ⟨ρ, S1, Q0, E0, hL.ext e1, s1, kQ.at e1, kE.at e1, q1⟩⟩
        · exact q1.elim
      · -- a slice
        rename_i a lo hi p1 p2
        obtain ⟨x, h1, h⟩ := map1 h
        obtain ⟨l, h2, h⟩ := map1 h
        obtain ⟨u, h3, h⟩ := map1 h
        cases h
        refine PE.imp (pe_slice (sl_tupA.or sl_list) (IH a x h1) (part_ok IH h2) (part_ok IH h3)) fun σ H Q ⟨ρ, S, Q0, E0, hL, hS, kQ, kE, h⟩ => ?_
        unfold wpE at h
        refine ⟨ρ, S, _, E0, hL, hS, fun p S1 H1 v e1 s1 r1 q1 => ?_, kE, h⟩
        refine ⟨ρ, S1, _, E0, hL.ext e1, s1, fun p2 S2 H2 e2 s2 q2 => ?_, kE.at e1, q1⟩
        split at q2
        · rename_i i2 hp2
          refine ⟨i2, hp2, ρ, S2, _, E0, (hL.ext e1).ext e2, s2, fun p3 S3 H3 e3 s3 q3 => ?_, (kE.at e1).at e2, q2⟩
          split at q3
          · rename_i i3 hp3
            refine ⟨i3, hp3, ?_⟩
            rw [hK]
            exact serves_slc s3 ((r1.ext e2).ext e3) (((kQ.at e1).at e2).at e3) q3
          · exact q3.elim
        · exact q2.elim
      · -- an item
        rename_i a i pos hno
        split at h
        · rename_i hp
          obtain ⟨x, y, h1, h2, h3⟩ := map2 h
          cases h3
          refine PE.imp (pe_ix ix_seq (IH a x h1) (IH i y h2) (plainIx_ok hp)) fun σ H Q ⟨ρ, S, Q0, E0, hL, hS, kQ, kE, h⟩ => ?_
          unfold wpE at h
          rw [hK]
          exact via_op serves_idx hL hS kQ kE h
        · cases h
      · -- a field
        rename_i a f pos
        split at h
        · rename_i hb
          obtain ⟨x, i, h1, h2, h3⟩ := map2 h
          cases h3
          refine PE.imp (pe_fld (IH a x h1) (attrBase_ok hb)) fun σ H Q ⟨ρ, S, Q0, E0, hL, hS, kQ, kE, h⟩ => ?_
          unfold wpE at h
          refine ⟨ρ, S, _, E0, hL, hS, fun p S1 H1 v e1 s1 r1 q1 => ?_, kE, h⟩
          cases p <;> try exact q1.elim
          rename_i l
          simp only at q1
          split at q1
          · rename_i c fs hx
            split at q1
            · rename_i p hp
              obtain ⟨y, C, dx, gs, ⟨g1, g2, g3, g4⟩, g5, g6⟩ := s1 l _ hx
              obtain ⟨u, l1, l2⟩ := RepF.look (T := B.T) ok.pf.att g6 (idx_get h2) hp
              rw [hK]
              exact ⟨l, C, dx, gs, u, r1.loc_inv, g5, g3, g4 i f (idx_get h2), l1, here (kQ.at e1) s1 l2 q1⟩
            · exact q1.elim
          · exact q1.elim
        · cases h
      · -- a call by name
        rename_i f fp args pos
        split at h
        · rename_i hc
          obtain ⟨i, hi, h⟩ := map1 h
          obtain ⟨xs, h1, h2⟩ := map1 h
          cases h2
          simp only [Bool.and_eq_true, Bool.not_eq_true', List.isEmpty_eq_false_iff] at hc
          exact cvar_ok ok hi hc.1 (pa_of IH h1) (mapM_noStar h1)
        split at h
        · rename_i hg
          split at h
          · rename_i i hi
            obtain ⟨xs, h1, h2⟩ := map1 h
            cases h2
            exact call_ok ok hg (idx_get hi) (pa_of IH h1) (mapM_noStar h1) (mapM_len h1)
          · split at h
            · rename_i i hi
              obtain ⟨xs, h1, h2⟩ := map1 h
              cases h2
              exact mk_ok ok hg (idx_get hi) (pa_of IH h1) (mapM_noStar h1) (mapM_len h1)
            · split at h
              · rename_i hf
                subst hf
                split at h
                · rename_i a t tp _
                  split at h
                  · rename_i ht
                    obtain ⟨x, u, h1, h2, h3⟩ := map2 h
                    cases h3
                    obtain ⟨t1, t2, t3, t4⟩ := tyName_ok h2
                    obtain ⟨hg1, hg2⟩ := isGl_ok ok hg
                    obtain ⟨ht1, ht2⟩ := isGl_ok ok ht
                    have pt : PE X (.Name t tp) (tC (.ty (tyStr u))) :=
                      pe_bltn ht1 (by rw [ok.hM]; exact ok.pf.blt _ t2) t1 rfl t3 ht2
                    have pa : PA X [a, .Name t tp] _ := pa_cons (IH a x h1) (pa_cons pt pa_nil) (star_cons (trE_noStar h1))
                    refine PE.imp (pe_callB call_isi hg1 (by rw [ok.hM]; exact ok.pf.blt _ (by decide +kernel)) boot_isinstance pa (by decide) hg2 (star_cons (trE_noStar h1)) rfl) fun σ H Q ⟨ρ, S, Q0, E0, hL, hS, kQ, kE, h⟩ => ?_
                    unfold wpE at h
                    refine ⟨ρ, S, _, E0, hL, hS, fun p S1 H1 v e1 s1 r1 q1 => ?_, kE, h⟩
                    split at q1
                    · rename_i tt htt
                      obtain ⟨n, w1, w2⟩ := ty_ok hK s1 r1 htt
                      rw [hK]
                      exact ⟨v, _, _, _, _, rfl, .ty _, w1, kit_ty (w2 u), here (kQ.at e1) s1 rep_bl (by simpa using q1)⟩
                    · exact q1.elim
                  · cases h
                · cases h
              · split at h
                · rename_i b hb
                  obtain ⟨xs, h1, h2⟩ := map1 h
                  cases h2
                  obtain ⟨r, hc, hv⟩ := bf_ok hK ok.calm b
                  obtain ⟨m1, m2, m3⟩ := bfOf_mem hb
                  have e := bfOf_name hb
                  subst e
                  obtain ⟨hg1, hg2⟩ := isGl_ok ok hg
                  have hmg : X.mg (bfName b) = none := by rw [ok.hM]; exact ok.pf.blt _ m1
                  have rd : ∀ {args' : List PySem.Expr} (σ : L2.St) (H : Hp) (Q : VK), tE B G W (.blt b xs) σ H Q → tCB r (tA B G W xs) σ H Q := fun {args'} σ H Q ⟨ρ, S, Q0, E0, hL, hS, kQ, kE, h⟩ => by
                    unfold wpE at h
                    exact ⟨ρ, S, _, E0, hL, hS, fun ps S1 H1 vs e1 s1 r1 q1 => hv ps S1 vs H1 Q0 Q s1 r1 (kQ.at e1) q1, kE, h⟩
                  have hs := mapM_noStar h1
                  have pa := pa_of IH h1
                  cases args with
                  | nil =>
                    refine ⟨fun pins s σ H Q I ⟨ρ, S, Q0, E0, hL, hS, kQ, kE, h⟩ => ?_⟩
                    have : xs = [] := List.eq_nil_of_length_eq_zero (mapM_len h1)
                    subst this
                    unfold wpE wpEs at h
                    exfalso
                    cases b <;> exact h
                  | cons a es =>
                    cases hc with
                    | fn id hbo c => exact PE.imp (pe_callB c hg1 hmg hbo pa m2 hg2 (star_cons (hs a List.mem_cons_self)) (star_all fun e he => hs e (List.mem_cons_of_mem _ he))) (rd (args' := []))
                    | ty TT hbo c => exact PE.imp (pe_callTy c hg1 hmg hbo pa m2 hg2 (star_cons (hs a List.mem_cons_self)) (star_all fun e he => hs e (List.mem_cons_of_mem _ he))) (rd (args' := []))
                · cases h
        · cases h
      · -- a method's call
        rename_i a m apos args pos
        split at h
        · cases h
        · rename_i hb
          have hb' : plainBase0 a = true := by simpa using hb
          split at h
          · rename_i i hi
            split at h
            · rename_i hc
              obtain ⟨x, xs, h1, h2, h3⟩ := map2 h
              cases h3
              simp only [Bool.and_eq_true, decide_eq_true_eq] at hc
              exact mth_ok ok (idx_get hi) hb' hc.1 hc.2 (IH a x h1) (pa_of IH h2) (mapM_noStar h2) (mapM_len h2)
            · cases h
          · split at h
            · rename_i b hbm
              split at h
              · rename_i hc
                obtain ⟨x, xs, h1, h2, h3⟩ := map2 h
                cases h3
                simp only [Bool.and_eq_true, decide_eq_true_eq] at hc
                exact bmt_ok ok hbm hb' hc.1 hc.2 (IH a x h1) (pa_of IH h2) (mapM_noStar h2) (mapM_len h2)
              · cases h
            · cases h
      · -- a comprehension
        rename_i elt tg iter ifs scope pos
        simp only at h
        split at h
        · rename_i hblk
          obtain ⟨t, h1, h⟩ := map1 h
          obtain ⟨x, h2, h⟩ := map1 h
          obtain ⟨c', h3, h⟩ := map1 h
          obtain ⟨⟨ik, as⟩, h4, h⟩ := map1 h
          simp only at h
          split at h
          · rename_i hv
            cases h
            obtain ⟨wi, hi, hw⟩ := iter_ok ok IH h4
            have hset : noSet iter = true := by
              cases iter <;> first | rfl | simp [trI] at h4
            have hgv : ∀ (s : Shared) (H : Hp) (C : Addr) (cl : List (Str × Addr)) (fp : List Addr), PG (X.blk s H scope (compEnvC scope cl C X.env) fp) tg (gVT B t) := fun s H C cl fp =>
              let o := ok.blk s H scope C cl fp
              vt_ok (fun z => by cases z) o.hK o.hN o.nd o.hS o.calm 8 tg t h1
            have hel : ∀ (s : Shared) (H : Hp) (C : Addr) (cl : List (Str × Addr)) (fp : List Addr), PE (X.blk s H scope (compEnvC scope cl C X.env) fp) elt (tE B G noW x) := fun s H C cl fp => ihE _ _ _ (ok.blk s H scope C cl fp) elt x h2
            have hts : ∀ (s : Shared) (H : Hp) (C : Addr) (cl : List (Str × Addr)) (fp : List Addr), PTs (X.blk s H scope (compEnvC scope cl C X.env) fp) ifs (tCond B G c') := fun s H C cl fp => by
              cases ifs with
              | nil => cases h3; exact pts_nil
              | cons ef r =>
                cases r with
                | nil =>
                  simp only [Option.map_eq_some_iff] at h3
                  obtain ⟨ce, h5, h6⟩ := h3
                  subst h6
                  exact pts_one (ihT _ _ _ (ok.blk s H scope C cl fp) ef ce h5)
                | cons _ _ => cases h3
            refine PE.imp (pe_lc ok.calm ok.nd hi (blkOk_by (by rw [ok.hN, ok.hS]; exact hblk)) hgv hts hel (folded_ok hset)) fun σ H Q hw' => ?_
            exact comp_ok (pos := pos) ok hblk hv hi hw hset hgv hts hel hw'
          · cases h
        · cases h
      · cases h
    refine ⟨main, ?_⟩
    intro X sc W ok e c h
    have hPE := main X sc W ok e c h
    have IH := ihE X sc W ok
    have IHT := ihT X sc W ok
    by_cases hp : plainTest e = true
    · exact test_of ok.hK hPE hp
    · cases e <;> try (exact absurd rfl hp)
      · -- and, or
        rename_i b es pos
        unfold trE at h
        obtain ⟨xs, h1, h2⟩ := map1 h
        exact (boolT_ok IHT h1 h2).pt
      · -- not
        rename_i op a pos
        cases op <;> try (exact absurd rfl hp)
        unfold trE at h
        simp only [Option.map_eq_some_iff] at h
        obtain ⟨x, h1, h2⟩ := h
        subst h2
        refine PT.imp (pt_not (IHT a x h1)) fun σ H Q ⟨ρ, S, Q0, E0, hL, hS, kQ, kE, h⟩ => ?_
        unfold wpE at h
        refine ⟨ρ, S, _, E0, hL, hS, fun p S1 H1 e1 s1 q1 => ?_, kE, h⟩
        split at q1
        · rename_i b hb
          obtain ⟨b', h3, h4⟩ := kQ _ _ _ e1 s1 q1
          simp only [truthS, Option.some.injEq] at h3
          subst h3
          exact ⟨b, hb, h4⟩
        · exact q1.elim
      · -- a if c else b
        rename_i d a b pos
        unfold trE at h
        obtain ⟨z, x, h1, h2, h3⟩ := map2 h
        obtain ⟨y, h5, h4⟩ := map1 h3
        cases h4
        refine PT.imp (pt_ifExp (IHT d z h1) (IHT a x h2) (IHT b y h5)) fun σ H Q ⟨ρ, S, Q0, E0, hL, hS, kQ, kE, h⟩ => ?_
        unfold wpE at h
        refine ⟨ρ, S, _, E0, hL, hS, fun p S1 H1 e1 s1 q1 => ?_, kE, h⟩
        split at q1
        · rename_i ht
          exact ⟨true, ht, iteT ⟨ρ, S1, Q0, E0, hL.ext e1, s1, fun p S2 H2 e2 => kQ p S2 H2 (e1.trans e2), kE.at e1, q1⟩⟩
        · rename_i ht
          exact ⟨false, ht, iteF ⟨ρ, S1, Q0, E0, hL.ext e1, s1, fun p S2 H2 e2 => kQ p S2 H2 (e1.trans e2), kE.at e1, q1⟩⟩
        · exact q1.elim
      · -- a comparison
        rename_i a ops bs pos
        cases ops with
        | nil => simp [trE] at h
        | cons op ops =>
          cases ops with
          | nil =>
            cases bs with
            | nil => simp [trE] at h
            | cons b bs =>
              cases bs with
              | cons _ _ => simp [trE] at h
              | nil =>
                unfold trE at h
                simp only at h
                obtain ⟨x, y, h1, h2, h3⟩ := map2 h
                cases h3
                obtain ⟨r, hr, hv⟩ := cmp_ok (X := X) ok.hK ok.room op
                refine PT.imp (pt_cmpR hr (IH a x h1) (IH b y h2) (marks_ok (trE_noSet h2))) fun σ H Q ⟨ρ, S, Q0, E0, hL, hS, kQ, kE, h⟩ => ?_
                have h := cmp_bl ok.pf.gm h
                unfold wpE at h
                refine via_op hv hL hS (fun p S' H' v e s r ⟨⟨b, hb⟩, q⟩ => ?_) kE h
                subst hb
                obtain ⟨b', h3, h4⟩ := kQ _ _ _ e s q
                simp only [truthS, Option.some.injEq] at h3
                subst h3
                exact ⟨b, r.bl_inv, h4⟩
          | cons op' ops =>
            cases ops with
            | cons _ _ => simp [trE] at h
            | nil =>
              cases bs with
              | nil => simp [trE] at h
              | cons b bs =>
                cases bs with
                | nil => simp [trE] at h
                | cons d bs =>
                  cases bs with
                  | cons _ _ => simp [trE] at h
                  | nil =>
                    unfold trE at h
                    simp only at h
                    obtain ⟨x, y, h1, h2, h3⟩ := map2 h
                    obtain ⟨z, h5, h4⟩ := map1 h3
                    cases h4
                    obtain ⟨r, hr, hv⟩ := cmp_ok (X := X) ok.hK ok.room op
                    obtain ⟨r', hr', hv'⟩ := cmp_ok (X := X) ok.hK ok.room op'
                    refine PT.imp (pt_chain hr hr' (IH a x h1) (IH b y h2) (IH d z h5) (lastMarks_ok (trE_noSet h5))) fun σ H Q ⟨ρ, S, Q0, E0, hL, hS, kQ, kE, h⟩ => ?_
                    have h := chn_bl ok.pf.gm h
                    have kQ' : OkQ B H (fun p S' => (∃ b, p = .bl b) ∧ Q0 p S') (fun v H' => ∃ k, v = .bl k ∧ Q k H') := fun p S' H' v e s r ⟨⟨b, hb⟩, q⟩ => by
                      subst hb
                      obtain ⟨b', h3, h4⟩ := kQ _ _ _ e s q
                      simp only [truthS, Option.some.injEq] at h3
                      subst h3
                      exact ⟨b, r.bl_inv, h4⟩
                    unfold wpE at h
                    refine ⟨ρ, S, _, E0, hL, hS, fun p S1 H1 v e1 s1 r1 q1 => ?_, kE, h⟩
                    refine ⟨ρ, S1, _, E0, hL.ext e1, s1, fun q S2 H2 u e2 s2 r2 q2 => ?_, kE.at e1, q1⟩
                    refine hv p q S2 v u H2 _ _ s2 (r1.ext e2) r2 (fun t S3 H3 w e3 s3 r3 q3 => ?_) q2
                    split at q3
                    · exact ⟨true, r3.bl_inv, iteT ⟨ρ, S3, _, E0, ((hL.ext e1).ext e2).ext e3, s3, fun t' S4 H4 w' e4 s4 r4 q4 => hv' q t' S4 u w' H4 _ _ s4 ((r2.ext e3).ext e4) r4 ((((kQ'.at e1).at e2).at e3).at e4) q4, ((kE.at e1).at e2).at e3, q3⟩⟩
                    · exact ⟨false, r3.bl_inv, iteF (here (((kQ'.at e1).at e2).at e3) s3 rep_bl q3)⟩
                    · exact q3.elim
end
end Core

set_option maxRecDepth 100000
set_option maxHeartbeats 4000000
/-! Core13: targets with expressions, errors, except clauses. -/
namespace Core
open PySem L2 PySem.Spec PyProof.Rows
/-- where a statement stands: in a def's own body -/
structure SOk (B : Bs) (N : List Str) (G : Env) (k : Nat) (sc : Scope) (W : WX) (X : Cx) : Prop extends XOk B N G k sc W X where
  fnx : ∀ x, X.fn x = true
  stk : X.stack = X.env :: X.outer
  frm : X.env.frame = some X.env.locals
  pas : PassesOwn (model X.prog X.w) X.A X.env X.xe
  fun_ : sc.kind = .function
section
variable {B : Bs} {N : List Str} {G : Env} {k : Nat} {sc : Scope} {W : WX} {X : Cx}
def OkG (B : Bs) (H : Hp) (n : Nat) (Q0 : Loc → Store → Prop) (Q : L2.St → Hp → Prop) : Prop := ∀ ρ S H' σ, Ext H H' → RelS B S H' → RelL B H' σ ρ → σ.length = n → Q0 ρ S → Q σ H'
theorem OkG.at {H H1 : Hp} {n : Nat} {Q0 : Loc → Store → Prop} {Q : L2.St → Hp → Prop} (h : OkG B H n Q0 Q) (e : Ext H H1) : OkG B H1 n Q0 Q := fun ρ S H' σ e' => h ρ S H' σ (e.trans e')
/-- the wish about errors, whatever the slots -/
def OkW (B : Bs) (H : Hp) (n : Nat) (E0 : QE) (W : WX) : Prop := ∀ σ : L2.St, σ.length = n → OkX B H E0 (fun cls d H' => W cls d σ H')
theorem OkW.at {H H1 : Hp} {n : Nat} {E0 : QE} {W : WX} (h : OkW B H n E0 W) (e : Ext H H1) : OkW B H1 n E0 W := fun σ z => (h σ z).at e
def gTg (B : Bs) (G : Env) (W : WX) (t : Tgt) : TG := fun v σ H Q => ∃ (p : P) (ρ : Loc) (S : Store) (Q0 : Loc → Store → Prop) (E0 : QE), RelL B H σ ρ ∧ RelS B S H ∧ Rep B H p v ∧ OkG B H σ.length Q0 Q ∧ OkW B H σ.length E0 W ∧ wpT G t p ρ S Q0 E0
def gTgs (B : Bs) (G : Env) (W : WX) (ts : List Tgt) : TGs := fun vs σ H Q => ∃ (ps : List P) (ρ : Loc) (S : Store) (Q0 : Loc → Store → Prop) (E0 : QE), RelL B H σ ρ ∧ RelS B S H ∧ Reps B H ps vs ∧ OkG B H σ.length Q0 Q ∧ OkW B H σ.length E0 W ∧ wpTs G ts ps ρ S Q0 E0
/-- o.f = .. as a target -/
def gFld (K : PySem.W.Frag) (to : TE) (f : Str) : TG := fun v σ H Q => to σ H fun x H1 => ∃ a C dx fs, x = .ref a ∧ H1 a = some (.ins C dx fs) ∧ Cls K C ∧ NoAttr K C f ∧ fs.length < 1000 ∧ Q σ (L2.upd H1 a (.ins C dx (putF f v fs)))
theorem pg_fld {o : PySem.Expr} {to : TE} {f : Str} {pos : Pos} (ho : PE X o to) : PG X (.Attribute o f pos) (gFld X.K to f) := by
  constructor
  intro pins s σ H v u Q I r h
  show wpAny _ _ (do
    let ov ← holding [u] (eval o X.env)
    standAt pos.atName
    holding [u, ov] (setAttr ov f u)
    release [u, ov] []) _ _ _
  refine wpAny_bind (wpAny_holding (thn (ho.run pins s σ H _ I h) fun ov s1 ⟨x, H1, I1, r1, a, C, dx, fs, ex, ea, c, n, l, q⟩ => ?_))
  cases ex
  cases r1
  exact wpAny_bind (wpAny_standAt (wpAny_bind (wpAny_holding (setattr_ok I1 ea c n l r fun s2 I2 => wpAny_release ⟨σ, _, I2, q⟩))))
theorem RepF.put {H : Hp} {f : Nat} {x : Str} {p : P} {v : V} (nd : B.T.att.Nodup) (hx : B.T.att[f]? = some x) (r : Rep B H p v) : ∀ {fs : List (Nat × P)} {gs : List (Str × V)}, RepF B H fs gs → RepF B H (putN f p fs) (putF x v gs)
  | [], _, h => by
    rw [show _ = [] from h]
    exact ⟨x, v, [], rfl, hx, r, rfl⟩
  | (g, q) :: fs, _, ⟨y, u, t, rfl, h2, h3, h4⟩ => by
    by_cases e : g = f
    · subst e
      rw [hx] at h2; cases h2
      unfold putN putF
      rw [if_pos rfl, if_pos rfl]
      exact ⟨x, v, t, rfl, hx, r, h4⟩
    · have ne : ¬ y = x := fun z => e (nodup_ix nd (z ▸ h2) hx)
      unfold putN putF
      rw [if_neg e, if_neg ne]
      exact ⟨y, u, _, rfl, h2, h3, RepF.put nd hx r h4⟩
theorem tgtM_star {n : Nat} {T : Tab} {tr : PySem.Expr → Option CE} {e : PySem.Expr} {t : Tgt} (h : trT T N tr sc n e = some t) : noStar e = true := by
  cases n with
  | zero => simp [trT] at h
  | succ n => cases e <;> first | rfl | simp [trT] at h
theorem tgtMs_star {n : Nat} {T : Tab} {tr : PySem.Expr → Option CE} : ∀ {es : List PySem.Expr} {ts : List Tgt}, es.mapM (trT T N tr sc n) = some ts → ∀ e ∈ es, noStar e = true
  | [], _, _, e, he => by simp at he
  | a :: es, cs, h, e, he => by
    rw [List.mapM_cons] at h
    obtain ⟨c, h1, h⟩ := map1 h
    obtain ⟨ds, h2, h⟩ := map1 h
    cases he with
    | head => exact tgtM_star h1
    | tail _ he => exact tgtMs_star h2 e he
theorem wpT_no (gm : GMono G) : ∀ (ts : List Tgt) (ps : List P) (ρ : Loc) (S : Store) (Q : Loc → Store → Prop) (E : QE), wpTs G ts ps ρ S Q E → wpTs G ts ps ρ S (fun ρ S => True) E := fun ts ps ρ S Q E h => wpTs_mono gm ts (fun _ _ _ => trivial) (fun _ _ h => h) h
theorem tg_ok (ok : SOk B N G k sc W X) : ∀ (n : Nat) (e : PySem.Expr) (t : Tgt), trT B.T N (trE B.T N 40 sc) sc n e = some t → PG X e (gTg B G W t)
  | 0, e, t, h => by simp [trT] at h
  | n + 1, e, t, h => by
    have IH := (sE_T (B := B) (N := N) (G := G) (k := k) 40).1 X sc W ok.toXOk
    have pe : ∀ {a : PySem.Expr} {c : CE}, trE B.T N 40 sc a = some c → PE X a (tE B G W c) := fun {a c} h => IH a c h
    cases e with
    | Name x pos =>
      have nm : ∀ {i : Nat}, N[i]? = some x → L2.Loc X.env.scope x → t = .nm i → PG X (.Name x pos) (gTg B G W t) := fun {i} hi hl ht => by
        subst ht
        refine PG.imp (pg_name (i := i) ok.nd (by rw [ok.hN]; exact hi) hl (.inl (ok.fnx x))) fun v σ H Q ⟨p, ρ, S, Q0, E0, hL, hS, r, kQ, kE, hw⟩ => ?_
        unfold wpT at hw
        exact kQ _ _ _ _ (.refl H) hS (hL.set r) (by simp) hw
      simp only [trT] at h
      split at h
      · rename_i hx
        rw [Option.map_eq_some_iff] at h
        obtain ⟨i, h1, h2⟩ := h
        exact nm (idx_get h1) (.inl (by rw [ok.hS]; exact hx)) h2.symm
      · rename_i hx
        rw [Option.map_eq_some_iff] at h
        obtain ⟨i, h1, h2⟩ := h
        exact nm (idx_get h1) (.inr (by rw [ok.hS]; exact hx)) h2.symm
      · cases h
    | Tuple es kk pos =>
      simp only [trT, Option.map_eq_some_iff] at h
      obtain ⟨ts, h1, h2⟩ := h
      subst h2
      have all : ∀ {es : List PySem.Expr} {ts : List Tgt}, es.mapM (trT B.T N (trE B.T N 40 sc) sc n) = some ts → PGs X es (fun vs σ H Q => vs.length = ts.length ∧ gTgs B G W ts vs σ H Q) := by
        intro es
        induction es with
        | nil =>
          intro ts h
          simp at h; subst h
          refine PGs.imp pgs_nil fun vs σ H Q ⟨_, ps, ρ, S, Q0, E0, hL, hS, r, kQ, kE, hw⟩ => ?_
          cases ps with
          | nil => exact ⟨r.nil_inv, kQ _ _ _ _ (.refl H) hS hL rfl hw⟩
          | cons _ _ => exact hw.elim
        | cons a es ih =>
          intro ts h
          rw [List.mapM_cons] at h
          obtain ⟨t, h1, h⟩ := map1 h
          obtain ⟨ts, h2, h⟩ := map1 h
          cases h
          refine PGs.imp (pgs_cons (tg_ok ok n a t h1) (ih h2) (by rw [assign_star (tgtM_star h1)]; rfl)) fun vs σ H Q ⟨hlen, ps, ρ, S, Q0, E0, hL, hS, r, kQ, kE, hw⟩ => ?_
          cases ps with
          | nil => exact hw.elim
          | cons p ps =>
            obtain ⟨v, rest, rfl, r1, r2⟩ := r.cons_inv
            refine ⟨v, rest, rfl, p, ρ, S, _, E0, hL, hS, r1, fun ρ' S' H' σ' e' s' hL' hn q => ?_, kE, hw⟩
            exact ⟨by simpa using hlen, ps, ρ', S', Q0, E0, hL', s', r2.ext e', (hn ▸ kQ).at e', (hn ▸ kE).at e', q⟩
      obtain ⟨hl, hi⟩ := assign_len (env := X.env) (tgtMs_star h1)
      refine PG.imp (pg_tup ok.calm (all h1) hl hi) fun v σ H Q ⟨p, ρ, S, Q0, E0, hL, hS, r, kQ, kE, hw⟩ => ?_
      unfold wpT at hw
      cases p <;> try (exact hw.elim)
      rename_i ps
      obtain ⟨a, vs, rfl, s1, z1, r1⟩ := r.tup_inv
      rw [ok.hK]
      have hw' := hw.2
      exact ⟨a, vs, rfl, s1, by rw [r1.length, hw.1, mapM_len h1], by rw [r1.length, hw.1], ps, ρ, S, Q0, E0, hL, hS, r1, kQ, kE, hw'⟩
    | Subscript a i pos =>
      simp only [trT] at h
      split at h
      · obtain ⟨x, y, h1, h2, h3⟩ := map2 h
        cases h3
        rename_i hp
        refine PG.imp (pg_sub (pe h1) (pe h2) set_list (fun v => by cases i <;> first | rfl | cases hp)) fun v σ H Q ⟨p, ρ, S, Q0, E0, hL, hS, r, kQ, kE, hw⟩ => ?_
        unfold wpT at hw
        refine ⟨ρ, S, _, E0, hL, hS, fun q S1 H1 u e1 s1 r1 q1 => ?_, kE σ rfl, hw⟩
        refine ⟨ρ, S1, _, E0, hL.ext e1, s1, fun q' S2 H2 u' e2 s2 r2 q2 => ?_, (kE σ rfl).at e1, q1⟩
        split at q2
        · rename_i l xs j hl
          obtain ⟨rfl, hx⟩ := lstS_inv hl
          obtain ⟨us, t1, z1, rr⟩ := s2.lst hx
          obtain ⟨m, m1, m2⟩ := q2 (by rw [← rr.length]; exact z1)
          have r' := (r.ext e1).ext e2
          exact ⟨l, us, j, m, (r1.ext e2).loc_inv, r2.int_inv, t1, by rw [rr.length]; exact m1, kQ _ _ _ _ ((e1.trans e2).trans (.lst t1)) (s2.setL t1 (by simpa using z1) (rr.set r' m)) (((hL.ext e1).ext e2).ext (.lst t1)) rfl m2⟩
        · exact q2.elim
      · cases h
    | Attribute a f pos =>
      simp only [trT] at h
      split at h
      · obtain ⟨x, i, h1, h2, h3⟩ := map2 h
        cases h3
        refine PG.imp (pg_fld (pe h1)) fun v σ H Q ⟨p, ρ, S, Q0, E0, hL, hS, r, kQ, kE, hw⟩ => ?_
        unfold wpT at hw
        refine ⟨ρ, S, _, E0, hL, hS, fun q S1 H1 u e1 s1 r1 q1 => ?_, kE σ rfl, hw⟩
        cases q <;> try exact q1.elim
        rename_i l
        simp only at q1
        split at q1
        · rename_i c fs hx
          obtain ⟨y, C, dx, gs, ⟨g1, g2, g3, g4⟩, g5, g6⟩ := s1 l _ hx
          rw [ok.hK]
          have ex : Ext H1 (L2.upd H1 l (.ins C dx (putF f v gs))) := .ins g5
          refine ⟨l, C, dx, gs, r1.loc_inv, g5, g3, g4 i f (idx_get h2), by rw [g6.length]; exact q1.1, kQ _ _ _ _ (e1.trans ex) (s1.upd (o := .ins c (putN i p fs)) ex ⟨y, C, dx, _, ⟨g1, g2, g3, g4⟩, L2.upd_same, RepF.put ok.pf.att (idx_get h2) ((r.ext e1).ext ex) (g6.ext ex)⟩) ((hL.ext e1).ext ex) rfl q1.2⟩
        · exact q1.elim
      · cases h
    | _ => simp [trT] at h
end
end Core

set_option maxRecDepth 100000
set_option maxHeartbeats 4000000
/-! Core14: errors raised; except clauses with and without names, mixed. -/
namespace Core
open PySem L2 PySem.Spec PyProof.Rows
abbrev Suite := Addr → Value → Option Addr → TS
abbrev Clause := Value × Option Nat × Suite
/-- what is wanted behind a suite whose name goes at its end -/
def unName (D : Ends) : Option Nat → Ends
  | none => D
  | some i => { nx := fun σ' H' => D.nx (σ'.set i none) H', rt := D.rt, bk := fun σ' H' => D.bk (σ'.set i none) H', ct := fun σ' H' => D.ct (σ'.set i none) H' }
def inName (σ : L2.St) (a : Addr) : Option Nat → L2.St
  | none => σ
  | some i => σ.set i (some (.ref a))
/-- the clauses' wish about an error of the body -/
def wMix (K : PySem.W.Frag) (Wo : WX) (D : Ends) : List Clause → WX
  | [] => Wo
  | (c, oi, ts) :: r => fun cls d σ H => ∃ b, PySem.W.exmOne K cls c = some b ∧ (b = true → ∀ a, H a = none → ts a cls d (unName D oi) (inName σ a oi) H) ∧ (b = false → wMix K Wo D r cls d σ H)
/-- a clause's name and its slot -/
inductive NmOk (X : Cx) : Option Str → Option Nat → Prop
  | no : NmOk X none none
  | yes {n : Str} {i : Nat} (h : X.N[i]? = some n) (l : X.env.kindOf n = some .local) : NmOk X (some n) (some i)
inductive Clauses (X : Cx) : List ExceptHandler → List Clause → Prop
  | nil : Clauses X [] []
  | cons {x : Str} {c : Value} {ts : Suite} {b₀ : Stmt} {suite : List Stmt} {np p' : Pos} {nm : Option Str} {oi : Option Nat} {hds : List ExceptHandler} {l : List Clause} (hc : Names X x c) (hn : NmOk X nm oi)
      (hsu : ∀ (a : Addr) (oe : Obj) (cls : Value) (d : Option Addr) (pn : List (Addr × Obj)), Zc cls d oe → (∃ vs, oe.data = .fields vs) → PSs (X.suite a ((a, oe) :: pn)) (b₀ :: suite) (ts a cls d)) (r : Clauses X hds l) :
      Clauses X (.ExceptHandler (some (.Name x np)) nm (b₀ :: suite) p' :: hds) ((c, oi, ts) :: l)
section
variable {X : Cx}
/-- the clauses, from the error on the ground -/
theorem clauses_run {pins : List (Addr × Obj)} {σ : L2.St} {H : Hp} {sI s' : Shared} {B : Heap} {a : Addr} {cls : Value} {d : Option Addr} {D : Ends} {Wo : WX} {h3 : Heap} (hs : X.stack = X.env :: X.outer) (hf : X.env.frame = some X.env.locals) (hN : X.N.Nodup) (tk : Takes X Wo) (ok : X.Ok)
    (J : Inv X pins σ H sI) (nb : ∀ b o, sI.heap.get? b = some o → b ∉ frs X.stack → B.get? b = some o) (fl3 : HandSPX.FlyingZ B (X.env :: X.outer) a (Zc cls d) h3) (up3 : sI.heap.UpToSlots h3) (na : H a = none) (os : s'.os = sI.os) (ag : AllBare s'.gens) :
    ∀ {hds : List ExceptHandler} {l : List Clause}, Clauses X hds l → wMix X.K Wo D l cls d σ H → wpAny (model X.prog X.w) X.A (handleBy (.ref a) X.env hds) (SP X pins D) X.xe { s' with heap := h3 } := by
  have J3 : Inv X pins σ H { s' with heap := h3 } := J.landed nb fl3.1 up3 os ag
  obtain ⟨oe3, vs3, he3, hz3, hd3⟩ := fl3.there
  have nfr : a ∉ frs (X.env :: X.outer) := by
    intro hm
    obtain ⟨_, o', e', hnf⟩ := fl3.2.2.1.mem hm
    rw [he3] at e'
    cases e'
    exact hnf _ hd3
  have nL : a ≠ X.env.locals := by
    intro z
    exact nfr (List.mem_filterMap.mpr ⟨X.env, List.mem_cons_self, by rw [hf, z]⟩)
  have nF : a ∉ X.fs := by
    intro hm
    obtain ⟨e, he, q⟩ := List.mem_filterMap.mp hm
    exact nfr (List.mem_filterMap.mpr ⟨e, List.mem_cons_of_mem _ he, q⟩)
  intro hds l hcl
  induction hcl with
  | nil =>
    intro w
    refine wpAny_handleBy_nil ?_
    obtain ⟨_, _, _, oe, vs, T, oT, ts', he, hz, hd, h1, _⟩ := id fl3
    unfold PySem.passOn
    refine wpAny_bind (wpAny_field he hd h1 ?_)
    rw [if_neg (by simp : ¬ ((Value.ref T == Value.none) = true))]
    have goes : wpAny (model X.prog X.w) X.A (setFlight (.ref a) X.env.frame) (fun _ s4 => wpAny (model X.prog X.w) X.A (throw (.ref a) : Sem Flow) (SP X pins D) X.xe s4) X.xe { s' with heap := h3 } := by
      rw [hf]
      refine HandSPX.setFlight_upZ fl3 fun h4 hh4 up4 => ?_
      refine wpAny_throw (tk _ _ ⟨a, B, sI, pins, σ, H, cls, d, rfl, J, nb, up3.trans up4, .inr (.inr ?_), na, os, ag, w⟩)
      rw [hs]
      exact hh4
    first
      | exact wpAny_bind (wpAny_pure (wpAny_bind goes))
      | exact wpAny_bind goes
  | @cons x c ts b₀ suite np p' nm oi hds l hc hn hsu r ih =>
    rintro ⟨b, hb1, hyes, hno⟩
    refine wpAny_handleBy_cons (codeAny_handlers_test ?_) (by intro q; cases q)
    have S3 := J3.suite he3 hd3 na nL nF
    have LT : PySem.W.Looks (model X.prog X.w) h3 (typeOf (.ref a)) cls := fun A Q E s kk q => wpAny_typeOf_ref (kk _ _ he3) (by rw [hz3.1]; exact q)
    have LM := PySem.W.exm_one (M := model X.prog X.w) J3.kIn LT hb1
    have named : ∀ {Q E : Value → Shared → Prop}, Q c { s' with heap := h3 } → wpAny (model X.prog X.w) (X.A.mark (some (.ref a))) (eval (.Name x np) X.env) Q E { s' with heap := h3 } := by
      intro Q E q
      obtain ⟨hg, hdbg, hm | ⟨hm, hv, hnn⟩⟩ := hc
      · exact ld_glob (X := X.suite a ((a, oe3) :: (X.pn ++ pins))) S3 hg hm q hdbg
      · exact ld_blt (X := X.suite a ((a, oe3) :: (X.pn ++ pins))) S3 hg hm hv q hnn hdbg
    refine named (LM.here ?_)
    cases b with
    | false => exact ih (hno rfl)
    | true =>
      cases hn with
      | no =>
        refine codeAny_handlers_suite (HandSPX.lands_againZ fl3 fun h4 fl4 up4 => ?_)
        have J4 : Inv X pins σ H { s' with heap := h4 } := J.landed nb fl4.1 (up3.trans up4) os ag
        obtain ⟨oe4, vs4, he4, hz4, hd4⟩ := fl4.there
        have S4 := J4.suite he4 hd4 na nL nF
        refine wpAny_mono ((hsu a oe4 cls d (X.pn ++ pins) hz4 ⟨_, hd4⟩).run [] _ _ H _ S4 (hyes rfl a na)) ?_ (fun _ _ z => z.elim)
        intro f s6 hsp
        cases f with
        | ret u =>
          obtain ⟨v6, σ6, H6, S6, r6, q6⟩ := hsp
          exact ⟨_, _, _, S6.unsuite ok, r6, q6⟩
        | next => obtain ⟨σ6, H6, S6, q6⟩ := hsp; exact ⟨_, _, S6.unsuite ok, q6⟩
        | brk => obtain ⟨σ6, H6, S6, q6⟩ := hsp; exact ⟨_, _, S6.unsuite ok, q6⟩
        | cont => obtain ⟨σ6, H6, S6, q6⟩ := hsp; exact ⟨_, _, S6.unsuite ok, q6⟩
      | @yes n i hi hln =>
        refine codeAny_handlers_suite_as (HandSPX.lands_againZ fl3 fun h4 fl4 up4 => ?_)
        have J4 : Inv X pins σ H { s' with heap := h4 } := J.landed nb fl4.1 (up3.trans up4) os ag
        obtain ⟨oe4, vs4, he4, hz4, hd4⟩ := fl4.there
        have S4 := J4.suite he4 hd4 na nL nF
        refine store_ok (X := X.suite a ((a, oe4) :: (X.pn ++ pins))) (v := .ref a) S4 hN hi (.inl hln) rfl (fun s5 S5 => ?_) (.inr hln)
        refine wpAny_mono ((hsu a oe4 cls d (X.pn ++ pins) hz4 ⟨_, hd4⟩).run [] s5 _ H _ S5 (hyes rfl a na)) ?_ (fun _ _ z => z.elim)
        intro f s6 hsp
        have away : ∀ {σ6 : L2.St} {H6 : Hp} {Q : Shared → Prop}, Inv (X.suite a ((a, oe4) :: (X.pn ++ pins))) [] σ6 H6 s6 → (∀ s7, Inv X pins (σ6.set i none) H6 s7 → Q s7) →
            wpAny (model X.prog X.w) X.A (do bindName X.env n .none; unbindBehindTheSuite X.env n p') (fun _ s7 => Q s7) X.xe s6 := fun S6 hq => gone_ok (S6.unsuite ok) hN hi hln hq
        cases f with
        | ret u =>
          obtain ⟨v6, σ6, H6, S6, r6, q6⟩ := hsp
          exact away S6 fun s7 J7 => ⟨_, _, _, J7, r6, q6⟩
        | next => obtain ⟨σ6, H6, S6, q6⟩ := hsp; exact away S6 fun s7 J7 => ⟨_, _, J7, q6⟩
        | brk => obtain ⟨σ6, H6, S6, q6⟩ := hsp; exact away S6 fun s7 J7 => ⟨_, _, J7, q6⟩
        | cont => obtain ⟨σ6, H6, S6, q6⟩ := hsp; exact away S6 fun s7 J7 => ⟨_, _, J7, q6⟩
theorem ps_try_mix {body : List Stmt} {h₀ : ExceptHandler} {hds : List ExceptHandler} {l : List Clause} {pos : Pos} {tb : WX → TS} {Wo : WX} (hs : X.stack = X.env :: X.outer) (hf : X.env.frame = some X.env.locals) (hN : X.N.Nodup) (tk : Takes X Wo)
    (hb : ∀ (W : WX) (pn : List (Addr × Obj)) (xe : Value → Shared → Prop), Takes (X.tr pn xe) W → PassesOwn (model X.prog X.w) X.A X.env xe → PSs (X.tr pn xe) body (tb W))
    (hh : Clauses X (h₀ :: hds) l) : PS X (.Try body (h₀ :: hds) [] [] pos) (fun D σ H => tb (wMix X.K Wo D l) D σ H) := by
  constructor
  intro pins s σ H D I h
  have ok := I.ok
  have hfr : X.A.frames = some (X.env :: X.outer) := by rw [ok.frames, hs]
  refine wpAny_Try_except ?_
  have bodyRun := (hb (wMix X.K Wo D l) (X.pn ++ pins) (fun e s₁ => wpAny (model X.prog X.w) X.A (noteFrame e X.env) (fun _ s₂ => wpAny (model X.prog X.w) X.A (setFlight e none) (fun _ s₃ =>
    wpAny (model X.prog X.w) X.A (handleBy e X.env (h₀ :: hds)) (SP X pins D) X.xe s₃) X.xe s₂) X.xe s₁) (fun u s' xx => by
      obtain ⟨a, B, sI, pins', σ', H', cls, d, rfl, J', nb, up, sky, na, os, ag, w⟩ := xx
      have J : Inv X pins σ' H' sI := J'.ofTry ok
      have sky' : Sky B (X.env :: X.outer) a (Zc cls d) X.env.locals s'.heap := by rw [← hs]; exact sky
      show wpAny (model X.prog X.w) X.A (noteFrame (.ref a) X.env) _ _ _
      exact Sky.land Zc.steady hfr hf sky' fun h3 fl3 up3 => clauses_run hs hf hN tk ok J nb fl3 (up.trans up3) na os ag hh w) PassesOwn.looking).run [] s σ H D (I.toTry _) h
  refine wpAny_mono bodyRun (fun f s1 hsp => ?_) (fun e s1 he => he)
  cases f with
  | ret u =>
    obtain ⟨v, σ', H', J', r, q⟩ := hsp
    exact ⟨v, σ', H', J'.ofTry ok, r, q⟩
  | next => obtain ⟨σ', H', J', q⟩ := hsp; exact wpAny_execs_nil ⟨σ', H', J'.ofTry ok, q⟩
  | brk => obtain ⟨σ', H', J', q⟩ := hsp; exact ⟨σ', H', J'.ofTry ok, q⟩
  | cont => obtain ⟨σ', H', J', q⟩ := hsp; exact ⟨σ', H', J'.ofTry ok, q⟩

/-- X() of an error's class without a maker of its own -/
theorem pmk_bare {C : Addr} {x : Str} {p pos : Pos} (q : PySem.W.excIn X.K C PySem.HandSPX.veTail "ValueError.__new__" = true) (gC : X.mg x = some (.ref C)) (kC : PySem.W.keepIn X.K (.ref C) = true) (r : Raises X (.ref C)) (hg : Gl X x) (hdb : (x == ("__debug__" : Str)) = false) :
    PMk X (.Call (.Name x p) [] [] pos) (fun _ H Q => Q (.ref C) none H) := by
  intro pins s σ H Q I h
  refine wpAny_Call_Name_kw (ld_glob I hg gC (PySem.W.callWith_K0 I.kIn kC ?_) hdb)
  obtain ⟨bm, N, nm, qn, bs, hdct, sn, sub, ab, col, dd, k0, k1, k2, k3, k5, mN, hC, hN, hni, T⟩ := exc_obj I.kIn q
  exact wpAny_call_exc_subT PySem.F.excBase_ValueError T hC hN hni (fun h' e hm => mk_of I hm r h (I.hok.gone hm.new)) (Nat.zero_le _)
end

section
variable {B : Bs} {N : List Str} {G : Env} {k : Nat} {sc : Scope} {W : WX} {X : Cx}
theorem rse_ok (ok : SOk B N G k sc W X) {x : Str} {p pos pos' : Pos} {args : List PySem.Expr} {c : Nat} {xs : List CE} (hg : isGl sc x = true) (hc : B.T.cls[c]? = some x)
    (hk : (B.T.xc c = some none ∧ args = [] ∧ xs = []) ∨ ∃ f e y, B.T.xc c = some (some f) ∧ args = [e] ∧ xs = [y] ∧ PE X e (tE B G W y) ∧ noStar e = true) :
    PS X (.Raise (some (.Call (.Name x p) args [] pos)) none pos') (fun _ σ H => ∃ (ρ : Loc) (S : Store) (E0 : QE), RelL B H σ ρ ∧ RelS B S H ∧ OkX B H E0 (fun cls d H' => W cls d σ H') ∧ 2 ≤ G.lv ∧ wpEs G xs ρ S (fun ps S1 => match G.xc c, ps with
      | some none, [] => E0 ⟨c, []⟩ S1
      | some (some f), [v] => E0 ⟨c, [(f, v)]⟩ S1
      | _, _ => False) E0) := by
  obtain ⟨hg1, hg2⟩ := isGl_ok ok.toXOk hg
  obtain ⟨C, h1, h2⟩ := ok.pf.clv c x hc
  have hm : X.mg x = some (.ref C) := by rw [ok.hM]; exact h1
  have hkp : PySem.W.keepIn X.K (.ref C) = true := by rw [ok.hK]; exact h2
  rcases hk with ⟨hx, rfl, rfl⟩ | ⟨f, e, y, hx, rfl, rfl, pe, he⟩
  · obtain ⟨_, _, s1, s2⟩ := ok.pf.xfs c x C hc (by rw [hx]; rfl) h1
    have ra : Raises X (.ref C) := raises_own (by rw [ok.hK]; exact s1) (by rw [ok.hK]; exact s2)
    have ex := ok.pf.xc0 c x C hc hx h1
    refine ⟨fun pins s σ H D I ⟨ρ, S, E0, hL, hS, kE, _, h⟩ => (ps_raise ok.calm ok.tk (pmk_bare (by rw [ok.hK]; exact ex) hm hkp ra hg1 hg2)).run pins s σ H D I ?_⟩
    unfold wpEs at h
    rw [ok.pf.xc, hx] at h
    exact kE _ _ _ _ _ (.refl H) hS ⟨x, C, hc, by rw [hx]; rfl, h1, rfl, .inl rfl⟩ h
  · obtain ⟨fy, hfy⟩ := ok.pf.xcf c f hx
    obtain ⟨fI, fd, ps, T, iC, tI, bI, FI⟩ := ok.pf.xc1 c f x fy C hc hx hfy h1
    constructor
    intro pins s σ H D I ⟨ρ, S, E0, hL, hS, kE, hlv, h⟩
    have hl : 2 ≤ k := by rw [← ok.pf.lv]; exact hlv
    have rm : Room (1 + 1) X.A := ok.room.mono hl
    have pm := pmk_oex (X := X) (x := x) (p := p) (pos := pos) (by rw [ok.hK]; exact T) (by rw [ok.hK]; exact iC) (by rw [ok.hK]; exact tI) (by rw [ok.hK, ok.hM]; exact FI) rm (by rw [ok.hK]; exact bI) .nil pass0 hg1 hm (pa_cons pe pa_nil (star_cons he)) hg2 (star_cons he) rfl
    refine (ps_raise (pos := pos') ok.calm ok.tk pm).run pins s σ H D I ?_
    unfold wpEs wpEs at h
    refine ⟨ρ, S, _, E0, hL, hS, fun v S1 H1 u e1 s1 r1 q1 => ?_, kE, h⟩
    have q1 : (match G.xc c, [v] with
      | some none, [] => E0 ⟨c, []⟩ S1
      | some (some f), [v] => E0 ⟨c, [(f, v)]⟩ S1
      | _, _ => False) := q1
    rw [ok.pf.xc, hx] at q1
    refine ⟨by show 1 ≤ 1000; decide, fun a ha => ⟨a, u, rfl, L2.upd_same, fun dx n ne => ⟨rfl, dx, [(fy, u)], L2.upd_same, by rw [L2.upd_ne ne]; exact L2.upd_same, by rw [L2.upd_ne ne] at n; exact n, ?_⟩⟩⟩
    have n1 : H1 dx = none := by rw [L2.upd_ne ne] at n; exact n
    have eq : L2.upd (del (L2.upd (L2.upd H1 a (exo a C none)) dx (exd dx [(fy, u)])) a) dx (.xd [(fy, u)]) = L2.upd H1 dx (.xd [(fy, u)]) := by
      funext b
      by_cases hb : b = dx
      · subst hb; rw [L2.upd_same, L2.upd_same]
      · rw [L2.upd_ne hb, L2.upd_ne hb]
        by_cases hba : b = a
        · subst hba; rw [del_same, ha]
        · rw [del_ne hba, L2.upd_ne hb, L2.upd_ne hba]
    have eq2 : L2.upd (del (L2.upd (L2.upd (L2.upd H1 a (exo a C none)) dx (exd dx [(fy, u)])) a (exo a C (some dx))) a) dx (.xd [(fy, u)]) = L2.upd H1 dx (.xd [(fy, u)]) := by
      funext b
      by_cases hb : b = dx
      · subst hb; rw [L2.upd_same, L2.upd_same]
      · rw [L2.upd_ne hb, L2.upd_ne hb]
        by_cases hba : b = a
        · subst hba; rw [del_same, ha]
        · rw [del_ne hba, L2.upd_ne hba, L2.upd_ne hb, L2.upd_ne hba]
    rw [eq2]
    have rf : RepF B (L2.upd H1 dx (.xd [(fy, u)])) [(f, v)] [(fy, u)] := ⟨fy, u, [], rfl, hfy, r1.ext (.fresh n1), rfl⟩
    exact (kE.at e1) _ _ _ _ _ (.fresh n1) (s1.ext n1) ⟨x, C, hc, by rw [hx]; rfl, h1, rfl, .inr ⟨dx, _, rfl, L2.upd_same, rf⟩⟩ q1
end
end Core

set_option maxRecDepth 100000
set_option maxHeartbeats 4000000
/-! Core15: statements are sound. -/
namespace Core
open PySem L2 PySem.Spec PyProof.Rows
section
variable {B : Bs} {N : List Str} {G : Env} {k : Nat} {sc : Scope} {W : WX} {X : Cx}
structure OkD (B : Bs) (H : Hp) (n : Nat) (D0 : DE) (D : Ends) (W : WX) : Prop where
  nx : OkG B H n D0.nx D.nx
  rt : OkQ B H D0.rt D.rt
  bk : OkG B H n D0.bk D.bk
  ct : OkG B H n D0.ct D.ct
  ex : OkW B H n D0.ex W
theorem OkD.at {H H1 : Hp} {n : Nat} {D0 : DE} {D : Ends} (h : OkD B H n D0 D W) (e : Ext H H1) : OkD B H1 n D0 D W := ⟨h.nx.at e, h.rt.at e, h.bk.at e, h.ct.at e, h.ex.at e⟩
def tS (B : Bs) (G : Env) (W : WX) (s : CS) : TS := fun D σ H => ∃ (ρ : Loc) (S : Store) (D0 : DE), RelL B H σ ρ ∧ RelS B S H ∧ OkD B H σ.length D0 D W ∧ wpS G s ρ S D0
def tB (B : Bs) (G : Env) (W : WX) (b : List CS) : TS := fun D σ H => ∃ (ρ : Loc) (S : Store) (D0 : DE), RelL B H σ ρ ∧ RelS B S H ∧ OkD B H σ.length D0 D W ∧ wpB G b ρ S D0
theorem PS.imp {st : Stmt} {t t' : TS} (h : PS X st t) (k : ∀ D σ H, t' D σ H → t D σ H) : PS X st t' := ⟨fun pins s σ H D I hw => h.run pins s σ H D I (k D σ H hw)⟩
theorem PSs.imp {st : List Stmt} {t t' : TS} (h : PSs X st t) (k : ∀ D σ H, t' D σ H → t D σ H) : PSs X st t' := ⟨fun pins s σ H D I hw => h.run pins s σ H D I (k D σ H hw)⟩
theorem pss_of {f : Stmt → Option CS} (IH : ∀ st s, f st = some s → PS X st (tS B G W s)) : ∀ {b : List Stmt} {cs : List CS}, b.mapM f = some cs → PSs X b (tB B G W cs)
  | [], cs, h => by
    simp at h; subst h
    refine PSs.imp pss_nil fun D σ H ⟨ρ, S, D0, hL, hS, kD, h⟩ => ?_
    unfold wpB at h
    exact kD.nx _ _ _ _ (.refl H) hS hL rfl h
  | st :: b, cs, h => by
    rw [List.mapM_cons] at h
    obtain ⟨c, h1, h⟩ := map1 h
    obtain ⟨ds, h2, h⟩ := map1 h
    cases h
    refine PSs.imp (pss_cons (IH st c h1) (pss_of IH h2)) fun D σ H ⟨ρ, S, D0, hL, hS, kD, h⟩ => ?_
    unfold wpB at h
    refine ⟨ρ, S, { D0 with nx := fun ρ' S' => wpB G ds ρ' S' D0 }, hL, hS, ⟨fun ρ' S' H' σ' e s l n q => ?_, kD.rt, kD.bk, kD.ct, kD.ex⟩, h⟩
    exact ⟨ρ', S', D0, l, s, by rw [n]; exact kD.at e, q⟩
/-- the ends of a loop's body -/
theorem OkD.loop {H : Hp} {n : Nat} {D0 : DE} {D : Ends} (h : OkD B H n D0 D W) {I0 : Loc → Store → Prop} {I : L2.St → Hp → Prop} (k : OkG B H n I0 I) : OkD B H n { D0 with nx := I0, ct := I0, bk := D0.nx } { D with nx := I, ct := I, bk := D.nx } W := ⟨k, h.rt, h.nx, k, h.ex⟩
theorem swp_no {e t : PySem.Expr} {l : Nat} {env : PySem.Env} (h : isCompr e = false) : swapsWith e (some t) l env = pure false := by
  cases e <;> first | rfl | cases h
theorem swp_not {e t : PySem.Expr} {l : Nat} {env : PySem.Env} (h : ∀ x p, t ≠ .Name x p) : swapsWith e (some t) l env = pure false := by
  cases t <;> first | exact absurd rfl (h _ _) | (cases e <;> rfl)
theorem swst_no {e t : PySem.Expr} {env : PySem.Env} (h : (isTupleE t && isTupleE e) = false) (hl : ∀ es p, t ≠ .List es p) : swappedStores [t] e env = pure none := by
  cases t <;> first | rfl | exact absurd rfl (hl _ _) | (cases e <;> first | rfl | cases h)
theorem trT_form {n : Nat} {T : Tab} {tr : PySem.Expr → Option CE} {e : PySem.Expr} {t : Tgt} (h : trT T N tr sc n e = some t) : (∀ es p, e ≠ .List es p) ∧ (∀ e' p, e ≠ .Starred e' p) := by
  cases n with
  | zero => simp [trT] at h
  | succ n => cases e <;> first | (simp [trT] at h; done) | exact ⟨fun _ _ z => (by cases z), fun _ _ z => (by cases z)⟩
theorem swp_name {elt : PySem.Expr} {gs : List Comprehension} {scope : Scope} {pos py : Pos} {y : Str} {l : Nat} {env : PySem.Env} :
    swapsWith (.ListComp elt gs scope pos) (some (.Name y py)) l env = pure (env.blockKind == .function && env.kindOf y == some .local && py.line == (PySem.Expr.ListComp elt gs scope pos).pos.line && !(scope.names.any fun (n, k) => n == y && (k == .local || k == .cell))) := by
  rfl
/-- name = [..], the stores exchanged -/
theorem asgLc_ok (ok : SOk B N G k sc W X) {y : Str} {py pos spos : Pos} {elt tg iter : PySem.Expr} {ifs : List PySem.Expr} {scope : Scope} {i : Nat} {x : CE} (hi : N[i]? = some y) (hl : sc.names.lookup y = some .local)
    (hsw : swapsWith (.ListComp elt [⟨tg, iter, ifs, 0⟩] scope pos) (some (.Name y py)) spos.line X.env = pure true) (h : trE B.T N 40 sc (.ListComp elt [⟨tg, iter, ifs, 0⟩] scope pos) = some x) : PS X (.Assign [.Name y py] (.ListComp elt [⟨tg, iter, ifs, 0⟩] scope pos) spos) (tS B G W (.asg (.nm i) x)) := by
  obtain ⟨ihE, ihT⟩ := sE_T (B := B) (N := N) (G := G) (k := k) 39
  have IH := ihE X sc W ok.toXOk
  have h : (let own := ownOf N scope
      let sc' := relS scope sc
      if blkC N sc scope own then (do
        let t ← trVT false N sc' 8 tg
        let x ← trE B.T N 39 sc' elt
        let c ← (match ifs with | [] => some none | [e] => (trE B.T N 39 sc' e).map some | _ => none)
        let (k, as) ← trI (trE B.T N 39 sc) B.T sc tg iter
        if (vtSlots t).all (fun i => (own.map (·.2)).contains i) then some (CE.cmpr (own.map (·.2)) k as t x c) else none) else none) = some x := h
  simp only at h
  split at h
  · rename_i hblk
    obtain ⟨t, h1, h⟩ := map1 h
    obtain ⟨x', h2, h⟩ := map1 h
    obtain ⟨c', h3, h⟩ := map1 h
    obtain ⟨⟨ik, as⟩, h4, h⟩ := map1 h
    simp only at h
    split at h
    · rename_i hv
      cases h
      obtain ⟨wi, hi', hw⟩ := iter_ok ok.toXOk IH h4
      have hset : noSet iter = true := by
        cases iter <;> first | rfl | simp [trI] at h4
      have hgv : ∀ (s : Shared) (H : Hp) (C : Addr) (cl : List (Str × Addr)) (fp : List Addr), PG (X.blk s H scope (compEnvC scope cl C X.env) fp) tg (gVT B t) := fun s H C cl fp =>
        let o := ok.toXOk.blk s H scope C cl fp
        vt_ok (fun z => by cases z) o.hK o.hN o.nd o.hS o.calm 8 tg t h1
      have hel : ∀ (s : Shared) (H : Hp) (C : Addr) (cl : List (Str × Addr)) (fp : List Addr), PE (X.blk s H scope (compEnvC scope cl C X.env) fp) elt (tE B G noW x') := fun s H C cl fp => ihE _ _ _ (ok.toXOk.blk s H scope C cl fp) elt x' h2
      have hts : ∀ (s : Shared) (H : Hp) (C : Addr) (cl : List (Str × Addr)) (fp : List Addr), PTs (X.blk s H scope (compEnvC scope cl C X.env) fp) ifs (tCond B G c') := fun s H C cl fp => by
        cases ifs with
        | nil => cases h3; exact pts_nil
        | cons ef r =>
          cases r with
          | nil =>
            simp only [Option.map_eq_some_iff] at h3
            obtain ⟨ce, h5, h6⟩ := h3
            subst h6
            exact pts_one (ihT _ _ _ (ok.toXOk.blk s H scope C cl fp) ef ce h5)
          | cons _ _ => cases h3
      refine PS.imp (ps_setLc ok.calm ok.nd (by rw [ok.hN]; exact hi) (by rw [ok.hS]; exact hl) hsw hi' (blkOk_by (by rw [ok.hN, ok.hS]; exact hblk)) hgv hts hel (folded_ok hset)) fun D σ H ⟨ρ, S, D0, hL, hS, kD, hw'⟩ => ?_
      refine comp_ok (pos := pos) ok.toXOk hblk hv hi' hw hset hgv hts hel ?_
      unfold wpS at hw'
      refine ⟨ρ, S, _, _, hL, hS, fun p S1 H1 v e1 s1 r1 q1 => ?_, kD.ex σ rfl, hw'⟩
      unfold wpT at q1
      exact kD.nx _ _ _ _ e1 s1 ((hL.ext e1).set r1) (by simp) q1
    · cases h
  · cases h
theorem asg_ok (ok : SOk B N G k sc W X) {t e : PySem.Expr} {p : Pos} {g : Tgt} {x : CE} (hn : (isTupleE t && isTupleE e) = false) (hg : trT B.T N (trE B.T N 40 sc) sc 6 t = some g) (hx : trE B.T N 40 sc e = some x) : PS X (.Assign [t] e p) (tS B G W (.asg g x)) := by
  have pe := (sE_T (B := B) (N := N) (G := G) (k := k) 40).1 X sc W ok.toXOk e x hx
  have pg := tg_ok ok 6 t g hg
  obtain ⟨f1, f2⟩ := trT_form hg
  have plain : swapsWithSole [t] e p.line X.env = pure false → PS X (.Assign [t] e p) (tS B G W (.asg g x)) := fun hs => by
    refine PS.imp (ps_asg pe pg hs (swst_no hn f1) (by rw [assign_star (tgtM_star hg)]; rfl)) fun D σ H ⟨ρ, S, D0, hL, hS, kD, h⟩ => ?_
    unfold wpS at h
    refine ⟨ρ, S, _, _, hL, hS, fun p S1 H1 v e1 s1 r1 q1 => ?_, kD.ex σ rfl, h⟩
    exact ⟨p, ρ, S1, D0.nx, D0.ex, hL.ext e1, s1, r1, kD.nx.at e1, kD.ex.at e1, q1⟩
  by_cases hc : isCompr e = false
  · exact plain (swp_no hc)
  · by_cases ht : ∀ y q, t ≠ .Name y q
    · exact plain (swp_not ht)
    · have ht' : ∃ y q, t = .Name y q := by
        cases t <;> first | exact ⟨_, _, rfl⟩ | exact absurd (fun _ _ z => (by cases z)) ht
      obtain ⟨y, py, rfl⟩ := ht'
      cases e <;> try (exact absurd rfl hc)
      · rename_i elt gs scope pos
        cases hb : (X.env.blockKind == .function && X.env.kindOf y == some .local && py.line == (PySem.Expr.ListComp elt gs scope pos).pos.line && !(scope.names.any fun (n, k) => n == y && (k == .local || k == .cell))) with
        | false => exact plain ((swp_name (l := p.line)).trans (by rw [hb]))
        | true =>
          have hk : sc.names.lookup y = some .local := by
            simp only [Bool.and_eq_true, beq_iff_eq] at hb
            have := hb.1.1.2
            rw [← ok.hS]; exact this
          simp only [trT, hk] at hg
          rw [Option.map_eq_some_iff] at hg
          obtain ⟨i, h1, h2⟩ := hg
          subst h2
          have hsw : swapsWith (.ListComp elt gs scope pos) (some (.Name y py)) p.line X.env = pure true := swp_name.trans (by rw [hb])
          have h1' := idx_get h1
          clear hb plain pe hn hc h1
          cases gs with
          | nil => simp [trE] at hx
          | cons g r =>
            cases r with
            | cons _ _ => simp [trE] at hx
            | nil =>
              obtain ⟨tg, iter, ifs, a⟩ := g
              by_cases ha : a = 0
              · subst ha
                exact asgLc_ok ok h1' hk hsw hx
              · simp [trE, ha] at hx
      · simp [trE] at hx
      · simp [trE] at hx
end
end Core

set_option maxRecDepth 100000
set_option maxHeartbeats 4000000
/-! Core16: statements, the rest. -/
namespace Core
open PySem L2 PySem.Spec PyProof.Rows
section
variable {B : Bs} {N : List Str} {G : Env} {k : Nat} {sc : Scope} {W : WX} {X : Cx}
theorem SOk.blockKind (ok : SOk B N G k sc W X) : X.env.blockKind = .function := by
  unfold PySem.Env.blockKind
  rw [ok.hS, ok.fun_]
  rfl
/-- the names of exchanged stores -/
theorem par_names {ts : List PySem.Expr} {is : List Nat} (h : parNames N sc ts = some is) : ∃ xs : List (Str × Pos), ts = xs.map (fun x => PySem.Expr.Name x.1 x.2) ∧ is.length = xs.length ∧ (∀ x ∈ xs, sc.names.lookup x.1 = some .local) ∧ ∀ (j : Nat) (x : Str × Pos), xs[j]? = some x → ∃ i, is[j]? = some i ∧ N[i]? = some x.1 := by
  unfold parNames at h
  induction ts generalizing is with
  | nil => simp at h; subst h; exact ⟨[], rfl, rfl, by simp, by simp⟩
  | cons t ts ih =>
    rw [List.mapM_cons] at h
    obtain ⟨i, h1, h⟩ := map1 h
    obtain ⟨js, h2, h⟩ := map1 h
    cases h
    obtain ⟨xs, e1, e2, e3, e4⟩ := ih h2
    cases t <;> try (cases h1)
    rename_i x p
    simp only at h1
    split at h1
    · rename_i hx
      refine ⟨(x, p) :: xs, by simp [e1], by simp [e2], ?_, ?_⟩
      · intro y hy
        rcases List.mem_cons.mp hy with rfl | hy
        · exact hx
        · exact e3 y hy
      · intro j y hy
        cases j with
        | zero => simp at hy; subst hy; exact ⟨i, rfl, idx_get h1⟩
        | succ j => simpa using e4 j y (by simpa using hy)
    · cases h1
theorem swapped2 {env : PySem.Env} {x y : Str} {px py tp vp : Pos} {a b : PySem.Expr} {k1 k2} (hb : env.blockKind = .function) (hx : env.kindOf x = some .local) (hy : env.kindOf y = some .local) (ne : x ≠ y) (hl : (py.line == px.line) = true)
    (hf : (foldedForSure 8 a && foldedForSure 8 b) = false) (hc : (constantsAlone 8 a && constantsAlone 8 b) = false) (ha : noStar a = true) (hb' : noStar b = true) :
    swappedStores [.Tuple [.Name x px, .Name y py] k1 tp] (.Tuple [a, b] k2 vp) env = pure (some [x, y]) := by
  unfold swappedStores
  have hpl : (PySem.Expr.Name x px).pos = px := rfl
  have e1 : (y == x) = false := by simpa using fun z => ne z.symm
  have hl' : py.line = px.line := by simpa using hl
  simp [hb, hx, hy, hpl, hl', hf, hc, List.eraseDups_cons, e1]
  intro h
  rcases h with h | h
  · cases a <;> first | exact absurd h Bool.false_ne_true | exact absurd ha Bool.false_ne_true
  · cases b <;> first | exact absurd h Bool.false_ne_true | exact absurd hb' Bool.false_ne_true
theorem swapped3 {env : PySem.Env} {x y z : Str} {px py pz tp vp : Pos} {a b c : PySem.Expr} {k1 k2} (hb : env.blockKind = .function) (hx : env.kindOf x = some .local) (hy : env.kindOf y = some .local) (hz : env.kindOf z = some .local) (ne : x ≠ y) (ne2 : x ≠ z) (ne3 : y ≠ z) (hl : (py.line == px.line) = true) (hl2 : (pz.line == px.line) = true)
    (hf : (foldedForSure 8 a && (foldedForSure 8 b && foldedForSure 8 c)) = false) (hc : (constantsAlone 8 a && (constantsAlone 8 b && constantsAlone 8 c)) = false) (ha : noStar a = true) (hb' : noStar b = true) (hc' : noStar c = true) :
    swappedStores [.Tuple [.Name x px, .Name y py, .Name z pz] k1 tp] (.Tuple [a, b, c] k2 vp) env = pure (some [x, y, z]) := by
  unfold swappedStores
  have hpl : (PySem.Expr.Name x px).pos = px := rfl
  have e1 : (y == x) = false := by simpa using fun z => ne z.symm
  have e2 : (z == x) = false := by simpa using fun z => ne2 z.symm
  have e3 : (z == y) = false := by simpa using fun z => ne3 z.symm
  have hl' : py.line = px.line := by simpa using hl
  have hl2' : pz.line = px.line := by simpa using hl2
  simp [hb, hx, hy, hz, hpl, hl', hl2', hf, hc, List.eraseDups_cons, e1, e2, e3]
  intro h
  rcases h with h | h | h
  · cases a <;> first | exact absurd h Bool.false_ne_true | exact absurd ha Bool.false_ne_true
  · cases b <;> first | exact absurd h Bool.false_ne_true | exact absurd hb' Bool.false_ne_true
  · cases c <;> first | exact absurd h Bool.false_ne_true | exact absurd hc' Bool.false_ne_true
def setV (σ : L2.St) : List Nat → List V → L2.St
  | i :: is, v :: vs => setV (σ.set i (some v)) is vs
  | _, _ => σ
theorem setV_len : ∀ (is : List Nat) (vs : List V) (σ : L2.St), (setV σ is vs).length = σ.length
  | [], _, _ => rfl
  | _ :: _, [], _ => rfl
  | i :: is, v :: vs, σ => by
    show (setV (σ.set i (some v)) is vs).length = _
    rw [setV_len is vs]
    simp
theorem setV_ok {H : Hp} : ∀ (is : List Nat) (ps : List P) (vs : List V) {σ : L2.St} {ρ : Loc}, RelL B H σ ρ → Reps B H ps vs → RelL B H (setV σ is vs) (setAll ρ is ps)
  | [], _, _, _, _, h, _ => h
  | _ :: _, [], _, _, _, h, r => by rw [r.nil_inv]; exact h
  | i :: is, p :: ps, _, σ, ρ, h, r => by
    obtain ⟨v, vs, rfl, r1, r2⟩ := r.cons_inv
    exact setV_ok is ps vs (h.set r1) r2
theorem par_ok (ok : SOk B N G k sc W X) {ts vs : List PySem.Expr} {k1 k2} {tp vp p : Pos} {is : List Nat} {xs : List CE} (h1 : parNames N sc ts = some is) (hc : ((is.length == 2 || is.length == 3) && vs.length == is.length && decide is.Nodup && decide (ts.all fun t => t.pos.line == (ts.head?.map (·.pos.line)).getD 0) && !vs.all (foldedForSure 8) && !vs.all (constantsAlone 8)) = true)
    (h2 : vs.mapM (trE B.T N 40 sc) = some xs) : PS X (.Assign [.Tuple ts k1 tp] (.Tuple vs k2 vp) p) (tS B G W (.par is xs)) := by
  have IH := (sE_T (B := B) (N := N) (G := G) (k := k) 40).1 X sc W ok.toXOk
  have pa := pa_of (G := G) (W := W) IH h2
  have ns := mapM_noStar h2
  obtain ⟨ns', e1, e2, e3, e4⟩ := par_names h1
  simp only [Bool.and_eq_true, Bool.or_eq_true, beq_iff_eq, decide_eq_true_eq, Bool.not_eq_true'] at hc
  obtain ⟨⟨⟨⟨⟨l1, l2⟩, nd⟩, ln⟩, hf⟩, hcc⟩ := hc
  have loc : ∀ x, sc.names.lookup x = some .local → X.env.scope.names.lookup x = some .local := fun x h => by rw [ok.hS]; exact h
  have fin : ∀ {D : Ends} {σ : L2.St} {H : Hp}, tS B G W (.par is xs) D σ H → tA B G W xs σ H fun vs H1 => vs.length = xs.length ∧ D.nx (setV σ is vs) H1 := by
    intro D σ H ⟨ρ, S, D0, hL, hS, kD, h⟩
    unfold wpS at h
    refine ⟨ρ, S, _, _, hL, hS, fun ps S1 H1 vs e1 s1 r1 q1 => ?_, kD.ex σ rfl, wpEs_len ok.pf.gm h⟩
    exact ⟨by rw [r1.length]; exact q1.1, kD.nx _ _ _ _ e1 s1 (setV_ok is ps vs (hL.ext e1) r1) (setV_len _ _ _) q1.2⟩
  have lx := mapM_len h2
  rcases l1 with l1 | l1
  · have m1 : ns'.length = 2 := e2 ▸ l1
    have m3 : vs.length = 2 := l2.trans l1
    match ns', is, vs, m1, l1, m3 with
    | [(x, px), (y, py)], [i, j], [a, b], _, _, _ =>
      subst e1
      obtain ⟨i', a1, a2⟩ := e4 0 (x, px) rfl
      obtain ⟨j', b1, b2⟩ := e4 1 (y, py) rfl
      cases a1; cases b1
      have hij : i ≠ j := by simpa using nd
      have hx := e3 (x, px) (by simp)
      have hy := e3 (y, py) (by simp)
      have ne : x ≠ y := fun z => hij (nodup_ix (ok.hN ▸ ok.nd) a2 (z ▸ b2))
      simp only [List.all_cons, List.all_nil, Bool.and_true] at hf hcc
      have hl : (py.line == px.line) = true := by simp only [List.map_cons, List.map_nil, List.all_cons, List.all_nil, Bool.and_true, Bool.and_eq_true] at ln; exact ln.2
      refine PS.imp (ps_par (ta := tA B G W xs) ok.calm ok.nd (by rw [ok.hN]; exact a2) (by rw [ok.hN]; exact b2) hij (loc _ hx) (loc _ hy) pa (swapped2 ok.blockKind (loc _ hx) (loc _ hy) ne hl hf hcc (ns a (by simp)) (ns b (by simp))) rfl) fun D σ H h => ?_
      obtain ⟨ρ, S, Q0, E0, q1, q2, q3, q4, q5⟩ := fin h
      refine ⟨ρ, S, Q0, E0, q1, q2, fun ps S' H' vs e s r q => ?_, q4, q5⟩
      obtain ⟨q6, q7⟩ := q3 ps S' H' vs e s r q
      rw [lx] at q6
      match vs, q6, q7 with
      | [v, w], _, q7 => exact ⟨v, w, rfl, q7⟩
  · have m1 : ns'.length = 3 := e2 ▸ l1
    have m3 : vs.length = 3 := l2.trans l1
    match ns', is, vs, m1, l1, m3 with
    | [(x, px), (y, py), (z, pz)], [i, j, l], [a, b, c], _, _, _ =>
      subst e1
      obtain ⟨i', a1, a2⟩ := e4 0 (x, px) rfl
      obtain ⟨j', b1, b2⟩ := e4 1 (y, py) rfl
      obtain ⟨l', c1, c2⟩ := e4 2 (z, pz) rfl
      cases a1; cases b1; cases c1
      simp only [List.nodup_cons, List.mem_cons, List.not_mem_nil, or_false, not_or, not_false_eq_true, List.nodup_nil, and_true] at nd
      obtain ⟨⟨hij, hil⟩, hjl⟩ := nd
      have hx := e3 (x, px) (by simp)
      have hy := e3 (y, py) (by simp)
      have hz := e3 (z, pz) (by simp)
      have nn : N.Nodup := ok.hN ▸ ok.nd
      have ne : x ≠ y := fun q => hij (nodup_ix nn a2 (q ▸ b2))
      have ne2 : x ≠ z := fun q => hil (nodup_ix nn a2 (q ▸ c2))
      have ne3 : y ≠ z := fun q => hjl (nodup_ix nn b2 (q ▸ c2))
      simp only [List.all_cons, List.all_nil, Bool.and_true] at hf hcc
      simp only [List.map_cons, List.map_nil, List.all_cons, List.all_nil, Bool.and_true, Bool.and_eq_true] at ln
      refine PS.imp (ps_par3 (ta := tA B G W xs) ok.calm ok.nd (by rw [ok.hN]; exact a2) (by rw [ok.hN]; exact b2) (by rw [ok.hN]; exact c2) hij hil hjl (loc _ hx) (loc _ hy) (loc _ hz) pa (swapped3 ok.blockKind (loc _ hx) (loc _ hy) (loc _ hz) ne ne2 ne3 ln.2.1 ln.2.2 hf hcc (ns a (by simp)) (ns b (by simp)) (ns c (by simp))) rfl) fun D σ H h => ?_
      obtain ⟨ρ, S, Q0, E0, q1, q2, q3, q4, q5⟩ := fin h
      refine ⟨ρ, S, Q0, E0, q1, q2, fun ps S' H' vs e s r q => ?_, q4, q5⟩
      obtain ⟨q6, q7⟩ := q3 ps S' H' vs e s r q
      rw [lx] at q6
      match vs, q6, q7 with
      | [v, w, u], _, q7 => exact ⟨v, w, u, rfl, q7⟩
end
end Core

set_option maxRecDepth 100000
set_option maxHeartbeats 4000000
/-! Core17: the theorem of statements. -/
namespace Core
open PySem L2 PySem.Spec PyProof.Rows
section
variable {B : Bs} {N : List Str} {G : Env} {k : Nat} {sc : Scope} {W : WX} {X : Cx}
theorem aug_s (ok : SOk B N G k sc W X) {x : Str} {px p : Pos} {op : Operator} {e : PySem.Expr} {i : Nat} {y : CE} (hi : N[i]? = some x) (hl : L2.Loc sc x) (h : trE B.T N 40 sc e = some y) : PS X (.AugAssign (.Name x px) op e p) (tS B G W (.aug i op y)) := by
  have pe := (sE_T (B := B) (N := N) (G := G) (k := k) 40).1 X sc W ok.toXOk e y h
  obtain ⟨r, hr, hv⟩ := aug_ok (X := X) (B := B) op
  refine PS.imp (ps_aug ok.nd (by rw [ok.hN]; exact hi) (by rw [ok.hS]; exact hl) pe hr (.inl (ok.fnx x))) fun D σ H ⟨ρ, S, D0, hL, hS, kD, h⟩ => ?_
  unfold wpS at h
  split at h
  · rename_i q hq
    obtain ⟨v, e1, r1⟩ := hL.at_ i q hq
    refine ⟨v, e1, ρ, S, _, _, hL, hS, fun w S1 H1 u e1 s1 r2 q1 => ?_, kD.ex σ rfl, h⟩
    exact hv q w S1 v u H1 _ _ s1 (r1.ext e1) r2 (fun z S2 H2 t e2 s2 r3 q2 => kD.nx _ _ _ _ (e1.trans e2) s2 (((hL.ext e1).ext e2).set r3) (by simp) q2) q1
  · exact h.elim
theorem rEnd {H : Hp} {v : V} {p : P} {S : Store} {D0 : DE} {D : Ends} {n : Nat} (kD : OkD B H n D0 D W) (hS : RelS B S H) (r : Rep B H p v) (q : D0.rt p S) : D.rt v H := kD.rt _ _ _ _ (.refl H) hS r q
/-- the clauses of a try -/
theorem hs_ok (ok : SOk B N G k sc W X) : ∀ {hds : List ExceptHandler} {hs : List (Nat × Option Nat × HS)}, trHs B.T N sc hds = some hs → ∃ cl, Clauses X hds cl ∧ ∀ (ρ : Loc) (D0 : DE) (D : Ends) (H : Hp), OkD B H N.length D0 D W →
    ∀ (σ : L2.St), σ.length = N.length → ∀ ex S' H' cls d, Ext H H' → RelS B S' H' → ExR B H' ex cls d → wpH hs D0 ρ ex S' → wMix X.K W D cl cls d σ H'
  | [], hs, h => by
    cases h
    exact ⟨[], .nil, fun ρ D0 D H kD σ hl ex S' H' cls d e s x q => kD.ex σ hl ex S' H' cls d e s x q⟩
  | .ExceptHandler none nm body pos :: r, hs, h => by simp [trHs] at h
  | .ExceptHandler (some t) nm body pos :: r, hs, h => by
    cases t <;> try (simp [trHs] at h; done)
    rename_i x np
    unfold trHs at h
    split at h
    · rename_i hg
      obtain ⟨c, h1, h⟩ := map1 h
      obtain ⟨xcc, h2, h⟩ := map1 h
      obtain ⟨hh, h3, h⟩ := map1 h
      obtain ⟨oi, h4, h⟩ := map1 h
      obtain ⟨hs', h5, h⟩ := map1 h
      cases h
      obtain ⟨cl, c1, c2⟩ := hs_ok ok h5
      obtain ⟨hg1, hg2⟩ := isGl_ok ok.toXOk hg
      obtain ⟨C, m1, m2⟩ := ok.pf.clv c x (idx_get h1)
      have hm : X.mg x = some (.ref C) := by rw [ok.hM]; exact m1
      have nm_ok : NmOk X nm oi := by
        cases nm with
        | none => cases h4; exact .no
        | some y =>
          simp only at h4
          split at h4
          · rename_i hy
            rw [Option.map_eq_some_iff] at h4
            obtain ⟨i, h6, h7⟩ := h4
            cases h7
            exact .yes (by rw [ok.hN]; exact idx_get h6) (by show X.env.scope.names.lookup y = _; rw [ok.hS]; exact hy)
          · cases h4
      have xsome : (B.T.xc c).isSome = true := by rw [h2]; rfl
      obtain ⟨xf, xn, _, _⟩ := ok.pf.xfs c x C (idx_get h1) xsome m1
      -- the clause's suite
      have suite : ∃ ts : Suite, (∃ b₀ suite, body = b₀ :: suite) ∧ (∀ (a : Addr) (oe : Obj) (cls : Value) (d : Option Addr) (pn : List (Addr × Obj)), Zc cls d oe → (∃ vs, oe.data = .fields vs) → PSs (X.suite a ((a, oe) :: pn)) body (ts a cls d)) ∧
          ∀ (ρ : Loc) (D0 : DE) (D : Ends) (H : Hp), OkD B H N.length D0 D W → ∀ (σ : L2.St), σ.length = N.length → ∀ ex S' H' cls d a, Ext H H' → RelS B S' H' → ExR B H' ex cls d → ex.cls = c → wpH ((c, oi, hh) :: hs') D0 ρ ex S' → ts a cls d (unName D oi) (inName σ a oi) H' := by
        have lit : ∀ (v : V) (p : P), (∀ H, Rep B H p v) → hh = .lit p → (∀ Y : Cx, PSs Y body (tRet (tC v))) → (∃ b₀ suite, body = b₀ :: suite) → ∃ ts : Suite, (∃ b₀ suite, body = b₀ :: suite) ∧ (∀ (a : Addr) (oe : Obj) (cls : Value) (d : Option Addr) (pn : List (Addr × Obj)), Zc cls d oe → (∃ vs, oe.data = .fields vs) → PSs (X.suite a ((a, oe) :: pn)) body (ts a cls d)) ∧
          ∀ (ρ : Loc) (D0 : DE) (D : Ends) (H : Hp), OkD B H N.length D0 D W → ∀ (σ : L2.St), σ.length = N.length → ∀ ex S' H' cls d a, Ext H H' → RelS B S' H' → ExR B H' ex cls d → ex.cls = c → wpH ((c, oi, hh) :: hs') D0 ρ ex S' → ts a cls d (unName D oi) (inName σ a oi) H' := by
          intro v p hr he hb hbb
          subst he
          refine ⟨fun _ _ _ => tRet (tC v), hbb, fun a oe cls d pn _ _ => hb _, fun ρ D0 D H kD σ hl ex S' H' cls d a e s x ec q => ?_⟩
          unfold wpH at q
          rw [if_pos ec] at q
          have q' := kD.rt _ _ _ _ e s (hr H') q
          cases oi <;> exact q'
        have readF : ∀ {y : Str} {yp fp : Pos} {f : Str} {i fi : Nat}, nm = some y → slotOf N sc y = some i → B.T.att.idxOf? f = some fi → (oi = some i) ∧ (∀ (a : Addr) (oe : Obj) (cls : Value) (d : Option Addr) (pn : List (Addr × Obj)), Zc cls d oe → (∃ vs, oe.data = .fields vs) →
            PE (X.suite a ((a, oe) :: pn)) (.Attribute (.Name y yp) f fp) (tXf a cls d C f (tVar i))) ∧
            ∀ (σ : L2.St), σ.length = N.length → ∀ ex S' H' cls d a p (Q : VK), RelS B S' H' → ExR B H' ex cls d → ex.cls = c → ex.fs.lookup fi = some p → (∀ v, Rep B H' p v → Q v H') → tXf a cls d C f (tVar i) (inName σ a oi) H' Q := by
          intro y yp fp f i fi hn hi hf
          subst hn
          obtain ⟨i1, i2, i3, i4⟩ := slotOf_ok hi
          have hoi : oi = some i := by
            cases nm_ok with
            | yes j1 j2 =>
              rw [ok.hN] at j1
              rw [nodup_ix (ok.hN ▸ ok.nd) j1 i1]
          refine ⟨hoi, fun a oe cls d pn hz hd => pe_xf (by rw [ok.hK]; exact xf) (by rw [ok.hK]; exact xn fi f (idx_get hf)) hz hd (pe_var (by show X.N[i]? = _; rw [ok.hN]; exact i1) (by show Vis X.env.scope y; rw [ok.hS]; exact i2) i3 i4) rfl, fun σ hl ex S' H' cls d a p Q s hx ec hp hQ => ?_⟩
          subst hoi
          have il : i < σ.length := by rw [hl]; exact (List.getElem?_eq_some_iff.mp i1).1
          obtain ⟨x', C', e1, e2, e3, e4, e5⟩ := hx
          have hC : C' = C := by
            rw [ec, idx_get h1] at e1
            cases e1
            rw [m1] at e3
            exact (Value.ref.inj (Option.some.inj e3)).symm
          subst hC
          rcases e5 with e5 | ⟨da, gs, e5, e6, e7⟩
          · rw [e5] at hp; cases hp
          · obtain ⟨v, v1, v2⟩ := RepF.look (T := B.T) ok.pf.att e7 (idx_get hf) hp
            exact ⟨.ref a, List.getElem?_set_self il, rfl, e4, da, gs, v, e5, e6, v1, hQ v v2⟩
        split at h3
        · rename_i s _ _ _ _ _
          cases h3
          exact lit (.str s) (.str s) (fun H => rep_str) rfl (fun Y => pss_one (ps_ret pe_str)) ⟨_, _, rfl⟩
        · cases h3
          exact lit .non .non (fun H => rep_non) rfl (fun Y => pss_one (ps_ret pe_non)) ⟨_, _, rfl⟩
        · rename_i b _ _ _ _ _
          cases h3
          exact lit (.bl b) (.bl b) (fun H => rep_bl) rfl (fun Y => pss_one (ps_ret pe_bl)) ⟨_, _, rfl⟩
        · rename_i b _ _ _ _ _
          cases h3
          exact lit (.int b) (.int b) (fun H => rep_int) rfl (fun Y => pss_one (ps_ret pe_int)) ⟨_, _, rfl⟩
        · rename_i y yp f fp rp _ _
          split at h3
          · rename_i hc
            simp only [Bool.and_eq_true, decide_eq_true_eq, Option.isSome_iff_exists] at hc
            obtain ⟨hn, i, hi⟩ := hc
            rw [Option.map_eq_some_iff] at h3
            obtain ⟨fi, f1, f2⟩ := h3
            subst f2
            obtain ⟨g1, g2, g3⟩ := readF (yp := yp) (fp := fp) hn hi f1
            refine ⟨fun a cls d => tRet (tXf a cls d C f (tVar i)), ⟨_, _, rfl⟩, fun a oe cls d pn hz hd => pss_one (ps_ret (g2 a oe cls d pn hz hd)), fun ρ D0 D H kD σ hl ex S' H' cls d a e s x ec q => ?_⟩
            unfold wpH at q
            rw [if_pos ec] at q
            simp only at q
            split at q
            · rename_i p hp
              refine g3 σ hl ex S' H' cls d a p _ s x ec hp fun v rv => ?_
              have q' := kD.rt _ _ _ _ e s rv q
              cases oi <;> exact q'
            · exact q.elim
          · cases h3
        · rename_i s _ sp y yp f fp bp rp _ _
          split at h3
          · rename_i hc
            simp only [Bool.and_eq_true, decide_eq_true_eq, Option.isSome_iff_exists] at hc
            obtain ⟨hn, i, hi⟩ := hc
            rw [Option.map_eq_some_iff] at h3
            obtain ⟨fi, f1, f2⟩ := h3
            subst f2
            obtain ⟨g1, g2, g3⟩ := readF (yp := yp) (fp := fp) hn hi f1
            refine ⟨fun a cls d => tRet (tOp (fun x y H Q => ∃ i j, x = .str i ∧ y = .str j ∧ i.length + j.length ≤ sizeLine ∧ Q (.str (i ++ j)) H) (tC (.str s)) (tXf a cls d C f (tVar i))), ⟨_, _, rfl⟩, fun a oe cls d pn hz hd => pss_one (ps_ret (pe_op op_add_str pe_str (g2 a oe cls d pn hz hd))), fun ρ D0 D H kD σ hl ex S' H' cls d a e sS x ec q => ?_⟩
            unfold wpH at q
            rw [if_pos ec] at q
            simp only at q
            split at q
            · rename_i p hp
              refine (g3 σ hl ex S' H' cls d a _ (fun y H2 => ∃ i j, V.str s = .str i ∧ y = .str j ∧ i.length + j.length ≤ sizeLine ∧ (unName D oi).rt (.str (i ++ j)) H2) sS x ec hp fun v rv => ?_)
              rw [rv.str_inv]
              refine ⟨_, _, rfl, rfl, q.1, ?_⟩
              have q' := kD.rt _ _ _ _ e sS rep_str q.2
              cases oi <;> exact q'
            · exact q.elim
          · cases h3
        · cases h3
      obtain ⟨ts, ⟨b₀, su, rfl⟩, t1, t2⟩ := suite
      refine ⟨(.ref C, oi, ts) :: cl, .cons ⟨hg1, hg2, .inl hm⟩ nm_ok t1 c1, fun ρ D0 D H kD σ hl ex S' H' cls d e s x q => ?_⟩
      obtain ⟨x', C', e1, e2, e3, e4, e5⟩ := id x
      refine ⟨decide (ex.cls = c), ?_, fun hb a na => t2 ρ D0 D H kD σ hl ex S' H' cls d a e s x (of_decide_eq_true hb) q, fun hb => ?_⟩
      · rw [ok.hK, e4]
        exact ok.pf.exm ex.cls c x' _ C' C e1 (idx_get h1) e2 xsome e3 m1
      · have ne := of_decide_eq_false hb
        unfold wpH at q
        rw [if_neg ne] at q
        exact c2 ρ D0 D H kD σ hl ex S' H' cls d e s x q
    · cases h
theorem SOk.tr (ok : SOk B N G k sc W X) {W' : WX} {pn : List (Addr × Obj)} {xe : Value → Shared → Prop} (tk : Takes (X.tr pn xe) W') (pa : PassesOwn (model X.prog X.w) X.A X.env xe) : SOk B N G k sc W' (X.tr pn xe) :=
  ⟨⟨ok.hK, ok.hM, ok.hN, ok.nd, ok.hS, ok.calm, ok.room, tk, ok.pf⟩, ok.fnx, ok.stk, ok.frm, pa, ok.fun_⟩
theorem try_ok (ok : SOk B N G k sc W X) {body : List Stmt} {h₀ : ExceptHandler} {hds : List ExceptHandler} {pos : Pos} {b : List CS} {hs : List (Nat × Option Nat × HS)}
    (hb : ∀ (X : Cx) (W : WX), SOk B N G k sc W X → PSs X body (tB B G W b)) (hh : trHs B.T N sc (h₀ :: hds) = some hs) : PS X (.Try body (h₀ :: hds) [] [] pos) (tS B G W (.try_ b hs)) := by
  obtain ⟨cl, c1, c2⟩ := hs_ok ok hh
  constructor
  intro pins s σ H D I ⟨ρ, S, D0, hL, hS, kD, h⟩
  have hlen : σ.length = N.length := by rw [← ok.hN]; exact I.len
  refine (ps_try_mix (tb := fun W' => tB B G W' b) ok.stk ok.frm ok.nd ok.tk (fun W' pn xe tk pa => hb _ _ (ok.tr tk pa)) c1).run pins s σ H D I ?_
  unfold wpS at h
  rw [hlen] at kD
  refine ⟨ρ, S, { D0 with ex := fun ex S' => wpH hs D0 ρ ex S' }, hL, hS, ⟨by rw [hlen]; exact kD.nx, kD.rt, by rw [hlen]; exact kD.bk, by rw [hlen]; exact kD.ct, fun σ' hl ex S' H' cls d e s x q => ?_⟩, h⟩
  exact c2 ρ D0 D H kD σ' (hl.trans hlen) ex S' H' cls d e s x q
theorem while_ok (ok : SOk B N G k sc W X) {c : PySem.Expr} {body : List Stmt} {pos : Pos} {x : CE} {b : List CS} (hc : PT X c (tT B G W x)) (hb : PSs X body (tB B G W b)) : PS X (.While c body [] pos) (tS B G W (.whl x b)) := by
  refine PS.imp (ps_while ok.pas hc hb) fun D σ H ⟨ρ, S, D0, hL, hS, kD, h⟩ => ?_
  unfold wpS at h
  obtain ⟨I, μ, i0, step⟩ := h
  refine ⟨fun m σ' H' => ∃ ρ' S', RelL B H' σ' ρ' ∧ RelS B S' H' ∧ Ext H H' ∧ σ'.length = σ.length ∧ I ρ' S' ∧ μ ρ' S' = m, ⟨_, ρ, S, hL, hS, .refl H, rfl, i0, rfl⟩, ?_⟩
  rintro m σ1 H1 ⟨ρ1, S1, hL1, hS1, e1, l1, i1, hm⟩
  have kD1 : OkD B H1 σ1.length D0 D W := by rw [l1]; exact kD.at e1
  refine ⟨ρ1, S1, _, _, hL1, hS1, fun p S2 H2 e2 s2 q2 => ?_, kD1.ex σ1 rfl, step ρ1 S1 i1⟩
  split at q2
  · rename_i ht
    refine ⟨true, ht, ?_⟩
    refine iteT ?_
    refine ⟨fun σ' H' => ∃ ρ' S', RelL B H' σ' ρ' ∧ RelS B S' H' ∧ Ext H H' ∧ σ'.length = σ.length ∧ I ρ' S' ∧ μ ρ' S' < μ ρ1 S1, fun σ' H' ⟨ρ', S', a1, a2, a3, a4, a5, a6⟩ => ⟨μ ρ' S', by omega, ρ', S', a1, a2, a3, a4, a5, rfl⟩, ?_⟩
    exact ⟨ρ1, S2, _, hL1.ext e2, s2, (kD1.at e2).loop fun ρ' S' H' σ' e s l n q => ⟨ρ', S', l, s, (e1.trans e2).trans e, n.trans l1, q.1, q.2⟩, q2⟩
  · rename_i ht
    refine ⟨false, ht, ?_⟩
    refine iteF ?_
    exact kD1.nx _ _ _ _ e2 s2 (hL1.ext e2) rfl q2
  · exact q2.elim
theorem for_ok (ok : SOk B N G k sc W X) {tg iter : PySem.Expr} {body : List Stmt} {pos : Pos} {ik : IK} {as : List CE} {t : VT} {b : List CS} (ht : trVT true N sc 8 tg = some t) (hi : trI (trE B.T N 40 sc) B.T sc tg iter = some (ik, as)) (hb : PSs X body (tB B G W b)) :
    PS X (.For tg iter body [] pos) (tS B G W (.for_ ik as t b)) := by
  have IH := (sE_T (B := B) (N := N) (G := G) (k := k) 40).1 X sc W ok.toXOk
  obtain ⟨wi, hwi, hw⟩ := iter_ok ok.toXOk IH hi
  have hset : noSet iter = true := by
    cases iter <;> first | rfl | simp [trI] at hi
  refine PS.imp (ps_for ok.pas ok.calm hwi (vt_ok (fun _ => ok.fnx) ok.hK ok.hN ok.nd ok.hS ok.calm 8 tg t ht) hb (folded_ok hset)) fun D σ H ⟨ρ, S, D0, hL, hS, kD, h⟩ => ?_
  unfold wpS at h
  refine hw σ H _ ρ S _ _ hL hS (kD.ex σ rfl) h fun items Gd S1 H1 J e1 s1 wk hZ => ?_
  obtain ⟨I, i0, step, fin⟩ := hZ
  refine ⟨fun i m σ' H' => m = items.length - i ∧ i ≤ items.length ∧ ∃ ρ' S', RelL B H' σ' ρ' ∧ RelS B S' H' ∧ Ext H1 H' ∧ σ'.length = σ.length ∧ I i ρ' S', ⟨items.length, by simp, Nat.zero_le _, ρ, S1, hL.ext e1, s1, .refl H1, rfl, i0⟩, ?_⟩
  rintro i m σ2 H2 ⟨rfl, hil, ρ2, S2, hL2, s2, e2, l2, hI⟩
  have kD2 : OkD B H2 σ2.length D0 D W := by rw [l2]; exact kD.at (e1.trans e2)
  by_cases hlt : i < items.length
  · have hx : items[i]? = some items[i] := by simp [hlt]
    obtain ⟨g2, hstep⟩ := step i items[i] ρ2 S2 hx hI
    refine .inr ⟨wk.go i H2 S2 s2 e2 g2 hlt, fun σ' H' => i + 1 ≤ items.length ∧ ∃ ρ' S', RelL B H' σ' ρ' ∧ RelS B S' H' ∧ Ext H1 H' ∧ σ'.length = σ.length ∧ I (i + 1) ρ' S', fun σ' H' ⟨q1, ρ', S', a1, a2, a3, a4, a5⟩ => ⟨items.length - (i + 1), by omega, rfl, q1, ρ', S', a1, a2, a3, a4, a5⟩, fun v H3 hy => ?_⟩
    obtain ⟨e3, s3, p, hp, rp⟩ := wk.yld i H2 S2 v H3 s2 e2 g2 hlt hy
    rw [hx] at hp; cases hp
    refine ⟨items[i], ρ2, _, hL2.ext e3, rp, fun σ' ρ' hL' hb' q => ?_, hstep⟩
    refine ⟨ρ', S2, _, hL', s3, ?_, q⟩
    have kD3 : OkD B H3 σ'.length D0 D W := by rw [hb'.1]; exact kD2.at e3
    exact kD3.loop fun ρ4 S4 H4 σ4 e4 s4 l4 n4 q4 => ⟨hlt, ρ4, S4, l4, s4, (e2.trans e3).trans e4, (n4.trans hb'.1).trans l2, q4⟩
  · have e : i = items.length := by omega
    subst e
    obtain ⟨g2, q⟩ := fin ρ2 S2 hI
    exact .inl ⟨wk.stop H2 S2 s2 e2 g2, kD2.nx _ _ _ _ (.refl H2) s2 hL2 rfl q⟩
theorem sS_T : ∀ (n : Nat) (X : Cx) (W : WX), SOk B N G k sc W X → ∀ st s, trS B.T N sc n st = some s → PS X st (tS B G W s) := by
  intro n
  induction n with
  | zero => intro X W ok st s h; simp [trS] at h
  | succ n ih =>
    intro X W ok st s h
    have IH := (sE_T (B := B) (N := N) (G := G) (k := k) 40).1 X sc W ok.toXOk
    have IHT := (sE_T (B := B) (N := N) (G := G) (k := k) 40).2 X sc W ok.toXOk
    have IB : ∀ {b : List Stmt} {cs : List CS}, b.mapM (trS B.T N sc n) = some cs → PSs X b (tB B G W cs) := fun h => pss_of (ih X W ok) h
    unfold trS at h
    split at h
    · -- exchanged stores
      obtain ⟨is, h1, h⟩ := map1 h
      split at h
      · rename_i hc
        obtain ⟨xs, h2, h⟩ := map1 h
        cases h
        exact par_ok ok h1 hc h2
      · cases h
    · split at h
      · cases h
      · rename_i hn
        obtain ⟨g, h1, h⟩ := map1 h
        obtain ⟨x, h2, h⟩ := map1 h
        cases h
        exact asg_ok ok (by simpa using hn) h1 h2
    · split at h
      · rename_i hl
        obtain ⟨i, h1, h⟩ := map1 h
        obtain ⟨y, h2, h⟩ := map1 h
        cases h
        exact aug_s ok (idx_get h1) (.inl hl) h2
      · rename_i hl
        obtain ⟨i, h1, h⟩ := map1 h
        obtain ⟨y, h2, h⟩ := map1 h
        cases h
        exact aug_s ok (idx_get h1) (.inr hl) h2
      · cases h
    · obtain ⟨x, h1, h⟩ := map1 h
      obtain ⟨y, h2, h⟩ := map1 h
      obtain ⟨z, h3, h⟩ := map1 h
      cases h
      refine PS.imp (ps_if (IHT _ _ h1) (IB h2) (IB h3)) fun D σ H ⟨ρ, S, D0, hL, hS, kD, h⟩ => ?_
      unfold wpS at h
      refine ⟨ρ, S, _, _, hL, hS, fun p S1 H1 e1 s1 q1 => ?_, kD.ex σ rfl, h⟩
      split at q1
      · rename_i ht
        exact ⟨true, ht, iteT ⟨ρ, S1, D0, hL.ext e1, s1, kD.at e1, q1⟩⟩
      · rename_i ht
        exact ⟨false, ht, iteF ⟨ρ, S1, D0, hL.ext e1, s1, kD.at e1, q1⟩⟩
      · exact q1.elim
    · obtain ⟨x, h1, h⟩ := map1 h
      obtain ⟨y, h2, h⟩ := map1 h
      cases h
      exact while_ok ok (IHT _ _ h1) (IB h2)
    · obtain ⟨t, h1, h⟩ := map1 h
      obtain ⟨⟨ik, as⟩, h2, h⟩ := map1 h
      obtain ⟨y, h3, h⟩ := map1 h
      cases h
      exact for_ok ok h1 h2 (IB h3)
    · cases h
      refine PS.imp ps_retN fun D σ H ⟨ρ, S, D0, hL, hS, kD, h⟩ => ?_
      unfold wpS at h
      exact rEnd kD hS rep_non h
    · rw [Option.map_eq_some_iff] at h
      obtain ⟨x, h1, h2⟩ := h
      subst h2
      refine PS.imp (ps_ret (IH _ _ h1)) fun D σ H ⟨ρ, S, D0, hL, hS, kD, h⟩ => ?_
      unfold wpS at h
      exact ⟨ρ, S, _, _, hL, hS, kD.rt, kD.ex σ rfl, h⟩
    · -- raise
      rename_i x np args cp rp
      split at h
      · rename_i hg
        obtain ⟨c, h1, h⟩ := map1 h
        have end_ : ∀ {xs : List CE} {D : Ends} {σ : L2.St} {H : Hp}, tS B G W (.rse c xs) D σ H → ∃ (ρ : Loc) (S : Store) (E0 : QE), RelL B H σ ρ ∧ RelS B S H ∧ OkX B H E0 (fun cls d H' => W cls d σ H') ∧ 2 ≤ G.lv ∧ wpEs G xs ρ S (fun ps S1 => match G.xc c, ps with
            | some none, [] => E0 ⟨c, []⟩ S1
            | some (some f), [v] => E0 ⟨c, [(f, v)]⟩ S1
            | _, _ => False) E0 := fun {xs D σ H} ⟨ρ, S, D0, hL, hS, kD, h⟩ => by
          unfold wpS at h
          exact ⟨ρ, S, _, hL, hS, kD.ex σ rfl, h.1, h.2⟩
        split at h
        · rename_i hx _
          cases h
          exact PS.imp (rse_ok ok hg (idx_get h1) (.inl ⟨hx, rfl, rfl⟩)) fun D σ H h => end_ h
        · rename_i f e hx _
          rw [Option.map_eq_some_iff] at h
          obtain ⟨y, h2, h3⟩ := h
          subst h3
          exact PS.imp (rse_ok ok hg (idx_get h1) (.inr ⟨f, e, y, hx, rfl, rfl, IH _ _ h2, trE_noStar h2⟩)) fun D σ H h => end_ h
        · cases h
      · cases h
    · cases h
      refine PS.imp ps_doc fun D σ H ⟨ρ, S, D0, hL, hS, kD, h⟩ => ?_
      unfold wpS at h
      exact kD.nx _ _ _ _ (.refl H) hS hL rfl h
    · split at h
      · cases h
      · rename_i hc
        rw [Option.map_eq_some_iff] at h
        obtain ⟨x, h1, h2⟩ := h
        subst h2
        rename_i e pos _ 
        refine PS.imp (ps_expr (IH _ _ h1) (by cases e <;> first | rfl | exact absurd rfl hc)) fun D σ H ⟨ρ, S, D0, hL, hS, kD, h⟩ => ?_
        unfold wpS at h
        exact ⟨ρ, S, _, _, hL, hS, fun p S1 H1 v e1 s1 r1 q1 => kD.nx _ _ _ _ e1 s1 (hL.ext e1) rfl q1, kD.ex σ rfl, h⟩
    · cases h
      refine PS.imp ps_pass fun D σ H ⟨ρ, S, D0, hL, hS, kD, h⟩ => ?_
      unfold wpS at h
      exact kD.nx _ _ _ _ (.refl H) hS hL rfl h
    · cases h
      refine PS.imp ps_break fun D σ H ⟨ρ, S, D0, hL, hS, kD, h⟩ => ?_
      unfold wpS at h
      exact kD.bk _ _ _ _ (.refl H) hS hL rfl h
    · cases h
      refine PS.imp ps_continue fun D σ H ⟨ρ, S, D0, hL, hS, kD, h⟩ => ?_
      unfold wpS at h
      exact kD.ct _ _ _ _ (.refl H) hS hL rfl h
    · obtain ⟨y, h1, h⟩ := map1 h
      obtain ⟨z, h2, h⟩ := map1 h
      cases h
      exact try_ok ok (fun X' W' ok' => pss_of (ih X' W' ok') h1) h2
    · cases h
theorem sB_T {n : Nat} (ok : SOk B N G k sc W X) {b : List Stmt} {cs : List CS} (h : b.mapM (trS B.T N sc n) = some cs) : PSs X b (tB B G W cs) := pss_of (sS_T n X W ok) h
end
end Core

set_option maxRecDepth 100000
set_option maxHeartbeats 4000000
/-! Core18: the defs of a program, level by level. -/
namespace Core
open PySem L2 PySem.Spec PyProof.Rows
/-- a def, translated -/
structure FD where
  pars : Nat
  slots : Nat
  body : List CS
structure Defs where
  T : Tab
  con : Nat → P
  fns : List FD
  mth : Nat → Nat → Option FD
  ini : Nat → Option FD
def startP (n : Nat) (as : List P) : Loc := as.map some ++ List.replicate (n - as.length) none
/-- less is told of the store -/
def SubS (S' S : Store) : Prop := ∀ a o, S' a = some o → S a = some o
theorem SubS.refl (S : Store) : SubS S S := fun _ _ h => h
theorem SubS.trans {S1 S2 S3 : Store} (a : SubS S1 S2) (b : SubS S2 S3) : SubS S1 S3 := fun x o h => b x o (a x o h)
/-- at a def's end what it leaves lying may be let go -/
def dropQ (Q : QP) : QP := fun p S => ∃ S', SubS S' S ∧ Q p S'
def dropE (E : QE) : QE := fun x S => ∃ S', SubS S' S ∧ E x S'
def DE.fn (Q : QP) (E : QE) : DE := ⟨fun _ S => dropQ Q .non S, dropQ Q, fun _ _ => False, fun _ _ => False, dropE E⟩
def runFD (G : Env) (d : FD) : PSpec := fun as S Q E => as.length = d.pars ∧ wpB G d.body (startP d.slots as) S (DE.fn Q E)
def mkEnv (D : Defs) (k : Nat) (a b : Option Env) : Env where
  con := D.con
  fn := fun i as S Q E => match a, D.fns[i]? with
    | some G, some d => runFD G d as S Q E
    | _, _ => False
  mth := fun c m as S Q E => match a, D.mth c m with
    | some G, some d => runFD G d as S Q E
    | _, _ => False
  has := fun c m => (D.mth c m).isSome
  ini := fun c as S Q E => match b, D.ini c with
    | some G, some d => runFD G d as S Q E
    | _, _ => False
  xc := D.T.xc
  lv := k
def envP (D : Defs) : Nat → Env × Option Env
  | 0 => (mkEnv D 0 none none, none)
  | k + 1 => (mkEnv D (k + 1) (some (envP D k).1) (envP D k).2, some (envP D k).1)
def envAt (D : Defs) (k : Nat) : Env := (envP D k).1
theorem env_1 {D : Defs} {k : Nat} : envAt D (k + 1) = mkEnv D (k + 1) (some (envAt D k)) (envP D k).2 := rfl
theorem env_2 {D : Defs} {k : Nat} : envAt D (k + 2) = mkEnv D (k + 2) (some (envAt D (k + 1))) (some (envAt D k)) := rfl
theorem env_fn {D : Defs} {k i : Nat} {d : FD} (hd : D.fns[i]? = some d) : (envAt D (k + 1)).fn i = runFD (envAt D k) d := by
  funext as S Q E
  rw [env_1]
  simp only [mkEnv, hd]
theorem env_mth {D : Defs} {k c m : Nat} {d : FD} (hd : D.mth c m = some d) : (envAt D (k + 1)).mth c m = runFD (envAt D k) d := by
  funext as S Q E
  rw [env_1]
  simp only [mkEnv, hd]
theorem env_ini {D : Defs} {k c : Nat} {d : FD} (hd : D.ini c = some d) : (envAt D (k + 2)).ini c = runFD (envAt D k) d := by
  funext as S Q E
  rw [env_2]
  simp only [mkEnv, hd]
theorem env_con {D : Defs} : ∀ {k : Nat}, (envAt D k).con = D.con
  | 0 => rfl
  | _ + 1 => rfl
theorem env_has {D : Defs} : ∀ {k : Nat}, (envAt D k).has = fun c m => (D.mth c m).isSome
  | 0 => rfl
  | _ + 1 => rfl
theorem env_xc {D : Defs} : ∀ {k : Nat}, (envAt D k).xc = D.T.xc
  | 0 => rfl
  | _ + 1 => rfl
theorem env_lv {D : Defs} : ∀ {k : Nat}, (envAt D k).lv = k
  | 0 => rfl
  | _ + 1 => rfl
theorem DE.fn_le {Q Q' : QP} {E E' : QE} (hQ : ∀ p S, Q p S → Q' p S) (hE : ∀ x S, E x S → E' x S) : DE.Le (DE.fn Q E) (DE.fn Q' E') := ⟨fun _ S ⟨S', h1, h2⟩ => ⟨S', h1, hQ _ _ h2⟩, fun _ S ⟨S', h1, h2⟩ => ⟨S', h1, hQ _ _ h2⟩, fun _ _ h => h, fun _ _ h => h, fun _ S ⟨S', h1, h2⟩ => ⟨S', h1, hE _ _ h2⟩⟩
theorem runFD_mono {G : Env} (gm : GMono G) (d : FD) : SpMono (runFD G d) := fun as S Q Q' E E' hQ hE h => ⟨h.1, wpB_mono gm d.body (DE.fn_le hQ hE) h.2⟩
theorem spNo_mono : SpMono (fun _ _ _ _ => False) := fun _ _ _ _ _ _ _ _ h => h
theorem mkEnv_mono {D : Defs} {k : Nat} {a b : Option Env} (ha : ∀ G, a = some G → GMono G) (hb : ∀ G, b = some G → GMono G) : GMono (mkEnv D k a b) := by
  refine ⟨fun i as S Q Q' E E' hQ hE h => ?_, fun c m as S Q Q' E E' hQ hE h => ?_, fun c as S Q Q' E E' hQ hE h => ?_⟩
  all_goals
    simp only [mkEnv] at h ⊢
    split at h
    · exact runFD_mono (by first | exact ha _ rfl | exact hb _ rfl) _ as S Q Q' E E' hQ hE h
    · exact h.elim
theorem env_mono (D : Defs) : ∀ k, GMono (envAt D k)
  | 0 => (show GMono (mkEnv D 0 none none) from mkEnv_mono (fun _ h => by cases h) (fun _ h => by cases h))
  | 1 => (show GMono (mkEnv D 1 (some (envAt D 0)) none) from mkEnv_mono (fun _ h => by cases h; exact env_mono D 0) (fun _ h => by cases h))
  | k + 2 => (show GMono (mkEnv D (k + 2) (some (envAt D (k + 1))) (some (envAt D k))) from mkEnv_mono (fun _ h => by cases h; exact env_mono D (k + 1)) (fun _ h => by cases h; exact env_mono D k))
/-- a def as the text's top has left it -/
def FnFactP (K : PySem.W.Frag) (T : Tab) (x qual : Str) (f : Addr) (d : FD) (fd : FuncData) (ps : List Str) : Prop :=
  ∃ st N, Fun K x qual st f fd ∧ FnScope N ps (defScope st) ∧ N.length = d.slots ∧ ps.length = d.pars ∧ Binds K fd ps [] ∧ (defBody st).mapM (trS T N (defScope st) 30) = some d.body
def FnFact (K : PySem.W.Frag) (T : Tab) (x qual : Str) (f : Addr) (d : FD) : Prop := ∃ fd ps, FnFactP K T x qual f d fd ps
section
variable {pr : Program} {w : World} {base : Heap} {B : Bs}
theorem start_ok {N : List Str} {n : Nat} {H : Hp} {ps : List P} {vs : List V} (hn : N.length = n) (r : Reps B H ps vs) : RelL B H (L2.start N vs) (startP n ps) := by
  have hl := r.length
  refine ⟨by unfold L2.start startP; simp [hl, hn], fun i p e => ?_⟩
  unfold startP at e
  unfold L2.start
  by_cases hi : i < ps.length
  · rw [List.getElem?_append_left (by simpa using hi), List.getElem?_map] at e
    cases q : ps[i]? with
    | none => rw [q] at e; cases e
    | some p' =>
      rw [q] at e
      cases e
      obtain ⟨v, e1, r1⟩ := r.get q
      refine ⟨v, ?_, r1⟩
      rw [List.getElem?_append_left (by simpa [hl] using hi), List.getElem?_map, e1]
      rfl
  · rw [List.getElem?_append_right (by simpa using hi), List.getElem?_replicate] at e
    split at e <;> cases e
theorem fd_okP {G : Env} {k : Nat} {x qual : Str} {f : Addr} {d : FD} {fd : FuncData} {ps : List Str} (pf : PFact pr w base B G k) (F : FnFactP B.K B.T x qual f d fd ps) :
    FnOk pr w B.K B.mg base (L2.CX pr w) (k + 1) f fd ps (spOf B ps.length (runFD G d)) := by
  obtain ⟨st, N, F1, S, h1, h2, b, h3⟩ := F
  refine F1.okX S (fun vs H Q E h => h.1) (fun cdv A outer s H vs Q E hr hsp => ?_)
  obtain ⟨hl, qs, S0, Q0, E0, rr, rs, kQ, kE, hlen, hw⟩ := hsp
  refine ⟨tB B G (fun cls d _ H => E cls d H) d.body, sB_T (k := k) (n := 30) (N := N) ?_ h3, ?_⟩
  · exact ⟨⟨rfl, rfl, rfl, S.nd, rfl, rfl, hr, takes_of rfl rfl rfl rfl, pf⟩, fun _ => rfl, rfl, rfl, passes_of rfl, S.kind⟩
  · refine ⟨startP d.slots qs, S0, DE.fn Q0 E0, start_ok h1 rr, rs, ⟨?_, ?_, ?_, ?_, ?_⟩, hw⟩
    · intro ρ S' H' σ' e s l n ⟨S2, d1, q⟩
      exact kQ _ _ _ _ e (s.sub d1) rep_non q
    · intro p S' H' v e s r ⟨S2, d1, q⟩
      exact kQ _ _ _ _ e (s.sub d1) r q
    · intro ρ S' H' σ' e s l n q
      exact q.elim
    · intro ρ S' H' σ' e s l n q
      exact q.elim
    · intro σ' _ ex S' H' cls d e s x ⟨S2, d1, q⟩
      exact kE ex S2 H' cls d e (s.sub d1) x q
theorem fd_ok {G : Env} {k : Nat} {x qual : Str} {f : Addr} {d : FD} (pf : PFact pr w base B G k) (F : FnFact B.K B.T x qual f d) :
    ∃ fd ps, Binds B.K fd ps [] ∧ FnOk pr w B.K B.mg base (L2.CX pr w) (k + 1) f fd ps (spOf B ps.length (runFD G d)) ∧ ps.length = d.pars := by
  obtain ⟨fd, ps, F⟩ := F
  have ok := fd_okP pf F
  obtain ⟨st, N, F1, S, h1, h2, b, h3⟩ := F
  exact ⟨fd, ps, b, ok, h2⟩
/-- an error's own __init__ -/
def isXi (st : Stmt) (self arg f : Str) : Prop := ∃ p1 p2 p3 p4, defBody st = [.Assign [.Attribute (.Name self p1) f p2] (.Name arg p3) p4]
theorem xi_ok {x qual : Str} {fI C : Addr} {fd : FuncData} {st : Stmt} {self arg f : Str} (F : Fun B.K x qual st fI fd) (T : OexC B.K C) (hno : PySem.W.findIn B.K (.ref C) f = some none) (hb : isXi st self arg f) (S : FnScope [self, arg] [self, arg] (defScope st))
    (d1 : (self == ("__debug__" : Str)) = false) (d2 : (self == ("__classdict__" : Str)) = false) (d3 : (arg == ("__debug__" : Str)) = false) (d4 : (arg == ("__classdict__" : Str)) = false) :
    FnOk pr w B.K B.mg base L2.CX0 1 fI fd [self, arg] (spXi C f) := by
  obtain ⟨p1, p2, p3, p4, hb⟩ := hb
  refine F.ok S (fun vs H Q E h => ?_) (fun cdv A outer s H vs Q E hr h => ⟨tOst B.K f (tVar 0) (tVar 1), ?_, ?_⟩)
  · obtain ⟨a, v, rfl, _⟩ := h
    rfl
  · rw [hb]
    have vis : ∀ y ∈ ([self, arg] : List Str), Vis (defScope st) y := fun y hy => by
      rcases S.par y hy with h | h
      · exact .inl h
      · exact .inr (.inl h)
    exact pss_one (ps_ost (pe_var (i := 0) rfl (vis _ (by simp)) d1 d2) (pe_var (i := 1) rfl (vis _ (by simp)) d3 d4))
  · obtain ⟨a, v, rfl, ha, k⟩ := h
    exact ⟨v, rfl, .ref a, rfl, a, C, rfl, T, hno, .inl ⟨ha, fun dx n ne => k dx n ne⟩⟩
end
/-- what stands behind the top, of the program -/
structure PStat (K : PySem.W.Frag) (mg : Str → Option Value) (D : Defs) : Prop where
  con : ∀ (i : Nat) (x : Str), D.T.cns[i]? = some x → ∃ v u, mg x = some u ∧ RelV v u ∧ ∀ H, Rep ⟨K, mg, D.T⟩ H (D.con i) v
  fnv : ∀ (i : Nat) (x : Str), D.T.fns[i]? = some x → ∃ a, mg x = some (.ref a) ∧ PySem.W.keepIn K (.ref a) = true ∧ ∀ d, D.fns[i]? = some d → FnFact K D.T x x a d
  clv : ∀ (i : Nat) (x : Str), D.T.cls[i]? = some x → ∃ a, mg x = some (.ref a) ∧ PySem.W.keepIn K (.ref a) = true
  mth : ∀ (i j : Nat) (d : FD), D.mth i j = some d → ∃ x m q C f, D.T.cls[i]? = some x ∧ D.T.mts[j]? = some m ∧ mg x = some (.ref C) ∧ Meth K C m f ∧ FnFact K D.T m q f d
  ini : ∀ (i : Nat) (d : FD), D.ini i = some d → ∃ x q C f, D.T.cls[i]? = some x ∧ mg x = some (.ref C) ∧ Cls K C ∧ (∀ (f : Nat) (y : Str), D.T.att[f]? = some y → NoAttr K C y) ∧ Mk K C f ∧ FnFact K D.T "__init__" q f d
  blt : ∀ x ∈ bltNames, mg x = none
  att : D.T.att.Nodup
  exm : ∀ (i j : Nat) (x y : Str) (C E : Addr), D.T.cls[i]? = some x → D.T.cls[j]? = some y → (D.T.xc i).isSome = true → (D.T.xc j).isSome = true → mg x = some (.ref C) → mg y = some (.ref E) → PySem.W.exmOne K (.ref C) (.ref E) = some (decide (i = j))
  xfs : ∀ (i : Nat) (x : Str) (C : Addr), D.T.cls[i]? = some x → (D.T.xc i).isSome = true → mg x = some (.ref C) → XfC K C ∧ (∀ (f : Nat) (y : Str), D.T.att[f]? = some y → PySem.W.findIn K (.ref C) y = some none) ∧
    PySem.W.subIn K (.ref C) (.type "BaseException") = some true ∧ PySem.W.typeIn K (.ref C) = some (.type "type")
  xc0 : ∀ (i : Nat) (x : Str) (C : Addr), D.T.cls[i]? = some x → D.T.xc i = some none → mg x = some (.ref C) → PySem.W.excIn K C PySem.HandSPX.veTail "ValueError.__new__" = true
  xc1 : ∀ (i f : Nat) (x y : Str) (C : Addr), D.T.cls[i]? = some x → D.T.xc i = some (some f) → D.T.att[f]? = some y → mg x = some (.ref C) → ∃ fI q st fd self arg, OexC K C ∧ PySem.W.findIn K (.ref C) "__init__" = some (some (.ref fI)) ∧ PySem.W.typeIn K (.ref fI) = some (.type "function") ∧
    Fun K "__init__" q st fI fd ∧ FnScope [self, arg] [self, arg] (defScope st) ∧ isXi st self arg y ∧ Binds K fd [self, arg] [] ∧ ((self == ("__debug__" : Str)) = false ∧ (self == ("__classdict__" : Str)) = false ∧ (arg == ("__debug__" : Str)) = false ∧ (arg == ("__classdict__" : Str)) = false)
  xcf : ∀ (i f : Nat), D.T.xc i = some (some f) → ∃ y, D.T.att[f]? = some y
  dis : ∀ (i j : Nat) (x : Str), D.T.att[i]? = some x → D.T.mts[j]? = some x → False
section
variable {pr : Program} {w : World} {base : Heap} {K : PySem.W.Frag} {mg : Str → Option Value} {D : Defs}
theorem pfact_of (st : PStat K mg D) {k : Nat} {a b : Option Env} (gm : GMono (mkEnv D k a b)) (ha : ∀ G, a = some G → ∃ j, k = j + 1 ∧ PFact pr w base ⟨K, mg, D.T⟩ G j) (hb : ∀ G, b = some G → ∃ j, k = j + 2 ∧ PFact pr w base ⟨K, mg, D.T⟩ G j) :
    PFact pr w base ⟨K, mg, D.T⟩ (mkEnv D k a b) k where
  con := st.con
  fnv := fun i x h => let ⟨f, h1, h2, _⟩ := st.fnv i x h; ⟨f, h1, h2⟩
  clv := st.clv
  fn := fun i x f as S Q E hx hm h => by
    obtain ⟨f', h1, h2, h3⟩ := st.fnv i x hx
    have h1 : mg x = some (.ref f') := h1
    have hm : mg x = some (.ref f) := hm
    rw [h1] at hm; cases hm
    have q : ∀ {as : List P} {S : Store} {Q : QP} {E : QE}, (mkEnv D k a b).fn i as S Q E → ∃ G d, a = some G ∧ D.fns[i]? = some d ∧ runFD G d as S Q E := fun {as S Q E} h => by
      simp only [mkEnv] at h
      split at h
      · rename_i G d ea e1
        exact ⟨G, d, rfl, ea, h⟩
      · exact h.elim
    obtain ⟨G, d, e1, e2, e3⟩ := q h
    obtain ⟨j, rfl, pf⟩ := ha G e1
    obtain ⟨fd, ps, g1, g2, g3⟩ := fd_ok pf (h3 d e2)
    refine ⟨fd, ps, g1, g2.imp fun vs H Q E ⟨l, qs, S0, Q0, E0, a1, a2, a3, a4, a5⟩ => ⟨l, qs, S0, Q0, E0, a1, a2, a3, a4, ?_⟩, e3.1.trans g3.symm⟩
    obtain ⟨G', d', b1, b2, b3⟩ := q a5
    rw [e1] at b1; cases b1
    rw [e2] at b2; cases b2
    exact b3
  has := fun i j x m C hx hC hj h => by
    obtain ⟨d, hd⟩ := Option.isSome_iff_exists.mp (show (D.mth i j).isSome = true from h)
    obtain ⟨x', m', q, C', f, a1, a2, a3, a4, a5⟩ := st.mth i j d hd
    have hx : D.T.cls[i]? = some x := hx
    have hj : D.T.mts[j]? = some m := hj
    have hC : mg x = some (.ref C) := hC
    rw [hx] at a1; cases a1
    rw [hj] at a2; cases a2
    rw [hC] at a3; cases a3
    exact ⟨f, a4⟩
  mth := fun i j x m C f as S Q E hx hC hj hf h => by
    have q : ∀ {as : List P} {S : Store} {Q : QP} {E : QE}, (mkEnv D k a b).mth i j as S Q E → ∃ G d, a = some G ∧ D.mth i j = some d ∧ runFD G d as S Q E := fun {as S Q E} h => by
      simp only [mkEnv] at h
      split at h
      · rename_i G d ea e1
        exact ⟨G, d, rfl, ea, h⟩
      · exact h.elim
    obtain ⟨G, d, e1, e2, e3⟩ := q h
    obtain ⟨x', m', qn, C', f', a1, a2, a3, a4, a5⟩ := st.mth i j d e2
    have hx : D.T.cls[i]? = some x := hx
    have hj : D.T.mts[j]? = some m := hj
    have hC : mg x = some (.ref C) := hC
    rw [hx] at a1; cases a1
    rw [hj] at a2; cases a2
    rw [hC] at a3; cases a3
    have ef : f = f' := by
      have z := hf.at_.symm.trans a4.at_
      simpa using z
    subst ef
    obtain ⟨j', rfl, pf⟩ := ha G e1
    obtain ⟨fd, ps, g1, g2, g3⟩ := fd_ok pf a5
    refine ⟨fd, ps, g1, g2.imp fun vs H Q E ⟨l, qs, S0, Q0, E0, a1, a2, a3, a4, a5⟩ => ⟨l, qs, S0, Q0, E0, a1, a2, a3, a4, ?_⟩, e3.1.trans g3.symm⟩
    obtain ⟨G', d', b1, b2, b3⟩ := q a5
    rw [e1] at b1; cases b1
    rw [e2] at b2; cases b2
    exact b3
  ini := fun i x C as S Q E hx hC h => by
    have q : ∀ {as : List P} {S : Store} {Q : QP} {E : QE}, (mkEnv D k a b).ini i as S Q E → ∃ G d, b = some G ∧ D.ini i = some d ∧ runFD G d as S Q E := fun {as S Q E} h => by
      simp only [mkEnv] at h
      split at h
      · rename_i G d ea e1
        exact ⟨G, d, rfl, ea, h⟩
      · exact h.elim
    obtain ⟨G, d, e1, e2, e3⟩ := q h
    obtain ⟨x', qn, C', f, a1, a2, a3, a4, a5, a6⟩ := st.ini i d e2
    have hx : D.T.cls[i]? = some x := hx
    have hC : mg x = some (.ref C) := hC
    rw [hx] at a1; cases a1
    rw [hC] at a2; cases a2
    obtain ⟨j, rfl, pf⟩ := hb G e1
    obtain ⟨fd, ps, g1, g2, g3⟩ := fd_ok pf a6
    refine ⟨f, fd, ps, j + 1, rfl, a3, a4, a5, g1, g2.imp fun vs H Q E ⟨l, qs, S0, Q0, E0, a1, a2, a3, a4, a5⟩ => ⟨l, qs, S0, Q0, E0, a1, a2, a3, a4, ?_⟩, e3.1.trans g3.symm⟩
    obtain ⟨G', d', b1, b2, b3⟩ := q a5
    rw [e1] at b1; cases b1
    rw [e2] at b2; cases b2
    exact b3
  blt := st.blt
  att := st.att
  gm := gm
  xc := rfl
  lv := rfl
  exm := st.exm
  xfs := st.xfs
  xc0 := st.xc0
  xc1 := fun i f x y C h1 h2 h3 h4 => by
    obtain ⟨fI, q, s, fd, self, arg, a1, a2, a3, a4, a5, a6, a7, d1, d2, d3, d4⟩ := st.xc1 i f x y C h1 h2 h3 h4
    exact ⟨fI, fd, [self, arg], a1, a2, a3, a7, xi_ok (B := ⟨K, mg, D.T⟩) a4 a1 ((st.xfs i x C h1 (by rw [h2]; rfl) h4).2.1 f y h3) a6 a5 d1 d2 d3 d4⟩
  xcf := st.xcf
  dis := st.dis
theorem pfact (st : PStat K mg D) : ∀ k, PFact pr w base ⟨K, mg, D.T⟩ (envAt D k) k
  | 0 => (show PFact pr w base ⟨K, mg, D.T⟩ (mkEnv D 0 none none) 0 from pfact_of st (env_mono D 0) (fun _ h => by cases h) (fun _ h => by cases h))
  | 1 => (show PFact pr w base ⟨K, mg, D.T⟩ (mkEnv D 1 (some (envAt D 0)) none) 1 from pfact_of st (env_mono D 1) (fun _ h => by cases h; exact ⟨0, rfl, pfact st 0⟩) (fun _ h => by cases h))
  | k + 2 => (show PFact pr w base ⟨K, mg, D.T⟩ (mkEnv D (k + 2) (some (envAt D (k + 1))) (some (envAt D k))) (k + 2) from
    pfact_of st (env_mono D (k + 2)) (fun _ h => by cases h; exact ⟨k + 1, rfl, pfact st (k + 1)⟩) (fun _ h => by cases h; exact ⟨k, rfl, pfact st k⟩))
/-- the law, from its clean promise -/
def lawSp (K : PySem.W.Frag) (mg : Str → Option Value) (D : Defs) (k i : Nat) : Sp := spOf ⟨K, mg, D.T⟩ 1 ((envAt D k).fn i)
theorem law_at (st : PStat K mg D) {k i : Nat} {d : FD} {x y : Str} {fa : Addr} {fd : FuncData} (F : FnFactP K D.T x x fa d fd [y]) (hd : D.fns[i]? = some d) :
    FnOk pr w K mg base (L2.CX pr w) (k + 1) fa fd [y] (lawSp K mg D (k + 1) i) := by
  have g := fd_okP (pr := pr) (w := w) (base := base) (pfact st k) F
  unfold lawSp
  rw [env_fn hd]
  exact g
theorem law_read {k i : Nat} {H : Hp} {a : Addr} {ns : List Int} (hO : Only H) (hS : SqL K H a (ns.map V.int)) (hl : ns.length ≤ 63) (h : (envAt D k).fn i [.frl (ns.map P.int)] (fun _ => none) (fun p _ => p = .bl true) noE) :
    lawSp K mg D k i [.ref a] H (fun v _ => v = .bl true) fun _ _ _ => False := by
  have rr : ∀ l : List Int, Reps ⟨K, mg, D.T⟩ H (l.map P.int) (l.map V.int) := by
    intro l
    induction l with
    | nil => exact .nil
    | cons n l ih => exact .cons rep_int ih
  refine ⟨rfl, [.frl (ns.map P.int)], fun _ => none, _, noE, .cons ?_ .nil, fun a o e => (by cases e), ?_, .no, h⟩
  · unfold Rep
    refine ⟨a, ns.map V.int, rfl, ?_, by rw [List.length_map, sizeLine_eq]; omega, rr ns⟩
    rcases hS with (h | ⟨o, h⟩) | h
    · rcases hO a with z | ⟨o, xs, z⟩
      · rw [z] at h; cases h
      · rw [z] at h; cases h
    · exact .inl ⟨o, h⟩
    · exact .inr h
  · intro p S' H' v e s r q
    subst q
    exact r.bl_inv
end
/-- the law's end -/
theorem law_walk {D : Defs} {i k : Nat} {l : PySem.W.OpenLaw} {q : Program} {loose : List Str} {XP : (Str → Option Value) → Heap → Prop} {YP : World → Heap → Prop} {d : DefRec} {K : Params → PySem.W.Frag} (hn : l.most = some 63) (hdf : d.params.defaults = []) (hr : Room k callerA)
    (hY : ∀ (w : World) (h : Heap), YP w h → (K w.params).In h)
    (F : ∀ (w : World) (mg : Str → Option Value) (fa : Addr) (h : Heap), (K w.params).In h → h.Ns mainGlobals mg → mg d.name = some (.ref fa) →
      ∃ fd : FuncData, (∀ (s : Shared) (u : Value), BindsTo s fd ⟨[u], []⟩ [("script", u)]) ∧ ∀ base : Heap, FnOk l.prog w (K w.params) mg base (L2.CX l.prog w) k fa fd ["script"] (lawSp (K w.params) mg D k i))
    (clean : ∀ ns : List Int, ns.length ≤ 63 → (envAt D k).fn i [.frl (ns.map P.int)] (fun _ => none) (fun p _ => p = .bl true) noE) : PySem.W.WalkO q loose XP YP l.row.toRowW d [] (fun f vs => PySem.call f vs) := by
  refine L2.walk_of (n := 63) (k := k) (x := "script") (CX := fun w => L2.CX l.prog w) (sp := fun w => fun vs H Q E => ∀ mg, lawSp (K w.params) mg D k i vs H Q E) hn (by decide) hdf hr hY (fun w mg fa h KX G hmg => ?_)
    (fun w H a ns hl hO hS mg => law_read hO hS hl (clean ns hl)) fun w H s e s' z => ?_
  · obtain ⟨fd, h1, h2⟩ := F w mg fa h KX G hmg
    exact ⟨fd, h1, fun base _ _ => (h2 base).imp fun vs H Q E h => h mg⟩
  · obtain ⟨_, _, _, _, _, _, _, _, _, _, _, _, z⟩ := z
    exact z
end Core

set_option maxRecDepth 100000
set_option maxHeartbeats 4000000
/-! Core19: rules for reading the transformer. -/
namespace Core
open PySem L2
local macro_rules | `(tactic| walk_at "wps") => `(tactic| simp only [wpB, wpS, wpE, wpEs, wpO, wpC, wpT, wpTs, wpVT, wpVTs, wipeP, opCmp, opBin, opAdd, opMul, opAug, tyOf, truthS, isTy, partOf, setAll, lstS, seqOf, bfS, bmS, DE.fn, List.getElem?_cons_zero, List.getElem?_cons_succ, List.set_cons_zero, List.set_cons_succ, List.any_cons, List.any_nil, Bool.or_false, Bool.or_true, Bool.not_true, Bool.not_false, Bool.false_and, Bool.and_false, Bool.true_and, Bool.and_true, beq_self_eq_true, Ty.reduceBEq, reduceCtorEq, if_true, if_false, Bool.false_eq_true])
theorem keep {Q : QP} {p : P} {S : Store} (h : Q p S) : dropQ Q p S := ⟨S, .refl S, h⟩
theorem keepE {Q : QE} {p : Exc} {S : Store} (h : Q p S) : dropE Q p S := ⟨S, .refl S, h⟩
theorem drop {Q : QP} {p : P} {S S' : Store} (d : SubS S' S) (h : Q p S') : dropQ Q p S := ⟨S', d, h⟩
theorem SubS.upd {S : Store} {a : Addr} {o : MO} (h : S a = none) : SubS S (S.upd a o) := fun b x e => by
  by_cases z : b = a
  · subst z; rw [h] at e; cases e
  · rw [Store.upd_ne z]; exact e
theorem SubS.updr {S S' : Store} {a : Addr} {o : MO} (d : SubS S S') (h : S a = none) : SubS S (S'.upd a o) := fun b x e => by
  by_cases z : b = a
  · subst z; rw [h] at e; cases e
  · rw [Store.upd_ne z]; exact d b x e
theorem SubS.free {S S' : Store} (d : SubS S S') {a : Addr} (h : S' a = none) : S a = none := by
  cases e : S a with
  | none => rfl
  | some o => rw [d a o e] at h; cases h
theorem SubS.both {S S' : Store} (d : SubS S S') (a : Addr) (o : MO) : SubS (S.upd a o) (S'.upd a o) := fun b x e => by
  by_cases z : b = a
  · subst z; rw [Store.upd_same] at e ⊢; exact e
  · rw [Store.upd_ne z] at e ⊢; exact d b x e
theorem Store.swap {S : Store} {a b : Addr} {o u : MO} (h : a ≠ b) : (S.upd a o).upd b u = (S.upd b u).upd a o := by
  funext c
  by_cases h1 : c = b
  · subst h1; rw [Store.upd_same, Store.upd_ne (Ne.symm h), Store.upd_same]
  · rw [Store.upd_ne h1]
    by_cases h2 : c = a
    · subst h2; rw [Store.upd_same, Store.upd_same]
    · rw [Store.upd_ne h2, Store.upd_ne h2, Store.upd_ne h1]
theorem Store.ne_of {S : Store} {a b : Addr} {o : MO} (h1 : S a = some o) (h2 : S b = none) : a ≠ b := fun z => by rw [z, h2] at h1; cases h1

/-- what is walked: these items, whatever is laid beside -/
def Walked (k : IK) (vs : List P) (S : Store) (items : List P) : Prop := ∀ K : List P → (Store → Prop) → Prop, (∀ Gd : Store → Prop, (∀ S', SubS S S' → Gd S') → items.length ≤ sizeLine → K items Gd) → iterS k vs S K
theorem walked_tup {xs : List P} {S : Store} : Walked .seq [.tup xs] S xs := fun K h z => h _ (fun _ _ => trivial) z
theorem walked_frl {xs : List P} {S : Store} : Walked .seq [.frl xs] S xs := fun K h z => h _ (fun _ _ => trivial) z
theorem walked_loc {xs : List P} {S : Store} {a : Addr} (e : S a = some (.lst xs)) : Walked .seq [.loc a] S xs := fun K h => by
  simp only [iterS, e]
  exact fun z => h _ (fun S' d => d _ _ e) z
theorem walked_range {n : Int} {S : Store} (h1 : -(2 ^ 62) ≤ n) (h2 : n ≤ sizeLine) : Walked .range [.int n] S ((List.range n.toNat).map fun (i : Nat) => P.int i) := fun K h => by
  simp only [iterS]
  exact ⟨⟨h1, h2⟩, h _ (fun _ _ => trivial) (by rw [List.length_map, List.length_range]; omega)⟩
theorem walked_enumT {xs : List P} {S : Store} : Walked .enum [.tup xs] S (xs.zipIdx.map fun p => P.tup [.int p.2, p.1]) := fun K h => by
  simp only [iterS]
  exact fun z => h _ (fun _ _ => trivial) (by simpa using z)
theorem walked_enumL {xs : List P} {S : Store} {a : Addr} (e : S a = some (.lst xs)) : Walked .enum [.loc a] S (xs.zipIdx.map fun p => P.tup [.int p.2, p.1]) := fun K h => by
  simp only [iterS, e]
  exact fun z => h _ (fun S' d => d _ _ e) (by simpa using z)
theorem filterMap_take {α β : Type} {f : α → Option β} {l : List α} {i : Nat} {x : α} (h : l[i]? = some x) : (l.take (i + 1)).filterMap f = (l.take i).filterMap f ++ (match f x with | some y => [y] | none => []) := by
  have hi := (List.getElem?_eq_some_iff.mp h).1
  have e : l.take (i + 1) = l.take i ++ [x] := by rw [List.take_add_one, h]; rfl
  rw [e, List.filterMap_append]
  congr 1
  cases q : f x with
  | none => simp [q]
  | some y => simp [q]
section
variable {G : Env} {own : List Nat} {k : IK} {args : List CE} {tg : VT} {elt : CE} {cond : Option CE} {ρ : Loc} {S : Store} {Q : QP} {E : QE} {vs items : List P}
/-- [elt for .. in .. if ..]: nothing else is changed -/
theorem wp_comp (g : P → Option P) (ha : ∀ R : List P → Store → Prop, R vs S → wpEs G args ρ S R E) (hw : Walked k vs S items)
    (hb : ∀ (i : Nat) (x : P), items[i]? = some x → ∀ S', SubS S S' → ∀ (Q1 : QP) (Q2 : Store → Prop), (∀ y, g x = some y → Q1 y S') → (g x = none → Q2 S') → wpVT tg x (wipeP ρ own) fun ρ2 => wpC G cond ρ2 S' fun b S3 => if b = true then wpE G elt ρ2 S3 Q1 noE else Q2 S3)
    (hq : ∀ D, S D = none → Q (.loc D) (S.upd D (.lst (items.filterMap g)))) : wpE G (.cmpr own k args tg elt cond) ρ S Q E := by
  unfold wpE
  refine ha _ (hw _ fun Gd gd _ D hD => ?_)
  refine ⟨fun i acc S2 => S2 = S.upd D (.lst acc) ∧ acc = (items.take i).filterMap g, ⟨rfl, by simp⟩, ?_, ?_⟩
  · rintro i x acc S2 hx ⟨rfl, rfl⟩ _
    refine ⟨gd _ (.upd hD), hb i x hx _ (.upd hD) _ _ (fun y hy => ⟨Store.upd_same, Store.upd_upd, ?_⟩) (fun hy => ⟨rfl, ?_⟩)⟩
    · rw [filterMap_take hx, hy]
    · rw [filterMap_take hx, hy]; simp
  · rintro acc S2 ⟨rfl, rfl⟩ _
    refine ⟨gd _ (.upd hD), ?_⟩
    rw [List.take_length]
    exact hq D hD
theorem wp_map (f : P → P) (ha : ∀ R : List P → Store → Prop, R vs S → wpEs G args ρ S R E) (hw : Walked k vs S items)
    (hb : ∀ (i : Nat) (x : P), items[i]? = some x → ∀ S', SubS S S' → ∀ Q1 : QP, Q1 (f x) S' → wpVT tg x (wipeP ρ own) fun ρ2 => wpE G elt ρ2 S' Q1 noE)
    (hq : ∀ D, S D = none → Q (.loc D) (S.upd D (.lst (items.map f)))) : wpE G (.cmpr own k args tg elt none) ρ S Q E := by
  refine wp_comp (fun x => some (f x)) ha hw (fun i x hx S' d Q1 Q2 h1 _ => ?_) (fun D hD => ?_)
  · refine wpVT_mono tg (fun ρ2 h => ?_) (hb i x hx S' d Q1 (h1 _ rfl))
    simp only [wpC, if_true]
    exact h
  · have e : items.filterMap (fun x => some (f x)) = items.map f := by
      induction items with
      | nil => rfl
      | cons a l ih => simp
    rw [e]
    exact hq D hD
/-- [elt for ..]: the element changes what J tells of -/
theorem wp_compJ (J : Nat → List P → Store → Prop) (ha : ∀ R : List P → Store → Prop, R vs S → wpEs G args ρ S R E) (hw : ∀ K : List P → (Store → Prop) → Prop, (∀ Gd : Store → Prop, (∀ i acc S', J i acc S' → ∀ D, S' D = none → ∀ o, Gd (S'.upd D o)) → items.length ≤ sizeLine → K items Gd) → iterS k vs S K) (h0 : J 0 [] S)
    (hb : ∀ (i : Nat) (x : P) (acc : List P) (S0 : Store) (D : Addr), items[i]? = some x → J i acc S0 → acc.length ≤ i → S0 D = none → ∀ Q1 : QP, (∀ p S1, J (i + 1) (acc ++ [p]) S1 → S1 D = none → Q1 p (S1.upd D (.lst acc))) → wpVT tg x (wipeP ρ own) fun ρ2 => wpE G elt ρ2 (S0.upd D (.lst acc)) Q1 noE)
    (hq : ∀ acc S0 D, J items.length acc S0 → S0 D = none → Q (.loc D) (S0.upd D (.lst acc))) : wpE G (.cmpr own k args tg elt none) ρ S Q E := by
  unfold wpE
  refine ha _ (hw _ fun Gd gd _ D hD => ?_)
  refine ⟨fun i acc S2 => ∃ S0, S2 = S0.upd D (.lst acc) ∧ J i acc S0 ∧ S0 D = none, ⟨S, rfl, h0, hD⟩, ?_, ?_⟩
  · rintro i x acc S2 hx ⟨S0, rfl, hJ, hn⟩ hl
    refine ⟨gd _ _ _ hJ D hn _, ?_⟩
    refine wpVT_mono tg (fun ρ2 h => ?_) (hb i x acc S0 D hx hJ hl hn (fun p S4 => S4 D = some (.lst acc) ∧ ∃ S0, S4.upd D (.lst (acc ++ [p])) = S0.upd D (.lst (acc ++ [p])) ∧ J (i + 1) (acc ++ [p]) S0 ∧ S0 D = none) (fun p S1 hJ1 hn1 => ⟨Store.upd_same, S1, Store.upd_upd, hJ1, hn1⟩))
    simp only [wpC, if_true]
    exact h
  · rintro acc S2 ⟨S0, rfl, hJ, hn⟩ _
    exact ⟨gd _ _ _ hJ D hn _, hq acc S0 D hJ hn⟩
end
end Core

set_option maxRecDepth 100000
set_option maxHeartbeats 4000000
/-! Core20: equality of plain data, by plain equality. -/
namespace Core
open PySem L2
mutual
/-- without bools (a bool is equal to an int) and dicts -/
def noB : PyData → Bool
  | .none => true
  | .bool _ => false
  | .int _ => true
  | .str _ => true
  | .list xs => noBs xs
  | .tuple xs => noBs xs
  | .dict _ => false
def noBs : List PyData → Bool
  | [] => true
  | x :: xs => noB x && noBs xs
end
mutual
theorem eqv_iff : ∀ (d e : PyData), noB d = true → noB e = true → (PyData.eqv d e = true ↔ d = e)
  | .none, e, h, h' => by cases e <;> simp [PyData.eqv]
  | .bool _, e, h, h' => by simp [noB] at h
  | .int i, e, h, h' => by
    cases e with
    | bool _ => simp [noB] at h'
    | _ => simp [PyData.eqv]
  | .str s, e, h, h' => by cases e <;> simp [PyData.eqv]
  | .list xs, e, h, h' => by
    cases e with
    | list ys =>
      simp only [noB] at h h'
      simp only [PyData.eqv, PyData.list.injEq]
      exact eqvs_iff xs ys h h'
    | _ => simp [PyData.eqv]
  | .tuple xs, e, h, h' => by
    cases e with
    | tuple ys =>
      simp only [noB] at h h'
      simp only [PyData.eqv, PyData.tuple.injEq]
      exact eqvs_iff xs ys h h'
    | _ => simp [PyData.eqv]
  | .dict _, e, h, h' => by simp [noB] at h
theorem eqvs_iff : ∀ (ds es : List PyData), noBs ds = true → noBs es = true → (PyData.eqvAll ds es = true ↔ ds = es)
  | [], es, h, h' => by cases es <;> simp [PyData.eqvAll]
  | d :: ds, es, h, h' => by
    cases es with
    | nil => simp [PyData.eqvAll]
    | cons e es =>
      simp only [noBs, Bool.and_eq_true] at h h'
      simp only [PyData.eqvAll, Bool.and_eq_true, List.cons.injEq]
      rw [eqv_iff d e h.1 h'.1, eqvs_iff ds es h.2 h'.2]
end
/-- values that stand for plain data -/
class Dat (α : Type) where
  toP : α → P
  toD : α → PyData
  dep : Nat
  den : ∀ (S : Store) (n : Nat) (x : α), dep ≤ n → dataS S n (toP x) = some (toD x)
  nb : ∀ x, noB (toD x) = true
  inj : ∀ x y, toD x = toD y → x = y
class DatN (α : Type) extends Dat α where
  nn : ∀ x, toD x ≠ .none
open Dat (toP toD)
instance : DatN Int where
  toP := .int
  toD := .int
  dep := 1
  den := fun S n x h => by
    cases n with
    | zero => omega
    | succ n => rfl
  nb := fun _ => rfl
  inj := fun x y h => by cases h; rfl
  nn := fun _ h => by cases h
theorem mapM_den {α : Type} [Dat α] (S : Store) (n : Nat) (h : Dat.dep α ≤ n) : ∀ xs : List α, (xs.map Dat.toP).mapM (dataS S n) = some (xs.map Dat.toD)
  | [] => rfl
  | x :: xs => by
    rw [List.map_cons, List.mapM_cons, Dat.den S n x h, mapM_den S n h xs]
    rfl
theorem noBs_map {α : Type} [Dat α] : ∀ xs : List α, noBs (xs.map Dat.toD) = true
  | [] => rfl
  | x :: xs => by rw [List.map_cons, noBs, Dat.nb x, noBs_map xs]; rfl
theorem map_inj {α : Type} [Dat α] : ∀ xs ys : List α, xs.map (Dat.toD) = ys.map Dat.toD → xs = ys
  | [], ys, h => by cases ys with
    | nil => rfl
    | cons _ _ => cases h
  | x :: xs, ys, h => by
    cases ys with
    | nil => cases h
    | cons y ys =>
      simp only [List.map_cons, List.cons.injEq] at h
      rw [Dat.inj x y h.1, map_inj xs ys h.2]
/-- a row, as a tuple -/
instance {α : Type} [Dat α] : DatN (List α) where
  toP := fun xs => .tup (xs.map Dat.toP)
  toD := fun xs => .tuple (xs.map Dat.toD)
  dep := Dat.dep α + 1
  den := fun S n xs h => by
    cases n with
    | zero => omega
    | succ n =>
      simp only [dataS]
      rw [mapM_den S n (by omega)]
      rfl
  nb := fun xs => noBs_map xs
  inj := fun xs ys h => map_inj xs ys (by simpa using h)
  nn := fun _ h => by cases h
/-- a pair -/
instance {α β : Type} [Dat α] [Dat β] : DatN (α × β) where
  toP := fun x => .tup [Dat.toP x.1, Dat.toP x.2]
  toD := fun x => .tuple [Dat.toD x.1, Dat.toD x.2]
  dep := max (Dat.dep α) (Dat.dep β) + 1
  den := fun S n x h => by
    cases n with
    | zero => omega
    | succ n =>
      simp only [dataS, List.mapM_cons, List.mapM_nil]
      rw [Dat.den S n x.1 (by omega), Dat.den S n x.2 (by omega)]
      rfl
  nb := fun x => by simp [noB, noBs, Dat.nb]
  inj := fun x y h => by
    simp only [PyData.tuple.injEq, List.cons.injEq, and_true] at h
    exact Prod.ext (Dat.inj _ _ h.1) (Dat.inj _ _ h.2)
  nn := fun _ h => by cases h
/-- a value or None -/
instance {α : Type} [DatN α] : Dat (Option α) where
  toP := fun x => match x with
    | none => .non
    | some x => Dat.toP x
  toD := fun x => match x with
    | none => .none
    | some x => Dat.toD x
  dep := Dat.dep α + 1
  den := fun S n x h => by
    cases n with
    | zero => omega
    | succ n =>
      cases x with
      | none => rfl
      | some x => exact Dat.den S _ x (by omega)
  nb := fun x => by
    cases x with
    | none => rfl
    | some x => exact Dat.nb x
  inj := fun x y h => by
    cases x with
    | none =>
      cases y with
      | none => rfl
      | some y => exact absurd h.symm (DatN.nn y)
    | some x =>
      cases y with
      | none => exact absurd h (DatN.nn x)
      | some y => rw [Dat.inj x y h]
section
variable {α : Type} [Dat α] [DecidableEq α] {S : Store} {k : Bool → Prop}
theorem eqv_dat (x y : α) : PyData.eqv (toD x) (toD y) = decide (x = y) := by
  have h := eqv_iff (toD x) (toD y) (Dat.nb x) (Dat.nb y)
  by_cases e : x = y
  · subst e; rw [decide_eq_true rfl]; exact h.mpr rfl
  · rw [decide_eq_false e]
    cases q : PyData.eqv (toD x) (toD y) with
    | false => rfl
    | true => exact absurd (Dat.inj x y (h.mp q)) e
theorem eq_dat (x y : α) (hd : Dat.dep α ≤ 62) (h : k (decide (x = y))) : eqS S (toP x) (toP y) k := by
  refine ⟨toD x, toD y, Dat.den S 62 x hd, Dat.den S 62 y hd, ?_⟩
  rw [eqv_dat]
  exact h
/-- two lists -/
theorem eq_lst {a b : Addr} (xs ys : List α) (hd : Dat.dep α ≤ 61) (h1 : S a = some (.lst (xs.map toP))) (h2 : S b = some (.lst (ys.map toP))) (h : k (decide (xs = ys))) : eqS S (.loc a) (.loc b) k := by
  refine ⟨.list (xs.map toD), .list (ys.map toD), ?_, ?_, ?_⟩
  · simp only [dataS, h1]
    rw [mapM_den S 61 hd]; rfl
  · simp only [dataS, h2]
    rw [mapM_den S 61 hd]; rfl
  · have e := eqv_iff (.list (xs.map toD)) (.list (ys.map toD)) (noBs_map xs) (noBs_map ys)
    have z : PyData.eqv (.list (xs.map toD)) (.list (ys.map toD)) = decide (xs = ys) := by
      by_cases q : xs = ys
      · subst q; rw [decide_eq_true rfl]; exact e.mpr rfl
      · rw [decide_eq_false q]
        cases w : PyData.eqv (.list (xs.map toD)) (.list (ys.map toD)) with
        | false => rfl
        | true => exact absurd (map_inj xs ys (by simpa using e.mp w)) q
    rw [z]
    exact h
theorem any_dat (x : α) : ∀ xs : List α, (xs.map toD).any (fun e => PyData.eqv e (toD x)) = decide (x ∈ xs)
  | [] => by simp
  | y :: ys => by
    rw [List.map_cons, List.any_cons, any_dat x ys, eqv_dat]
    by_cases e : y = x
    · subst e; simp
    · simp [e, Ne.symm e]
theorem in_lst (x : α) (xs : List α) (hd : Dat.dep α ≤ 62) (h : k (decide (x ∈ xs))) : inS S (toP x) (xs.map toP) k := by
  refine ⟨toD x, xs.map toD, Dat.den S 62 x hd, mapM_den S 62 hd xs, ?_⟩
  rw [any_dat]
  exact h
end
theorem eqS_int {S : Store} {i j : Int} {k : Bool → Prop} (h : k (decide (i = j))) : eqS S (.int i) (.int j) k := eq_dat (α := Int) i j (by decide) h
theorem eqS_str {S : Store} {s t : Str} {k : Bool → Prop} (h1 : PyData.strOk s = true) (h2 : PyData.strOk t = true) (h : k (decide (s = t))) : eqS S (.str s) (.str t) k := by
  refine ⟨.str s, .str t, by simp [dataS, h1], by simp [dataS, h2], ?_⟩
  have e : PyData.eqv (.str s) (.str t) = decide (s = t) := by
    show (s == t) = _
    by_cases q : s = t
    · subst q; simp
    · simp [q]
  rw [e]
  exact h
end Core

set_option maxRecDepth 100000
set_option maxHeartbeats 4000000
/-! Lib1: what several laws' texts have in common: whole numbers in a range, words, draws. -/
namespace Core
open PySem L2
open Dat (toP toD)
/-! ### reading -/
theorem ty_list : ((Ty.int == Ty.int) = true ∧ (Ty.bool == Ty.bool) = true ∧ (Ty.str == Ty.str) = true ∧ (Ty.tuple == Ty.tuple) = true ∧ (Ty.list == Ty.list) = true) ∧
    ((Ty.int == Ty.bool) = false ∧ (Ty.int == Ty.str) = false ∧ (Ty.int == Ty.tuple) = false ∧ (Ty.int == Ty.list) = false) ∧ ((Ty.bool == Ty.int) = false ∧ (Ty.bool == Ty.str) = false ∧ (Ty.bool == Ty.tuple) = false ∧ (Ty.bool == Ty.list) = false) ∧
    ((Ty.str == Ty.int) = false ∧ (Ty.str == Ty.bool) = false ∧ (Ty.str == Ty.tuple) = false ∧ (Ty.str == Ty.list) = false) ∧ ((Ty.tuple == Ty.int) = false ∧ (Ty.tuple == Ty.bool) = false ∧ (Ty.tuple == Ty.str) = false ∧ (Ty.tuple == Ty.list) = false) ∧
    ((Ty.list == Ty.int) = false ∧ (Ty.list == Ty.bool) = false ∧ (Ty.list == Ty.str) = false ∧ (Ty.list == Ty.tuple) = false) := by decide
theorem eqS_ints {S : Store} {i j : Int} {k : Bool → Prop} : eqS S (.int i) (.int j) k = k (decide (i = j)) := by
  refine propext ⟨fun ⟨d, e, h1, h2, h3⟩ => ?_, eqS_int⟩
  cases h1; cases h2
  have e := eqv_dat (α := Int) i j
  have h3 : k (PyData.eqv (.int i) (.int j)) := h3
  rw [show PyData.eqv (.int i) (.int j) = decide (i = j) from e] at h3
  exact h3
theorem if_bl {b : Bool} {A B : Prop} (h1 : b = true → A) (h2 : b = false → B) : (match some b with | some true => A | some false => B | none => False) := by
  cases b
  · exact h2 rfl
  · exact h1 rfl
/-- an expression with a value that changes nothing -/
def Is (G : Env) (c : CE) (ρ : Loc) (S : Store) (E : QE) (p : P) : Prop := ∀ Q : QP, Q p S → wpE G c ρ S Q E
section
variable {G : Env} {ρ : Loc} {S : Store} {E : QE} {Q : QP}
theorem Is.run {c : CE} {p : P} (h : Is G c ρ S E p) (q : Q p S) : wpE G c ρ S Q E := h Q q
theorem is_var {i : Nat} {p : P} (h : ρ[i]? = some (some p)) : Is G (.var i) ρ S E p := fun Q q => by unfold wpE; rw [h]; exact q
theorem is_lit {p : P} : Is G (.lit p) ρ S E p := fun Q q => by unfold wpE; exact q
theorem is_con {i : Nat} {p : P} (h : G.con i = p) : Is G (.con i) ρ S E p := fun Q q => by unfold wpE; rw [h]; exact q
theorem is_fnv {i : Nat} : Is G (.fnv i) ρ S E (.fn i) := fun Q q => by unfold wpE; exact q
def Iss (G : Env) (cs : List CE) (ρ : Loc) (S : Store) (E : QE) (ps : List P) : Prop := ∀ Q : List P → Store → Prop, Q ps S → wpEs G cs ρ S Q E
theorem iss_nil : Iss G [] ρ S E [] := fun Q q => by unfold wpEs; exact q
theorem iss_cons {c : CE} {cs : List CE} {p : P} {ps : List P} (h : Is G c ρ S E p) (t : Iss G cs ρ S E ps) : Iss G (c :: cs) ρ S E (p :: ps) := fun Q q => by unfold wpEs; exact h _ (t _ q)
theorem is_tup {cs : List CE} {ps : List P} (h : Iss G cs ρ S E ps) : Is G (.tup cs) ρ S E (.tup ps) := fun Q q => by unfold wpE; exact h _ q
theorem is_or {a b : CE} {x y : Bool} (h1 : Is G a ρ S E (.bl x)) (h2 : x = false → Is G b ρ S E (.bl y)) : Is G (.or_ a b) ρ S E (.bl (x || y)) := fun Q q => by
  unfold wpE
  refine h1 _ ?_
  cases x with
  | true => exact q
  | false => exact h2 rfl _ q
theorem is_and {a b : CE} {x y : Bool} (h1 : Is G a ρ S E (.bl x)) (h2 : x = true → Is G b ρ S E (.bl y)) : Is G (.and_ a b) ρ S E (.bl (x && y)) := fun Q q => by
  unfold wpE
  refine h1 _ ?_
  cases x with
  | false => exact q
  | true => exact h2 rfl _ q
theorem is_not {a : CE} {x : Bool} (h1 : Is G a ρ S E (.bl x)) : Is G (.not_ a) ρ S E (.bl (!x)) := fun Q q => by
  unfold wpE
  exact h1 _ q
theorem is_isi {a : CE} {p : P} {t : Option Ty} {ts : List Ty} (h1 : Is G a ρ S E p) (ht : tyOf S p = some t) : Is G (.isi a ts) ρ S E (.bl (ts.any fun u => isTy t u)) := fun Q q => by
  unfold wpE
  refine h1 _ ?_
  rw [ht]
  exact q
theorem is_len {a : CE} {p : P} {xs : List P} (h1 : Is G a ρ S E p) (ht : seqOf S p = some xs) : Is G (.blt .len [a]) ρ S E (.int xs.length) := fun Q q => by
  unfold wpE wpEs wpEs
  refine h1 _ ?_
  simp only [bfS, ht]
  exact fun _ => q
theorem is_idx {a b : CE} {p : P} {i : Int} {xs : List P} {v : P} (h1 : Is G a ρ S E p) (h2 : Is G b ρ S E (.int i)) (ht : seqOf S p = some xs) (hv : atI xs i = some v) : Is G (.idx a b) ρ S E v := fun Q q => by
  unfold wpE
  refine h1 _ (h2 _ ?_)
  simp only [opIdx, ht]
  exact fun _ => ⟨v, hv, q⟩
theorem is_cmp {a b : CE} {p r : P} {op : CmpOp} {v : Bool} (h1 : Is G a ρ S E p) (h2 : Is G b ρ S E r) (h : ∀ Q : QP, Q (.bl v) S → opCmp op p r S Q) : Is G (.cmp op a b) ρ S E (.bl v) := fun Q q => by
  unfold wpE
  exact h1 _ (h2 _ (h _ q))
theorem is_bin {a b : CE} {p r v : P} {op : Operator} (h1 : Is G a ρ S E p) (h2 : Is G b ρ S E r) (h : ∀ Q : QP, Q v S → opBin op p r S Q) : Is G (.bin op a b) ρ S E v := fun Q q => by
  unfold wpE
  exact h1 _ (h2 _ (h _ q))
theorem is_call {f : Nat} {cs : List CE} {ps : List P} {v : P} (h1 : Iss G cs ρ S E ps) (h : ∀ Q : QP, Q v S → G.fn f ps S Q E) : Is G (.call f cs) ρ S E v := fun Q q => by
  unfold wpE
  exact h1 _ (h _ q)
theorem is_neg {a : CE} {i : Int} (h1 : Is G a ρ S E (.int i)) : Is G (.neg a) ρ S E (.int (-i)) := fun Q q => by
  unfold wpE
  exact h1 _ q
theorem is_chn {a b c : CE} {i j l : Int} (h1 : Is G a ρ S E (.int i)) (h2 : Is G b ρ S E (.int j)) (h3 : Is G c ρ S E (.int l)) : Is G (.chn .LtE .LtE a b c) ρ S E (.bl (decide (i ≤ j) && decide (j ≤ l))) := fun Q q => by
  unfold wpE
  refine h1 _ (h2 _ ?_)
  simp only [opCmp]
  by_cases e : i ≤ j
  · rw [decide_eq_true e] at q ⊢
    exact h3 _ q
  · rw [decide_eq_false e] at q ⊢
    exact q
/-- the bounds of a part -/
def IsO (G : Env) (o : Option CE) (ρ : Loc) (S : Store) (E : QE) (u : Option Int) : Prop := match o, u with
  | none, none => True
  | some c, some i => Is G c ρ S E (.int i)
  | _, _ => False
theorem is_slcT {a : CE} {lo hi : Option CE} {xs : List P} {l h : Option Int} (h1 : Is G a ρ S E (.tup xs)) (hl : IsO G lo ρ S E l) (hh : IsO G hi ρ S E h) : Is G (.slc a lo hi) ρ S E (.tup (cutP xs l h)) := fun Q q => by
  unfold wpE
  refine h1 _ ?_
  have go : ∀ (o : Option CE) (u : Option Int), IsO G o ρ S E u → ∀ R : Option P → Store → Prop, (∀ p, partOf p = some u → R p S) → wpO G o ρ S R E := fun o u ho R hR => by
    cases o with
    | none => cases u with
      | none => unfold wpO; exact hR none rfl
      | some _ => exact ho.elim
    | some c => cases u with
      | none => exact ho.elim
      | some i => unfold wpO; exact (show Is G c ρ S E (.int i) from ho) _ (hR (some (.int i)) rfl)
  refine go lo l hl _ fun p hp => ?_
  rw [hp]
  refine go hi h hh _ fun p2 hp2 => ?_
  rw [hp2]
  exact fun _ => q
theorem atI_nat {α : Type} {xs : List α} {k : Nat} (h : k < xs.length) : atI xs (k : Int) = xs[k]? := by
  unfold atI ixN
  rw [if_pos (by omega), if_pos (by omega)]
  simp
/-! statements -/
variable {D : DE}
theorem wp_if {c : CE} {a b : List CS} {x : Bool} (h : Is G c ρ S D.ex (.bl x)) (h1 : x = true → wpB G a ρ S D) (h2 : x = false → wpB G b ρ S D) : wpS G (.if_ c a b) ρ S D := by
  unfold wpS
  refine h _ ?_
  cases x with
  | true => exact h1 rfl
  | false => exact h2 rfl
theorem wp_ret {c : CE} {p : P} (h : Is G c ρ S D.ex p) (q : D.rt p S) : wpS G (.ret c) ρ S D := by
  unfold wpS
  exact h _ q
theorem wp_retL {cs : List CE} {ps : List P} (h : Iss G cs ρ S D.ex ps) (q : ∀ a, S a = none → D.rt (.loc a) (S.upd a (.lst ps))) : wpS G (.ret (.lst cs)) ρ S D := by
  unfold wpS wpE
  exact h _ q
theorem wp_seq {s : CS} {ss : List CS} (h : wpS G s ρ S { D with nx := fun ρ' S' => wpB G ss ρ' S' D }) : wpB G (s :: ss) ρ S D := by unfold wpB; exact h
theorem wp_nil (h : D.nx ρ S) : wpB G [] ρ S D := by unfold wpB; exact h
theorem wp_set {i : Nat} {c : CE} {p : P} (h : Is G c ρ S D.ex p) (q : D.nx (ρ.set i (some p)) S) : wpS G (.asg (.nm i) c) ρ S D := by
  unfold wpS
  refine h _ ?_
  unfold wpT
  exact q
end
/-! ### whole numbers in a range -/
def inRange (lo hi : Int) : P → Bool
  | .int i => decide (lo ≤ i) && decide (i ≤ hi)
  | _ => false
def bIsInteger : List CS := [(.ret (.and_ (.isi (.var 0) [.int]) (.and_ (.not_ (.isi (.var 0) [.bool])) (.chn .LtE .LtE (.var 1) (.var 0) (.var 2)))))]
def SpInt (sp : PSpec) : Prop := ∀ {v : P} {lo hi : Int} {S : Store} {Q : QP} {E : QE} {t : Option Ty}, tyOf S v = some t → Q (.bl (inRange lo hi v)) S → sp [v, .int lo, .int hi] S Q E
theorem int_sp (G : Env) : SpInt (runFD G ⟨3, 3, bIsInteger⟩) := fun {v lo hi S Q E t} ht h => by
  refine ⟨rfl, ?_⟩
  show wpB G bIsInteger [some v, some (.int lo), some (.int hi)] S _
  refine wp_seq ?_
  have i0 : Is G (.isi (.var 0) [.int]) [some v, some (.int lo), some (.int hi)] S (dropE E) _ := is_isi (is_var rfl) ht
  have i1 : Is G (.isi (.var 0) [.bool]) [some v, some (.int lo), some (.int hi)] S (dropE E) _ := is_isi (is_var rfl) ht
  have fin : ∀ {b : Bool}, b = inRange lo hi v → dropQ Q (.bl b) S := fun e => by rw [e]; exact keep h
  cases v with
  | int i =>
    cases ht
    exact wp_ret (is_and i0 fun _ => is_and (is_not i1) fun _ => is_chn (is_var rfl) (is_var rfl) (is_var rfl)) (fin rfl)
  | bl b =>
    cases ht
    exact wp_ret (is_and (y := false) i0 fun _ => is_and (y := false) (is_not i1) fun e => by cases e) (fin rfl)
  | non => cases ht; exact wp_ret (is_and (y := false) i0 fun e => by cases e) (fin rfl)
  | str s => cases ht; exact wp_ret (is_and (y := false) i0 fun e => by cases e) (fin rfl)
  | tup s => cases ht; exact wp_ret (is_and (y := false) i0 fun e => by cases e) (fin rfl)
  | frl s => cases ht; exact wp_ret (is_and (y := false) i0 fun e => by cases e) (fin rfl)
  | fn s => cases ht
  | loc a =>
    have e : t = some .list := by
      simp only [tyOf] at ht
      split at ht
      · exact (Option.some.inj ht).symm
      · cases ht
    subst e
    exact wp_ret (is_and (y := false) i0 fun e => by cases e) (fin rfl)

/-! ### values that one may look at -/
mutual
def okV (S : Store) : P → Prop
  | .fn _ => False
  | .loc a => ∃ xs, S a = some (.lst xs)
  | .tup xs => okVs S xs
  | .frl xs => okVs S xs
  | .str s => PyData.strOk s = true
  | _ => True
def okVs (S : Store) : List P → Prop
  | [] => True
  | x :: xs => okV S x ∧ okVs S xs
end
theorem okVs_iff {S : Store} : ∀ {xs : List P}, okVs S xs ↔ ∀ x ∈ xs, okV S x
  | [] => by simp [okVs]
  | x :: xs => by simp [okVs, okVs_iff (xs := xs)]
theorem okV.ty {S : Store} {v : P} (h : okV S v) : ∃ t, tyOf S v = some t := by
  cases v with
  | fn _ => exact h.elim
  | loc a =>
    obtain ⟨xs, e⟩ := (show ∃ xs, S a = some (.lst xs) from h)
    exact ⟨some .list, by simp [tyOf, e]⟩
  | _ => exact ⟨_, rfl⟩
mutual
theorem okV.ext {S S' : Store} (d : SubS S S') : ∀ {v : P}, okV S v → okV S' v
  | .fn _, h => h
  | .loc a, h => by
    unfold okV at h ⊢
    obtain ⟨xs, e⟩ := h
    exact ⟨xs, d _ _ e⟩
  | .tup xs, h => by unfold okV at h ⊢; exact okVs.ext d h
  | .frl xs, h => by unfold okV at h ⊢; exact okVs.ext d h
  | .str s, h => h
  | .non, h => h
  | .bl _, h => h
  | .int _, h => h
theorem okVs.ext {S S' : Store} (d : SubS S S') : ∀ {v : List P}, okVs S v → okVs S' v
  | [], h => h
  | x :: xs, h => by
    unfold okVs at h ⊢
    exact ⟨okV.ext d h.1, okVs.ext d h.2⟩
end
theorem tyOf_ext {S S' : Store} (d : SubS S S') {v : P} {t : Option Ty} (h : tyOf S v = some t) : tyOf S' v = some t := by
  cases v with
  | loc a =>
    simp only [tyOf] at h ⊢
    split at h
    · rename_i xs e
      rw [d _ _ e]
      exact h
    · cases h
  | _ => exact h
theorem ty_tup {S : Store} {v : P} {t : Option Ty} (h : tyOf S v = some t) : ([Ty.tuple].any fun u => isTy t u) = (match v with | .tup _ => true | _ => false) := by
  cases v with
  | fn _ => cases h
  | loc a =>
    simp only [tyOf] at h
    split at h
    · cases h; rfl
    · cases h
  | _ => cases h; rfl
theorem ty_str {S : Store} {v : P} {t : Option Ty} (h : tyOf S v = some t) : ([Ty.str].any fun u => isTy t u) = (match v with | .str _ => true | _ => false) := by
  cases v with
  | fn _ => cases h
  | loc a =>
    simp only [tyOf] at h
    split at h
    · cases h; rfl
    · cases h
  | _ => cases h; rfl
def bools (bs : List Bool) : List P := bs.map .bl
theorem boolsP_map : ∀ bs : List Bool, boolsP (bs.map P.bl) = some bs
  | [] => rfl
  | b :: bs => by
    rw [List.map_cons]
    unfold boolsP
    rw [boolsP_map bs]
    rfl
section
variable {G : Env} {ρ : Loc} {S : Store} {E : QE} {Q : QP}
/-- all([.. for ..]) -/
theorem is_all {own : List Nat} {k : IK} {args : List CE} {tg : VT} {elt : CE} {vs items : List P} (f : P → Bool) (ha : Iss G args ρ S E vs) (hw : Walked k vs S items)
    (hb : ∀ (i : Nat) (x : P), items[i]? = some x → ∀ S', SubS S S' → ∀ Q1 : QP, Q1 (.bl (f x)) S' → wpVT tg x (wipeP ρ own) fun ρ2 => wpE G elt ρ2 S' Q1 noE)
    (h : ∀ S', SubS S S' → Q (.bl (items.all f)) S') : wpE G (.blt .all [.cmpr own k args tg elt none]) ρ S Q E := by
  unfold wpE wpEs wpEs
  refine wp_map (fun x => .bl (f x)) ha hw hb fun D hD => ?_
  simp only [bfS, Store.upd_same]
  have e : items.map (fun x => P.bl (f x)) = (items.map f).map P.bl := by rw [List.map_map]; rfl
  rw [e]
  refine ⟨_, boolsP_map _, ?_⟩
  have e2 : (items.map f).all id = items.all f := by rw [List.all_map]; rfl
  rw [e2]
  exact h _ (.upd hD)
theorem wp_expr {c : CE} {D : DE} (h : wpE G c ρ S (fun _ S' => D.nx ρ S') D.ex) : wpS G (.exp c) ρ S D := by unfold wpS; exact h
theorem wp_ret_all {D : DE} {own : List Nat} {k : IK} {args : List CE} {tg : VT} {elt : CE} {vs items : List P} (f : P → Bool) (ha : Iss G args ρ S D.ex vs) (hw : Walked k vs S items)
    (hb : ∀ (i : Nat) (x : P), items[i]? = some x → ∀ S', SubS S S' → ∀ Q1 : QP, Q1 (.bl (f x)) S' → wpVT tg x (wipeP ρ own) fun ρ2 => wpE G elt ρ2 S' Q1 noE)
    (h : ∀ S', SubS S S' → D.rt (.bl (items.all f)) S') : wpS G (.ret (.blt .all [.cmpr own k args tg elt none])) ρ S D := by
  unfold wpS
  exact is_all f ha hw hb h
end
section
variable {G : Env} {ρ : Loc} {S : Store} {E : QE} {Q : QP}
theorem is_int {c : CE} {i : Int} (h : Is G c ρ S E (.int i)) : Is G (.blt .int [c]) ρ S E (.int i) := fun Q q => by
  unfold wpE wpEs wpEs
  exact h _ q
theorem is_add {a b : CE} {i j : Int} (h1 : Is G a ρ S E (.int i)) (h2 : Is G b ρ S E (.int j)) : Is G (.bin .Add a b) ρ S E (.int (i + j)) := is_bin h1 h2 fun R r => r
theorem is_sub {a b : CE} {i j : Int} (h1 : Is G a ρ S E (.int i)) (h2 : Is G b ρ S E (.int j)) : Is G (.bin .Sub a b) ρ S E (.int (i - j)) := is_bin h1 h2 fun R r => r
theorem is_mulR {a b : CE} {i j : Int} (h1 : Is G a ρ S E (.int i)) (h2 : Is G b ρ S E (.int j)) (l : -(2 ^ 64) < j) (u : j < 2 ^ 64) : Is G (.bin .Mult a b) ρ S E (.int (i * j)) := is_bin h1 h2 fun R r => ⟨.inl (.inr ⟨l, u⟩), r⟩
theorem is_mod {a b : CE} {i j : Int} (h1 : Is G a ρ S E (.int i)) (h2 : Is G b ρ S E (.int j)) (l : 0 < j) : Is G (.bin .Mod a b) ρ S E (.int (i % j)) := is_bin h1 h2 fun R r => ⟨l, r⟩
theorem is_div {a b : CE} {i j : Int} (h1 : Is G a ρ S E (.int i)) (h2 : Is G b ρ S E (.int j)) (l : 0 < j) (u : j < 2 ^ 64) : Is G (.bin .FloorDiv a b) ρ S E (.int (i / j)) := is_bin h1 h2 fun R r => ⟨⟨l, by
  have h : j.natAbs < 2 ^ 64 := by omega
  have := (Nat.log2_lt (n := j.natAbs) (k := 64) (by omega)).mpr h
  omega⟩, r⟩
/-- bag[i] = number -/
theorem wp_put {i : Nat} {c e : CE} {a : Addr} {xs : List P} {n : Int} {j : Nat} {p : P} {D : DE} (h0 : Is G e ρ S D.ex p) (h1 : ρ[i]? = some (some (.loc a))) (h2 : Is G c ρ S D.ex (.int n)) (hs : S a = some (.lst xs)) (hj : ixN xs.length n = some j) (q : D.nx ρ (S.upd a (.lst (xs.set j p)))) : wpS G (.asg (.sub (.var i) c) e) ρ S D := by
  unfold wpS
  refine h0 _ ?_
  unfold wpT
  refine is_var h1 _ (h2 _ ?_)
  simp only [lstS, hs]
  exact fun _ => ⟨j, hj, q⟩
end
/-! ### words -/
def isWordB (k most : Int) : P → Bool
  | .tup xs => decide ((xs.length : Int) ≤ most) && xs.all (inRange 0 (k - 1))
  | _ => false
theorem isWordB_tup {k most : Int} {xs : List P} : isWordB k most (.tup xs) = (decide ((xs.length : Int) ≤ most) && xs.all (inRange 0 (k - 1))) := rfl
def bIsWord (n : Nat) : List CS := [
  (.if_ (.or_ (.not_ (.isi (.var 0) [.tuple])) (.cmp .Gt (.blt .len [(.var 0)]) (.var 2))) [(.ret (.lit (.bl false)))] []),
  (.ret (.blt .all [(.cmpr [3] .seq [(.var 0)] (.nm 3) (.call n [(.var 3), (.lit (.int 0)), (.bin .Sub (.var 1) (.lit (.int 1)))]) none)]))]
def SpWord (sp : PSpec) : Prop := ∀ {v : P} {k most : Int} {S : Store} {Q : QP} {E : QE}, okV S v → Q (.bl (isWordB k most v)) S → sp [v, .int k, .int most] S Q E
theorem word_sp {G : Env} {n : Nat} (hi : SpInt (G.fn n)) : SpWord (runFD G ⟨3, 4, bIsWord n⟩) := fun {v k most S Q E} ok h => by
  refine ⟨rfl, ?_⟩
  show wpB G (bIsWord n) [some v, some (.int k), some (.int most), none] S _
  obtain ⟨t, ht⟩ := ok.ty
  have i0 : Is G (.not_ (.isi (.var 0) [.tuple])) [some v, some (.int k), some (.int most), none] S (dropE E) _ := is_not (is_isi (is_var rfl) ht)
  rw [ty_tup ht] at i0
  have no : ∀ {D : DE}, D.rt = dropQ Q → isWordB k most v = false → wpB G [(.ret (.lit (.bl false)))] [some v, some (.int k), some (.int most), none] S D := fun e1 e2 => wp_seq (wp_ret is_lit (by
    show DE.rt _ _ _
    simp only [e1]
    rw [e2] at h
    exact keep h))
  refine wp_seq ?_
  cases v with
  | tup xs =>
    refine wp_if (is_or i0 fun _ => is_cmp (v := decide (most < xs.length)) (is_len (is_var rfl) rfl) (is_var rfl) fun R r => r) (fun e => no rfl ?_) (fun e => wp_seq ?_)
    · simp only [Bool.not_true, Bool.false_or, decide_eq_true_eq] at e
      rw [isWordB_tup, decide_eq_false (by omega)]
      rfl
    · simp only [Bool.not_true, Bool.false_or, decide_eq_false_iff_not] at e
      refine wp_ret_all (inRange 0 (k - 1)) (iss_cons (is_var rfl) iss_nil) walked_tup (fun i x hx S' d Q1 q => ?_) fun S' d => drop d ?_
      · unfold wpVT
        have okx : okV S' x := (okVs_iff.mp (show okVs S xs from ok) x (List.mem_of_getElem? hx)).ext d
        obtain ⟨t, ht⟩ := okx.ty
        exact is_call (G := G) (iss_cons (is_var rfl) (iss_cons is_lit (iss_cons (is_sub (is_var rfl) is_lit) iss_nil))) (fun R r => hi ht r) Q1 q
      · rw [isWordB_tup, decide_eq_true (by omega)] at h
        exact h
  | _ => exact wp_if (is_or (y := false) i0 fun e => by cases e) (fun _ => no rfl rfl) (fun e => by cases e)
/-! ### an error with no more than its name -/
def bCheckMost (n c x : Nat) : List CS := [(.if_ (.not_ (.call n [(.var 0), (.lit (.int 0)), (.con c)])) [(.rse x [])] [])]
def SpCheck (x : Nat) (lim : Int) (sp : PSpec) : Prop := ∀ {v : P} {S : Store} {Q : QP} {E : QE} {t : Option Ty}, tyOf S v = some t → (inRange 0 lim v = true → Q .non S) → (inRange 0 lim v = false → E ⟨x, []⟩ S) → sp [v] S Q E
theorem check_sp {G : Env} {n c x : Nat} {lim : Int} (hi : SpInt (G.fn n)) (hc : G.con c = .int lim) (hx : G.xc x = some none) (hl : 2 ≤ G.lv) : SpCheck x lim (runFD G ⟨1, 1, bCheckMost n c x⟩) := fun {v S Q E t} ht h1 h2 => by
  refine ⟨rfl, ?_⟩
  show wpB G (bCheckMost n c x) [some v] S _
  refine wp_seq (wp_if (is_not (is_call (iss_cons (is_var rfl) (iss_cons is_lit (iss_cons (is_con hc) iss_nil))) fun R r => hi ht r)) (fun e => wp_seq ?_) fun e => keep (h1 (by simpa using e)))
  unfold wpS wpEs
  refine ⟨hl, ?_⟩
  rw [hx]
  exact keepE (h2 (by simpa using e))
/-! ### the law's draws -/
def bBag1 : List CS := [
  (.asg (.nm 2) (.lit (.int 0))),
  (.if_ (.cmp .Lt (.var 1) (.blt .len [(.var 0)])) [(.asg (.nm 2) (.blt .int [(.idx (.var 0) (.var 1))]))] []),
  (.if_ (.cmp .GtE (.var 2) (.bin .Pow (.lit (.int 10)) (.lit (.int 18)))) [(.ret (.lst [(.var 2), (.var 2), (.var 1)]))] []),
  (.ret (.lst [(.lit (.int 0)), (.var 2), (.var 1)]))]
def bDraw1 : List CS := [
  (.if_ (.cmp .Eq (.idx (.var 0) (.lit (.int 0))) (.lit (.int 0))) [(.asg (.nm 2) (.bin .Mod (.blt .int [(.bin .Add (.bin .Add (.bin .Mult (.idx (.var 0) (.lit (.int 1))) (.lit (.int 48271))) (.bin .Mult (.idx (.var 0) (.lit (.int 2))) (.lit (.int 69621)))) (.lit (.int 11)))]) (.lit (.int 2147483647)))), (.asg (.sub (.var 0) (.lit (.int 0))) (.bin .Add (.bin .Mult (.var 2) (.lit (.int 2147483629))) (.bin .Mod (.blt .int [(.bin .Add (.bin .Mult (.var 2) (.var 2)) (.bin .Mult (.idx (.var 0) (.lit (.int 2))) (.lit (.int 16807))))]) (.lit (.int 2147483629))))), (.asg (.sub (.var 0) (.lit (.int 1))) (.var 2))] []),
  (.asg (.nm 3) (.idx (.var 0) (.lit (.int 0)))),
  (.asg (.sub (.var 0) (.lit (.int 0))) (.bin .FloorDiv (.var 3) (.var 1))),
  (.ret (.bin .Mod (.blt .int [(.var 3)]) (.var 1)))]
/-- the bag's record: three numbers -/
def Bag3 (x y z : Int) : MO := .lst [.int x, .int y, .int z]
/-- a draw: some number below many; the bag is another one -/
def SpDraw1 (sp : PSpec) : Prop := ∀ {a : Addr} {x y z many : Int} {S : Store} {Q : QP} {E : QE}, S a = some (Bag3 x y z) → 0 < many → many < 2 ^ 64 → (∀ r x' y', 0 ≤ r → r < many → Q (.int r) (S.upd a (Bag3 x' y' z))) → sp [.loc a, .int many] S Q E
theorem draw1_sp (G : Env) : SpDraw1 (runFD G ⟨2, 4, bDraw1⟩) := fun {a x y z many S Q E} hs h1 h2 h => by
  refine ⟨rfl, ?_⟩
  show wpB G bDraw1 [some (.loc a), some (.int many), none, none] S _
  have at_ : ∀ {ρ : Loc} {S : Store} {E : QE} {x y z i : Int} {v : P}, ρ[0]? = some (some (.loc a)) → S a = some (Bag3 x y z) → atI [.int x, .int y, .int z] i = some v → Is G (.idx (.var 0) (.lit (.int i))) ρ S E v := fun h0 hs hv => is_idx (is_var h0) is_lit (by simp only [seqOf, hs, Bag3]) hv
  have tail : ∀ (S : Store) (u : Option P) (x y : Int), S a = some (Bag3 x y z) → (∀ r x' y', 0 ≤ r → r < many → Q (.int r) (S.upd a (Bag3 x' y' z))) → wpB G [(.asg (.nm 3) (.idx (.var 0) (.lit (.int 0)))), (.asg (.sub (.var 0) (.lit (.int 0))) (.bin .FloorDiv (.var 3) (.var 1))), (.ret (.bin .Mod (.blt .int [(.var 3)]) (.var 1)))] [some (.loc a), some (.int many), u, none] S (DE.fn Q E) := fun S u x y hs h => by
    refine wp_seq (wp_set (at_ rfl hs rfl) (wp_seq ?_))
    refine wp_put (j := 0) (is_div (is_var rfl) (is_var rfl) h1 h2) rfl is_lit hs rfl (wp_seq ?_)
    refine wp_ret (is_mod (is_int (is_var rfl)) (is_var rfl) h1) (keep ?_)
    exact h _ _ _ (Int.emod_nonneg _ (by omega)) (Int.emod_lt_of_pos _ h1)
  refine wp_seq (wp_if (is_cmp (v := decide (x = 0)) (at_ rfl hs rfl) is_lit fun R r => by simp only [opCmp, eqS_ints]; exact r) (fun e => ?_) fun e => tail S _ x y hs h)
  refine wp_seq (wp_set (is_mod (is_int (is_add (is_add (is_mulR (at_ rfl hs rfl) is_lit (by decide) (by decide)) (is_mulR (at_ rfl hs rfl) is_lit (by decide) (by decide))) is_lit)) is_lit (by decide)) (wp_seq ?_))
  have b1 := Int.emod_nonneg (y * 48271 + z * 69621 + 11) (b := 2147483647) (by decide)
  have b2 := Int.emod_lt_of_pos (y * 48271 + z * 69621 + 11) (b := 2147483647) (by decide)
  refine wp_put (j := 0) (is_add (is_mulR (is_var rfl) is_lit (by decide) (by decide)) (is_mod (is_int (is_add (is_mulR (is_var rfl) (is_var rfl) (by omega) (by omega)) (is_mulR (at_ rfl hs rfl) is_lit (by decide) (by decide)))) is_lit (by decide))) rfl is_lit hs rfl (wp_seq ?_)
  refine wp_put (j := 1) (is_var rfl) rfl is_lit Store.upd_same rfl ?_
  rw [Store.upd_upd]
  refine tail _ _ _ _ Store.upd_same fun r x' y' r1 r2 => ?_
  rw [Store.upd_upd]
  exact h r x' y' r1 r2
def SpBag1 (sp : PSpec) : Prop := ∀ {ns : List Int} {k : Nat} {S : Store} {Q : QP} {E : QE}, (∀ a x y, S a = none → Q (.loc a) (S.upd a (Bag3 x y k))) → sp [.frl (ns.map P.int), .int k] S Q E
theorem bag1_sp (G : Env) : SpBag1 (runFD G ⟨2, 3, bBag1⟩) := fun {ns k S Q E} h => by
  refine ⟨rfl, ?_⟩
  show wpB G bBag1 [some (.frl (ns.map P.int)), some (.int k), none] S _
  refine wp_seq (wp_set is_lit (wp_seq ?_))
  have tail : ∀ x : Int, wpB G [(.if_ (.cmp .GtE (.var 2) (.bin .Pow (.lit (.int 10)) (.lit (.int 18)))) [(.ret (.lst [(.var 2), (.var 2), (.var 1)]))] []), (.ret (.lst [(.lit (.int 0)), (.var 2), (.var 1)]))] [some (.frl (ns.map P.int)), some (.int k), some (.int x)] S (DE.fn Q E) := fun x => by
    refine wp_seq (wp_if (is_cmp (v := decide (10 ^ 18 ≤ x)) (is_var rfl) (is_bin (v := .int (10 ^ 18)) is_lit is_lit fun R r => ⟨⟨by decide, by decide, by decide⟩, r⟩) fun R r => r) (fun e => wp_seq ?_) fun e => wp_seq ?_)
    · exact wp_retL (iss_cons (is_var rfl) (iss_cons (is_var rfl) (iss_cons (is_var rfl) iss_nil))) fun a ha => keep (h a _ _ ha)
    · exact wp_retL (iss_cons is_lit (iss_cons (is_var rfl) (iss_cons (is_var rfl) iss_nil))) fun a ha => keep (h a _ _ ha)
  have e : (ns.map P.int).length = ns.length := List.length_map ..
  refine wp_if (is_cmp (v := decide ((k : Int) < (ns.map P.int).length)) (is_var rfl) (is_len (is_var rfl) rfl) fun R r => r) (fun z => ?_) fun z => wp_nil (tail 0)
  have lt : k < ns.length := by have := of_decide_eq_true z; rw [e] at this; omega
  have g : atI (ns.map P.int) (k : Int) = some (.int ns[k]) := by
    rw [atI_nat (by rw [e]; exact lt)]
    simp [lt]
  refine wp_seq (wp_set (is_int (is_idx (is_var rfl) (is_var rfl) rfl g)) ?_)
  exact tail _
/-! ### more rules -/
def WalkedG (k : IK) (vs : List P) (S : Store) (items : List P) (Good : Store → Prop) : Prop := ∀ K : List P → (Store → Prop) → Prop, (∀ Gd : Store → Prop, (∀ S', Good S' → Gd S') → items.length ≤ sizeLine → K items Gd) → iterS k vs S K
theorem Walked.g {k : IK} {vs : List P} {S : Store} {items : List P} (h : Walked k vs S items) : WalkedG k vs S items (SubS S) := h
theorem walkedG_tup {xs : List P} {S : Store} {Good : Store → Prop} : WalkedG .seq [.tup xs] S xs Good := fun K h z => h _ (fun _ _ => trivial) z
theorem walkedG_frl {xs : List P} {S : Store} {Good : Store → Prop} : WalkedG .seq [.frl xs] S xs Good := fun K h z => h _ (fun _ _ => trivial) z
theorem walkedG_range {n : Int} {S : Store} {Good : Store → Prop} (h1 : -(2 ^ 62) ≤ n) (h2 : n ≤ sizeLine) : WalkedG .range [.int n] S ((List.range n.toNat).map fun (i : Nat) => P.int i) Good := fun K h => by
  simp only [iterS]
  exact ⟨⟨h1, h2⟩, h _ (fun _ _ => trivial) (by rw [List.length_map, List.length_range]; omega)⟩
section
variable {G : Env} {ρ : Loc} {S : Store} {E : QE} {Q : QP} {D : DE}
theorem wp_for {k : IK} {args : List CE} {tg : VT} {b : List CS} {vs items : List P} {Good : Store → Prop} (I : Nat → Loc → Store → Prop) (ha : Iss G args ρ S D.ex vs) (hw : WalkedG k vs S items Good) (h0 : I 0 ρ S) (hS : ∀ i ρ' S', I i ρ' S' → Good S')
    (step : ∀ i x ρ' S', items[i]? = some x → I i ρ' S' → wpVT tg x ρ' fun ρ2 => wpB G b ρ2 S' { D with nx := I (i + 1), ct := I (i + 1), bk := D.nx }) (fin : ∀ ρ' S', I items.length ρ' S' → D.nx ρ' S') : wpS G (.for_ k args tg b) ρ S D := by
  unfold wpS
  refine ha _ (hw _ fun Gd gd _ => ?_)
  exact ⟨I, h0, fun i x ρ' S' hx hi => ⟨gd _ (hS i ρ' S' hi), step i x ρ' S' hx hi⟩, fun ρ' S' hi => ⟨gd _ (hS _ ρ' S' hi), fin ρ' S' hi⟩⟩
theorem wp_while {c : CE} {b : List CS} (I : Loc → Store → Prop) (μ : Loc → Store → Nat) (h0 : I ρ S) (step : ∀ ρ' S', I ρ' S' → wpE G c ρ' S' (fun x S1 => ∃ t, x = .bl t ∧ (t = true → wpB G b ρ' S1 { D with nx := fun ρ2 S2 => I ρ2 S2 ∧ μ ρ2 S2 < μ ρ' S', ct := fun ρ2 S2 => I ρ2 S2 ∧ μ ρ2 S2 < μ ρ' S', bk := D.nx }) ∧ (t = false → D.nx ρ' S1)) D.ex) (gm : GMono G) : wpS G (.whl c b) ρ S D := by
  unfold wpS
  refine ⟨I, μ, h0, fun ρ' S' hi => wpE_mono gm c (fun x S1 h => ?_) (fun _ _ h => h) (step ρ' S' hi)⟩
  obtain ⟨t, rfl, h1, h2⟩ := h
  cases t with
  | true => exact h1 rfl
  | false => exact h2 rfl
theorem wp_unpack {ts : List Tgt} {c : CE} {ps : List P} (h : Is G c ρ S D.ex (.tup ps)) (hl : ps.length = ts.length) (q : wpTs G ts ps ρ S D.nx D.ex) : wpS G (.asg (.tup ts) c) ρ S D := by
  unfold wpS
  refine h _ ?_
  unfold wpT
  exact ⟨hl, q⟩
/-- a call behind which the store is another one -/
theorem wp_setC {i : Nat} {c : CE} (h : wpE G c ρ S (fun p S' => D.nx (ρ.set i (some p)) S') D.ex) : wpS G (.asg (.nm i) c) ρ S D := by
  unfold wpS
  exact h
theorem wp_callC {f : Nat} {cs : List CE} {ps : List P} (h1 : Iss G cs ρ S E ps) (h : G.fn f ps S Q E) : wpE G (.call f cs) ρ S Q E := by
  unfold wpE
  exact h1 _ h
theorem is_eq {a b : CE} {p r : P} {v : Bool} (h1 : Is G a ρ S E p) (h2 : Is G b ρ S E r) (h : ∀ k : Bool → Prop, k v → eqS S p r k) : Is G (.cmp .Eq a b) ρ S E (.bl v) := is_cmp h1 h2 fun R r => h (fun b => R (.bl b) S) r
theorem is_ne {a b : CE} {p r : P} {v : Bool} (h1 : Is G a ρ S E p) (h2 : Is G b ρ S E r) (h : ∀ k : Bool → Prop, k v → eqS S p r k) : Is G (.cmp .NotEq a b) ρ S E (.bl (!v)) := is_cmp h1 h2 fun R r => h (fun b => R (.bl (!b)) S) r
theorem is_neI {a b : CE} {i j : Int} (h1 : Is G a ρ S E (.int i)) (h2 : Is G b ρ S E (.int j)) : Is G (.cmp .NotEq a b) ρ S E (.bl (!decide (i = j))) := is_ne h1 h2 fun _ q => eqS_int q
theorem is_eqI {a b : CE} {i j : Int} (h1 : Is G a ρ S E (.int i)) (h2 : Is G b ρ S E (.int j)) : Is G (.cmp .Eq a b) ρ S E (.bl (decide (i = j))) := is_eq h1 h2 fun _ q => eqS_int q
theorem is_gt {a b : CE} {i j : Int} (h1 : Is G a ρ S E (.int i)) (h2 : Is G b ρ S E (.int j)) : Is G (.cmp .Gt a b) ρ S E (.bl (decide (j < i))) := is_cmp h1 h2 fun R r => r
theorem is_lt {a b : CE} {i j : Int} (h1 : Is G a ρ S E (.int i)) (h2 : Is G b ρ S E (.int j)) : Is G (.cmp .Lt a b) ρ S E (.bl (decide (i < j))) := is_cmp h1 h2 fun R r => r
theorem is_ge {a b : CE} {i j : Int} (h1 : Is G a ρ S E (.int i)) (h2 : Is G b ρ S E (.int j)) : Is G (.cmp .GtE a b) ρ S E (.bl (decide (j ≤ i))) := is_cmp h1 h2 fun R r => r
theorem is_neS {a b : CE} {s t : Str} (h1 : Is G a ρ S E (.str s)) (h2 : Is G b ρ S E (.str t)) (o1 : PyData.strOk s = true) (o2 : PyData.strOk t = true) : Is G (.cmp .NotEq a b) ρ S E (.bl (!decide (s = t))) := is_ne h1 h2 fun _ q => eqS_str o1 o2 q
/-- two tuples, one behind the other -/
theorem is_cat {a b : CE} {xs ys : List P} (h1 : Is G a ρ S E (.tup xs)) (h2 : Is G b ρ S E (.tup ys)) (hl : xs.length + ys.length ≤ sizeLine) : Is G (.bin .Add a b) ρ S E (.tup (xs ++ ys)) := is_bin h1 h2 fun R r => ⟨hl, r⟩
theorem is_rep {a b : CE} {xs : List P} {k : Int} (h1 : Is G a ρ S E (.tup xs)) (h2 : Is G b ρ S E (.int k)) (l : -(2 ^ 63) ≤ k) (u : k < 2 ^ 63) (hl : xs.length * k.toNat ≤ sizeLine) : Is G (.bin .Mult a b) ρ S E (.tup (List.replicate k.toNat xs).flatten) := is_bin h1 h2 fun R r => ⟨l, u, hl, r⟩
/-- tuple(list) -/
theorem is_tuple {c : CE} {p : P} {xs : List P} (h1 : Is G c ρ S E p) (hs : seqOf S p = some xs) : Is G (.blt .tuple [c]) ρ S E (.tup xs) := fun Q q => by
  unfold wpE wpEs wpEs
  refine h1 _ ?_
  simp only [bfS, hs]
  exact fun _ => q
end
/-! parts of rows -/
theorem cutP_nat {xs : List P} (i j : Nat) : cutP xs (some (i : Int)) (some (j : Int)) = (xs.drop i).take (j - i) := by
  unfold cutP
  rw [HT.sIx_nat, HT.sIx_nat]
  by_cases h : i ≤ xs.length
  · rw [Nat.min_eq_left h]
    by_cases h2 : j ≤ xs.length
    · rw [Nat.min_eq_left h2]
    · rw [Nat.min_eq_right (by omega)]
      have e : (xs.drop i).length = xs.length - i := List.length_drop ..
      rw [List.take_of_length_le (by omega), List.take_of_length_le (by omega)]
  · rw [Nat.min_eq_right (show xs.length ≤ i by omega)]
    rw [List.drop_of_length_le (Nat.le_refl _), List.drop_of_length_le (by omega)]
    simp
theorem cutP_to {xs : List P} (j : Nat) : cutP xs none (some (j : Int)) = xs.take j := by
  unfold cutP
  rw [HT.sIx_nat, HT.sIx_none, Nat.sub_zero, List.drop_zero]
  by_cases h : j ≤ xs.length
  · rw [Nat.min_eq_left h]
  · rw [Nat.min_eq_right (by omega), List.take_of_length_le (Nat.le_refl _), List.take_of_length_le (by omega)]
theorem cutP_from {xs : List P} (i : Nat) : cutP xs (some (i : Int)) none = xs.drop i := by
  unfold cutP
  rw [HT.sIx_nat, HT.sIx_none]
  by_cases h : i ≤ xs.length
  · rw [Nat.min_eq_left h]
    have e : (xs.drop i).length = xs.length - i := List.length_drop ..
    rw [List.take_of_length_le (by omega)]
  · rw [Nat.min_eq_right (by omega), List.drop_of_length_le (Nat.le_refl _), List.drop_of_length_le (by omega)]
    simp
/-! ### values of any kind, looked at -/
def isTup : P → Bool
  | .tup _ => true
  | _ => false
def isStrP : P → Bool
  | .str _ => true
  | _ => false
def items : P → List P
  | .tup xs => xs
  | .frl xs => xs
  | _ => []
def atP (v : P) (i : Nat) : P := match (items v)[i]? with
  | some x => x
  | none => .non
def strIs (v : P) (s : Str) : Bool := match v with
  | .str t => decide (t = s)
  | _ => false
def intOf : P → Int
  | .int i => i
  | _ => 0
theorem isTup_of {v : P} (h : isTup v = true) : v = .tup (items v) := by cases v <;> first | rfl | cases h
theorem isStr_of {v : P} (h : isStrP v = true) : ∃ s, v = .str s := by cases v <;> first | exact ⟨_, rfl⟩ | cases h
theorem inRange_of {lo hi : Int} {v : P} (h : inRange lo hi v = true) : v = .int (intOf v) ∧ lo ≤ intOf v ∧ intOf v ≤ hi := by
  cases v <;> first | (cases h; done) | skip
  rename_i i
  simp only [inRange, Bool.and_eq_true, decide_eq_true_eq] at h
  exact ⟨rfl, h.1, h.2⟩
theorem isWordB_of {k most : Int} {v : P} (h : isWordB k most v = true) : isTup v = true := by cases v <;> first | rfl | cases h
theorem okV.items {S : Store} {v : P} (h : okV S v) : ∀ x ∈ items v, okV S x := by
  cases v with
  | tup xs => exact okVs_iff.mp (show okVs S xs from h)
  | frl xs => exact okVs_iff.mp (show okVs S xs from h)
  | _ => intro x hx; simp [Core.items] at hx
theorem okV.at {S : Store} {v : P} (h : okV S v) (i : Nat) : okV S (atP v i) := by
  unfold atP
  split
  · rename_i x hx
    exact h.items _ (List.mem_of_getElem? hx)
  · exact True.intro
theorem tup_two {v : P} (h : isTup v = true) (hl : (items v).length = 2) : ∃ a b, v = .tup [a, b] := by
  rw [isTup_of h]
  match items v, hl with
  | [a, b], _ => exact ⟨a, b, rfl⟩
theorem tup_three {v : P} (h : isTup v = true) (hl : (items v).length = 3) : ∃ a b c, v = .tup [a, b, c] := by
  rw [isTup_of h]
  match items v, hl with
  | [a, b, c], _ => exact ⟨a, b, c, rfl⟩
theorem tup_four {v : P} (h : isTup v = true) (hl : (items v).length = 4) : ∃ a b c d, v = .tup [a, b, c, d] := by
  rw [isTup_of h]
  match items v, hl with
  | [a, b, c, d], _ => exact ⟨a, b, c, d, rfl⟩
section
variable {G : Env} {ρ : Loc} {S : Store} {E : QE} {Q : QP} {D : DE}
theorem is_isTup {c : CE} {v : P} (h : Is G c ρ S E v) (ok : okV S v) : Is G (.isi c [.tuple]) ρ S E (.bl (isTup v)) := by
  obtain ⟨t, ht⟩ := ok.ty
  have := is_isi (ts := [.tuple]) h ht
  rw [ty_tup ht] at this
  cases v <;> exact this
theorem is_isStr {c : CE} {v : P} (h : Is G c ρ S E v) (ok : okV S v) : Is G (.isi c [.str]) ρ S E (.bl (isStrP v)) := by
  obtain ⟨t, ht⟩ := ok.ty
  have := is_isi (ts := [.str]) h ht
  rw [ty_str ht] at this
  cases v <;> exact this
theorem is_lenT {c : CE} {v : P} (h : Is G c ρ S E v) (ht : isTup v = true) : Is G (.blt .len [c]) ρ S E (.int (items v).length) := by
  refine is_len h ?_
  rw [isTup_of ht]
  rfl
theorem is_at {c : CE} {v : P} {i : Nat} (h : Is G c ρ S E v) (ht : isTup v = true) (hl : i < (items v).length) : Is G (.idx c (.lit (.int i))) ρ S E (atP v i) := by
  refine is_idx h is_lit (xs := items v) ?_ ?_
  · rw [isTup_of ht]; rfl
  · rw [atI_nat hl]
    unfold atP
    simp [hl]
theorem is_neStr {a : CE} {v : P} {t : Str} (h1 : Is G a ρ S E v) (ok : okV S v) (hs : isStrP v = true) (ht : PyData.strOk t = true) : Is G (.cmp .NotEq a (.lit (.str t))) ρ S E (.bl (!strIs v t)) := by
  obtain ⟨s, rfl⟩ := isStr_of hs
  exact is_neS h1 is_lit ok ht
theorem is_chnLen {b : CE} {v : P} {i : Nat} {lo l : Int} (h2 : Is G b ρ S E v) (ht : isTup v = true) (h3 : G.con i = .int l) : Is G (.chn .LtE .LtE (.lit (.int lo)) (.blt .len [b]) (.con i)) ρ S E (.bl (decide (lo ≤ (items v).length) && decide (((items v).length : Int) ≤ l))) := is_chn is_lit (is_lenT h2 ht) (is_con h3)
end
/-! ### expressions that may lay something beside -/
/-- a value, the store perhaps greater -/
def Ix (G : Env) (c : CE) (ρ : Loc) (S : Store) (E : QE) (p : P) : Prop := ∀ Q : QP, (∀ S', SubS S S' → Q p S') → wpE G c ρ S Q E
def Ixs (G : Env) (cs : List CE) (ρ : Loc) (S : Store) (E : QE) (ps : List P) : Prop := ∀ Q : List P → Store → Prop, (∀ S', SubS S S' → Q ps S') → wpEs G cs ρ S Q E
section
variable {G : Env} {ρ : Loc} {S : Store} {E : QE} {Q : QP} {D : DE}
theorem Is.x {c : CE} {p : P} (h : Is G c ρ S E p) : Ix G c ρ S E p := fun Q q => h Q (q S (.refl S))
theorem Iss.x {c : List CE} {p : List P} (h : Iss G c ρ S E p) : Ixs G c ρ S E p := fun Q q => h Q (q S (.refl S))
theorem ixs_nil : Ixs G [] ρ S E [] := iss_nil.x
theorem ixs_cons {c : CE} {cs : List CE} {p : P} {ps : List P} (h : Ix G c ρ S E p) (t : ∀ S', SubS S S' → Ixs G cs ρ S' E ps) : Ixs G (c :: cs) ρ S E (p :: ps) := fun Q q => by
  unfold wpEs
  exact h _ fun S1 d1 => t S1 d1 _ fun S2 d2 => q S2 (d1.trans d2)
theorem ix_or {a b : CE} {x y : Bool} (h1 : Ix G a ρ S E (.bl x)) (h2 : x = false → ∀ S', SubS S S' → Ix G b ρ S' E (.bl y)) : Ix G (.or_ a b) ρ S E (.bl (x || y)) := fun Q q => by
  unfold wpE
  refine h1 _ fun S1 d1 => ?_
  cases x with
  | true => exact q S1 d1
  | false => exact h2 rfl S1 d1 _ fun S2 d2 => q S2 (d1.trans d2)
theorem ix_and {a b : CE} {x y : Bool} (h1 : Ix G a ρ S E (.bl x)) (h2 : x = true → ∀ S', SubS S S' → Ix G b ρ S' E (.bl y)) : Ix G (.and_ a b) ρ S E (.bl (x && y)) := fun Q q => by
  unfold wpE
  refine h1 _ fun S1 d1 => ?_
  cases x with
  | false => exact q S1 d1
  | true => exact h2 rfl S1 d1 _ fun S2 d2 => q S2 (d1.trans d2)
theorem ix_not {a : CE} {x : Bool} (h1 : Ix G a ρ S E (.bl x)) : Ix G (.not_ a) ρ S E (.bl (!x)) := fun Q q => by
  unfold wpE
  exact h1 _ q
theorem ix_cmp {a b : CE} {p r : P} {op : CmpOp} {v : Bool} (h1 : Ix G a ρ S E p) (h2 : ∀ S', SubS S S' → Ix G b ρ S' E r) (h : ∀ S', SubS S S' → ∀ Q : QP, Q (.bl v) S' → opCmp op p r S' Q) : Ix G (.cmp op a b) ρ S E (.bl v) := fun Q q => by
  unfold wpE
  exact h1 _ fun S1 d1 => h2 S1 d1 _ fun S2 d2 => h S2 (d1.trans d2) _ (q S2 (d1.trans d2))
theorem ix_eq {a b : CE} {p r : P} {v : Bool} (h1 : Ix G a ρ S E p) (h2 : ∀ S', SubS S S' → Ix G b ρ S' E r) (h : ∀ S', SubS S S' → ∀ k : Bool → Prop, k v → eqS S' p r k) : Ix G (.cmp .Eq a b) ρ S E (.bl v) := ix_cmp h1 h2 fun S' d R r => h S' d (fun b => R (.bl b) S') r
theorem ix_ne {a b : CE} {p r : P} {v : Bool} (h1 : Ix G a ρ S E p) (h2 : ∀ S', SubS S S' → Ix G b ρ S' E r) (h : ∀ S', SubS S S' → ∀ k : Bool → Prop, k v → eqS S' p r k) : Ix G (.cmp .NotEq a b) ρ S E (.bl (!v)) := ix_cmp h1 h2 fun S' d R r => h S' d (fun b => R (.bl (!b)) S') r
theorem ix_call {f : Nat} {cs : List CE} {ps : List P} {v : P} (h1 : Ixs G cs ρ S E ps) (h : ∀ S', SubS S S' → ∀ Q : QP, (∀ S2, SubS S' S2 → Q v S2) → G.fn f ps S' Q E) : Ix G (.call f cs) ρ S E v := fun Q q => by
  unfold wpE
  exact h1 _ fun S1 d1 => h S1 d1 _ fun S2 d2 => q S2 (d1.trans d2)
theorem ix_all {own : List Nat} {k : IK} {args : List CE} {tg : VT} {elt : CE} {vs items : List P} (f : P → Bool) (ha : Iss G args ρ S E vs) (hw : Walked k vs S items)
    (hb : ∀ (i : Nat) (x : P), items[i]? = some x → ∀ S', SubS S S' → ∀ Q1 : QP, Q1 (.bl (f x)) S' → wpVT tg x (wipeP ρ own) fun ρ2 => wpE G elt ρ2 S' Q1 noE) : Ix G (.blt .all [.cmpr own k args tg elt none]) ρ S E (.bl (items.all f)) := fun Q q => is_all f ha hw hb q
theorem ix_len {c : CE} {p : P} {n : Nat} (h1 : Ix G c ρ S E p) (h : ∀ S', SubS S S' → ∃ xs, seqOf S' p = some xs ∧ xs.length = n) : Ix G (.blt .len [c]) ρ S E (.int n) := fun Q q => by
  unfold wpE wpEs wpEs
  refine h1 _ fun S1 d1 => ?_
  obtain ⟨xs, e1, e2⟩ := h S1 d1
  simp only [bfS, e1]
  rw [e2]
  exact fun _ => q S1 d1
theorem ix_tuple {c : CE} {p : P} {xs : List P} (h1 : Ix G c ρ S E p) (h : ∀ S', SubS S S' → seqOf S' p = some xs) : Ix G (.blt .tuple [c]) ρ S E (.tup xs) := fun Q q => by
  unfold wpE wpEs wpEs
  refine h1 _ fun S1 d1 => ?_
  simp only [bfS, h S1 d1]
  exact fun _ => q S1 d1
theorem ix_tup {cs : List CE} {ps : List P} (h : Ixs G cs ρ S E ps) : Ix G (.tup cs) ρ S E (.tup ps) := fun Q q => by
  unfold wpE
  exact h _ q
theorem ix_bin {a b : CE} {p r v : P} {op : Operator} (h1 : Ix G a ρ S E p) (h2 : ∀ S', SubS S S' → Ix G b ρ S' E r) (h : ∀ S', SubS S S' → ∀ Q : QP, Q v S' → opBin op p r S' Q) : Ix G (.bin op a b) ρ S E v := fun Q q => by
  unfold wpE
  exact h1 _ fun S1 d1 => h2 S1 d1 _ fun S2 d2 => h S2 (d1.trans d2) _ (q S2 (d1.trans d2))
theorem ix_idx {a b : CE} {p : P} {i : Int} {v : P} (h1 : Ix G a ρ S E p) (h2 : ∀ S', SubS S S' → Ix G b ρ S' E (.int i)) (h : ∀ S', SubS S S' → ∃ xs, seqOf S' p = some xs ∧ atI xs i = some v) : Ix G (.idx a b) ρ S E v := fun Q q => by
  unfold wpE
  refine h1 _ fun S1 d1 => h2 S1 d1 _ fun S2 d2 => ?_
  obtain ⟨xs, e1, e2⟩ := h S2 (d1.trans d2)
  simp only [opIdx, e1]
  exact fun _ => ⟨v, e2, q S2 (d1.trans d2)⟩
theorem wp_ifX {c : CE} {a b : List CS} {x : Bool} (h : Ix G c ρ S D.ex (.bl x)) (h1 : x = true → ∀ S', SubS S S' → wpB G a ρ S' D) (h2 : x = false → ∀ S', SubS S S' → wpB G b ρ S' D) : wpS G (.if_ c a b) ρ S D := by
  unfold wpS
  refine h _ fun S' d => ?_
  cases x with
  | true => exact h1 rfl S' d
  | false => exact h2 rfl S' d
theorem wp_retX {c : CE} {p : P} (h : Ix G c ρ S D.ex p) (q : ∀ S', SubS S S' → D.rt p S') : wpS G (.ret c) ρ S D := by
  unfold wpS
  exact h _ q
theorem wp_setX {i : Nat} {c : CE} {p : P} (h : Ix G c ρ S D.ex p) (q : ∀ S', SubS S S' → D.nx (ρ.set i (some p)) S') : wpS G (.asg (.nm i) c) ρ S D := by
  unfold wpS
  refine h _ fun S' d => ?_
  unfold wpT
  exact q S' d
theorem wp_expX {c : CE} {p : P} (h : Ix G c ρ S D.ex p) (q : ∀ S', SubS S S' → D.nx ρ S') : wpS G (.exp c) ρ S D := by
  unfold wpS
  exact h _ q
theorem wp_unpackX {ts : List Tgt} {c : CE} {ps : List P} (h : Ix G c ρ S D.ex (.tup ps)) (hl : ps.length = ts.length) (q : ∀ S', SubS S S' → wpTs G ts ps ρ S' D.nx D.ex) : wpS G (.asg (.tup ts) c) ρ S D := by
  unfold wpS
  refine h _ fun S' d => ?_
  unfold wpT
  exact ⟨hl, q S' d⟩
end
/-! ### comprehensions over rows of anything -/
section
variable {G : Env} {ρ : Loc} {S : Store} {E : QE} {Q : QP} {D : DE}
theorem comp_core {β : Type} {R : PySem.Addr → Store → Prop} {own : List Nat} {k : IK} {tg : VT} {elt : CE} {cond : Option CE} {vs : List P} (xs : List β) (t : β → P) (g : β → Option P) (hw : Walked k vs S (xs.map t))
    (hb : ∀ x ∈ xs, ∀ S', SubS S S' → ∀ (Q1 : QP) (Q2 : Store → Prop), (∀ y, g x = some y → Q1 y S') → (g x = none → Q2 S') → wpVT tg (t x) (wipeP ρ own) fun ρ2 => wpC G cond ρ2 S' fun b S3 => if b = true then wpE G elt ρ2 S3 Q1 noE else Q2 S3)
    (hq : ∀ D, S D = none → R D (S.upd D (.lst (xs.filterMap g)))) :
    iterS k vs S fun items Gd => ∀ D, S D = none → ∃ I : Nat → List P → Store → Prop, I 0 [] (S.upd D (.lst [])) ∧
        (∀ i x acc S2, items[i]? = some x → I i acc S2 → acc.length ≤ i → Gd S2 ∧ wpVT tg x (wipeP ρ own) fun ρ2 => wpC G cond ρ2 S2 (fun b S3 =>
          if b = true then wpE G elt ρ2 S3 (fun p S4 => S4 D = some (.lst acc) ∧ I (i + 1) (acc ++ [p]) (S4.upd D (.lst (acc ++ [p])))) noE else I (i + 1) acc S3)) ∧
        (∀ acc S2, I items.length acc S2 → acc.length ≤ items.length → Gd S2 ∧ R D S2) := by
  refine hw _ fun Gd gd _ D hD => ?_
  refine ⟨fun i acc S2 => S2 = S.upd D (.lst acc) ∧ acc = (xs.take i).filterMap g, ⟨rfl, by simp⟩, ?_, ?_⟩
  · rintro i x acc S2 hx ⟨rfl, rfl⟩ _
    rw [List.getElem?_map, Option.map_eq_some_iff] at hx
    obtain ⟨y, hy, rfl⟩ := hx
    refine ⟨gd _ (.upd hD), hb y (List.mem_of_getElem? hy) _ (.upd hD) _ _ (fun z hz => ⟨Store.upd_same, Store.upd_upd, ?_⟩) (fun hz => ⟨rfl, ?_⟩)⟩
    · rw [filterMap_take hy, hz]
    · rw [filterMap_take hy, hz]; simp
  · rintro acc S2 ⟨rfl, rfl⟩ _
    refine ⟨gd _ (.upd hD), ?_⟩
    rw [List.length_map, List.take_length]
    exact hq D hD
theorem wp_raise1 {c f : Nat} {e : CE} {v : P} (hx : G.xc c = some (some f)) (hl : 2 ≤ G.lv) (h : Is G e ρ S D.ex v) (q : D.ex ⟨c, [(f, v)]⟩ S) : wpS G (.rse c [e]) ρ S D := by
  unfold wpS wpEs wpEs
  refine ⟨hl, h _ ?_⟩
  rw [hx]
  exact q
theorem wp_raise0 {c : Nat} (hx : G.xc c = some none) (hl : 2 ≤ G.lv) (q : D.ex ⟨c, []⟩ S) : wpS G (.rse c []) ρ S D := by
  unfold wpS wpEs
  refine ⟨hl, ?_⟩
  rw [hx]
  exact q
/-- x = [..] -/
theorem wp_setL {i : Nat} {cs : List CE} {ps : List P} (h : Iss G cs ρ S D.ex ps) (q : ∀ a, S a = none → D.nx (ρ.set i (some (.loc a))) (S.upd a (.lst ps))) : wpS G (.asg (.nm i) (.lst cs)) ρ S D := by
  unfold wpS wpE
  exact h _ q
/-- list.append(e), the element read before -/
theorem wp_append {i : Nat} {c : CE} {a : Addr} {xs : List P} {p : P} (h1 : ρ[i]? = some (some (.loc a))) (h2 : Ix G c ρ S D.ex p) (hs : S a = some (.lst xs)) (hl : xs.length < sizeLine) (q : ∀ S', SubS S S' → D.nx ρ (S'.upd a (.lst (xs ++ [p])))) : wpS G (.exp (.bmt (.var i) .append [c])) ρ S D := by
  unfold wpS wpE
  refine is_var h1 _ ⟨⟨a, xs, rfl, hs⟩, ?_⟩
  unfold wpEs
  refine h2 _ fun S' d => ?_
  unfold wpEs
  simp only [bmS, lstS, d _ _ hs]
  exact ⟨hl, q S' d⟩
end
theorem map_cut (ws : List Int) (i n : Nat) : ((ws.map P.int).drop i).take n = ((ws.drop i).take n).map P.int := by rw [List.map_take, List.map_drop]
theorem W_eq (ws : List Int) : (Dat.toP ws : P) = .tup (ws.map P.int) := rfl
/-! ### comprehensions whose elements change something -/
theorem SubS.re {S S' : Store} {a : Addr} {o u : MO} (d : SubS (S.upd a o) S') : SubS (S.upd a u) (S'.upd a u) := fun b x e => by
  by_cases z : b = a
  · subst z; rw [Store.upd_same] at e ⊢; exact e
  · rw [Store.upd_ne z] at e ⊢
    exact d b x (by rw [Store.upd_ne z]; exact e)
theorem SubS.at_ {S S' : Store} {a : Addr} {o : MO} (d : SubS (S.upd a o) S') : S' a = some o := d a o Store.upd_same
/-- what is beside a place -/
theorem SubS.into {S S' : Store} {a : Addr} {o : MO} (d : SubS S S') (h : S' a = some o) (n : S a = none) : SubS (S.upd a o) S' := fun b x e => by
  by_cases z : b = a
  · subst z; rw [Store.upd_same] at e; cases e; exact h
  · rw [Store.upd_ne z] at e; exact d b x e
section
variable {G : Env} {ρ : Loc} {S : Store} {E : QE} {Q : QP} {D : DE}
theorem comp_coreJ {β : Type} {R : PySem.Addr → Store → Prop} {own : List Nat} {k : IK} {tg : VT} {elt : CE} {vs : List P} {Good : Store → Prop} (xs : List β) (t : β → P) (J : Nat → List P → Store → Prop) (hw : WalkedG k vs S (xs.map t) Good) (hG : ∀ i acc S0 D, J i acc S0 → S0 D = none → Good (S0.upd D (.lst acc))) (h0 : J 0 [] S)
    (hb : ∀ (i : Nat) (x : β) (acc : List P) (S0 : Store) (D : Addr), xs[i]? = some x → J i acc S0 → S0 D = none → ∀ Q1 : QP, (∀ p S1, J (i + 1) (acc ++ [p]) S1 → S1 D = none → Q1 p (S1.upd D (.lst acc))) → wpVT tg (t x) (wipeP ρ own) fun ρ2 => wpE G elt ρ2 (S0.upd D (.lst acc)) Q1 noE)
    (hq : ∀ acc S0 D, J xs.length acc S0 → S0 D = none → R D (S0.upd D (.lst acc))) :
    iterS k vs S fun items Gd => ∀ D, S D = none → ∃ I : Nat → List P → Store → Prop, I 0 [] (S.upd D (.lst [])) ∧
        (∀ i x acc S2, items[i]? = some x → I i acc S2 → acc.length ≤ i → Gd S2 ∧ wpVT tg x (wipeP ρ own) fun ρ2 => wpC G none ρ2 S2 (fun b S3 =>
          if b = true then wpE G elt ρ2 S3 (fun p S4 => S4 D = some (.lst acc) ∧ I (i + 1) (acc ++ [p]) (S4.upd D (.lst (acc ++ [p])))) noE else I (i + 1) acc S3)) ∧
        (∀ acc S2, I items.length acc S2 → acc.length ≤ items.length → Gd S2 ∧ R D S2) := by
  refine hw _ fun Gd gd _ D hD => ?_
  refine ⟨fun i acc S2 => ∃ S0, S2 = S0.upd D (.lst acc) ∧ J i acc S0 ∧ S0 D = none, ⟨S, rfl, h0, hD⟩, ?_, ?_⟩
  · rintro i x acc S2 hx ⟨S0, rfl, hJ, hn⟩ _
    rw [List.getElem?_map, Option.map_eq_some_iff] at hx
    obtain ⟨y, hy, rfl⟩ := hx
    refine ⟨gd _ (hG _ _ _ _ hJ hn), wpVT_mono tg (fun ρ2 h => ?_) (hb i y acc S0 D hy hJ hn (fun p S4 => S4 D = some (.lst acc) ∧ ∃ S0, S4.upd D (.lst (acc ++ [p])) = S0.upd D (.lst (acc ++ [p])) ∧ J (i + 1) (acc ++ [p]) S0 ∧ S0 D = none) (fun p S1 hJ1 hn1 => ⟨Store.upd_same, S1, Store.upd_upd, hJ1, hn1⟩))⟩
    simp only [wpC, if_true]
    exact h
  · rintro acc S2 ⟨S0, rfl, hJ, hn⟩ _
    refine ⟨gd _ (hG _ _ _ _ hJ hn), ?_⟩
    rw [List.length_map] at hJ
    exact hq acc S0 D hJ hn
end
/-- letters below k -/
def Letters (k : Int) (ws : List Int) : Prop := ∀ w ∈ ws, 0 ≤ w ∧ w < k
/-- tuple([draw(bag, k) for n in range(draw(bag, most + 1))]) -/
def bLawWord (d : Nat) : List CS := [(.ret (.blt .tuple [(.cmpr [3] .range [(.call d [(.var 0), (.bin .Add (.var 2) (.lit (.int 1)))])] (.nm 3) (.call d [(.var 0), (.var 1)]) none)]))]
def SpLawWord (sp : PSpec) : Prop := ∀ {a : Addr} {x y z k : Int} {most : Nat} {S : Store} {Q : QP} {E : QE}, S a = some (Bag3 x y z) → 0 < k → k < 2 ^ 64 → most ≤ 1000 → (∀ ws x' y', Letters k ws → ws.length ≤ most → Q (Dat.toP ws) (S.upd a (Bag3 x' y' z))) → sp [.loc a, .int k, .int most] S Q E
theorem lawWord_sp {G : Env} {d : Nat} (hd : SpDraw1 (G.fn d)) : SpLawWord (runFD G ⟨3, 4, bLawWord d⟩) := fun {a x y z k most S Q E} hs h1 h2 h3 h => by
  refine ⟨rfl, ?_⟩
  show wpB G (bLawWord d) [some (.loc a), some (.int k), some (.int most), none] S _
  refine wp_seq ?_
  unfold wpS wpE wpEs wpE wpEs
  refine wp_callC (iss_cons (is_var rfl) (iss_cons (is_add (is_var rfl) is_lit) iss_nil)) (hd hs (by omega) (by omega) fun n x1 y1 n0 n1 => ?_)
  have big := PySem.sizeLine_eq
  obtain ⟨m, rfl⟩ : ∃ m : Nat, n = m := ⟨n.toNat, (Int.toNat_of_nonneg n0).symm⟩
  unfold wpEs
  show iterS .range [.int (m : Int)] (S.upd a (Bag3 x1 y1 z)) _
  have w := walkedG_range (S := S.upd a (Bag3 x1 y1 z)) (n := (m : Int)) (Good := fun _ => True) (by omega) (by omega)
  rw [Int.toNat_natCast] at w
  refine comp_coreJ (List.range m) (fun (i : Nat) => P.int i) (fun i acc S0 => ∃ ws x' y', acc = ws.map P.int ∧ ws.length = i ∧ Letters k ws ∧ S0 = S.upd a (Bag3 x' y' z)) w (fun _ _ _ _ _ _ => trivial) ⟨[], x1, y1, rfl, rfl, (fun _ z => by cases z), rfl⟩ ?_ ?_
  · rintro i x0 acc S0 b hx ⟨ws, x', y', rfl, hl, lt, rfl⟩ hb Q1 q1
    have ne : a ≠ b := Store.ne_of (Store.upd_same (S := S) (a := a) (o := Bag3 x' y' z)) hb
    show wpE G _ [some (.loc a), some (.int k), some (.int most), some (.int x0)] _ _ _
    refine wp_callC (iss_cons (is_var rfl) (iss_cons (is_var rfl) iss_nil)) (hd (x := x') (y := y') (z := z) (by rw [Store.upd_ne ne]; exact Store.upd_same) h1 h2 fun r x2 y2 r0 r1 => ?_)
    rw [Store.swap (Ne.symm ne), Store.upd_upd]
    refine q1 _ _ ⟨ws ++ [r], x2, y2, by simp, by simp [hl], fun u hu => ?_, rfl⟩ ?_
    · rcases List.mem_append.mp hu with hu | hu
      · exact lt u hu
      · cases List.mem_singleton.mp hu; exact ⟨r0, r1⟩
    · rw [Store.upd_ne (Ne.symm ne)]
      rw [Store.upd_ne (Ne.symm ne)] at hb
      exact hb
  · rintro acc S0 b ⟨ws, x', y', rfl, hl, lt, rfl⟩ hb
    unfold wpEs
    simp only [bfS, seqOf, Store.upd_same]
    intro _
    rw [List.length_range] at hl
    exact drop (.upd hb) (h ws x' y' lt (by omega))
/-! ### more of lists and texts -/
section
variable {G : Env} {ρ : Loc} {S : Store} {E : QE} {Q : QP} {D : DE}
theorem es_is {c : CE} {cs : List CE} {p : P} {R : List P → Store → Prop} (h : Is G c ρ S E p) (q : wpEs G cs ρ S (fun ps S' => R (p :: ps) S') E) : wpEs G (c :: cs) ρ S R E := by
  unfold wpEs
  exact h _ q
theorem es_nil {R : List P → Store → Prop} (q : R [] S) : wpEs G [] ρ S R E := by unfold wpEs; exact q
/-- two lists of the same items -/
theorem eq_same {a b : PySem.Addr} {xs : List P} {ds : List PyData} {k : Bool → Prop} (h1 : S a = some (.lst xs)) (h2 : S b = some (.lst xs)) (hd : xs.mapM (dataS S 61) = some ds) (nb : noBs ds = true) (q : k true) : eqS S (.loc a) (.loc b) k := by
  refine ⟨.list ds, .list ds, by simp only [dataS, h1, hd]; rfl, by simp only [dataS, h2, hd]; rfl, ?_⟩
  rw [(eqv_iff (.list ds) (.list ds) nb nb).mpr rfl]
  exact q
theorem strs_den {s : PySem.Str} (h : PyData.strOk s = true) : ∀ n : Nat, (List.replicate n (P.str s)).mapM (dataS S 61) = some (List.replicate n (.str s))
  | 0 => rfl
  | n + 1 => by
    rw [List.replicate_succ, List.mapM_cons, strs_den h n]
    simp [dataS, h, List.replicate_succ]
theorem noBs_strs {s : PySem.Str} : ∀ n : Nat, noBs (List.replicate n (.str s)) = true
  | 0 => rfl
  | n + 1 => by rw [List.replicate_succ, noBs, noBs_strs n]; rfl
theorem eq_strs {a b : PySem.Addr} {s : PySem.Str} {n : Nat} {k : Bool → Prop} (h : PyData.strOk s = true) (h1 : S a = some (.lst (List.replicate n (.str s)))) (h2 : S b = some (.lst (List.replicate n (.str s)))) (q : k true) : eqS S (.loc a) (.loc b) k := eq_same h1 h2 (strs_den h n) (noBs_strs n) q
end
/-! ### a row of calls that all tell the same text -/
theorem same_strs {s : PySem.Str} : ∀ ps : List P, ps.filterMap (fun _ => some (P.str s)) = List.replicate ps.length (.str s)
  | [] => rfl
  | x :: xs => by
    have ih := same_strs (s := s) xs
    rw [List.filterMap_cons, ih, List.length_cons, List.replicate_succ]
theorem flat_strs {s : PySem.Str} : ∀ n : Nat, (List.replicate n [P.str s]).flatten = List.replicate n (.str s)
  | 0 => rfl
  | n + 1 => by rw [List.replicate_succ, List.flatten_cons, flat_strs n, List.replicate_succ]; rfl
section
variable {G : Env} {ρ : Loc} {S : Store} {E : QE} {Q : QP} {D : DE}
theorem consts_run {own : List Nat} {tg : VT} {elt : CE} {cs : List CE} {ps : List P} {s : PySem.Str} {n : Nat} {R : P → P → Store → Prop} (hcs : Iss G cs ρ S E ps) (hn : ps.length = n) (hn2 : n ≤ 1000)
    (hb : ∀ x ∈ ps, ∀ S', SubS S S' → ∀ Q1 : QP, Q1 (.str s) S' → wpVT tg x (wipeP ρ own) fun ρ2 => wpE G elt ρ2 S' Q1 noE)
    (q : ∀ a b S', SubS S S' → S' a = some (.lst (List.replicate n (.str s))) → S' b = some (.lst (List.replicate n (.str s))) → R (.loc a) (.loc b) S') :
    wpE G (.cmpr own .seq [.lst cs] tg elt none) ρ S (fun x S1 => wpE G (.bin .Mult (.lst [.lit (.str s)]) (.lit (.int n))) ρ S1 (fun y S2 => R x y S2) E) E := by
  unfold wpE wpEs wpE
  refine hcs _ fun a ha => ?_
  unfold wpEs
  have d0 := SubS.upd (o := MO.lst ps) ha
  have h0 : (S.upd a (.lst ps)) a = some (.lst ps) := Store.upd_same
  generalize S.upd a (.lst ps) = S1 at d0 h0
  show iterS .seq [.loc a] S1 _
  have w := walked_loc h0
  have e : ps.filterMap (fun _ => some (P.str s)) = List.replicate n (.str s) := by
    rw [same_strs, hn]
  refine comp_core ps id (fun _ => some (.str s)) (by rw [List.map_id]; exact w) (fun x hx S2 d2 Q1 Q2 q1 _ => ?_) fun b hb' => ?_
  · refine wpVT_mono tg (fun ρ2 h => ?_) (hb x hx S2 (d0.trans d2) Q1 (q1 _ rfl))
    simp only [wpC, if_true]
    exact h
  · rw [e]
    have d1 := SubS.upd (S := S1) (o := MO.lst (List.replicate n (.str s))) hb'
    have h1 : (S1.upd b (.lst (List.replicate n (.str s)))) b = some (.lst (List.replicate n (.str s))) := Store.upd_same
    generalize S1.upd b (.lst (List.replicate n (.str s))) = S2 at d1 h1
    unfold wpE wpE
    refine es_is is_lit (es_nil fun a2 ha2 => ?_)
    refine is_lit _ ?_
    have big := PySem.sizeLine_eq
    simp only [opBin, opMul, Store.upd_same]
    refine ⟨_, rfl, by omega, by omega, by rw [List.length_singleton, Int.toNat_natCast]; omega, fun a3 ha3 => ?_⟩
    have n1 : b ≠ a2 := Store.ne_of h1 ha2
    have n2 : b ≠ a3 := by
      intro z
      rw [← z, Store.upd_ne n1, h1] at ha3
      cases ha3
    have e2 : (List.replicate ((n : Int)).toNat [P.str s]).flatten = List.replicate n (.str s) := by
      rw [Int.toNat_natCast, flat_strs]
    rw [e2]
    have f2 := d1.updr (a := a2) (o := .lst [.str s]) (d1.free ha2)
    exact q b a3 _ (d0.trans (f2.updr (f2.free ha3))) (by rw [Store.upd_ne n2, Store.upd_ne n1]; exact h1) Store.upd_same
theorem ix_eqConsts {own : List Nat} {tg : VT} {elt : CE} {cs : List CE} {ps : List P} {s : PySem.Str} {n : Nat} (hs : PyData.strOk s = true) (hcs : Iss G cs ρ S E ps) (hn : ps.length = n) (hn2 : n ≤ 1000)
    (hb : ∀ x ∈ ps, ∀ S', SubS S S' → ∀ Q1 : QP, Q1 (.str s) S' → wpVT tg x (wipeP ρ own) fun ρ2 => wpE G elt ρ2 S' Q1 noE) : Ix G (.cmp .Eq (.cmpr own .seq [.lst cs] tg elt none) (.bin .Mult (.lst [.lit (.str s)]) (.lit (.int n)))) ρ S E (.bl true) := fun Q q => by
  unfold wpE
  exact consts_run hcs hn hn2 hb fun a b S' d h1 h2 => eq_strs (k := fun b => Q (.bl b) S') hs h1 h2 (q S' d)
theorem ix_neConsts {own : List Nat} {tg : VT} {elt : CE} {cs : List CE} {ps : List P} {s : PySem.Str} {n : Nat} (hs : PyData.strOk s = true) (hcs : Iss G cs ρ S E ps) (hn : ps.length = n) (hn2 : n ≤ 1000)
    (hb : ∀ x ∈ ps, ∀ S', SubS S S' → ∀ Q1 : QP, Q1 (.str s) S' → wpVT tg x (wipeP ρ own) fun ρ2 => wpE G elt ρ2 S' Q1 noE) : Ix G (.cmp .NotEq (.cmpr own .seq [.lst cs] tg elt none) (.bin .Mult (.lst [.lit (.str s)]) (.lit (.int n)))) ρ S E (.bl false) := fun Q q => by
  unfold wpE
  exact consts_run hcs hn hn2 hb fun a b S' d h1 h2 => eq_strs (k := fun b => Q (.bl (!b)) S') hs h1 h2 (q S' d)
/-- two texts -/
theorem ix_neStrs {a : CE} {s : PySem.Str} (hs : PyData.strOk s = true) (h : Ix G a ρ S E (.str s)) : Ix G (.cmp .NotEq a (.lit (.str s))) ρ S E (.bl false) := by
  have := ix_ne (v := true) h (fun S' d => (is_lit (p := .str s)).x) fun S' d k q => eqS_str hs hs (by rw [decide_eq_true rfl]; exact q)
  exact this
end
end Core

set_option maxRecDepth 100000
set_option maxHeartbeats 4000000
/-! the program of law_k60_rules_over_words: its tables, its bodies, what its top leaves. -/
namespace K60
open PySem PySem.Spec PyProof.Rows L2 Core
def top (i : Nat) : Stmt := PySem.Challenge.pw_neverstops_k60_rules_over_words.main.body.getD i (.Pass ⟨0, 0, 0, 0⟩)
def nF : List Str := ["is_integer", "is_word", "is_rules", "look_at", "check_most", "fits_at", "fits", "put_in", "rewritten", "next_by", "next_word", "run_rules", "_law_bag", "_law_draw", "_law_word", "_law_rules", "_law_fits", "_law_put", "_law_told", "_law_case", "law"]
def nC : List Str := ["MOST_RUN", "MOST_WORD", "MOST_LETTERS", "MOST_RULES", "MOST_SIDE"]
def nK : List Str := ["HeadError", "BadPaper", "TooFar", "NoSuch"]
def nA : List Str := ["word"]
def nM : List Str := []
def xc : Nat → Option (Option Nat)
  | 1 => some (some 0)
  | 2 => some none
  | 3 => some none
  | _ => none
def TT : Tab := ⟨nF, nC, nK, nA, nM, xc⟩
def con : Nat → P
  | 0 => .int 100000
  | 1 => .int 20000
  | 2 => .int 200
  | 3 => .int 400
  | 4 => .int 6
  | _ => .non
abbrev s_is_integer : Stmt := top 11
def b_is_integer : List CS := [
  (.ret (.and_ (.isi (.var 0) [.int]) (.and_ (.not_ (.isi (.var 0) [.bool])) (.chn .LtE .LtE (.var 1) (.var 0) (.var 2)))))]
theorem t_is_integer : (defBody s_is_integer).mapM (trS TT ["value", "low", "high"] (defScope s_is_integer) 30) = some b_is_integer := by kernel_rfl
theorem c_is_integer : FnScope ["value", "low", "high"] (["value", "low", "high"] : List Str) (defScope s_is_integer) := ⟨rfl, rfl, rfl, by decide +kernel, rfl, by decide +kernel, by decide +kernel⟩
abbrev s_is_word : Stmt := top 12
def b_is_word : List CS := [
  (.if_ (.or_ (.not_ (.isi (.var 0) [.tuple])) (.cmp .Gt (.blt .len [(.var 0)]) (.var 2))) [(.ret (.lit (.bl false)))] []),
  (.ret (.blt .all [(.cmpr [3] .seq [(.var 0)] (.nm 3) (.call 0 [(.var 3), (.lit (.int 0)), (.bin .Sub (.var 1) (.lit (.int 1)))]) none)]))]
theorem t_is_word : (defBody s_is_word).mapM (trS TT ["value", "k", "most", "one"] (defScope s_is_word) 30) = some b_is_word := by kernel_rfl
theorem c_is_word : FnScope ["value", "k", "most", "one"] (["value", "k", "most"] : List Str) (defScope s_is_word) := ⟨rfl, rfl, rfl, by decide +kernel, rfl, by decide +kernel, by decide +kernel⟩
abbrev s_is_rules : Stmt := top 13
def b_is_rules : List CS := [
  (.if_ (.or_ (.not_ (.isi (.var 0) [.tuple])) (.or_ (.cmp .NotEq (.blt .len [(.var 0)]) (.lit (.int 3))) (.or_ (.not_ (.isi (.idx (.var 0) (.lit (.int 0))) [.str])) (.cmp .NotEq (.idx (.var 0) (.lit (.int 0))) (.lit (.str "rules")))))) [(.ret (.lit (.bl false)))] []),
  (.asg (.tup [(.nm 1), (.nm 2), (.nm 3)]) (.var 0)),
  (.if_ (.or_ (.not_ (.call 0 [(.var 2), (.lit (.int 1)), (.con 2)])) (.or_ (.not_ (.isi (.var 3) [.tuple])) (.not_ (.chn .LtE .LtE (.lit (.int 1)) (.blt .len [(.var 3)]) (.con 3))))) [(.ret (.lit (.bl false)))] []),
  (.for_ .seq [(.var 3)] (.nm 4) [(.if_ (.or_ (.not_ (.isi (.var 4) [.tuple])) (.or_ (.cmp .NotEq (.blt .len [(.var 4)]) (.lit (.int 2))) (.not_ (.blt .all [(.cmpr [5] .seq [(.var 4)] (.nm 5) (.call 1 [(.var 5), (.var 2), (.con 4)]) none)])))) [(.ret (.lit (.bl false)))] []), (.if_ (.cmp .Eq (.blt .len [(.idx (.var 4) (.lit (.int 0)))]) (.lit (.int 0))) [(.ret (.lit (.bl false)))] [])]),
  (.ret (.lit (.bl true)))]
theorem t_is_rules : (defBody s_is_rules).mapM (trS TT ["value", "_", "k", "rows", "row", "side"] (defScope s_is_rules) 30) = some b_is_rules := by kernel_rfl
theorem c_is_rules : FnScope ["value", "_", "k", "rows", "row", "side"] (["value"] : List Str) (defScope s_is_rules) := ⟨rfl, rfl, rfl, by decide +kernel, rfl, by decide +kernel, by decide +kernel⟩
abbrev s_look_at : Stmt := top 14
def b_look_at : List CS := [
  (.if_ (.not_ (.call 2 [(.var 0)])) [(.rse 1 [(.lit (.str "rules"))])] []),
  (.if_ (.not_ (.call 1 [(.var 1), (.idx (.var 0) (.lit (.int 1))), (.con 1)])) [(.rse 1 [(.lit (.str "word"))])] [])]
theorem t_look_at : (defBody s_look_at).mapM (trS TT ["rules", "word"] (defScope s_look_at) 30) = some b_look_at := by kernel_rfl
theorem c_look_at : FnScope ["rules", "word"] (["rules", "word"] : List Str) (defScope s_look_at) := ⟨rfl, rfl, rfl, by decide +kernel, rfl, by decide +kernel, by decide +kernel⟩
abbrev s_check_most : Stmt := top 15
def b_check_most : List CS := [
  (.if_ (.not_ (.call 0 [(.var 0), (.lit (.int 0)), (.con 0)])) [(.rse 2 [])] [])]
theorem t_check_most : (defBody s_check_most).mapM (trS TT ["most"] (defScope s_check_most) 30) = some b_check_most := by kernel_rfl
theorem c_check_most : FnScope ["most"] (["most"] : List Str) (defScope s_check_most) := ⟨rfl, rfl, rfl, by decide +kernel, rfl, by decide +kernel, by decide +kernel⟩
abbrev s_fits_at : Stmt := top 16
def b_fits_at : List CS := [
  (.ret (.cmpr [3, 4, 5] .enum [(.idx (.var 0) (.lit (.int 2)))] (.tup [(.nm 3), (.tup [(.nm 4), (.nm 5)])]) (.var 3) (some (.cmp .Eq (.slc (.var 1) (some (.var 2)) (some (.bin .Add (.var 2) (.blt .len [(.var 4)])))) (.var 4)))))]
theorem t_fits_at : (defBody s_fits_at).mapM (trS TT ["rules", "word", "place", "n", "left", "_"] (defScope s_fits_at) 30) = some b_fits_at := by kernel_rfl
theorem c_fits_at : FnScope ["rules", "word", "place", "n", "left", "_"] (["rules", "word", "place"] : List Str) (defScope s_fits_at) := ⟨rfl, rfl, rfl, by decide +kernel, rfl, by decide +kernel, by decide +kernel⟩
abbrev s_fits : Stmt := top 17
def b_fits : List CS := [
  (.exp (.call 3 [(.var 0), (.var 1)])),
  (.asg (.nm 2) (.lst [])),
  (.for_ .range [(.blt .len [(.var 1)])] (.nm 3) [(.exp (.bmt (.var 2) .extend [(.cmpr [4] .seq [(.call 5 [(.var 0), (.var 1), (.var 3)])] (.nm 4) (.tup [(.var 3), (.var 4)]) none)]))]),
  (.ret (.blt .tuple [(.var 2)]))]
theorem t_fits : (defBody s_fits).mapM (trS TT ["rules", "word", "found", "place", "n"] (defScope s_fits) 30) = some b_fits := by kernel_rfl
theorem c_fits : FnScope ["rules", "word", "found", "place", "n"] (["rules", "word"] : List Str) (defScope s_fits) := ⟨rfl, rfl, rfl, by decide +kernel, rfl, by decide +kernel, by decide +kernel⟩
abbrev s_put_in : Stmt := top 18
def b_put_in : List CS := [
  (.asg (.tup [(.nm 4), (.nm 5)]) (.idx (.idx (.var 0) (.lit (.int 2))) (.var 3))),
  (.asg (.nm 6) (.bin .Add (.bin .Add (.slc (.var 1) none (some (.var 2))) (.var 5)) (.slc (.var 1) (some (.bin .Add (.var 2) (.blt .len [(.var 4)]))) none))),
  (.if_ (.cmp .Gt (.blt .len [(.var 6)]) (.con 1)) [(.rse 2 [])] []),
  (.ret (.var 6))]
theorem t_put_in : (defBody s_put_in).mapM (trS TT ["rules", "word", "place", "number", "left", "right", "found"] (defScope s_put_in) 30) = some b_put_in := by kernel_rfl
theorem c_put_in : FnScope ["rules", "word", "place", "number", "left", "right", "found"] (["rules", "word", "place", "number"] : List Str) (defScope s_put_in) := ⟨rfl, rfl, rfl, by decide +kernel, rfl, by decide +kernel, by decide +kernel⟩
abbrev s_rewritten : Stmt := top 19
def b_rewritten : List CS := [
  (.exp (.call 3 [(.var 0), (.var 1)])),
  (.if_ (.or_ (.not_ (.call 0 [(.var 2), (.lit (.int 0)), (.bin .Sub (.blt .len [(.var 1)]) (.lit (.int 1)))])) (.not_ (.call 0 [(.var 3), (.lit (.int 0)), (.bin .Sub (.blt .len [(.idx (.var 0) (.lit (.int 2)))]) (.lit (.int 1)))]))) [(.rse 3 [])] []),
  (.if_ (.cmp .NotIn (.var 3) (.call 5 [(.var 0), (.var 1), (.var 2)])) [(.rse 3 [])] []),
  (.ret (.call 7 [(.var 0), (.var 1), (.var 2), (.var 3)]))]
theorem t_rewritten : (defBody s_rewritten).mapM (trS TT ["rules", "word", "place", "number"] (defScope s_rewritten) 30) = some b_rewritten := by kernel_rfl
theorem c_rewritten : FnScope ["rules", "word", "place", "number"] (["rules", "word", "place", "number"] : List Str) (defScope s_rewritten) := ⟨rfl, rfl, rfl, by decide +kernel, rfl, by decide +kernel, by decide +kernel⟩
abbrev s_next_by : Stmt := top 20
def b_next_by : List CS := [
  (.for_ .range [(.blt .len [(.var 1)])] (.nm 2) [(.asg (.nm 3) (.call 5 [(.var 0), (.var 1), (.var 2)])), (.if_ (.cmp .Gt (.blt .len [(.var 3)]) (.lit (.int 0))) [(.ret (.call 7 [(.var 0), (.var 1), (.var 2), (.idx (.var 3) (.lit (.int 0)))]))] [])]),
  (.ret (.lit .non))]
theorem t_next_by : (defBody s_next_by).mapM (trS TT ["rules", "word", "place", "found"] (defScope s_next_by) 30) = some b_next_by := by kernel_rfl
theorem c_next_by : FnScope ["rules", "word", "place", "found"] (["rules", "word"] : List Str) (defScope s_next_by) := ⟨rfl, rfl, rfl, by decide +kernel, rfl, by decide +kernel, by decide +kernel⟩
abbrev s_next_word : Stmt := top 21
def b_next_word : List CS := [
  (.exp (.call 3 [(.var 0), (.var 1)])),
  (.ret (.call 9 [(.var 0), (.var 1)]))]
theorem t_next_word : (defBody s_next_word).mapM (trS TT ["rules", "word"] (defScope s_next_word) 30) = some b_next_word := by kernel_rfl
theorem c_next_word : FnScope ["rules", "word"] (["rules", "word"] : List Str) (defScope s_next_word) := ⟨rfl, rfl, rfl, by decide +kernel, rfl, by decide +kernel, by decide +kernel⟩
abbrev s_run_rules : Stmt := top 22
def b_run_rules : List CS := [
  (.exp (.call 3 [(.var 0), (.var 1)])),
  (.exp (.call 4 [(.var 2)])),
  (.for_ .range [(.var 2)] (.nm 3) [(.asg (.nm 4) (.call 9 [(.var 0), (.var 1)])), (.if_ (.cmp .Is (.var 4) (.lit .non)) [(.ret (.tup [(.var 1), (.var 3)]))] []), (.asg (.nm 1) (.var 4))]),
  (.ret (.tup [(.var 1), (.var 2)]))]
theorem t_run_rules : (defBody s_run_rules).mapM (trS TT ["rules", "word", "most", "steps", "after"] (defScope s_run_rules) 30) = some b_run_rules := by kernel_rfl
theorem c_run_rules : FnScope ["rules", "word", "most", "steps", "after"] (["rules", "word", "most"] : List Str) (defScope s_run_rules) := ⟨rfl, rfl, rfl, by decide +kernel, rfl, by decide +kernel, by decide +kernel⟩
abbrev s__law_bag : Stmt := top 24
def b__law_bag : List CS := [
  (.asg (.nm 2) (.lit (.int 0))),
  (.if_ (.cmp .Lt (.var 1) (.blt .len [(.var 0)])) [(.asg (.nm 2) (.blt .int [(.idx (.var 0) (.var 1))]))] []),
  (.if_ (.cmp .GtE (.var 2) (.bin .Pow (.lit (.int 10)) (.lit (.int 18)))) [(.ret (.lst [(.var 2), (.var 2), (.var 1)]))] []),
  (.ret (.lst [(.lit (.int 0)), (.var 2), (.var 1)]))]
theorem t__law_bag : (defBody s__law_bag).mapM (trS TT ["script", "k", "cell"] (defScope s__law_bag) 30) = some b__law_bag := by kernel_rfl
theorem c__law_bag : FnScope ["script", "k", "cell"] (["script", "k"] : List Str) (defScope s__law_bag) := ⟨rfl, rfl, rfl, by decide +kernel, rfl, by decide +kernel, by decide +kernel⟩
abbrev s__law_draw : Stmt := top 25
def b__law_draw : List CS := [
  (.if_ (.cmp .Eq (.idx (.var 0) (.lit (.int 0))) (.lit (.int 0))) [(.asg (.nm 2) (.bin .Mod (.blt .int [(.bin .Add (.bin .Add (.bin .Mult (.idx (.var 0) (.lit (.int 1))) (.lit (.int 48271))) (.bin .Mult (.idx (.var 0) (.lit (.int 2))) (.lit (.int 69621)))) (.lit (.int 11)))]) (.lit (.int 2147483647)))), (.asg (.sub (.var 0) (.lit (.int 0))) (.bin .Add (.bin .Mult (.var 2) (.lit (.int 2147483629))) (.bin .Mod (.blt .int [(.bin .Add (.bin .Mult (.var 2) (.var 2)) (.bin .Mult (.idx (.var 0) (.lit (.int 2))) (.lit (.int 16807))))]) (.lit (.int 2147483629))))), (.asg (.sub (.var 0) (.lit (.int 1))) (.var 2))] []),
  (.asg (.nm 3) (.idx (.var 0) (.lit (.int 0)))),
  (.asg (.sub (.var 0) (.lit (.int 0))) (.bin .FloorDiv (.var 3) (.var 1))),
  (.ret (.bin .Mod (.blt .int [(.var 3)]) (.var 1)))]
theorem t__law_draw : (defBody s__law_draw).mapM (trS TT ["bag", "many", "seed", "rest"] (defScope s__law_draw) 30) = some b__law_draw := by kernel_rfl
theorem c__law_draw : FnScope ["bag", "many", "seed", "rest"] (["bag", "many"] : List Str) (defScope s__law_draw) := ⟨rfl, rfl, rfl, by decide +kernel, rfl, by decide +kernel, by decide +kernel⟩
abbrev s__law_word : Stmt := top 26
def b__law_word : List CS := [
  (.ret (.blt .tuple [(.cmpr [3] .range [(.call 13 [(.var 0), (.bin .Add (.var 2) (.lit (.int 1)))])] (.nm 3) (.call 13 [(.var 0), (.var 1)]) none)]))]
theorem t__law_word : (defBody s__law_word).mapM (trS TT ["bag", "k", "most", "n"] (defScope s__law_word) 30) = some b__law_word := by kernel_rfl
theorem c__law_word : FnScope ["bag", "k", "most", "n"] (["bag", "k", "most"] : List Str) (defScope s__law_word) := ⟨rfl, rfl, rfl, by decide +kernel, rfl, by decide +kernel, by decide +kernel⟩
abbrev s__law_rules : Stmt := top 27
def b__law_rules : List CS := [
  (.asg (.nm 1) (.bin .Add (.lit (.int 1)) (.call 13 [(.var 0), (.lit (.int 4))]))),
  (.asg (.nm 2) (.lst [])),
  (.for_ .range [(.bin .Add (.lit (.int 1)) (.call 13 [(.var 0), (.lit (.int 4))]))] (.nm 3) [(.asg (.nm 4) (.bin .Add (.call 14 [(.var 0), (.var 1), (.lit (.int 2))]) (.tup [(.call 13 [(.var 0), (.var 1)])]))), (.exp (.bmt (.var 2) .append [(.tup [(.var 4), (.call 14 [(.var 0), (.var 1), (.lit (.int 3))])])]))]),
  (.ret (.tup [(.lit (.str "rules")), (.var 1), (.blt .tuple [(.var 2)])]))]
theorem t__law_rules : (defBody s__law_rules).mapM (trS TT ["bag", "k", "rows", "n", "left"] (defScope s__law_rules) 30) = some b__law_rules := by kernel_rfl
theorem c__law_rules : FnScope ["bag", "k", "rows", "n", "left"] (["bag"] : List Str) (defScope s__law_rules) := ⟨rfl, rfl, rfl, by decide +kernel, rfl, by decide +kernel, by decide +kernel⟩
abbrev s__law_fits : Stmt := top 28
def b__law_fits : List CS := [
  (.asg (.nm 2) (.lst [])),
  (.for_ .range [(.blt .len [(.var 1)])] (.nm 3) [(.for_ .range [(.blt .len [(.idx (.var 0) (.lit (.int 2)))])] (.nm 4) [(.asg (.nm 5) (.idx (.idx (.idx (.var 0) (.lit (.int 2))) (.var 4)) (.lit (.int 0)))), (.if_ (.cmp .Eq (.blt .list [(.slc (.var 1) (some (.var 3)) (some (.bin .Add (.var 3) (.blt .len [(.var 5)]))))]) (.blt .list [(.var 5)])) [(.exp (.bmt (.var 2) .append [(.tup [(.var 3), (.var 4)])]))] [])])]),
  (.ret (.var 2))]
theorem t__law_fits : (defBody s__law_fits).mapM (trS TT ["rules", "word", "found", "place", "n", "left"] (defScope s__law_fits) 30) = some b__law_fits := by kernel_rfl
theorem c__law_fits : FnScope ["rules", "word", "found", "place", "n", "left"] (["rules", "word"] : List Str) (defScope s__law_fits) := ⟨rfl, rfl, rfl, by decide +kernel, rfl, by decide +kernel, by decide +kernel⟩
abbrev s__law_put : Stmt := top 29
def b__law_put : List CS := [
  (.asg (.tup [(.nm 4), (.nm 5)]) (.idx (.idx (.var 0) (.lit (.int 2))) (.var 3))),
  (.ret (.bin .Add (.bin .Add (.slc (.var 1) none (some (.var 2))) (.var 5)) (.slc (.var 1) (some (.bin .Add (.var 2) (.blt .len [(.var 4)]))) none)))]
theorem t__law_put : (defBody s__law_put).mapM (trS TT ["rules", "word", "place", "n", "left", "right"] (defScope s__law_put) 30) = some b__law_put := by kernel_rfl
theorem c__law_put : FnScope ["rules", "word", "place", "n", "left", "right"] (["rules", "word", "place", "n"] : List Str) (defScope s__law_put) := ⟨rfl, rfl, rfl, by decide +kernel, rfl, by decide +kernel, by decide +kernel⟩
abbrev s__law_told : Stmt := top 30
def b__law_told : List CS := [
  (.try_ [(.if_ (.cmp .Eq (.blt .len [(.var 1)]) (.lit (.int 2))) [(.ret (.cvar 0 [(.idx (.var 1) (.lit (.int 0))), (.idx (.var 1) (.lit (.int 1)))]))] []), (.if_ (.cmp .Eq (.blt .len [(.var 1)]) (.lit (.int 3))) [(.ret (.cvar 0 [(.idx (.var 1) (.lit (.int 0))), (.idx (.var 1) (.lit (.int 1))), (.idx (.var 1) (.lit (.int 2)))]))] []), (.ret (.cvar 0 [(.idx (.var 1) (.lit (.int 0))), (.idx (.var 1) (.lit (.int 1))), (.idx (.var 1) (.lit (.int 2))), (.idx (.var 1) (.lit (.int 3)))]))] [(3, none, (.lit (.str "none"))), (1, (some 2), (.pre "bad " 0)), (2, none, (.lit (.str "far")))])]
theorem t__law_told : (defBody s__law_told).mapM (trS TT ["call", "values", "e"] (defScope s__law_told) 30) = some b__law_told := by kernel_rfl
theorem c__law_told : FnScope ["call", "values", "e"] (["call", "values"] : List Str) (defScope s__law_told) := ⟨rfl, rfl, rfl, by decide +kernel, rfl, by decide +kernel, by decide +kernel⟩
abbrev s__law_case : Stmt := top 31
def b__law_case : List CS := [
  (.asg (.nm 1) (.call 15 [(.var 0)])),
  (.asg (.nm 2) (.idx (.var 1) (.lit (.int 1)))),
  (.asg (.nm 3) (.call 14 [(.var 0), (.var 2), (.lit (.int 12))])),
  (.asg (.nm 4) (.call 16 [(.var 1), (.var 3)])),
  (.if_ (.or_ (.cmp .IsNot (.call 2 [(.var 1)]) (.lit (.bl true))) (.cmp .NotEq (.call 6 [(.var 1), (.var 3)]) (.blt .tuple [(.var 4)]))) [(.ret (.lit (.bl false)))] []),
  (.asg (.nm 5) (.lit .non)),
  (.if_ (.cmp .NotEq (.var 4) (.lst [])) [(.asg (.nm 5) (.call 17 [(.var 1), (.var 3), (.idx (.idx (.var 4) (.lit (.int 0))) (.lit (.int 0))), (.idx (.idx (.var 4) (.lit (.int 0))) (.lit (.int 1)))])), (.asg (.tup [(.nm 6), (.nm 7)]) (.idx (.var 4) (.call 13 [(.var 0), (.blt .len [(.var 4)])]))), (.if_ (.cmp .NotEq (.call 8 [(.var 1), (.var 3), (.var 6), (.var 7)]) (.call 17 [(.var 1), (.var 3), (.var 6), (.var 7)])) [(.ret (.lit (.bl false)))] [])] []),
  (.if_ (.cmp .NotEq (.call 10 [(.var 1), (.var 3)]) (.var 5)) [(.ret (.lit (.bl false)))] []),
  (.asg (.nm 6) (.bin .Sub (.call 13 [(.var 0), (.lit (.int 14))]) (.lit (.int 1)))),
  (.asg (.nm 7) (.call 13 [(.var 0), (.lit (.int 5))])),
  (.if_ (.and_ (.cmp .NotIn (.tup [(.var 6), (.var 7)]) (.var 4)) (.cmp .NotEq (.call 18 [(.fnv 8), (.tup [(.var 1), (.var 3), (.var 6), (.var 7)])]) (.lit (.str "none")))) [(.ret (.lit (.bl false)))] []),
  (.asg (.nm 8) (.call 13 [(.var 0), (.lit (.int 30))])),
  (.asg (.nm 9) (.lit (.int 0))),
  (.asg (.nm 10) (.var 3)),
  (.whl (.and_ (.cmp .Lt (.var 9) (.var 8)) (.cmp .NotEq (.call 16 [(.var 1), (.var 10)]) (.lst []))) [(.asg (.tup [(.nm 6), (.nm 7)]) (.idx (.call 16 [(.var 1), (.var 10)]) (.lit (.int 0)))), (.asg (.nm 10) (.call 17 [(.var 1), (.var 10), (.var 6), (.var 7)])), (.asg (.nm 9) (.bin .Add (.var 9) (.lit (.int 1))))]),
  (.if_ (.cmp .NotEq (.call 11 [(.var 1), (.var 3), (.var 8)]) (.tup [(.var 10), (.var 9)])) [(.ret (.lit (.bl false)))] []),
  (.asg (.nm 11) (.idx (.lst [(.lit .non), (.slc (.var 1) none (some (.lit (.int 2)))), (.bin .Add (.tup [(.lit (.str "rule"))]) (.slc (.var 1) (some (.lit (.int 1))) none)), (.tup [(.lit (.str "rules")), (.lit (.int 0)), (.idx (.var 1) (.lit (.int 2)))]), (.tup [(.lit (.str "rules")), (.lit (.bl true)), (.idx (.var 1) (.lit (.int 2)))]), (.tup [(.lit (.str "rules")), (.var 2), (.tup [])]), (.tup [(.lit (.str "rules")), (.var 2), (.blt .list [(.idx (.var 1) (.lit (.int 2)))])]), (.tup [(.lit (.str "rules")), (.var 2), (.bin .Add (.idx (.var 1) (.lit (.int 2))) (.tup [(.tup [(.tup []), (.tup [(.lit (.int 0))])])]))]), (.tup [(.lit (.str "rules")), (.var 2), (.bin .Add (.idx (.var 1) (.lit (.int 2))) (.tup [(.tup [(.tup [(.var 2)]), (.tup [(.lit (.int 0))])])]))]), (.tup [(.lit (.str "rules")), (.var 2), (.bin .Add (.idx (.var 1) (.lit (.int 2))) (.tup [(.tup [(.bin .Mult (.tup [(.lit (.int 0))]) (.lit (.int 7))), (.tup [])])]))]), (.tup [(.lit (.str "rules")), (.var 2), (.bin .Mult (.idx (.var 1) (.lit (.int 2))) (.lit (.int 401)))]), (.tup [(.lit (.str "rules")), (.lit (.int 201)), (.idx (.var 1) (.lit (.int 2)))])]) (.call 13 [(.var 0), (.lit (.int 12))]))),
  (.if_ (.or_ (.cmp .IsNot (.call 2 [(.var 11)]) (.lit (.bl false))) (.or_ (.cmp .NotEq (.cmpr [12] .seq [(.lst [(.fnv 6), (.fnv 10)])] (.nm 12) (.call 18 [(.var 12), (.tup [(.var 11), (.var 3)])]) none) (.bin .Mult (.lst [(.lit (.str "bad rules"))]) (.lit (.int 2)))) (.cmp .NotEq (.call 18 [(.fnv 11), (.tup [(.var 11), (.var 3), (.lit (.int 3))])]) (.lit (.str "bad rules"))))) [(.ret (.lit (.bl false)))] []),
  (.asg (.nm 11) (.idx (.lst [(.lit .non), (.blt .list [(.var 3)]), (.bin .Add (.var 3) (.tup [(.var 2)])), (.bin .Add (.var 3) (.tup [(.neg (.lit (.int 1)))])), (.bin .Add (.var 3) (.tup [(.lit (.bl true))])), (.bin .Mult (.tup [(.lit (.int 0))]) (.lit (.int 20001)))]) (.call 13 [(.var 0), (.lit (.int 6))]))),
  (.if_ (.or_ (.cmp .NotEq (.cmpr [12] .seq [(.lst [(.fnv 6), (.fnv 10)])] (.nm 12) (.call 18 [(.var 12), (.tup [(.var 1), (.var 11)])]) none) (.bin .Mult (.lst [(.lit (.str "bad word"))]) (.lit (.int 2)))) (.cmp .NotEq (.call 18 [(.fnv 11), (.tup [(.var 1), (.var 11), (.lit (.int 3))])]) (.lit (.str "bad word")))) [(.ret (.lit (.bl false)))] []),
  (.ret (.cmp .Eq (.cmpr [11] .seq [(.lst [(.neg (.lit (.int 1))), (.lit (.int 100001)), (.lit .non), (.lit (.bl true))])] (.nm 11) (.call 18 [(.fnv 11), (.tup [(.var 1), (.var 3), (.var 11)])]) none) (.bin .Mult (.lst [(.lit (.str "far"))]) (.lit (.int 4)))))]
theorem t__law_case : (defBody s__law_case).mapM (trS TT ["bag", "rules", "k", "word", "found", "due", "place", "n", "most", "steps", "end", "odd", "call"] (defScope s__law_case) 30) = some b__law_case := by kernel_rfl
theorem c__law_case : FnScope ["bag", "rules", "k", "word", "found", "due", "place", "n", "most", "steps", "end", "odd", "call"] (["bag"] : List Str) (defScope s__law_case) := ⟨rfl, rfl, rfl, by decide +kernel, rfl, by decide +kernel, by decide +kernel⟩
abbrev s_law : Stmt := top 32
def b_law : List CS := [
  (.asg (.nm 1) (.tup [(.lit (.str "rules")), (.lit (.int 2)), (.tup [(.tup [(.tup [(.lit (.int 0))]), (.tup [(.lit (.int 0)), (.lit (.int 0)), (.lit (.int 1))])])])])),
  (.if_ (.or_ (.cmp .NotEq (.con 1) (.lit (.int 20000))) (.or_ (.cmp .NotEq (.call 18 [(.fnv 10), (.tup [(.var 1), (.bin .Mult (.tup [(.lit (.int 0))]) (.lit (.int 20000)))])]) (.lit (.str "far"))) (.cmp .NotEq (.call 10 [(.var 1), (.bin .Mult (.tup [(.lit (.int 0))]) (.lit (.int 19998)))]) (.bin .Add (.tup [(.lit (.int 0)), (.lit (.int 0)), (.lit (.int 1))]) (.bin .Mult (.tup [(.lit (.int 0))]) (.lit (.int 19997))))))) [(.ret (.lit (.bl false)))] []),
  (.for_ .range [(.blt .min [(.blt .max [(.blt .len [(.var 0)]), (.lit (.int 1))]), (.lit (.int 6))])] (.nm 2) [(.if_ (.not_ (.call 19 [(.call 12 [(.var 0), (.var 2)])])) [(.ret (.lit (.bl false)))] [])]),
  (.ret (.lit (.bl true)))]
theorem t_law : (defBody s_law).mapM (trS TT ["script", "grow", "k"] (defScope s_law) 30) = some b_law := by kernel_rfl
theorem c_law : FnScope ["script", "grow", "k"] (["script"] : List Str) (defScope s_law) := ⟨rfl, rfl, rfl, by decide +kernel, rfl, by decide +kernel, by decide +kernel⟩
def D : Defs where
  T := TT
  con := con
  fns := [⟨3, 3, b_is_integer⟩,
    ⟨3, 4, b_is_word⟩,
    ⟨1, 6, b_is_rules⟩,
    ⟨2, 2, b_look_at⟩,
    ⟨1, 1, b_check_most⟩,
    ⟨3, 6, b_fits_at⟩,
    ⟨2, 5, b_fits⟩,
    ⟨4, 7, b_put_in⟩,
    ⟨4, 4, b_rewritten⟩,
    ⟨2, 4, b_next_by⟩,
    ⟨2, 2, b_next_word⟩,
    ⟨3, 5, b_run_rules⟩,
    ⟨2, 3, b__law_bag⟩,
    ⟨2, 4, b__law_draw⟩,
    ⟨3, 4, b__law_word⟩,
    ⟨1, 5, b__law_rules⟩,
    ⟨2, 6, b__law_fits⟩,
    ⟨4, 6, b__law_put⟩,
    ⟨2, 3, b__law_told⟩,
    ⟨1, 13, b__law_case⟩,
    ⟨1, 3, b_law⟩]
  mth := fun c m => match c, m with
    | _, _ => none
  ini := fun c => match c with
    | _ => none
abbrev s_BadPaper_init : Stmt := inClass (top 2) 0
theorem c_BadPaper_init : FnScope ["self", "word"] (["self", "word"] : List Str) (defScope s_BadPaper_init) := ⟨rfl, rfl, rfl, by decide +kernel, rfl, by decide +kernel, by decide +kernel⟩
theorem i_BadPaper_init : isXi s_BadPaper_init "self" "word" "word" := ⟨_, _, _, _, rfl⟩
theorem all_mk {prog : Program} {w : World} {K : PySem.W.Frag} {h : Heap} {mg : Str → Option Value} {fa f0 f1 f2 f3 f4 f5 f6 f7 f8 f9 f10 f11 f12 f13 f14 f15 f16 f17 f18 f19 f20 C0 C1 C2 C3 I1 : Addr} (X : K.In h) (G : h.Ns mainGlobals mg) (hfa : mg "law" = some (.ref fa))
    {od_f0 an_f0 od_f1 an_f1 od_f2 an_f2 od_f3 an_f3 od_f4 an_f4 od_f5 an_f5 od_f6 an_f6 od_f7 an_f7 od_f8 an_f8 od_f9 an_f9 od_f10 an_f10 od_f11 an_f11 od_f12 an_f12 od_f13 an_f13 od_f14 an_f14 od_f15 an_f15 od_f16 an_f16 od_f17 an_f17 od_f18 an_f18 od_f19 an_f19 od_f20 an_f20 od_I1 an_I1 : Option Addr} {sl_f0 sl_f1 sl_f2 sl_f3 sl_f4 sl_f5 sl_f6 sl_f7 sl_f8 sl_f9 sl_f10 sl_f11 sl_f12 sl_f13 sl_f14 sl_f15 sl_f16 sl_f17 sl_f18 sl_f19 sl_f20 sl_I1 : Array (Option Value)} {oc_f0 kv_f0 dc_f0 pm_f0 cd_f0 ct_f0 oc_f1 kv_f1 dc_f1 pm_f1 cd_f1 ct_f1 oc_f2 kv_f2 dc_f2 pm_f2 cd_f2 ct_f2 oc_f3 kv_f3 dc_f3 pm_f3 cd_f3 ct_f3 oc_f4 kv_f4 dc_f4 pm_f4 cd_f4 ct_f4 oc_f5 kv_f5 dc_f5 pm_f5 cd_f5 ct_f5 oc_f6 kv_f6 dc_f6 pm_f6 cd_f6 ct_f6 oc_f7 kv_f7 dc_f7 pm_f7 cd_f7 ct_f7 oc_f8 kv_f8 dc_f8 pm_f8 cd_f8 ct_f8 oc_f9 kv_f9 dc_f9 pm_f9 cd_f9 ct_f9 oc_f10 kv_f10 dc_f10 pm_f10 cd_f10 ct_f10 oc_f11 kv_f11 dc_f11 pm_f11 cd_f11 ct_f11 oc_f12 kv_f12 dc_f12 pm_f12 cd_f12 ct_f12 oc_f13 kv_f13 dc_f13 pm_f13 cd_f13 ct_f13 oc_f14 kv_f14 dc_f14 pm_f14 cd_f14 ct_f14 oc_f15 kv_f15 dc_f15 pm_f15 cd_f15 ct_f15 oc_f16 kv_f16 dc_f16 pm_f16 cd_f16 ct_f16 oc_f17 kv_f17 dc_f17 pm_f17 cd_f17 ct_f17 oc_f18 kv_f18 dc_f18 pm_f18 cd_f18 ct_f18 oc_f19 kv_f19 dc_f19 pm_f19 cd_f19 ct_f19 oc_f20 kv_f20 dc_f20 pm_f20 cd_f20 ct_f20 oc_I1 kv_I1 dc_I1 pm_I1 cd_I1 ct_I1 : Value} {tk0 tk1 tk2 tk3 tk4 : Tok} {nm_C1 : Str} {qn_C1 : Str} {N_C1 : Addr} {bs_C1 bm_C1 sub_C1 : List Value} {sn_C1 : List Str} {ab_C1 : Bool} {col_C1 : Option Bool} {dd_C1 : Option Addr} {m0_C1 m1_C1 m2_C1 m3_C1 m5_C1 : Option Value}
    (a_f0 : PySem.W.nsIn K mainGlobals "is_integer" = some (some (.ref f0)))
    (l_f0 : K.lookup f0 = some ⟨oc_f0, od_f0, .func (PySem.W.fnOf "is_integer" "is_integer" (defArgs s_is_integer) (defBody s_is_integer) (defScope s_is_integer) .none kv_f0 dc_f0 pm_f0 an_f0 cd_f0 ct_f0), sl_f0⟩)
    (c_f0 : PySem.W.codeIn K cd_f0 "is_integer" = true)
    (k_f0 : PySem.W.keepIn K (.ref f0) = true)
    (a_f1 : PySem.W.nsIn K mainGlobals "is_word" = some (some (.ref f1)))
    (l_f1 : K.lookup f1 = some ⟨oc_f1, od_f1, .func (PySem.W.fnOf "is_word" "is_word" (defArgs s_is_word) (defBody s_is_word) (defScope s_is_word) .none kv_f1 dc_f1 pm_f1 an_f1 cd_f1 ct_f1), sl_f1⟩)
    (c_f1 : PySem.W.codeIn K cd_f1 "is_word" = true)
    (k_f1 : PySem.W.keepIn K (.ref f1) = true)
    (a_f2 : PySem.W.nsIn K mainGlobals "is_rules" = some (some (.ref f2)))
    (l_f2 : K.lookup f2 = some ⟨oc_f2, od_f2, .func (PySem.W.fnOf "is_rules" "is_rules" (defArgs s_is_rules) (defBody s_is_rules) (defScope s_is_rules) .none kv_f2 dc_f2 pm_f2 an_f2 cd_f2 ct_f2), sl_f2⟩)
    (c_f2 : PySem.W.codeIn K cd_f2 "is_rules" = true)
    (k_f2 : PySem.W.keepIn K (.ref f2) = true)
    (a_f3 : PySem.W.nsIn K mainGlobals "look_at" = some (some (.ref f3)))
    (l_f3 : K.lookup f3 = some ⟨oc_f3, od_f3, .func (PySem.W.fnOf "look_at" "look_at" (defArgs s_look_at) (defBody s_look_at) (defScope s_look_at) .none kv_f3 dc_f3 pm_f3 an_f3 cd_f3 ct_f3), sl_f3⟩)
    (c_f3 : PySem.W.codeIn K cd_f3 "look_at" = true)
    (k_f3 : PySem.W.keepIn K (.ref f3) = true)
    (a_f4 : PySem.W.nsIn K mainGlobals "check_most" = some (some (.ref f4)))
    (l_f4 : K.lookup f4 = some ⟨oc_f4, od_f4, .func (PySem.W.fnOf "check_most" "check_most" (defArgs s_check_most) (defBody s_check_most) (defScope s_check_most) .none kv_f4 dc_f4 pm_f4 an_f4 cd_f4 ct_f4), sl_f4⟩)
    (c_f4 : PySem.W.codeIn K cd_f4 "check_most" = true)
    (k_f4 : PySem.W.keepIn K (.ref f4) = true)
    (a_f5 : PySem.W.nsIn K mainGlobals "fits_at" = some (some (.ref f5)))
    (l_f5 : K.lookup f5 = some ⟨oc_f5, od_f5, .func (PySem.W.fnOf "fits_at" "fits_at" (defArgs s_fits_at) (defBody s_fits_at) (defScope s_fits_at) .none kv_f5 dc_f5 pm_f5 an_f5 cd_f5 ct_f5), sl_f5⟩)
    (c_f5 : PySem.W.codeIn K cd_f5 "fits_at" = true)
    (k_f5 : PySem.W.keepIn K (.ref f5) = true)
    (a_f6 : PySem.W.nsIn K mainGlobals "fits" = some (some (.ref f6)))
    (l_f6 : K.lookup f6 = some ⟨oc_f6, od_f6, .func (PySem.W.fnOf "fits" "fits" (defArgs s_fits) (defBody s_fits) (defScope s_fits) .none kv_f6 dc_f6 pm_f6 an_f6 cd_f6 ct_f6), sl_f6⟩)
    (c_f6 : PySem.W.codeIn K cd_f6 "fits" = true)
    (k_f6 : PySem.W.keepIn K (.ref f6) = true)
    (a_f7 : PySem.W.nsIn K mainGlobals "put_in" = some (some (.ref f7)))
    (l_f7 : K.lookup f7 = some ⟨oc_f7, od_f7, .func (PySem.W.fnOf "put_in" "put_in" (defArgs s_put_in) (defBody s_put_in) (defScope s_put_in) .none kv_f7 dc_f7 pm_f7 an_f7 cd_f7 ct_f7), sl_f7⟩)
    (c_f7 : PySem.W.codeIn K cd_f7 "put_in" = true)
    (k_f7 : PySem.W.keepIn K (.ref f7) = true)
    (a_f8 : PySem.W.nsIn K mainGlobals "rewritten" = some (some (.ref f8)))
    (l_f8 : K.lookup f8 = some ⟨oc_f8, od_f8, .func (PySem.W.fnOf "rewritten" "rewritten" (defArgs s_rewritten) (defBody s_rewritten) (defScope s_rewritten) .none kv_f8 dc_f8 pm_f8 an_f8 cd_f8 ct_f8), sl_f8⟩)
    (c_f8 : PySem.W.codeIn K cd_f8 "rewritten" = true)
    (k_f8 : PySem.W.keepIn K (.ref f8) = true)
    (a_f9 : PySem.W.nsIn K mainGlobals "next_by" = some (some (.ref f9)))
    (l_f9 : K.lookup f9 = some ⟨oc_f9, od_f9, .func (PySem.W.fnOf "next_by" "next_by" (defArgs s_next_by) (defBody s_next_by) (defScope s_next_by) .none kv_f9 dc_f9 pm_f9 an_f9 cd_f9 ct_f9), sl_f9⟩)
    (c_f9 : PySem.W.codeIn K cd_f9 "next_by" = true)
    (k_f9 : PySem.W.keepIn K (.ref f9) = true)
    (a_f10 : PySem.W.nsIn K mainGlobals "next_word" = some (some (.ref f10)))
    (l_f10 : K.lookup f10 = some ⟨oc_f10, od_f10, .func (PySem.W.fnOf "next_word" "next_word" (defArgs s_next_word) (defBody s_next_word) (defScope s_next_word) .none kv_f10 dc_f10 pm_f10 an_f10 cd_f10 ct_f10), sl_f10⟩)
    (c_f10 : PySem.W.codeIn K cd_f10 "next_word" = true)
    (k_f10 : PySem.W.keepIn K (.ref f10) = true)
    (a_f11 : PySem.W.nsIn K mainGlobals "run_rules" = some (some (.ref f11)))
    (l_f11 : K.lookup f11 = some ⟨oc_f11, od_f11, .func (PySem.W.fnOf "run_rules" "run_rules" (defArgs s_run_rules) (defBody s_run_rules) (defScope s_run_rules) .none kv_f11 dc_f11 pm_f11 an_f11 cd_f11 ct_f11), sl_f11⟩)
    (c_f11 : PySem.W.codeIn K cd_f11 "run_rules" = true)
    (k_f11 : PySem.W.keepIn K (.ref f11) = true)
    (a_f12 : PySem.W.nsIn K mainGlobals "_law_bag" = some (some (.ref f12)))
    (l_f12 : K.lookup f12 = some ⟨oc_f12, od_f12, .func (PySem.W.fnOf "_law_bag" "_law_bag" (defArgs s__law_bag) (defBody s__law_bag) (defScope s__law_bag) .none kv_f12 dc_f12 pm_f12 an_f12 cd_f12 ct_f12), sl_f12⟩)
    (c_f12 : PySem.W.codeIn K cd_f12 "_law_bag" = true)
    (k_f12 : PySem.W.keepIn K (.ref f12) = true)
    (a_f13 : PySem.W.nsIn K mainGlobals "_law_draw" = some (some (.ref f13)))
    (l_f13 : K.lookup f13 = some ⟨oc_f13, od_f13, .func (PySem.W.fnOf "_law_draw" "_law_draw" (defArgs s__law_draw) (defBody s__law_draw) (defScope s__law_draw) .none kv_f13 dc_f13 pm_f13 an_f13 cd_f13 ct_f13), sl_f13⟩)
    (c_f13 : PySem.W.codeIn K cd_f13 "_law_draw" = true)
    (k_f13 : PySem.W.keepIn K (.ref f13) = true)
    (a_f14 : PySem.W.nsIn K mainGlobals "_law_word" = some (some (.ref f14)))
    (l_f14 : K.lookup f14 = some ⟨oc_f14, od_f14, .func (PySem.W.fnOf "_law_word" "_law_word" (defArgs s__law_word) (defBody s__law_word) (defScope s__law_word) .none kv_f14 dc_f14 pm_f14 an_f14 cd_f14 ct_f14), sl_f14⟩)
    (c_f14 : PySem.W.codeIn K cd_f14 "_law_word" = true)
    (k_f14 : PySem.W.keepIn K (.ref f14) = true)
    (a_f15 : PySem.W.nsIn K mainGlobals "_law_rules" = some (some (.ref f15)))
    (l_f15 : K.lookup f15 = some ⟨oc_f15, od_f15, .func (PySem.W.fnOf "_law_rules" "_law_rules" (defArgs s__law_rules) (defBody s__law_rules) (defScope s__law_rules) .none kv_f15 dc_f15 pm_f15 an_f15 cd_f15 ct_f15), sl_f15⟩)
    (c_f15 : PySem.W.codeIn K cd_f15 "_law_rules" = true)
    (k_f15 : PySem.W.keepIn K (.ref f15) = true)
    (a_f16 : PySem.W.nsIn K mainGlobals "_law_fits" = some (some (.ref f16)))
    (l_f16 : K.lookup f16 = some ⟨oc_f16, od_f16, .func (PySem.W.fnOf "_law_fits" "_law_fits" (defArgs s__law_fits) (defBody s__law_fits) (defScope s__law_fits) .none kv_f16 dc_f16 pm_f16 an_f16 cd_f16 ct_f16), sl_f16⟩)
    (c_f16 : PySem.W.codeIn K cd_f16 "_law_fits" = true)
    (k_f16 : PySem.W.keepIn K (.ref f16) = true)
    (a_f17 : PySem.W.nsIn K mainGlobals "_law_put" = some (some (.ref f17)))
    (l_f17 : K.lookup f17 = some ⟨oc_f17, od_f17, .func (PySem.W.fnOf "_law_put" "_law_put" (defArgs s__law_put) (defBody s__law_put) (defScope s__law_put) .none kv_f17 dc_f17 pm_f17 an_f17 cd_f17 ct_f17), sl_f17⟩)
    (c_f17 : PySem.W.codeIn K cd_f17 "_law_put" = true)
    (k_f17 : PySem.W.keepIn K (.ref f17) = true)
    (a_f18 : PySem.W.nsIn K mainGlobals "_law_told" = some (some (.ref f18)))
    (l_f18 : K.lookup f18 = some ⟨oc_f18, od_f18, .func (PySem.W.fnOf "_law_told" "_law_told" (defArgs s__law_told) (defBody s__law_told) (defScope s__law_told) .none kv_f18 dc_f18 pm_f18 an_f18 cd_f18 ct_f18), sl_f18⟩)
    (c_f18 : PySem.W.codeIn K cd_f18 "_law_told" = true)
    (k_f18 : PySem.W.keepIn K (.ref f18) = true)
    (a_f19 : PySem.W.nsIn K mainGlobals "_law_case" = some (some (.ref f19)))
    (l_f19 : K.lookup f19 = some ⟨oc_f19, od_f19, .func (PySem.W.fnOf "_law_case" "_law_case" (defArgs s__law_case) (defBody s__law_case) (defScope s__law_case) .none kv_f19 dc_f19 pm_f19 an_f19 cd_f19 ct_f19), sl_f19⟩)
    (c_f19 : PySem.W.codeIn K cd_f19 "_law_case" = true)
    (k_f19 : PySem.W.keepIn K (.ref f19) = true)
    (a_f20 : PySem.W.nsIn K mainGlobals "law" = some (some (.ref f20)))
    (l_f20 : K.lookup f20 = some ⟨oc_f20, od_f20, .func (PySem.W.fnOf "law" "law" (defArgs s_law) (defBody s_law) (defScope s_law) .none kv_f20 dc_f20 pm_f20 an_f20 cd_f20 ct_f20), sl_f20⟩)
    (c_f20 : PySem.W.codeIn K cd_f20 "law" = true)
    (k_f20 : PySem.W.keepIn K (.ref f20) = true)
    (a_C0 : PySem.W.nsIn K mainGlobals "HeadError" = some (some (.ref C0)))
    (k_C0 : PySem.W.keepIn K (.ref C0) = true)
    (a_C1 : PySem.W.nsIn K mainGlobals "BadPaper" = some (some (.ref C1)))
    (k_C1 : PySem.W.keepIn K (.ref C1) = true)
    (a_C2 : PySem.W.nsIn K mainGlobals "TooFar" = some (some (.ref C2)))
    (k_C2 : PySem.W.keepIn K (.ref C2) = true)
    (a_C3 : PySem.W.nsIn K mainGlobals "NoSuch" = some (some (.ref C3)))
    (k_C3 : PySem.W.keepIn K (.ref C3) = true)
    (x_C1 : xfB K C1 = true)
    (n_C1 : (nA.all fun y => decide (PySem.W.findIn K (.ref C1) y = some none)) = true)
    (s_C1 : PySem.W.subIn K (.ref C1) (.type "BaseException") = some true)
    (y_C1 : PySem.W.typeIn K (.ref C1) = some (.type "type"))
    (o_C1 : K.lookup C1 = some (excClassObj nm_C1 qn_C1 C1 N_C1 bs_C1 bm_C1 true sn_C1 sub_C1 ab_C1 col_C1 dd_C1 m0_C1 m1_C1 m2_C1 m3_C1 m5_C1 "ValueError.__new__"))
    (r_C1 : PySem.HandSPX.refsVE bm_C1 = true)
    (sa_C1 : PySem.W.findIn K (.ref C1) "__setattr__" = some (some (.builtin "object.__setattr__")))
    (i_C1 : PySem.W.findIn K (.ref C1) "__init__" = some (some (.ref I1)))
    (t_I1 : PySem.W.typeIn K (.ref I1) = some (.type "function"))
    (l_I1 : K.lookup I1 = some ⟨oc_I1, od_I1, .func (PySem.W.fnOf "__init__" "BadPaper.__init__" (defArgs s_BadPaper_init) (defBody s_BadPaper_init) (defScope s_BadPaper_init) .none kv_I1 dc_I1 pm_I1 an_I1 cd_I1 ct_I1), sl_I1⟩)
    (c_I1 : PySem.W.codeIn K cd_I1 "BadPaper.__init__" = true)
    (k_I1 : PySem.W.keepIn K (.ref I1) = true)
    (x_C2 : xfB K C2 = true)
    (n_C2 : (nA.all fun y => decide (PySem.W.findIn K (.ref C2) y = some none)) = true)
    (s_C2 : PySem.W.subIn K (.ref C2) (.type "BaseException") = some true)
    (y_C2 : PySem.W.typeIn K (.ref C2) = some (.type "type"))
    (e_C2 : PySem.W.excIn K C2 PySem.HandSPX.veTail "ValueError.__new__" = true)
    (x_C3 : xfB K C3 = true)
    (n_C3 : (nA.all fun y => decide (PySem.W.findIn K (.ref C3) y = some none)) = true)
    (s_C3 : PySem.W.subIn K (.ref C3) (.type "BaseException") = some true)
    (y_C3 : PySem.W.typeIn K (.ref C3) = some (.type "type"))
    (e_C3 : PySem.W.excIn K C3 PySem.HandSPX.veTail "ValueError.__new__" = true)
    (ee_1_1 : PySem.W.exmOne K (.ref C1) (.ref C1) = some (decide ((1 : Nat) = 1)))
    (ee_1_2 : PySem.W.exmOne K (.ref C1) (.ref C2) = some (decide ((1 : Nat) = 2)))
    (ee_1_3 : PySem.W.exmOne K (.ref C1) (.ref C3) = some (decide ((1 : Nat) = 3)))
    (ee_2_1 : PySem.W.exmOne K (.ref C2) (.ref C1) = some (decide ((2 : Nat) = 1)))
    (ee_2_2 : PySem.W.exmOne K (.ref C2) (.ref C2) = some (decide ((2 : Nat) = 2)))
    (ee_2_3 : PySem.W.exmOne K (.ref C2) (.ref C3) = some (decide ((2 : Nat) = 3)))
    (ee_3_1 : PySem.W.exmOne K (.ref C3) (.ref C1) = some (decide ((3 : Nat) = 1)))
    (ee_3_2 : PySem.W.exmOne K (.ref C3) (.ref C2) = some (decide ((3 : Nat) = 2)))
    (ee_3_3 : PySem.W.exmOne K (.ref C3) (.ref C3) = some (decide ((3 : Nat) = 3)))
    (g_0 : PySem.W.nsIn K mainGlobals "MOST_RUN" = some (some (.int 100000 tk0)))
    (g_1 : PySem.W.nsIn K mainGlobals "MOST_WORD" = some (some (.int 20000 tk1)))
    (g_2 : PySem.W.nsIn K mainGlobals "MOST_LETTERS" = some (some (.int 200 tk2)))
    (g_3 : PySem.W.nsIn K mainGlobals "MOST_RULES" = some (some (.int 400 tk3)))
    (g_4 : PySem.W.nsIn K mainGlobals "MOST_SIDE" = some (some (.int 6 tk4)))
    (blt : (bltNames.all fun y => decide (PySem.W.nsIn K mainGlobals y = some none)) = true)
    : ∃ fd : FuncData, (∀ (s : Shared) (v : Value), BindsTo s fd ⟨[v], []⟩ [("script", v)]) ∧ ∀ (k : Nat) (base : Heap), FnOk prog w K mg base (L2.CX prog w) (k + 1) fa fd ["script"] (lawSp K mg D (k + 1) 20) := by
  have F0 := fun_mk (st := s_is_integer) l_f0 c_f0 k_f0
  have T0 : FnFactP K TT "is_integer" "is_integer" f0 ⟨3, 3, b_is_integer⟩ _ (["value", "low", "high"] : List Str) := ⟨s_is_integer, ["value", "low", "high"], F0, c_is_integer, rfl, rfl, F0.binds (ps := ["value", "low", "high"]) fun _ _ _ _ _ _ us hl => match us, hl with | [_, _, _], _ => rfl, t_is_integer⟩
  have F1 := fun_mk (st := s_is_word) l_f1 c_f1 k_f1
  have T1 : FnFactP K TT "is_word" "is_word" f1 ⟨3, 4, b_is_word⟩ _ (["value", "k", "most"] : List Str) := ⟨s_is_word, ["value", "k", "most", "one"], F1, c_is_word, rfl, rfl, F1.binds (ps := ["value", "k", "most"]) fun _ _ _ _ _ _ us hl => match us, hl with | [_, _, _], _ => rfl, t_is_word⟩
  have F2 := fun_mk (st := s_is_rules) l_f2 c_f2 k_f2
  have T2 : FnFactP K TT "is_rules" "is_rules" f2 ⟨1, 6, b_is_rules⟩ _ (["value"] : List Str) := ⟨s_is_rules, ["value", "_", "k", "rows", "row", "side"], F2, c_is_rules, rfl, rfl, F2.binds (ps := ["value"]) fun _ _ _ _ _ _ us hl => match us, hl with | [_], _ => rfl, t_is_rules⟩
  have F3 := fun_mk (st := s_look_at) l_f3 c_f3 k_f3
  have T3 : FnFactP K TT "look_at" "look_at" f3 ⟨2, 2, b_look_at⟩ _ (["rules", "word"] : List Str) := ⟨s_look_at, ["rules", "word"], F3, c_look_at, rfl, rfl, F3.binds (ps := ["rules", "word"]) fun _ _ _ _ _ _ us hl => match us, hl with | [_, _], _ => rfl, t_look_at⟩
  have F4 := fun_mk (st := s_check_most) l_f4 c_f4 k_f4
  have T4 : FnFactP K TT "check_most" "check_most" f4 ⟨1, 1, b_check_most⟩ _ (["most"] : List Str) := ⟨s_check_most, ["most"], F4, c_check_most, rfl, rfl, F4.binds (ps := ["most"]) fun _ _ _ _ _ _ us hl => match us, hl with | [_], _ => rfl, t_check_most⟩
  have F5 := fun_mk (st := s_fits_at) l_f5 c_f5 k_f5
  have T5 : FnFactP K TT "fits_at" "fits_at" f5 ⟨3, 6, b_fits_at⟩ _ (["rules", "word", "place"] : List Str) := ⟨s_fits_at, ["rules", "word", "place", "n", "left", "_"], F5, c_fits_at, rfl, rfl, F5.binds (ps := ["rules", "word", "place"]) fun _ _ _ _ _ _ us hl => match us, hl with | [_, _, _], _ => rfl, t_fits_at⟩
  have F6 := fun_mk (st := s_fits) l_f6 c_f6 k_f6
  have T6 : FnFactP K TT "fits" "fits" f6 ⟨2, 5, b_fits⟩ _ (["rules", "word"] : List Str) := ⟨s_fits, ["rules", "word", "found", "place", "n"], F6, c_fits, rfl, rfl, F6.binds (ps := ["rules", "word"]) fun _ _ _ _ _ _ us hl => match us, hl with | [_, _], _ => rfl, t_fits⟩
  have F7 := fun_mk (st := s_put_in) l_f7 c_f7 k_f7
  have T7 : FnFactP K TT "put_in" "put_in" f7 ⟨4, 7, b_put_in⟩ _ (["rules", "word", "place", "number"] : List Str) := ⟨s_put_in, ["rules", "word", "place", "number", "left", "right", "found"], F7, c_put_in, rfl, rfl, F7.binds (ps := ["rules", "word", "place", "number"]) fun _ _ _ _ _ _ us hl => match us, hl with | [_, _, _, _], _ => rfl, t_put_in⟩
  have F8 := fun_mk (st := s_rewritten) l_f8 c_f8 k_f8
  have T8 : FnFactP K TT "rewritten" "rewritten" f8 ⟨4, 4, b_rewritten⟩ _ (["rules", "word", "place", "number"] : List Str) := ⟨s_rewritten, ["rules", "word", "place", "number"], F8, c_rewritten, rfl, rfl, F8.binds (ps := ["rules", "word", "place", "number"]) fun _ _ _ _ _ _ us hl => match us, hl with | [_, _, _, _], _ => rfl, t_rewritten⟩
  have F9 := fun_mk (st := s_next_by) l_f9 c_f9 k_f9
  have T9 : FnFactP K TT "next_by" "next_by" f9 ⟨2, 4, b_next_by⟩ _ (["rules", "word"] : List Str) := ⟨s_next_by, ["rules", "word", "place", "found"], F9, c_next_by, rfl, rfl, F9.binds (ps := ["rules", "word"]) fun _ _ _ _ _ _ us hl => match us, hl with | [_, _], _ => rfl, t_next_by⟩
  have F10 := fun_mk (st := s_next_word) l_f10 c_f10 k_f10
  have T10 : FnFactP K TT "next_word" "next_word" f10 ⟨2, 2, b_next_word⟩ _ (["rules", "word"] : List Str) := ⟨s_next_word, ["rules", "word"], F10, c_next_word, rfl, rfl, F10.binds (ps := ["rules", "word"]) fun _ _ _ _ _ _ us hl => match us, hl with | [_, _], _ => rfl, t_next_word⟩
  have F11 := fun_mk (st := s_run_rules) l_f11 c_f11 k_f11
  have T11 : FnFactP K TT "run_rules" "run_rules" f11 ⟨3, 5, b_run_rules⟩ _ (["rules", "word", "most"] : List Str) := ⟨s_run_rules, ["rules", "word", "most", "steps", "after"], F11, c_run_rules, rfl, rfl, F11.binds (ps := ["rules", "word", "most"]) fun _ _ _ _ _ _ us hl => match us, hl with | [_, _, _], _ => rfl, t_run_rules⟩
  have F12 := fun_mk (st := s__law_bag) l_f12 c_f12 k_f12
  have T12 : FnFactP K TT "_law_bag" "_law_bag" f12 ⟨2, 3, b__law_bag⟩ _ (["script", "k"] : List Str) := ⟨s__law_bag, ["script", "k", "cell"], F12, c__law_bag, rfl, rfl, F12.binds (ps := ["script", "k"]) fun _ _ _ _ _ _ us hl => match us, hl with | [_, _], _ => rfl, t__law_bag⟩
  have F13 := fun_mk (st := s__law_draw) l_f13 c_f13 k_f13
  have T13 : FnFactP K TT "_law_draw" "_law_draw" f13 ⟨2, 4, b__law_draw⟩ _ (["bag", "many"] : List Str) := ⟨s__law_draw, ["bag", "many", "seed", "rest"], F13, c__law_draw, rfl, rfl, F13.binds (ps := ["bag", "many"]) fun _ _ _ _ _ _ us hl => match us, hl with | [_, _], _ => rfl, t__law_draw⟩
  have F14 := fun_mk (st := s__law_word) l_f14 c_f14 k_f14
  have T14 : FnFactP K TT "_law_word" "_law_word" f14 ⟨3, 4, b__law_word⟩ _ (["bag", "k", "most"] : List Str) := ⟨s__law_word, ["bag", "k", "most", "n"], F14, c__law_word, rfl, rfl, F14.binds (ps := ["bag", "k", "most"]) fun _ _ _ _ _ _ us hl => match us, hl with | [_, _, _], _ => rfl, t__law_word⟩
  have F15 := fun_mk (st := s__law_rules) l_f15 c_f15 k_f15
  have T15 : FnFactP K TT "_law_rules" "_law_rules" f15 ⟨1, 5, b__law_rules⟩ _ (["bag"] : List Str) := ⟨s__law_rules, ["bag", "k", "rows", "n", "left"], F15, c__law_rules, rfl, rfl, F15.binds (ps := ["bag"]) fun _ _ _ _ _ _ us hl => match us, hl with | [_], _ => rfl, t__law_rules⟩
  have F16 := fun_mk (st := s__law_fits) l_f16 c_f16 k_f16
  have T16 : FnFactP K TT "_law_fits" "_law_fits" f16 ⟨2, 6, b__law_fits⟩ _ (["rules", "word"] : List Str) := ⟨s__law_fits, ["rules", "word", "found", "place", "n", "left"], F16, c__law_fits, rfl, rfl, F16.binds (ps := ["rules", "word"]) fun _ _ _ _ _ _ us hl => match us, hl with | [_, _], _ => rfl, t__law_fits⟩
  have F17 := fun_mk (st := s__law_put) l_f17 c_f17 k_f17
  have T17 : FnFactP K TT "_law_put" "_law_put" f17 ⟨4, 6, b__law_put⟩ _ (["rules", "word", "place", "n"] : List Str) := ⟨s__law_put, ["rules", "word", "place", "n", "left", "right"], F17, c__law_put, rfl, rfl, F17.binds (ps := ["rules", "word", "place", "n"]) fun _ _ _ _ _ _ us hl => match us, hl with | [_, _, _, _], _ => rfl, t__law_put⟩
  have F18 := fun_mk (st := s__law_told) l_f18 c_f18 k_f18
  have T18 : FnFactP K TT "_law_told" "_law_told" f18 ⟨2, 3, b__law_told⟩ _ (["call", "values"] : List Str) := ⟨s__law_told, ["call", "values", "e"], F18, c__law_told, rfl, rfl, F18.binds (ps := ["call", "values"]) fun _ _ _ _ _ _ us hl => match us, hl with | [_, _], _ => rfl, t__law_told⟩
  have F19 := fun_mk (st := s__law_case) l_f19 c_f19 k_f19
  have T19 : FnFactP K TT "_law_case" "_law_case" f19 ⟨1, 13, b__law_case⟩ _ (["bag"] : List Str) := ⟨s__law_case, ["bag", "rules", "k", "word", "found", "due", "place", "n", "most", "steps", "end", "odd", "call"], F19, c__law_case, rfl, rfl, F19.binds (ps := ["bag"]) fun _ _ _ _ _ _ us hl => match us, hl with | [_], _ => rfl, t__law_case⟩
  have F20 := fun_mk (st := s_law) l_f20 c_f20 k_f20
  have T20 : FnFactP K TT "law" "law" f20 ⟨1, 3, b_law⟩ _ (["script"] : List Str) := ⟨s_law, ["script", "grow", "k"], F20, c_law, rfl, rfl, F20.binds (ps := ["script"]) fun _ _ _ _ _ _ us hl => match us, hl with | [_], _ => rfl, t_law⟩
  have G0 : mg "HeadError" = some (.ref C0) := PySem.W.mg_of X G a_C0
  have G1 : mg "BadPaper" = some (.ref C1) := PySem.W.mg_of X G a_C1
  have G2 : mg "TooFar" = some (.ref C2) := PySem.W.mg_of X G a_C2
  have G3 : mg "NoSuch" = some (.ref C3) := PySem.W.mg_of X G a_C3
  have st : PStat K mg D := {
    con := fun i x h => match i, h with
    | 0, h => by cases h; exact ⟨.int 100000, _, PySem.W.mg_of X G g_0, ⟨_, rfl⟩, fun H => rep_int⟩
    | 1, h => by cases h; exact ⟨.int 20000, _, PySem.W.mg_of X G g_1, ⟨_, rfl⟩, fun H => rep_int⟩
    | 2, h => by cases h; exact ⟨.int 200, _, PySem.W.mg_of X G g_2, ⟨_, rfl⟩, fun H => rep_int⟩
    | 3, h => by cases h; exact ⟨.int 400, _, PySem.W.mg_of X G g_3, ⟨_, rfl⟩, fun H => rep_int⟩
    | 4, h => by cases h; exact ⟨.int 6, _, PySem.W.mg_of X G g_4, ⟨_, rfl⟩, fun H => rep_int⟩
    | n + 5, h => by cases h
    fnv := fun i x h => match i, h with
    | 0, h => by cases h; exact ⟨f0, PySem.W.mg_of X G a_f0, k_f0, fun d hd => by cases hd; exact ⟨_, _, T0⟩⟩
    | 1, h => by cases h; exact ⟨f1, PySem.W.mg_of X G a_f1, k_f1, fun d hd => by cases hd; exact ⟨_, _, T1⟩⟩
    | 2, h => by cases h; exact ⟨f2, PySem.W.mg_of X G a_f2, k_f2, fun d hd => by cases hd; exact ⟨_, _, T2⟩⟩
    | 3, h => by cases h; exact ⟨f3, PySem.W.mg_of X G a_f3, k_f3, fun d hd => by cases hd; exact ⟨_, _, T3⟩⟩
    | 4, h => by cases h; exact ⟨f4, PySem.W.mg_of X G a_f4, k_f4, fun d hd => by cases hd; exact ⟨_, _, T4⟩⟩
    | 5, h => by cases h; exact ⟨f5, PySem.W.mg_of X G a_f5, k_f5, fun d hd => by cases hd; exact ⟨_, _, T5⟩⟩
    | 6, h => by cases h; exact ⟨f6, PySem.W.mg_of X G a_f6, k_f6, fun d hd => by cases hd; exact ⟨_, _, T6⟩⟩
    | 7, h => by cases h; exact ⟨f7, PySem.W.mg_of X G a_f7, k_f7, fun d hd => by cases hd; exact ⟨_, _, T7⟩⟩
    | 8, h => by cases h; exact ⟨f8, PySem.W.mg_of X G a_f8, k_f8, fun d hd => by cases hd; exact ⟨_, _, T8⟩⟩
    | 9, h => by cases h; exact ⟨f9, PySem.W.mg_of X G a_f9, k_f9, fun d hd => by cases hd; exact ⟨_, _, T9⟩⟩
    | 10, h => by cases h; exact ⟨f10, PySem.W.mg_of X G a_f10, k_f10, fun d hd => by cases hd; exact ⟨_, _, T10⟩⟩
    | 11, h => by cases h; exact ⟨f11, PySem.W.mg_of X G a_f11, k_f11, fun d hd => by cases hd; exact ⟨_, _, T11⟩⟩
    | 12, h => by cases h; exact ⟨f12, PySem.W.mg_of X G a_f12, k_f12, fun d hd => by cases hd; exact ⟨_, _, T12⟩⟩
    | 13, h => by cases h; exact ⟨f13, PySem.W.mg_of X G a_f13, k_f13, fun d hd => by cases hd; exact ⟨_, _, T13⟩⟩
    | 14, h => by cases h; exact ⟨f14, PySem.W.mg_of X G a_f14, k_f14, fun d hd => by cases hd; exact ⟨_, _, T14⟩⟩
    | 15, h => by cases h; exact ⟨f15, PySem.W.mg_of X G a_f15, k_f15, fun d hd => by cases hd; exact ⟨_, _, T15⟩⟩
    | 16, h => by cases h; exact ⟨f16, PySem.W.mg_of X G a_f16, k_f16, fun d hd => by cases hd; exact ⟨_, _, T16⟩⟩
    | 17, h => by cases h; exact ⟨f17, PySem.W.mg_of X G a_f17, k_f17, fun d hd => by cases hd; exact ⟨_, _, T17⟩⟩
    | 18, h => by cases h; exact ⟨f18, PySem.W.mg_of X G a_f18, k_f18, fun d hd => by cases hd; exact ⟨_, _, T18⟩⟩
    | 19, h => by cases h; exact ⟨f19, PySem.W.mg_of X G a_f19, k_f19, fun d hd => by cases hd; exact ⟨_, _, T19⟩⟩
    | 20, h => by cases h; exact ⟨f20, PySem.W.mg_of X G a_f20, k_f20, fun d hd => by cases hd; exact ⟨_, _, T20⟩⟩
    | n + 21, h => by cases h
    clv := fun i x h => match i, h with
    | 0, h => by cases h; exact ⟨C0, G0, k_C0⟩
    | 1, h => by cases h; exact ⟨C1, G1, k_C1⟩
    | 2, h => by cases h; exact ⟨C2, G2, k_C2⟩
    | 3, h => by cases h; exact ⟨C3, G3, k_C3⟩
    | n + 4, h => by cases h
    mth := fun i j d h => by simp [D] at h
    ini := fun i d h => by simp [D] at h
    blt := fun x hx => PySem.W.mg_none_of X G (of_decide_eq_true (List.all_eq_true.mp blt x hx))
    att := by decide +kernel
    exm := fun i j x y C E h1 h2 h3 h4 h5 h6 => by
      have key : ∀ (i : Nat) (x : Str) (C : Addr), nK[i]? = some x → (xc i).isSome = true → mg x = some (.ref C) → (i = 1 ∧ C = C1) ∨ (i = 2 ∧ C = C2) ∨ (i = 3 ∧ C = C3) := by
        intro i x C h1 h2 h3
        match i, h1, h2 with
        | 0, _, h2 => cases h2
        | 1, h1, _ => cases h1; rw [G1] at h3; cases h3; exact .inl ⟨rfl, rfl⟩
        | 2, h1, _ => cases h1; rw [G2] at h3; cases h3; exact .inr (.inl ⟨rfl, rfl⟩)
        | 3, h1, _ => cases h1; rw [G3] at h3; cases h3; exact .inr (.inr ⟨rfl, rfl⟩)
        | n + 4, h1, _ => cases h1
      have e1 := key i x C h1 h3 h5
      have e2 := key j y E h2 h4 h6
      rcases e1 with ⟨rfl, rfl⟩ | ⟨rfl, rfl⟩ | ⟨rfl, rfl⟩ <;> rcases e2 with ⟨rfl, rfl⟩ | ⟨rfl, rfl⟩ | ⟨rfl, rfl⟩ <;> assumption
    xfs := fun i x C h1 h2 h3 => by
      match i, h1, h2 with
      | 0, _, h2 => cases h2
      | 1, h1, _ => cases h1; have h3 : mg "BadPaper" = some (.ref C) := h3; rw [G1] at h3; cases h3; exact ⟨xfB_ok x_C1, fun f y hy => of_decide_eq_true (List.all_eq_true.mp n_C1 y (List.mem_of_getElem? hy)), s_C1, y_C1⟩
      | 2, h1, _ => cases h1; have h3 : mg "TooFar" = some (.ref C) := h3; rw [G2] at h3; cases h3; exact ⟨xfB_ok x_C2, fun f y hy => of_decide_eq_true (List.all_eq_true.mp n_C2 y (List.mem_of_getElem? hy)), s_C2, y_C2⟩
      | 3, h1, _ => cases h1; have h3 : mg "NoSuch" = some (.ref C) := h3; rw [G3] at h3; cases h3; exact ⟨xfB_ok x_C3, fun f y hy => of_decide_eq_true (List.all_eq_true.mp n_C3 y (List.mem_of_getElem? hy)), s_C3, y_C3⟩
      | n + 4, h1, _ => cases h1
    xc0 := fun i x C h1 h2 h3 => by
      match i, h1, h2 with
      | 0, _, h2 => cases h2
      | 1, _, h2 => cases h2
      | 2, h1, _ => cases h1; have h3 : mg "TooFar" = some (.ref C) := h3; rw [G2] at h3; cases h3; exact e_C2
      | 3, h1, _ => cases h1; have h3 : mg "NoSuch" = some (.ref C) := h3; rw [G3] at h3; cases h3; exact e_C3
      | n + 4, h1, _ => cases h1
    xc1 := fun i f x y C h1 h2 h4 h3 => by
      match i, h1, h2 with
      | 0, _, h2 => cases h2
      | 1, h1, h2 =>
              cases h1; cases h2; cases h4; have h3 : mg "BadPaper" = some (.ref C) := h3; rw [G1] at h3; cases h3
              have FI := fun_mk (st := s_BadPaper_init) l_I1 c_I1 k_I1
              exact ⟨I1, _, s_BadPaper_init, _, _, _, ⟨⟨_, _, _, _, _, _, _, _, _, _, _, _, _, _, _, o_C1, r_C1⟩, sa_C1, s_C1, y_C1, k_C1⟩, i_C1, t_I1, FI, c_BadPaper_init, i_BadPaper_init, FI.binds (ps := [_, _]) fun _ _ _ _ _ _ us hl => match us, hl with | [_, _], _ => rfl, by decide, by decide, by decide, by decide⟩
      | 2, _, h2 => cases h2
      | 3, _, h2 => cases h2
      | n + 4, h1, _ => cases h1
    xcf := fun i f h => by
      match i, h with
      | 0, h => cases h
      | 1, h => cases h; exact ⟨_, rfl⟩
      | 2, h => cases h
      | 3, h => cases h
      | n + 4, h => cases h
    dis := fun i j x h1 h2 => by
      have e : (nA.all fun y => !nM.contains y) = true := by decide +kernel
      have := List.all_eq_true.mp e x (List.mem_of_getElem? h1)
      have z : x ∈ nM := List.mem_of_getElem? h2
      simp [z] at this }
  have ef := hfa.symm.trans (PySem.W.mg_of X G a_f20)
  cases ef
  exact ⟨_, fun s v => .of_eq rfl, fun k base => law_at st T20 rfl⟩
end K60

set_option maxRecDepth 100000
set_option maxHeartbeats 4000000
namespace K60
open Core L2
open Dat (toP toD)
abbrev Row := List Int × List Int
def tRules (k : Int) (rows : List Row) : P := .tup [.str "rules", .int k, .tup (rows.map toP)]
def rowB (k : Int) (v : P) : Bool := isTup v && (decide ((items v).length = 2) && ((items v).all (isWordB k 6) && !decide ((items (atP v 0)).length = 0)))
def isRulesB (v : P) : Bool := isTup v && (decide ((items v).length = 3) && (isStrP (atP v 0) && (strIs (atP v 0) "rules" && (inRange 1 200 (atP v 1) && (isTup (atP v 2) && (decide (1 ≤ (items (atP v 2)).length) && (decide ((items (atP v 2)).length ≤ 400) && (items (atP v 2)).all (rowB (intOf (atP v 1))))))))))
theorem int_ok (k : Nat) : SpInt ((envAt D (k + 1)).fn 0) := by
  rw [env_fn (d := ⟨3, 3, b_is_integer⟩) rfl]
  exact int_sp _
theorem word_ok (k : Nat) : SpWord ((envAt D (k + 2)).fn 1) := by
  rw [env_fn (d := ⟨3, 4, b_is_word⟩) rfl]
  exact word_sp (int_ok k)
theorem isRulesB_3 {a b c : P} : isRulesB (.tup [a, b, c]) = (isStrP a && (strIs a "rules" && (inRange 1 200 b && (isTup c && (decide (1 ≤ (items c).length) && (decide ((items c).length ≤ 400) && (items c).all (rowB (intOf b)))))))) := rfl
theorem rules_ok (k : Nat) {v : P} {S : Store} {Q : QP} {E : QE} (ok : okV S v) (h : Q (.bl (isRulesB v)) S) : (envAt D (k + 3)).fn 2 [v] S Q E := by
  rw [env_fn (d := ⟨1, 6, b_is_rules⟩) rfl]
  refine ⟨rfl, ?_⟩
  show wpB _ b_is_rules [some v, none, none, none, none, none] S _
  have no : ∀ {ρ : Core.Loc} {S' : Store} {D' : DE}, SubS S S' → D'.rt = dropQ Q → isRulesB v = false → wpB (envAt D (k + 2)) [(.ret (.lit (.bl false)))] ρ S' D' := fun d e1 e2 => wp_seq (wp_ret is_lit (by
    rw [e1]
    rw [e2] at h
    exact drop d h))
  refine wp_seq (wp_if (is_or (is_not (is_isTup (is_var rfl) ok)) fun e1 => is_or (is_neI (is_lenT (is_var rfl) (by simpa using e1)) is_lit) fun e2 => is_or (is_not (is_isStr (is_at (i := 0) (is_var rfl) (by simpa using e1) (by simp at e2; omega)) (ok.at 0))) fun e3 => is_neStr (is_at (i := 0) (is_var rfl) (by simpa using e1) (by simp at e2; omega)) (ok.at 0) (by simpa using e3) (by decide +kernel)) (fun e => no (.refl S) rfl ?_) fun e => ?_)
  · unfold isRulesB
    cases h1 : isTup v <;> simp [h1] at e ⊢
    intro h2
    simp [h2] at e
    intro h3 h4
    simp [h3, h4] at e
  · simp only [Bool.or_eq_false_iff, Bool.not_eq_false', decide_eq_true_eq] at e
    obtain ⟨e1, e2, e3, e4⟩ := e
    have e2 : (items v).length = 3 := by exact_mod_cast e2
    obtain ⟨a, b, c, rfl⟩ := tup_three e1 e2
    have oka := ok.at 0
    have okb : okV S b := ok.at 1
    have okc : okV S c := ok.at 2
    refine wp_seq (wp_unpack (ps := [a, b, c]) (is_var rfl) rfl ?_)
    refine wp_seq ?_
    obtain ⟨tb, htb⟩ := okb.ty
    refine wp_if (is_or (is_not (is_call (iss_cons (is_var rfl) (iss_cons is_lit (iss_cons (is_con (by rw [env_con]; rfl)) iss_nil))) fun R r => int_ok (k + 1) htb r)) fun e1 => is_or (is_not (is_isTup (is_var rfl) okc)) fun e2 => is_not (is_chnLen (is_var rfl) (by simpa using e2) (by rw [env_con]; rfl))) (fun e => no (.refl S) rfl ?_) fun e => ?_
    · rw [isRulesB_3]
      have e3' : isStrP a = true := e3
      have e4' : strIs a "rules" = true := e4
      rw [e3', e4']
      cases h1 : inRange 1 200 b <;> simp [h1] at e ⊢
      cases h2 : isTup c <;> simp [h2] at e ⊢
      intro h3 h4
      rcases e with e | e <;> omega
    · simp only [Bool.or_eq_false_iff, Bool.not_eq_false', Bool.and_eq_true, decide_eq_true_eq] at e
      obtain ⟨f1, f2, f3, f4⟩ := e
      obtain ⟨eb, _, _⟩ := inRange_of f1
      generalize intOf b = kk at eb
      subst eb
      have ec := isTup_of f2
      generalize items c = rows at ec
      subst ec
      have okr := okVs_iff.mp (show okVs S rows from okc)
      have f3 : 1 ≤ rows.length := by exact_mod_cast f3
      have f4 : rows.length ≤ 400 := by exact_mod_cast f4
      have val : isRulesB (.tup [a, .int kk, .tup rows]) = rows.all (rowB kk) := by
        rw [isRulesB_3, show isStrP a = true from e3, show strIs a "rules" = true from e4, f1]
        simp [isTup, items, f3, f4, intOf]
      refine wp_seq (wp_for (Good := SubS S) (fun i ρ' S' => SubS S S' ∧ (rows.take i).all (rowB kk) = true ∧ ∃ x y, ρ' = [some (.tup [a, .int kk, .tup rows]), some a, some (.int kk), some (.tup rows), x, y]) (iss_cons (is_var rfl) iss_nil) walked_tup.g ⟨.refl S, rfl, none, none, rfl⟩ (fun i ρ' S' h => h.1) ?_ ?_)
      · rintro i x ρ' S' hx ⟨d, hall, x0, y0, rfl⟩
        have okx := (okr x (List.mem_of_getElem? hx)).ext d
        have bad : rowB kk x = false → isRulesB (.tup [a, .int kk, .tup rows]) = false := fun z => by
          rw [val]
          cases q : rows.all (rowB kk) with
          | false => rfl
          | true => rw [List.all_eq_true.mp q x (List.mem_of_getElem? hx)] at z; cases z
        refine wp_seq (wp_ifX (ix_or (is_not (is_isTup (is_var rfl) okx)).x fun g1 S1 d1 => ix_or (is_neI (is_lenT (is_var rfl) (by simpa using g1)) is_lit).x fun g2 S2 d2 => ix_not (x := (items x).all (isWordB kk 6)) ?_) (fun g S1 d1 => no (d.trans d1) rfl (bad ?_)) fun g S1 d1 => ?_)
        · have tx : isTup x = true := by simpa using g1
          have ex := isTup_of tx
          have okx := okx.ext (d1.trans d2)
          generalize items x = sides at ex
          subst ex
          have oks := okVs_iff.mp (show okVs S2 sides from okx)
          refine ix_all (isWordB kk 6) (iss_cons (is_var rfl) iss_nil) walked_tup (fun j y hy S2 d2 Q1 q => ?_)
          unfold wpVT
          exact is_call (iss_cons (is_var rfl) (iss_cons (is_var rfl) (iss_cons (is_con (by rw [env_con]; rfl)) iss_nil))) (fun R r => word_ok k ((oks y (List.mem_of_getElem? hy)).ext d2) r) Q1 q
        · unfold rowB
          cases q1 : isTup x <;> simp [q1] at g ⊢
          intro q2
          simp [q2] at g
          intro q3
          obtain ⟨y, hy, hb⟩ := g
          rw [q3 y hy] at hb
          cases hb
        · simp only [Bool.or_eq_false_iff, Bool.not_eq_false', decide_eq_true_eq] at g
          obtain ⟨g1, g2, g3⟩ := g
          have g2 : (items x).length = 2 := by exact_mod_cast g2
          obtain ⟨l, r, rfl⟩ := tup_two g1 g2
          have g3 : (isWordB kk 6 l && (isWordB kk 6 r && true)) = true := g3
          simp only [Bool.and_eq_true] at g3
          have tl := isWordB_of g3.1
          have rb : rowB kk (.tup [l, r]) = !decide ((items l).length = 0) := by
            show (isWordB kk 6 l && (isWordB kk 6 r && true) && !decide ((items l).length = 0)) = _
            rw [g3.1, g3.2.1]
            rfl
          refine wp_seq (wp_if (is_eqI (is_lenT (v := l) (is_idx (is_var rfl) is_lit rfl rfl) tl) is_lit) (fun w => no (d.trans d1) rfl (bad ?_)) fun w => ⟨d.trans d1, ?_, some (.tup [l, r]), y0, rfl⟩)
          · rw [rb, decide_eq_true (by simpa using w)]; rfl
          · have rt : rowB kk (.tup [l, r]) = true := by
              rw [rb, decide_eq_false (by simpa using w)]; rfl
            rw [List.take_add_one, hx]
            simp [hall, rt]
      · rintro ρ' S' ⟨d, hall, x0, y0, rfl⟩
        rw [List.take_length] at hall
        refine wp_seq (wp_ret is_lit ?_)
        rw [val, hall] at h
        exact drop d h
end K60

set_option maxRecDepth 100000
set_option maxHeartbeats 4000000
namespace K60
open Core L2
open Dat (toP toD)
theorem cn {k i : Nat} : (envAt D k).con i = con i := congrFun env_con i
theorem look_ok (k : Nat) {r v : P} {S : Store} {Q : QP} {E : QE} (o1 : okV S r) (o2 : okV S v) (h1 : isRulesB r = false → E ⟨1, [(0, .str "rules")]⟩ S)
    (h2 : isRulesB r = true → isWordB (intOf (atP r 1)) 20000 v = false → E ⟨1, [(0, .str "word")]⟩ S) (h3 : isRulesB r = true → isWordB (intOf (atP r 1)) 20000 v = true → Q .non S) : (envAt D (k + 4)).fn 3 [r, v] S Q E := by
  rw [env_fn (d := ⟨2, 2, b_look_at⟩) rfl]
  refine ⟨rfl, ?_⟩
  show wpB _ b_look_at [some r, some v] S _
  have xc1 : (envAt D (k + 3)).xc 1 = some (some 0) := by rw [env_xc]; rfl
  have lv : 2 ≤ (envAt D (k + 3)).lv := by rw [env_lv]; omega
  refine wp_seq (wp_if (is_not (is_call (iss_cons (is_var rfl) iss_nil) fun R q => rules_ok k o1 q)) (fun e => wp_seq (wp_raise1 xc1 lv is_lit (keepE (h1 (by simpa using e))))) fun e => ?_)
  have e : isRulesB r = true := by simpa using e
  have e' := e
  unfold isRulesB at e'
  simp only [Bool.and_eq_true, decide_eq_true_eq] at e'
  obtain ⟨a1, a2, a3, a4, a5, _⟩ := e'
  refine wp_seq (wp_if (is_not (is_call (iss_cons (is_var rfl) (iss_cons (is_at (i := 1) (is_var rfl) a1 (by omega)) (iss_cons (is_con (p := .int 20000) cn) iss_nil))) fun R q => ?_)) (fun e2 => wp_seq (wp_raise1 xc1 lv is_lit (keepE (h2 e (by simpa using e2))))) fun e2 => keep (h3 e (by simpa using e2)))
  rw [(inRange_of a5).1]
  exact word_ok (k + 1) o2 q
theorem most_ok (k : Nat) : SpCheck 2 100000 ((envAt D (k + 4)).fn 4) := by
  rw [env_fn (d := ⟨1, 1, b_check_most⟩) rfl]
  exact check_sp (n := 0) (c := 0) (int_ok (k + 2)) cn (by rw [env_xc]; rfl) (by rw [env_lv]; omega)
/-! ### which rules fit -/
def fit (ws : List Int) (p : Nat) (x : Row × Nat) : Option Int := if (ws.drop p).take x.1.1.length = x.1.1 then some (x.2 : Int) else none
def fitsAt (rows : List Row) (ws : List Int) (p : Nat) : List Int := rows.zipIdx.filterMap (fit ws p)
theorem fits_at_ok (k : Nat) {kk : Int} {rows : List Row} {ws : List Int} {p : Nat} {S : Store} {Q : QP} {E : QE} (h : ∀ a, S a = none → Q (.loc a) (S.upd a (.lst ((fitsAt rows ws p).map P.int)))) : (envAt D (k + 1)).fn 5 [tRules kk rows, toP ws, .int p] S Q E := by
  rw [env_fn (d := ⟨3, 6, b_fits_at⟩) rfl]
  refine ⟨rfl, ?_⟩
  show wpB _ b_fits_at [some (tRules kk rows), some (toP ws), some (.int p), none, none, none] S _
  refine wp_seq ?_
  unfold wpS wpE
  refine iss_cons (is_idx (p := tRules kk rows) (is_var rfl) is_lit (i := 2) (v := .tup (rows.map toP)) rfl rfl) iss_nil _ ?_
  have e : (rows.map toP).zipIdx.map (fun p => P.tup [.int p.2, p.1]) = rows.zipIdx.map fun x : Row × Nat => P.tup [.int x.2, toP x.1] := by
    rw [List.zipIdx_map, List.map_map]; rfl
  refine comp_core rows.zipIdx (fun x : Row × Nat => P.tup [.int x.2, toP x.1]) (fun x => (fit ws p x).map P.int) (e ▸ walked_enumT) (fun x _ S' d Q1 Q2 q1 q2 => ?_) fun a ha => ?_
  · obtain ⟨⟨l, r⟩, n⟩ := x
    show wpC _ _ [some (tRules kk rows), some (toP ws), some (.int p), some (.int n), some (toP l), some (toP r)] S' _
    have cond : Is (envAt D k) (.cmp .Eq (.slc (.var 1) (some (.var 2)) (some (.bin .Add (.var 2) (.blt .len [(.var 4)])))) (.var 4)) [some (tRules kk rows), some (toP ws), some (.int p), some (.int n), some (toP l), some (toP r)] S' noE (.bl (decide ((ws.drop p).take l.length = l))) := by
      refine is_eq (p := toP ((ws.drop p).take l.length)) ?_ (is_var rfl) fun k q => eq_dat _ _ (by decide) q
      have e2 : cutP (ws.map P.int) (some (p : Int)) (some ((p : Int) + ((l.map P.int).length : Nat))) = ((ws.drop p).take l.length).map P.int := by
        rw [show (p : Int) + ((l.map P.int).length : Nat) = ((p + l.length : Nat) : Int) by rw [List.length_map]; omega, cutP_nat, Nat.add_sub_cancel_left, map_cut]
      show Is _ _ _ _ _ (.tup (((ws.drop p).take l.length).map P.int))
      rw [← e2]
      exact is_slcT (is_var rfl) (show IsO _ (some _) _ _ _ (some _) from is_var rfl) (show IsO _ (some _) _ _ _ (some _) from is_add (is_var rfl) (is_len (is_var rfl) rfl))
    unfold wpC
    refine cond _ ?_
    show (match some (decide ((ws.drop p).take l.length = l)) with | some b => _ | none => False)
    simp only
    by_cases c : (ws.drop p).take l.length = l
    · rw [decide_eq_true c, if_pos rfl]
      refine is_var rfl _ (q1 _ ?_)
      simp [fit, c]
    · rw [decide_eq_false c, if_neg (by decide)]
      exact q2 (by simp [fit, c])
  · have e3 : rows.zipIdx.filterMap (fun x => (fit ws p x).map P.int) = (fitsAt rows ws p).map P.int := by
      unfold fitsAt
      rw [List.map_filterMap]
    rw [e3]
    exact keep (h a ha)
def allFits (rows : List Row) (ws : List Int) : List (Int × Int) := (List.range ws.length).flatMap fun p => (fitsAt rows ws p).map fun n => ((p : Int), n)
theorem fitsAt_len (rows : List Row) (ws : List Int) (p : Nat) : (fitsAt rows ws p).length ≤ rows.length := by
  unfold fitsAt
  refine Nat.le_trans (List.length_filterMap_le _ _) ?_
  rw [List.length_zipIdx]
  exact Nat.le_refl _
theorem flat_len (rows : List Row) (ws : List Int) : ∀ n : Nat, ((List.range n).flatMap fun p => (fitsAt rows ws p).map fun n => ((p : Int), n)).length ≤ n * rows.length
  | 0 => by simp
  | n + 1 => by
    rw [List.range_succ, List.flatMap_append, List.length_append]
    have := flat_len rows ws n
    have h2 := fitsAt_len rows ws n
    simp only [List.flatMap_cons, List.flatMap_nil, List.append_nil, List.length_map]
    rw [Nat.add_mul, Nat.one_mul]
    omega
end K60

set_option maxRecDepth 100000
set_option maxHeartbeats 4000000
namespace K60
open Core L2
open Dat (toP toD)
/-- the word that BadPaper tells -/
def badWord (r v : P) : Option PySem.Str := if isRulesB r = true then (if isWordB (intOf (atP r 1)) 20000 v = true then none else some "word") else some "rules"
theorem look (k : Nat) {r v : P} {S : Store} {Q : QP} {E : QE} (o1 : okV S r) (o2 : okV S v) (h1 : ∀ w, badWord r v = some w → E ⟨1, [(0, .str w)]⟩ S) (h2 : badWord r v = none → Q .non S) : (envAt D (k + 4)).fn 3 [r, v] S Q E := by
  refine look_ok k o1 o2 (fun e => h1 _ ?_) (fun e1 e2 => h1 _ ?_) fun e1 e2 => h2 ?_
  · unfold badWord; rw [if_neg (by rw [e]; decide)]
  · unfold badWord; rw [if_pos e1, if_neg (by rw [e2]; decide)]
  · unfold badWord; rw [if_pos e1, if_pos e2]
/-- the first statement of each -/
theorem first (k : Nat) {r v : P} {S : Store} {DD : DE} {ρ : Core.Loc} {rest : List CS} (e0 : ρ[0]? = some (some r)) (e1 : ρ[1]? = some (some v)) (o1 : okV S r) (o2 : okV S v) (h1 : ∀ w, badWord r v = some w → DD.ex ⟨1, [(0, .str w)]⟩ S) (h2 : badWord r v = none → wpB (envAt D (k + 4)) rest ρ S DD) :
    wpB (envAt D (k + 4)) (.exp (.call 3 [(.var 0), (.var 1)]) :: rest) ρ S DD := by
  refine wp_seq ?_
  unfold wpS
  exact wp_callC (iss_cons (is_var e0) (iss_cons (is_var e1) iss_nil)) (look k o1 o2 h1 h2)
structure Good (kk : Int) (rows : List Row) (ws : List Int) : Prop where
  ok : badWord (tRules kk rows) (toP ws) = none
theorem Good.rules {kk : Int} {rows : List Row} {ws : List Int} (g : Good kk rows ws) : isRulesB (tRules kk rows) = true := by
  have h := g.ok
  unfold badWord at h
  split at h
  · assumption
  · cases h
theorem Good.word {kk : Int} {rows : List Row} {ws : List Int} (g : Good kk rows ws) : isWordB kk 20000 (toP ws) = true := by
  have h := g.ok
  unfold badWord at h
  rw [if_pos g.rules] at h
  split at h
  · assumption
  · cases h
theorem Good.few {kk : Int} {rows : List Row} {ws : List Int} (g : Good kk rows ws) : rows.length ≤ 400 := by
  have h := g.rules
  unfold tRules at h
  rw [isRulesB_3] at h
  simp only [Bool.and_eq_true, decide_eq_true_eq] at h
  have := h.2.2.2.2.2.1
  simpa [items] using this
theorem Good.short {kk : Int} {rows : List Row} {ws : List Int} (g : Good kk rows ws) : ws.length ≤ 20000 := by
  have h := g.word
  rw [W_eq, isWordB_tup] at h
  simp only [Bool.and_eq_true, decide_eq_true_eq] at h
  have := h.1
  rw [List.length_map] at this
  omega
theorem ok_dat {α : Type} [Dat α] (S : Store) (hp : ∀ x : α, okV S (toP x)) (xs : List α) : okV S (toP xs) := okVs_iff.mpr fun x hx => by
  obtain ⟨y, _, rfl⟩ := List.mem_map.mp hx
  exact hp y
theorem ok_word (S : Store) (ws : List Int) : okV S (toP ws) := ok_dat S (fun x => (show okV S (.int x) from True.intro)) ws
theorem ok_row (S : Store) (r : Row) : okV S (toP r) := ⟨ok_word S r.1, ok_word S r.2, True.intro⟩
theorem ok_rules (S : Store) (kk : Int) (rows : List Row) : okV S (tRules kk rows) := ⟨(show PySem.PyData.strOk _ = true by decide +kernel), True.intro, ok_dat S (ok_row S) rows, True.intro⟩
theorem fits_ok (k : Nat) {r v : P} {S : Store} {Q : QP} {E : QE} (o1 : okV S r) (o2 : okV S v) (h1 : ∀ w, badWord r v = some w → E ⟨1, [(0, .str w)]⟩ S)
    (form : badWord r v = none → ∃ kk rows ws, r = tRules kk rows ∧ v = toP (α := List Int) ws ∧ Q (toP (allFits rows ws)) S) : (envAt D (k + 5)).fn 6 [r, v] S Q E := by
  rw [env_fn (d := ⟨2, 5, b_fits⟩) rfl]
  refine ⟨rfl, ?_⟩
  show wpB _ b_fits [some r, some v, none, none, none] S _
  refine first k rfl rfl o1 o2 (fun w hw => keepE (h1 w hw)) fun good => ?_
  obtain ⟨kk, rows, ws, rfl, rfl, h2⟩ := form good
  have g : Good kk rows ws := ⟨good⟩
  refine wp_seq (wp_setL iss_nil fun a ha => wp_seq ?_)
  have small := PySem.sizeLine_eq
  have few := g.few
  have short := g.short
  refine wp_for (Good := fun _ => True) (fun i ρ' S' => SubS S S' ∧ S' a = some (.lst (((List.range i).flatMap fun p => (fitsAt rows ws p).map fun n => ((p : Int), n)).map toP)) ∧ i ≤ ws.length ∧ ∃ x y, ρ' = [some (tRules kk rows), some (toP ws), some (.loc a), x, y]) (iss_cons (is_len (is_var rfl) rfl) iss_nil) (walkedG_range (by omega) ?_) ⟨.upd ha, Store.upd_same, Nat.zero_le _, none, none, rfl⟩ (fun _ _ _ _ => trivial) ?_ ?_
  · rw [List.length_map]; omega
  · rintro i x ρ' S' hx ⟨d, hs, hi, x0, y0, rfl⟩
    have lt : i < ws.length := by
      have := (List.getElem?_eq_some_iff.mp hx).1
      simpa using this
    have ex : x = .int (i : Int) := by
      simp [lt] at hx
      exact hx.symm
    subst ex
    refine wp_seq ?_
    show wpS _ _ [some (tRules kk rows), some (toP ws), some (.loc a), some (.int i), y0] S' _
    unfold wpS wpE
    refine is_var rfl _ ⟨⟨a, _, rfl, hs⟩, ?_⟩
    unfold wpEs wpE wpEs wpEs
    refine wp_callC (iss_cons (is_var rfl) (iss_cons (is_var rfl) (iss_cons (is_var rfl) iss_nil))) (fits_at_ok (k + 3) fun b hb => ?_)
    show iterS .seq [.loc b] (S'.upd b (.lst ((fitsAt rows ws i).map P.int))) _
    refine comp_core (fitsAt rows ws i) P.int (fun n => some (toP ((i : Int), n))) (walked_loc Store.upd_same) (fun n _ S2 d2 Q1 Q2 q1 _ => ?_) fun c hc => ?_
    · show wpC _ _ [some (tRules kk rows), some (toP ws), some (.loc a), some (.int i), some (.int n)] S2 _
      unfold wpC
      simp only [if_true]
      exact is_tup (iss_cons (is_var rfl) (iss_cons (is_var rfl) iss_nil)) _ (q1 _ rfl)
    · have hab : a ≠ b := Store.ne_of hs hb
      have hsb : (S'.upd b (.lst ((fitsAt rows ws i).map P.int))) a = some (.lst (((List.range i).flatMap fun p => (fitsAt rows ws p).map fun n => ((p : Int), n)).map toP)) := by rw [Store.upd_ne hab]; exact hs
      have hac : a ≠ c := Store.ne_of hsb hc
      unfold wpEs
      have e1 : (fitsAt rows ws i).filterMap (fun n => some (toP ((i : Int), n))) = ((fitsAt rows ws i).map fun n => ((i : Int), n)).map toP := by
        rw [List.map_map]
        simp
      have e2 : (((List.range i).flatMap fun p => (fitsAt rows ws p).map fun n => ((p : Int), n)).map toP) ++ ((fitsAt rows ws i).map fun n => ((i : Int), n)).map toP = (((List.range (i + 1)).flatMap fun p => (fitsAt rows ws p).map fun n => ((p : Int), n)).map toP : List P) := by
        rw [List.range_succ, List.flatMap_append, List.map_append]
        simp
      simp only [bmS, lstS, Store.upd_same, Store.upd_ne hac, hsb, e1]
      rw [e2]
      have hl := flat_len rows ws i
      have hl2 := fitsAt_len rows ws i
      have hm : i * rows.length ≤ 20000 * 400 := Nat.mul_le_mul (by omega) few
      refine ⟨by rw [List.length_map, List.length_map, List.length_map]; omega, ?_, Store.upd_same, by omega, some (.int i), y0, rfl⟩
      have d1 := d.updr (a := b) (o := .lst ((fitsAt rows ws i).map P.int)) (d.free hb)
      have d2 := d1.updr (a := c) (o := .lst (((fitsAt rows ws i).map fun n => ((i : Int), n)).map toP)) (d1.free hc)
      exact d2.updr ha
  · rintro ρ' S' ⟨d, hs, hi, x0, y0, rfl⟩
    have el : (List.map (fun (i : Nat) => P.int i) (List.range ((List.map (toP : Int → P) ws).length : Int).toNat)).length = ws.length := by simp
    rw [el] at hs
    refine wp_seq (wp_ret (is_tuple (p := .loc a) (xs := (allFits rows ws).map toP) (is_var rfl) (by simp only [seqOf, hs]; rfl)) ?_)
    exact drop d h2
end K60

set_option maxRecDepth 100000
set_option maxHeartbeats 4000000
namespace K60
open Core L2
open Dat (toP toD)
def Small (rows : List Row) : Prop := ∀ r ∈ rows, r.2.length ≤ 6
theorem Good.small {kk : Int} {rows : List Row} {ws : List Int} (g : Good kk rows ws) : Small rows := fun r hr => by
  have h := g.rules
  unfold tRules at h
  rw [isRulesB_3] at h
  simp only [Bool.and_eq_true] at h
  have h := List.all_eq_true.mp h.2.2.2.2.2.2 (toP r) (List.mem_map.mpr ⟨r, hr, rfl⟩)
  unfold rowB at h
  simp only [Bool.and_eq_true] at h
  have h := List.all_eq_true.mp h.2.2.1 (toP r.2) (by show _ ∈ [toP r.1, toP r.2]; simp)
  rw [W_eq, isWordB_tup] at h
  simp only [Bool.and_eq_true, decide_eq_true_eq] at h
  have := h.1
  rw [List.length_map] at this
  omega
/-- the right of rule n in the place of its left -/
def putW (rows : List Row) (ws : List Int) (p n : Nat) : List Int := match rows[n]? with
  | some (l, r) => ws.take p ++ r ++ ws.drop (p + l.length)
  | none => ws
theorem put_ok (k : Nat) {kk : Int} {rows : List Row} {ws : List Int} {p n : Nat} {S : Store} {Q : QP} {E : QE} (sm : Small rows) (hn : n < rows.length) (hw : ws.length ≤ 1000000) (h1 : (putW rows ws p n).length ≤ 20000 → Q (toP (putW rows ws p n)) S) (h2 : 20000 < (putW rows ws p n).length → E ⟨2, []⟩ S) :
    (envAt D (k + 3)).fn 7 [tRules kk rows, toP ws, .int p, .int n] S Q E := by
  rw [env_fn (d := ⟨4, 7, b_put_in⟩) rfl]
  refine ⟨rfl, ?_⟩
  show wpB _ b_put_in [some (tRules kk rows), some (toP ws), some (.int p), some (.int n), none, none, none] S _
  obtain ⟨l, r⟩ : Row := rows[n]
  have hr : rows[n]? = some (rows[n].1, rows[n].2) := by simp [hn]
  generalize rows[n].1 = l at hr
  generalize rows[n].2 = r at hr
  have sr : r.length ≤ 6 := sm (l, r) (List.mem_of_getElem? hr)
  have e : putW rows ws p n = ws.take p ++ r ++ ws.drop (p + l.length) := by unfold putW; rw [hr]
  have big := PySem.sizeLine_eq
  refine wp_seq (wp_unpack (ps := [toP l, toP r]) (is_idx (p := .tup (rows.map toP)) (is_idx (p := tRules kk rows) (is_var rfl) is_lit (i := 2) rfl rfl) (is_var rfl) (v := toP (l, r)) rfl ?_) rfl ?_)
  · rw [atI_nat (by rw [List.length_map]; exact hn)]
    simp [hr]
  refine wp_seq (wp_set (p := toP (ws.take p ++ r ++ ws.drop (p + l.length))) ?_ ?_)
  · have c1 : Is (envAt D (k + 2)) (.slc (.var 1) none (some (.var 2))) [some (tRules kk rows), some (toP ws), some (.int p), some (.int n), some (toP l), some (toP r), none] S (dropE E) (.tup (cutP (ws.map P.int) none (some (p : Int)))) := is_slcT (is_var rfl) (show IsO _ none _ _ _ none from trivial) (show IsO _ (some _) _ _ _ (some _) from is_var rfl)
    have c2 : Is (envAt D (k + 2)) (.slc (.var 1) (some (.bin .Add (.var 2) (.blt .len [(.var 4)]))) none) [some (tRules kk rows), some (toP ws), some (.int p), some (.int n), some (toP l), some (toP r), none] S (dropE E) (.tup (cutP (ws.map P.int) (some ((p : Int) + ((l.map P.int).length : Nat))) none)) := is_slcT (is_var rfl) (show IsO _ (some _) _ _ _ (some _) from is_add (is_var rfl) (is_len (is_var rfl) rfl)) (show IsO _ none _ _ _ none from trivial)
    rw [show (p : Int) + ((l.map P.int).length : Nat) = ((p + l.length : Nat) : Int) by rw [List.length_map]; omega, cutP_from] at c2
    rw [cutP_to] at c1
    have t1 : ((ws.map P.int).take p).length ≤ 1000000 := by rw [List.length_take, List.length_map]; omega
    have t2 : ((ws.map P.int).drop (p + l.length)).length ≤ 1000000 := by rw [List.length_drop, List.length_map]; omega
    have c3 := is_cat (is_cat c1 (show Is (envAt D (k + 2)) (.var 5) [some (tRules kk rows), some (toP ws), some (.int p), some (.int n), some (toP l), some (toP r), none] S (dropE E) (.tup (r.map P.int)) from is_var rfl) (by rw [List.length_map]; omega)) c2 (by rw [List.length_append, List.length_map]; omega)
    have ee : (toP (ws.take p ++ r ++ ws.drop (p + l.length)) : P) = .tup ((ws.map P.int).take p ++ r.map P.int ++ (ws.map P.int).drop (p + l.length)) := by
      show P.tup ((ws.take p ++ r ++ ws.drop (p + l.length)).map P.int) = _
      rw [List.map_append, List.map_append, List.map_take, List.map_drop]
    rw [ee]
    exact c3
  · rw [e] at h1 h2
    refine wp_seq (wp_if (is_gt (is_len (is_var rfl) rfl) (is_con (p := .int 20000) cn)) (fun g => wp_seq (wp_raise0 (by rw [env_xc]; rfl) (by rw [env_lv]; omega) (keepE (h2 ?_)))) fun g => wp_seq (wp_ret (is_var rfl) (keep (h1 ?_))))
    · have := of_decide_eq_true g
      rw [List.length_map] at this
      omega
    · have := of_decide_eq_false g
      rw [List.length_map] at this
      omega
theorem fitsAt_mem {rows : List Row} {ws : List Int} {p : Nat} {n : Int} (h : n ∈ fitsAt rows ws p) : 0 ≤ n ∧ n.toNat < rows.length := by
  unfold fitsAt at h
  obtain ⟨⟨r, i⟩, hi, hf⟩ := List.mem_filterMap.mp h
  unfold fit at hf
  split at hf
  · cases hf
    have := List.mem_zipIdx hi
    simp only [Nat.zero_add] at this
    exact ⟨by omega, by simpa using this.2.1⟩
  · cases hf
theorem allFits_mem {rows : List Row} {ws : List Int} {p n : Int} : (p, n) ∈ allFits rows ws ↔ 0 ≤ p ∧ p.toNat < ws.length ∧ n ∈ fitsAt rows ws p.toNat := by
  unfold allFits
  rw [List.mem_flatMap]
  constructor
  · rintro ⟨q, hq, h⟩
    obtain ⟨m, hm, e⟩ := List.mem_map.mp h
    cases e
    exact ⟨by omega, by simpa using hq, by simpa using hm⟩
  · rintro ⟨h1, h2, h3⟩
    exact ⟨p.toNat, List.mem_range.mpr h2, List.mem_map.mpr ⟨n, h3, by rw [Int.toNat_of_nonneg h1]⟩⟩
theorem rewritten_ok (k : Nat) {kk : Int} {rows : List Row} {ws : List Int} {p n : Int} {S : Store} {Q : QP} {E : QE} (g : Good kk rows ws) (h0 : (p, n) ∉ allFits rows ws → E ⟨3, []⟩ S)
    (h1 : (p, n) ∈ allFits rows ws → (putW rows ws p.toNat n.toNat).length ≤ 20000 → Q (toP (putW rows ws p.toNat n.toNat)) S) (h2 : (p, n) ∈ allFits rows ws → 20000 < (putW rows ws p.toNat n.toNat).length → E ⟨2, []⟩ S) :
    (envAt D (k + 5)).fn 8 [tRules kk rows, toP ws, .int p, .int n] S Q E := by
  rw [env_fn (d := ⟨4, 4, b_rewritten⟩) rfl]
  refine ⟨rfl, ?_⟩
  show wpB _ b_rewritten [some (tRules kk rows), some (toP ws), some (.int p), some (.int n)] S _
  refine first k rfl rfl (ok_rules S kk rows) (ok_word S ws) (fun w hw => by rw [g.ok] at hw; cases hw) fun _ => ?_
  have nine : ∀ {ρ : Core.Loc} {S' : Store} {DD : DE}, SubS S S' → DD.ex = dropE E → (p, n) ∉ allFits rows ws → wpB (envAt D (k + 4)) [(.rse 3 [])] ρ S' DD := fun d e z => wp_seq (wp_raise0 (by rw [env_xc]; rfl) (by rw [env_lv]; omega) (by rw [e]; exact ⟨S, d, h0 z⟩))
  have rng : ∀ {m : Nat} {x : Int}, inRange 0 ((m : Int) - 1) (.int x) = (decide (0 ≤ x) && decide (x ≤ (m : Int) - 1)) := rfl
  refine wp_seq (wp_if (is_or (is_not (is_call (iss_cons (is_var rfl) (iss_cons is_lit (iss_cons (is_sub (is_len (is_var rfl) rfl) is_lit) iss_nil))) fun R q => int_ok (k + 3) rfl q)) fun _ => is_not (is_call (iss_cons (is_var rfl) (iss_cons is_lit (iss_cons (is_sub (is_len (is_idx (p := tRules kk rows) (is_var rfl) is_lit (i := 2) (v := .tup (rows.map toP)) rfl rfl) rfl) is_lit) iss_nil))) fun R q => int_ok (k + 3) rfl q)) (fun e => nine (.refl S) rfl ?_) fun e => ?_)
  · rw [rng, rng, List.length_map, List.length_map] at e
    intro z
    obtain ⟨z1, z2, z3⟩ := allFits_mem.mp z
    obtain ⟨z4, z5⟩ := fitsAt_mem z3
    rw [decide_eq_true z1, decide_eq_true z4, decide_eq_true (by omega), decide_eq_true (by omega)] at e
    cases e
  · rw [rng, rng, List.length_map, List.length_map] at e
    simp only [Bool.or_eq_false_iff, Bool.not_eq_false', Bool.and_eq_true, decide_eq_true_eq] at e
    obtain ⟨⟨a1, a2⟩, a3, a4⟩ := e
    have ep : p = (p.toNat : Int) := (Int.toNat_of_nonneg a1).symm
    have en : n = (n.toNat : Int) := (Int.toNat_of_nonneg a3).symm
    have iff : (p, n) ∈ allFits rows ws ↔ n ∈ fitsAt rows ws p.toNat := by
      rw [allFits_mem]
      exact ⟨fun h => h.2.2, fun h => ⟨a1, by omega, h⟩⟩
    refine wp_seq (wp_ifX (x := !decide (n ∈ fitsAt rows ws p.toNat)) (fun R r => ?_) (fun e S' d => nine d rfl ?_) fun e S' d => ?_)
    · unfold wpE
      refine is_var rfl _ ?_
      have ep2 : (some (P.int p)) = some (P.int (p.toNat : Int)) := by rw [← ep]
      rw [ep2]
      refine wp_callC (iss_cons (is_var rfl) (iss_cons (is_var rfl) (iss_cons (is_var rfl) iss_nil))) (fits_at_ok (k + 3) fun a ha => ?_)
      simp only [opCmp, Store.upd_same]
      exact in_lst (α := Int) n _ (by decide) (r _ (.upd ha))
    · rw [iff]
      simpa using e
    · have mem : n ∈ fitsAt rows ws p.toNat := by simpa using e
      have z := iff.mpr mem
      obtain ⟨z4, z5⟩ := fitsAt_mem mem
      refine wp_seq ?_
      unfold wpS
      have ep2 : (some (P.int p)) = some (P.int (p.toNat : Int)) := by rw [← ep]
      have en2 : (some (P.int n)) = some (P.int (n.toNat : Int)) := by rw [← en]
      rw [ep2, en2]
      exact wp_callC (iss_cons (is_var rfl) (iss_cons (is_var rfl) (iss_cons (is_var rfl) (iss_cons (is_var rfl) iss_nil)))) (put_ok (k + 1) g.small z5 (by have := g.short; omega) (fun l => ⟨S, d, h1 z l⟩) fun l => ⟨S, d, h2 z l⟩)
/-- the first that fits -/
theorem allFits_first {rows : List Row} {ws : List Int} {p : Nat} {n : Int} {rest : List Int} (hp : p < ws.length) (h0 : ∀ q < p, fitsAt rows ws q = []) (h1 : fitsAt rows ws p = n :: rest) : ∃ more, allFits rows ws = ((p : Int), n) :: more := by
  unfold allFits
  have e : List.range ws.length = List.range p ++ (p :: List.range' (p + 1) (ws.length - p - 1)) := by
    rw [List.range_eq_range', List.range_eq_range']
    have : ws.length = p + (1 + (ws.length - p - 1)) := by omega
    conv => lhs; rw [this]
    rw [← List.range'_append_1, Nat.zero_add, ← List.range'_append_1]
    simp
  rw [e, List.flatMap_append]
  have z : (List.range p).flatMap (fun q => (fitsAt rows ws q).map fun n => ((q : Int), n)) = [] := by
    rw [List.flatMap_eq_nil_iff]
    intro q hq
    rw [h0 q (List.mem_range.mp hq)]
    rfl
  rw [z, List.nil_append, List.flatMap_cons, h1]
  exact ⟨_, rfl⟩
theorem allFits_none {rows : List Row} {ws : List Int} (h0 : ∀ q < ws.length, fitsAt rows ws q = []) : allFits rows ws = [] := by
  unfold allFits
  rw [List.flatMap_eq_nil_iff]
  intro q hq
  rw [h0 q (List.mem_range.mp hq)]
  rfl
def nextW (rows : List Row) (ws : List Int) : Option (List Int) := match allFits rows ws with
  | [] => none
  | (p, n) :: _ => some (putW rows ws p.toNat n.toNat)
theorem next_by_ok (k : Nat) {kk : Int} {rows : List Row} {ws : List Int} {S : Store} {Q : QP} {E : QE} (sm : Small rows) (hw : ws.length ≤ 1000000) (h0 : nextW rows ws = none → Q .non S) (h1 : ∀ w, nextW rows ws = some w → w.length ≤ 20000 → Q (toP w) S)
    (h2 : ∀ w, nextW rows ws = some w → 20000 < w.length → E ⟨2, []⟩ S) : (envAt D (k + 4)).fn 9 [tRules kk rows, toP ws] S Q E := by
  rw [env_fn (d := ⟨2, 4, b_next_by⟩) rfl]
  refine ⟨rfl, ?_⟩
  show wpB _ b_next_by [some (tRules kk rows), some (toP ws), none, none] S _
  have big := PySem.sizeLine_eq
  refine wp_seq (wp_for (Good := fun _ => True) (fun i ρ' S' => SubS S S' ∧ (∀ q < i, fitsAt rows ws q = []) ∧ ∃ x y, ρ' = [some (tRules kk rows), some (toP ws), x, y]) (iss_cons (is_len (is_var rfl) rfl) iss_nil) (walkedG_range (by omega) (by rw [List.length_map]; omega)) ⟨.refl S, fun q hq => absurd hq (by omega), none, none, rfl⟩ (fun _ _ _ _ => trivial) ?_ ?_)
  · rintro i x ρ' S' hx ⟨d, hall, x0, y0, rfl⟩
    have lt : i < ws.length := by
      have := (List.getElem?_eq_some_iff.mp hx).1
      simpa using this
    have ex : x = .int (i : Int) := by
      simp [lt] at hx
      exact hx.symm
    subst ex
    refine wp_seq (wp_setC ?_)
    show wpE _ _ [some (tRules kk rows), some (toP ws), some (.int i), y0] S' _ _
    refine wp_callC (iss_cons (is_var rfl) (iss_cons (is_var rfl) (iss_cons (is_var rfl) iss_nil))) (fits_at_ok (k + 2) fun a ha => ?_)
    have hs : (S'.upd a (.lst ((fitsAt rows ws i).map P.int))) a = some (.lst ((fitsAt rows ws i).map P.int)) := Store.upd_same
    have d2 := d.updr (a := a) (o := .lst ((fitsAt rows ws i).map P.int)) (d.free ha)
    refine wp_seq (wp_if (is_gt (is_len (p := .loc a) (xs := (fitsAt rows ws i).map P.int) (is_var rfl) (by simp only [seqOf, hs])) is_lit) (fun e => ?_) fun e => ⟨d2, fun q hq => ?_, some (.int i), some (.loc a), rfl⟩)
    · have e := of_decide_eq_true e
      rw [List.length_map] at e
      obtain ⟨n, rest, hr⟩ : ∃ n rest, fitsAt rows ws i = n :: rest := by
        cases q : fitsAt rows ws i with
        | nil => rw [q] at e; simp at e
        | cons n rest => exact ⟨n, rest, rfl⟩
      obtain ⟨z4, z5⟩ := fitsAt_mem (show n ∈ fitsAt rows ws i by rw [hr]; simp)
      obtain ⟨more, hm⟩ := allFits_first lt hall hr
      have hx : nextW rows ws = some (putW rows ws i n.toNat) := by unfold nextW; rw [hm]; simp
      have en : P.int n = P.int (n.toNat : Int) := by rw [Int.toNat_of_nonneg z4]
      refine wp_seq ?_
      unfold wpS
      refine wp_callC (iss_cons (is_var rfl) (iss_cons (is_var rfl) (iss_cons (is_var rfl) (iss_cons (is_idx (p := .loc a) (xs := (fitsAt rows ws i).map P.int) (v := .int (n.toNat : Int)) (is_var rfl) is_lit (by simp only [seqOf, hs]) ?_) iss_nil)))) (put_ok k sm z5 hw (fun l => ⟨S, d2, h1 _ hx l⟩) fun l => ⟨S, d2, h2 _ hx l⟩)
      rw [hr, ← en]
      show atI _ ((0 : Nat) : Int) = _
      rw [Core.atI_nat (by simp)]
      rfl
    · have e := of_decide_eq_false e
      rw [List.length_map] at e
      by_cases c : q = i
      · subst c
        exact List.eq_nil_of_length_eq_zero (by omega)
      · exact hall q (by omega)
  · rintro ρ' S' ⟨d, hall, x0, y0, rfl⟩
    have el : (List.map (fun (i : Nat) => P.int i) (List.range ((List.map (toP : Int → P) ws).length : Int).toNat)).length = ws.length := by simp
    rw [el] at hall
    refine wp_seq (wp_ret is_lit (drop d (h0 ?_)))
    unfold nextW
    rw [allFits_none hall]
theorem next_word_ok (k : Nat) {r v : P} {S : Store} {Q : QP} {E : QE} (o1 : okV S r) (o2 : okV S v) (h0 : ∀ w, badWord r v = some w → E ⟨1, [(0, .str w)]⟩ S) (form : badWord r v = none → ∃ kk rows ws, r = tRules kk rows ∧ v = toP (α := List Int) ws ∧
    (nextW rows ws = none → Q .non S) ∧ (∀ w, nextW rows ws = some w → w.length ≤ 20000 → Q (toP w) S) ∧ (∀ w, nextW rows ws = some w → 20000 < w.length → E ⟨2, []⟩ S)) : (envAt D (k + 5)).fn 10 [r, v] S Q E := by
  rw [env_fn (d := ⟨2, 2, b_next_word⟩) rfl]
  refine ⟨rfl, ?_⟩
  show wpB _ b_next_word [some r, some v] S _
  refine first k rfl rfl o1 o2 (fun w hw => keepE (h0 w hw)) fun good => wp_seq ?_
  obtain ⟨kk, rows, ws, rfl, rfl, q0, q1, q2⟩ := form good
  have g : Good kk rows ws := ⟨good⟩
  unfold wpS
  exact wp_callC (iss_cons (is_var rfl) (iss_cons (is_var rfl) iss_nil)) (next_by_ok k g.small (by have := g.short; omega) (fun e => keep (q0 e)) (fun w e l => keep (q1 w e l)) fun w e l => keepE (q2 w e l))
/-! ### runs -/
def run (rows : List Row) : Nat → List Int → List Int × Nat
  | 0, ws => (ws, 0)
  | m + 1, ws => match nextW rows ws with
    | none => (ws, 0)
    | some w => ((run rows m w).1, (run rows m w).2 + 1)
theorem nextW_len {rows : List Row} {ws w : List Int} (sm : Small rows) (h : nextW rows ws = some w) : w.length ≤ ws.length + 6 := by
  unfold nextW at h
  split at h
  · cases h
  · rename_i p n _ he
    cases h
    unfold putW
    split
    · rename_i l r hr
      have := sm (l, r) (List.mem_of_getElem? hr)
      rw [List.length_append, List.length_append, List.length_take, List.length_drop]
      simp only at this
      omega
    · omega
theorem run_rules_ok (k : Nat) {r v m : P} {S : Store} {Q : QP} {E : QE} (o1 : okV S r) (o2 : okV S v) (o3 : okV S m) (h0 : ∀ w, badWord r v = some w → E ⟨1, [(0, .str w)]⟩ S) (h1 : badWord r v = none → inRange 0 100000 m = false → E ⟨2, []⟩ S)
    (form : badWord r v = none → inRange 0 100000 m = true → ∃ kk rows ws, ∃ most : Nat, r = tRules kk rows ∧ v = toP (α := List Int) ws ∧ m = .int most ∧ ws.length + 6 * most ≤ 20000 ∧ Q (toP ((run rows most ws).1, ((run rows most ws).2 : Int))) S) : (envAt D (k + 5)).fn 11 [r, v, m] S Q E := by
  rw [env_fn (d := ⟨3, 5, b_run_rules⟩) rfl]
  refine ⟨rfl, ?_⟩
  show wpB _ b_run_rules [some r, some v, some m, none, none] S _
  refine first k rfl rfl o1 o2 (fun w hw => keepE (h0 w hw)) fun good => wp_seq ?_
  obtain ⟨t, ht⟩ := o3.ty
  unfold wpS
  refine wp_callC (iss_cons (is_var rfl) iss_nil) (most_ok k ht (fun hm => ?_) fun hm => keepE (h1 good hm))
  obtain ⟨kk, rows, ws, most, rfl, rfl, rfl, hl, q⟩ := form good hm
  have g : Good kk rows ws := ⟨good⟩
  have big := PySem.sizeLine_eq
  refine wp_seq (wp_for (Good := fun _ => True) (fun i ρ' S' => SubS S S' ∧ ∃ w x y, w.length + 6 * (most - i) ≤ 20000 ∧ i ≤ most ∧ run rows most ws = ((run rows (most - i) w).1, (run rows (most - i) w).2 + i) ∧ ρ' = [some (tRules kk rows), some (toP w), some (.int most), x, y]) (iss_cons (is_var rfl) iss_nil) (walkedG_range (by omega) (by omega)) ⟨.refl S, ws, none, none, hl, Nat.zero_le _, rfl, rfl⟩ (fun _ _ _ _ => trivial) ?_ ?_)
  · rintro i x ρ' S' hx ⟨d, w, x0, y0, hlw, hi, hr, rfl⟩
    have lt : i < most := by
      have := (List.getElem?_eq_some_iff.mp hx).1
      simpa using this
    have ex : x = .int (i : Int) := by
      simp [lt] at hx
      exact hx.symm
    subst ex
    have e : most - i = (most - (i + 1)) + 1 := by omega
    refine wp_seq (wp_setC ?_)
    show wpE _ _ [some (tRules kk rows), some (toP w), some (.int most), some (.int i), y0] S' _ _
    refine wp_callC (iss_cons (is_var rfl) (iss_cons (is_var rfl) iss_nil)) (next_by_ok k g.small (by omega) (fun hn => ?_) (fun u hu hul => ?_) fun u hu hul => ?_)
    · refine wp_seq (wp_if (x := true) (is_cmp (is_var (p := .non) rfl) is_lit fun R r => r) (fun _ => wp_seq (wp_ret (is_tup (iss_cons (is_var rfl) (iss_cons (is_var rfl) iss_nil))) (drop d ?_))) fun z => by cases z)
      rw [hr, e] at q
      unfold run at q
      rw [hn] at q
      have q2 : Q (toP (w, (i : Int))) S := by simpa using q
      exact q2
    · refine wp_seq (wp_if (x := false) (is_cmp (is_var (p := toP u) rfl) is_lit fun R r => r) (fun z => by cases z) fun _ => wp_seq (wp_set (is_var rfl) ⟨d, u, some (.int i), some (toP u), ?_, by omega, ?_, rfl⟩))
      · have := nextW_len g.small hu
        omega
      · rw [hr, e]
        conv => lhs; unfold run
        rw [hu]
        simp only
        rw [show (run rows (most - (i + 1)) u).2 + 1 + i = (run rows (most - (i + 1)) u).2 + (i + 1) by omega]
    · exfalso
      have := nextW_len g.small hu
      omega
  · rintro ρ' S' ⟨d, w, x0, y0, hlw, hi, hr, rfl⟩
    have el : (List.map (fun (i : Nat) => P.int i) (List.range ((most : Int)).toNat)).length = most := by simp
    rw [el] at hr
    rw [hr, Nat.sub_self] at q
    refine wp_seq (wp_ret (is_tup (iss_cons (is_var rfl) (iss_cons (is_var rfl) iss_nil))) (drop d ?_))
    have q2 : Q (toP (w, (most : Int))) S := by simpa [run] using q
    exact q2
end K60

set_option maxRecDepth 100000
set_option maxHeartbeats 4000000
namespace K60
open Core L2
open Dat (toP toD)
theorem bag_ok (k : Nat) : SpBag1 ((envAt D (k + 1)).fn 12) := by
  rw [env_fn (d := ⟨2, 3, b__law_bag⟩) rfl]
  exact bag1_sp _
theorem draw_ok (k : Nat) : SpDraw1 ((envAt D (k + 1)).fn 13) := by
  rw [env_fn (d := ⟨2, 4, b__law_draw⟩) rfl]
  exact draw1_sp _
theorem lawWord_ok (k : Nat) : SpLawWord ((envAt D (k + 2)).fn 14) := by
  rw [env_fn (d := ⟨3, 4, b__law_word⟩) rfl]
  exact lawWord_sp (draw_ok k)
/-- drawn rules -/
structure Drawn (kk : Int) (rows : List Row) : Prop where
  lo : 1 ≤ kk
  hi : kk ≤ 4
  some : 1 ≤ rows.length
  few : rows.length ≤ 4
  each : ∀ r ∈ rows, Letters kk r.1 ∧ Letters kk r.2 ∧ 1 ≤ r.1.length ∧ r.1.length ≤ 3 ∧ r.2.length ≤ 3
theorem lawRules_ok (k : Nat) {a : PySem.Addr} {x y z : Int} {S : Store} {Q : QP} {E : QE} (hs : S a = some (Bag3 x y z)) (h : ∀ kk rows x' y', Drawn kk rows → Q (tRules kk rows) (S.upd a (Bag3 x' y' z))) : (envAt D (k + 3)).fn 15 [.loc a] S Q E := by
  rw [env_fn (d := ⟨1, 5, b__law_rules⟩) rfl]
  refine ⟨rfl, ?_⟩
  show wpB _ b__law_rules [some (.loc a), none, none, none, none] S _
  have big := PySem.sizeLine_eq
  refine wp_seq (wp_setC ?_)
  unfold wpE
  refine is_lit _ (wp_callC (iss_cons (is_var rfl) (iss_cons is_lit iss_nil)) (draw_ok (k + 1) hs (by decide) (by decide) fun r x1 y1 r0 r1 => ?_))
  show wpB _ _ [some (.loc a), some (.int (1 + r)), none, none, none] (S.upd a (Bag3 x1 y1 z)) _
  generalize hk : 1 + r = kk
  have k0 : 1 ≤ kk := by omega
  have k1 : kk ≤ 4 := by omega
  refine wp_seq (wp_setL iss_nil fun b hb => ?_)
  have ab : a ≠ b := Store.ne_of (Store.upd_same (S := S) (a := a) (o := Bag3 x1 y1 z)) hb
  have nb : S b = none := by
    have e := hb
    rw [Store.upd_ne (Ne.symm ab)] at e
    exact e
  have d0 := SubS.upd (o := .lst []) hb
  have hb0 : ((S.upd a (Bag3 x1 y1 z)).upd b (.lst [])) b = some (.lst []) := Store.upd_same
  generalize (S.upd a (Bag3 x1 y1 z)).upd b (.lst []) = S1 at d0 hb0
  refine wp_seq ?_
  unfold wpS wpEs wpE
  show wpE _ (.lit (.int 1)) [some (.loc a), some (.int kk), some (.loc b), none, none] _ _ _
  refine is_lit _ (wp_callC (iss_cons (is_var rfl) (iss_cons is_lit iss_nil)) (draw_ok (k + 1) d0.at_ (by decide) (by decide) fun r2 x2 y2 r20 r21 => ?_))
  obtain ⟨m, hm⟩ : ∃ m : Nat, 1 + r2 = m := ⟨(1 + r2).toNat, (Int.toNat_of_nonneg (by omega)).symm⟩
  simp only [opBin, opAdd, hm]
  unfold wpEs
  have d1 := d0.re (u := Bag3 x2 y2 z)
  have hb1 : (S1.upd a (Bag3 x2 y2 z)) b = some (.lst []) := by rw [Store.upd_ne (Ne.symm ab)]; exact hb0
  generalize S1.upd a (Bag3 x2 y2 z) = S2 at d1 hb1
  have w := walkedG_range (S := S2) (n := (m : Int)) (Good := fun _ => True) (by omega) (by omega)
  rw [Int.toNat_natCast] at w
  show iterS .range [.int (m : Int)] S2 _
  refine w _ fun Gd gd _ => ?_
  refine ⟨fun i ρ' S' => ∃ x' y' rs u v, SubS (S.upd a (Bag3 x' y' z)) S' ∧ S' b = some (.lst (rs.map toP)) ∧ rs.length = i ∧ (∀ r ∈ rs, Letters kk r.1 ∧ Letters kk r.2 ∧ 1 ≤ r.1.length ∧ r.1.length ≤ 3 ∧ r.2.length ≤ 3) ∧ ρ' = [some (.loc a), some (.int kk), some (.loc b), u, v], ⟨x2, y2, ([] : List Row), none, none, d1, hb1, rfl, (fun _ z => by cases z), rfl⟩, ?_, ?_⟩
  · rintro i xx ρ' S' hx ⟨x3, y3, rs, u, v, d3, hb3, hl, each, rfl⟩
    refine ⟨gd _ trivial, ?_⟩
    have lt : i < m := by
      have := (List.getElem?_eq_some_iff.mp hx).1
      simpa using this
    unfold wpVT
    refine wp_seq (wp_setC ?_)
    show wpE _ _ [some (.loc a), some (.int kk), some (.loc b), some xx, v] S' _ _
    unfold wpE
    refine wp_callC (iss_cons (is_var rfl) (iss_cons (is_var rfl) (iss_cons is_lit iss_nil))) (lawWord_ok k (most := 2) d3.at_ (by omega) (by omega) (by decide) fun l x4 y4 ll ln => ?_)
    unfold wpE wpEs
    have d4 := d3.re (u := Bag3 x4 y4 z)
    have hb4 : (S'.upd a (Bag3 x4 y4 z)) b = some (.lst (rs.map toP)) := by rw [Store.upd_ne (Ne.symm ab)]; exact hb3
    generalize S'.upd a (Bag3 x4 y4 z) = S4 at d4 hb4
    refine wp_callC (iss_cons (is_var rfl) (iss_cons (is_var rfl) iss_nil)) (draw_ok (k + 1) d4.at_ (by omega) (by omega) fun w x5 y5 w0 w1 => ?_)
    unfold wpEs
    have d5 := d4.re (u := Bag3 x5 y5 z)
    have hb5 : (S4.upd a (Bag3 x5 y5 z)) b = some (.lst (rs.map toP)) := by rw [Store.upd_ne (Ne.symm ab)]; exact hb4
    generalize S4.upd a (Bag3 x5 y5 z) = S5 at d5 hb5
    simp only [opBin]
    show opAdd (.tup (l.map P.int)) (.tup [.int w]) S5 _
    simp only [opAdd]
    refine ⟨by rw [List.length_map, List.length_singleton]; omega, ?_⟩
    have el : (P.tup (l.map P.int ++ [.int w])) = toP (l ++ [w]) := by show _ = P.tup ((l ++ [w]).map P.int); simp
    rw [el]
    refine wp_seq ?_
    unfold wpS wpE
    refine is_var rfl _ ⟨⟨b, _, rfl, hb5⟩, ?_⟩
    unfold wpEs wpE wpEs
    refine is_var rfl _ ?_
    unfold wpEs
    refine wp_callC (iss_cons (is_var rfl) (iss_cons (is_var rfl) (iss_cons is_lit iss_nil))) (lawWord_ok k (most := 3) d5.at_ (by omega) (by omega) (by decide) fun r3 x6 y6 lr lrn => ?_)
    unfold wpEs wpEs
    have d6 := d5.re (u := Bag3 x6 y6 z)
    have hb6 : (S5.upd a (Bag3 x6 y6 z)) b = some (.lst (rs.map toP)) := by rw [Store.upd_ne (Ne.symm ab)]; exact hb5
    generalize S5.upd a (Bag3 x6 y6 z) = S6 at d6 hb6
    simp only [bmS, lstS, hb6]
    refine ⟨by rw [List.length_map]; omega, x6, y6, rs ++ [(l ++ [w], r3)], some xx, some (toP (l ++ [w])), ?_, ?_, by simp [hl], ?_, rfl⟩
    · exact d6.updr (by rw [Store.upd_ne (Ne.symm ab)]; exact nb)
    · rw [Store.upd_same]; simp; rfl
    · intro r hr
      rcases List.mem_append.mp hr with hr | hr
      · exact each r hr
      · cases List.mem_singleton.mp hr
        refine ⟨fun u hu => ?_, lr, by simp, by simp; omega, lrn⟩
        rcases List.mem_append.mp hu with hu | hu
        · exact ll u hu
        · cases List.mem_singleton.mp hu; exact ⟨w0, w1⟩
  · rintro ρ' S' ⟨x3, y3, rs, u, v, d3, hb3, hl, each, rfl⟩
    refine ⟨gd _ trivial, ?_⟩
    rw [List.length_map, List.length_range] at hl
    refine wp_seq (wp_ret (is_tup (iss_cons is_lit (iss_cons (is_var rfl) (iss_cons (is_tuple (p := .loc b) (xs := rs.map toP) (is_var rfl) (by simp only [seqOf, hb3])) iss_nil)))) (drop d3 (h kk rs x3 y3 ⟨k0, k1, by omega, by omega, each⟩)))
/-! ### the law's own fits -/
def fitsN (rows : List Row) (ws : List Int) (p n : Nat) : List Int := (rows.zipIdx.take n).filterMap (fit ws p)
theorem fitsN_all (rows : List Row) (ws : List Int) (p : Nat) : fitsN rows ws p rows.length = fitsAt rows ws p := by
  unfold fitsN fitsAt
  rw [List.take_of_length_le (by rw [List.length_zipIdx]; exact Nat.le_refl _)]
theorem fitsN_succ {rows : List Row} {ws : List Int} {p n : Nat} {r : Row} (h : rows[n]? = some r) : fitsN rows ws p (n + 1) = fitsN rows ws p n ++ (if (ws.drop p).take r.1.length = r.1 then [(n : Int)] else []) := by
  unfold fitsN
  have e : rows.zipIdx[n]? = some (r, n) := by rw [List.getElem?_zipIdx, h]; simp
  rw [filterMap_take e]
  congr 1
  unfold fit
  by_cases c : (ws.drop p).take r.1.length = r.1
  · simp [c]
  · simp [c]
def upTo (rows : List Row) (ws : List Int) (n : Nat) : List (Int × Int) := (List.range n).flatMap fun p => (fitsAt rows ws p).map fun n => ((p : Int), n)
theorem lawFits_ok (k : Nat) {kk : Int} {rows : List Row} {ws : List Int} {S : Store} {Q : QP} {E : QE} (few : rows.length ≤ 400) (short : ws.length ≤ 20000) (h : ∀ a, S a = none → Q (.loc a) (S.upd a (.lst ((allFits rows ws).map toP)))) : (envAt D (k + 1)).fn 16 [tRules kk rows, toP ws] S Q E := by
  rw [env_fn (d := ⟨2, 6, b__law_fits⟩) rfl]
  refine ⟨rfl, ?_⟩
  show wpB _ b__law_fits [some (tRules kk rows), some (toP ws), none, none, none, none] S _
  have big := PySem.sizeLine_eq
  refine wp_seq (wp_setL iss_nil fun a ha => wp_seq ?_)
  refine wp_for (Good := fun _ => True) (fun i ρ' S' => SubS S S' ∧ S' a = some (.lst ((upTo rows ws i).map toP)) ∧ ∃ x y z, ρ' = [some (tRules kk rows), some (toP ws), some (.loc a), x, y, z]) (iss_cons (is_len (is_var rfl) rfl) iss_nil) (walkedG_range (by omega) (by rw [List.length_map]; omega)) ⟨.upd ha, Store.upd_same, none, none, none, rfl⟩ (fun _ _ _ _ => trivial) ?_ ?_
  · rintro i x ρ' S' hx ⟨d, hs, x0, y0, z0, rfl⟩
    have lt : i < ws.length := by
      have := (List.getElem?_eq_some_iff.mp hx).1
      simpa using this
    have ex : x = .int (i : Int) := by
      simp [lt] at hx
      exact hx.symm
    subst ex
    have len0 : (upTo rows ws i).length ≤ 20000 * 400 := Nat.le_trans (flat_len rows ws i) (Nat.mul_le_mul (by omega) few)
    refine wp_seq (wp_for (Good := fun _ => True) (fun j ρ2 S2 => SubS S S2 ∧ S2 a = some (.lst ((upTo rows ws i ++ (fitsN rows ws i j).map fun n => ((i : Int), n)).map toP)) ∧ ∃ y z, ρ2 = [some (tRules kk rows), some (toP ws), some (.loc a), some (.int i), y, z]) (iss_cons (is_len (is_idx (p := tRules kk rows) (is_var rfl) is_lit (i := 2) (v := .tup (rows.map toP)) rfl rfl) rfl) iss_nil) (walkedG_range (by omega) (by rw [List.length_map]; omega)) ⟨d, by simpa [fitsN] using hs, y0, z0, rfl⟩ (fun _ _ _ _ => trivial) ?_ ?_)
    · rintro j x2 ρ2 S2 hx2 ⟨d2, hs2, y1, z1, rfl⟩
      have ltj : j < rows.length := by
        have := (List.getElem?_eq_some_iff.mp hx2).1
        simpa using this
      have ex2 : x2 = .int (j : Int) := by
        simp [ltj] at hx2
        exact hx2.symm
      subst ex2
      have hr : rows[j]? = some (rows[j].1, rows[j].2) := by simp [ltj]
      generalize rows[j].1 = l at hr
      generalize rows[j].2 = r at hr
      have succ := fitsN_succ (ws := ws) (p := i) hr
      have lenj : (fitsN rows ws i j).length ≤ 400 := by
        unfold fitsN
        refine Nat.le_trans (List.length_filterMap_le _ _) ?_
        rw [List.length_take, List.length_zipIdx]
        omega
      refine wp_seq (wp_set (p := toP l) (is_idx (p := toP (l, r)) (is_idx (p := .tup (rows.map toP)) (is_idx (p := tRules kk rows) (is_var rfl) is_lit (i := 2) rfl rfl) (is_var rfl) (v := toP (l, r)) rfl ?_) is_lit rfl rfl) ?_)
      · rw [Core.atI_nat (by rw [List.length_map]; exact ltj)]
        simp [hr]
      show wpB _ _ [some (tRules kk rows), some (toP ws), some (.loc a), some (.int i), some (.int j), some (toP l)] S2 _
      have two : ∀ {c : CE} {xs : List Int} {S3 : Store} {E3 : QE}, Is (envAt D k) c [some (tRules kk rows), some (toP ws), some (.loc a), some (.int i), some (.int j), some (toP l)] S3 E3 (.tup (xs.map P.int)) → ∀ Q3 : QP, (∀ b, S3 b = none → Q3 (.loc b) (S3.upd b (.lst (xs.map P.int)))) → wpE (envAt D k) (.blt .list [c]) [some (tRules kk rows), some (toP ws), some (.loc a), some (.int i), some (.int j), some (toP l)] S3 Q3 E3 := fun hc Q3 q3 => by
        unfold wpE wpEs wpEs
        refine hc _ ?_
        simp only [bfS, seqOf]
        exact fun _ => q3
      have c1 : ∀ {S3 : Store} {E3 : QE}, Is (envAt D k) (.slc (.var 1) (some (.var 3)) (some (.bin .Add (.var 3) (.blt .len [(.var 5)])))) [some (tRules kk rows), some (toP ws), some (.loc a), some (.int i), some (.int j), some (toP l)] S3 E3 (.tup (((ws.drop i).take l.length).map P.int)) := fun {S3 E3} => by
        have e2 : cutP (ws.map P.int) (some (i : Int)) (some ((i : Int) + ((l.map P.int).length : Nat))) = ((ws.drop i).take l.length).map P.int := by
          rw [show (i : Int) + ((l.map P.int).length : Nat) = ((i + l.length : Nat) : Int) by rw [List.length_map]; omega, cutP_nat, Nat.add_sub_cancel_left, map_cut]
        rw [← e2]
        exact is_slcT (is_var rfl) (show IsO _ (some _) _ _ _ (some _) from is_var rfl) (show IsO _ (some _) _ _ _ (some _) from is_add (is_var rfl) (is_len (is_var rfl) rfl))
      refine wp_seq (wp_ifX (x := decide ((ws.drop i).take l.length = l)) (fun R q => ?_) (fun e S3 d3 => ?_) fun e S3 d3 => ?_)
      · unfold wpE
        refine two c1 _ fun b hb => two (is_var rfl) _ fun c hc => ?_
        simp only [opCmp]
        have bc : b ≠ c := Store.ne_of (Store.upd_same (S := S2)) hc
        exact eq_lst (α := Int) ((ws.drop i).take l.length) l (by decide) (by rw [Store.upd_ne bc]; exact Store.upd_same) Store.upd_same (q _ ((SubS.refl S2).updr hb |>.updr (by
          rw [Store.upd_ne (Ne.symm bc)] at hc
          exact hc)))
      · have e := of_decide_eq_true e
        refine wp_seq (wp_append (p := toP ((i : Int), (j : Int))) rfl (is_tup (iss_cons (is_var rfl) (iss_cons (is_var rfl) iss_nil))).x (d3 _ _ hs2) ?_ fun S4 d4 => ?_)
        · rw [List.length_map, List.length_append, List.length_map]
          omega
        · refine ⟨((d2.trans d3).trans d4).updr ha, ?_, some (.int j), some (toP l), rfl⟩
          rw [Store.upd_same, succ, if_pos e]
          simp
      · have e := of_decide_eq_false e
        refine ⟨d2.trans d3, ?_, some (.int j), some (toP l), rfl⟩
        rw [succ, if_neg e, List.append_nil]
        exact d3 _ _ hs2
    · rintro ρ2 S2 ⟨d2, hs2, y1, z1, rfl⟩
      have el : (List.map (fun (i : Nat) => P.int i) (List.range ((List.map (toP : Row → P) rows).length : Int).toNat)).length = rows.length := by simp
      rw [el, fitsN_all] at hs2
      refine ⟨d2, ?_, some (.int i), y1, z1, rfl⟩
      rw [hs2]
      unfold upTo
      rw [List.range_succ, List.flatMap_append]
      simp
  · rintro ρ' S' ⟨d, hs, x0, y0, z0, rfl⟩
    have el : (List.map (fun (i : Nat) => P.int i) (List.range ((List.map (toP : Int → P) ws).length : Int).toNat)).length = ws.length := by simp
    rw [el] at hs
    exact wp_seq (wp_ret (is_var rfl) (drop (d.into hs ha) (h a ha)))
theorem lawPut_ok (k : Nat) {kk : Int} {rows : List Row} {ws : List Int} {p n : Nat} {S : Store} {Q : QP} {E : QE} (sm : Small rows) (hn : n < rows.length) (hw : ws.length ≤ 1000000) (h : Q (toP (putW rows ws p n)) S) : (envAt D (k + 1)).fn 17 [tRules kk rows, toP ws, .int p, .int n] S Q E := by
  rw [env_fn (d := ⟨4, 6, b__law_put⟩) rfl]
  refine ⟨rfl, ?_⟩
  show wpB _ b__law_put [some (tRules kk rows), some (toP ws), some (.int p), some (.int n), none, none] S _
  have hr : rows[n]? = some (rows[n].1, rows[n].2) := by simp [hn]
  generalize rows[n].1 = l at hr
  generalize rows[n].2 = r at hr
  have sr : r.length ≤ 6 := sm (l, r) (List.mem_of_getElem? hr)
  have e : putW rows ws p n = ws.take p ++ r ++ ws.drop (p + l.length) := by unfold putW; rw [hr]
  have big := PySem.sizeLine_eq
  refine wp_seq (wp_unpack (ps := [toP l, toP r]) (is_idx (p := .tup (rows.map toP)) (is_idx (p := tRules kk rows) (is_var rfl) is_lit (i := 2) rfl rfl) (is_var rfl) (v := toP (l, r)) rfl ?_) rfl ?_)
  · rw [Core.atI_nat (by rw [List.length_map]; exact hn)]
    simp [hr]
  rw [e] at h
  refine wp_seq (wp_ret (p := toP (ws.take p ++ r ++ ws.drop (p + l.length))) ?_ (keep h))
  have c1 : Is (envAt D k) (.slc (.var 1) none (some (.var 2))) [some (tRules kk rows), some (toP ws), some (.int p), some (.int n), some (toP l), some (toP r)] S (dropE E) (.tup (cutP (ws.map P.int) none (some (p : Int)))) := is_slcT (is_var rfl) (show IsO _ none _ _ _ none from trivial) (show IsO _ (some _) _ _ _ (some _) from is_var rfl)
  have c2 : Is (envAt D k) (.slc (.var 1) (some (.bin .Add (.var 2) (.blt .len [(.var 4)]))) none) [some (tRules kk rows), some (toP ws), some (.int p), some (.int n), some (toP l), some (toP r)] S (dropE E) (.tup (cutP (ws.map P.int) (some ((p : Int) + ((l.map P.int).length : Nat))) none)) := is_slcT (is_var rfl) (show IsO _ (some _) _ _ _ (some _) from is_add (is_var rfl) (is_len (is_var rfl) rfl)) (show IsO _ none _ _ _ none from trivial)
  rw [show (p : Int) + ((l.map P.int).length : Nat) = ((p + l.length : Nat) : Int) by rw [List.length_map]; omega, cutP_from] at c2
  rw [cutP_to] at c1
  have t1 : ((ws.map P.int).take p).length ≤ 1000000 := by rw [List.length_take, List.length_map]; omega
  have t2 : ((ws.map P.int).drop (p + l.length)).length ≤ 1000000 := by rw [List.length_drop, List.length_map]; omega
  have c3 := is_cat (is_cat c1 (show Is (envAt D k) (.var 5) [some (tRules kk rows), some (toP ws), some (.int p), some (.int n), some (toP l), some (toP r)] S (dropE E) (.tup (r.map P.int)) from is_var rfl) (by rw [List.length_map]; omega)) c2 (by rw [List.length_append, List.length_map]; omega)
  have ee : (toP (ws.take p ++ r ++ ws.drop (p + l.length)) : P) = .tup ((ws.map P.int).take p ++ r.map P.int ++ (ws.map P.int).drop (p + l.length)) := by
    show P.tup ((ws.take p ++ r ++ ws.drop (p + l.length)).map P.int) = _
    rw [List.map_append, List.map_append, List.map_take, List.map_drop]
  rw [ee]
  exact c3
/-- what _law_told tells of an error -/
def told (Q : QP) : QE := fun x S => (x.cls = 3 ∧ Q (.str "none") S) ∨ (x.cls = 1 ∧ ∃ t : PySem.Str, x.fs.lookup 0 = some (.str t) ∧ t.length ≤ 1000 ∧ Q (.str ("bad " ++ t)) S) ∨ (x.cls = 2 ∧ Q (.str "far") S)
theorem told_ok (k : Nat) {f : Nat} {vs : List P} {S : Store} {Q : QP} {E : QE} (hl : vs.length = 2 ∨ vs.length = 3 ∨ vs.length = 4) (h : (envAt D k).fn f vs S Q (told Q)) : (envAt D (k + 1)).fn 18 [.fn f, .tup vs] S Q E := by
  rw [env_fn (d := ⟨2, 3, b__law_told⟩) rfl]
  refine ⟨rfl, ?_⟩
  show wpB _ b__law_told [some (.fn f), some (.tup vs), none] S _
  have gm := env_mono D k
  refine wp_seq ?_
  unfold wpS
  -- what the clauses make of it
  have hE : ∀ x S', told Q x S' → wpH [(3, none, (.lit (.str "none"))), (1, (some 2), (.pre "bad " 0)), (2, none, (.lit (.str "far")))] ({ (DE.fn Q E) with nx := fun ρ' S' => wpB (envAt D k) [] ρ' S' (DE.fn Q E) }) [some (.fn f), some (.tup vs), none] x S' := fun x S' hx => by
    rcases hx with ⟨e, q⟩ | ⟨e, t, e2, e3, q⟩ | ⟨e, q⟩
    · unfold wpH; rw [if_pos e]; exact keep q
    · unfold wpH; rw [if_neg (by rw [e]; decide)]
      unfold wpH; rw [if_pos e]
      simp only [e2]
      have big := PySem.sizeLine_eq
      exact ⟨by show 4 + t.length ≤ _; omega, keep q⟩
    · unfold wpH; rw [if_neg (by rw [e]; decide)]
      unfold wpH; rw [if_neg (by rw [e]; decide)]
      unfold wpH; rw [if_pos e]
      exact keep q
  have h := gm.fn f vs S _ _ _ _ (fun p S' q => keep (Q := Q) q) hE h
  have at_ : ∀ {i : Nat} {v : P} {E0 : QE}, vs[i]? = some v → Is (envAt D k) (.idx (.var 1) (.lit (.int i))) [some (.fn f), some (.tup vs), none] S E0 v := fun {i v E0} hv => is_idx (is_var rfl) is_lit rfl (by
    rw [Core.atI_nat (List.getElem?_eq_some_iff.mp hv).1]
    exact hv)
  rcases hl with hl | hl | hl
  · match vs, hl with
    | [a, b], _ =>
      refine wp_seq (wp_if (is_eqI (is_len (is_var rfl) rfl) is_lit) (fun _ => wp_seq ?_) fun e => by cases e)
      unfold wpS wpE
      show wpEs _ _ _ _ _ _
      exact iss_cons (at_ (i := 0) rfl) (iss_cons (at_ (i := 1) rfl) iss_nil) _ h
  · match vs, hl with
    | [a, b, c], _ =>
      refine wp_seq (wp_if (is_eqI (is_len (is_var rfl) rfl) is_lit) (fun e => by cases e) fun e => wp_seq (wp_if (is_eqI (is_len (is_var rfl) rfl) is_lit) (fun _ => wp_seq ?_) fun e => by cases e))
      unfold wpS wpE
      show wpEs _ _ _ _ _ _
      exact iss_cons (at_ (i := 0) rfl) (iss_cons (at_ (i := 1) rfl) (iss_cons (at_ (i := 2) rfl) iss_nil)) _ h
  · match vs, hl with
    | [a, b, c, d], _ =>
      refine wp_seq (wp_if (is_eqI (is_len (is_var rfl) rfl) is_lit) (fun e => by cases e) fun e => wp_seq (wp_if (is_eqI (is_len (is_var rfl) rfl) is_lit) (fun e => by cases e) fun e => wp_seq ?_))
      unfold wpS wpE
      show wpEs _ _ _ _ _ _
      exact iss_cons (at_ (i := 0) rfl) (iss_cons (at_ (i := 1) rfl) (iss_cons (at_ (i := 2) rfl) (iss_cons (at_ (i := 3) rfl) iss_nil))) _ h
end K60

set_option maxRecDepth 100000
set_option maxHeartbeats 4000000
namespace K60
open Core L2
open Dat (toP toD)
/-- what is at hand in a case -/
structure Ctx (kk : Int) (rows : List Row) (ws : List Int) : Prop where
  dr : Drawn kk rows
  lw : Letters kk ws
  ln : ws.length ≤ 12
theorem letters_word {k m : Int} {ws : List Int} (h : Letters k ws) (hl : (ws.length : Int) ≤ m) : isWordB k m (toP ws) = true := by
  rw [W_eq, isWordB_tup, List.length_map, decide_eq_true hl, Bool.true_and, List.all_eq_true]
  intro x hx
  obtain ⟨w, hw, rfl⟩ := List.mem_map.mp hx
  have := h w hw
  show (decide (0 ≤ w) && decide (w ≤ k - 1)) = true
  rw [decide_eq_true this.1, decide_eq_true (by omega)]
  rfl
theorem row_good {kk : Int} {r : Row} (h : Letters kk r.1 ∧ Letters kk r.2 ∧ 1 ≤ r.1.length ∧ r.1.length ≤ 3 ∧ r.2.length ≤ 3) : rowB kk (toP r) = true := by
  show (isWordB kk 6 (toP r.1) && (isWordB kk 6 (toP r.2) && true) && !decide ((r.1.map P.int).length = 0)) = true
  rw [letters_word h.1 (by omega), letters_word h.2.1 (by omega), List.length_map, decide_eq_false (by omega)]
  rfl
theorem Drawn.val {kk : Int} {rows : List Row} (h : Drawn kk rows) : isRulesB (tRules kk rows) = true := by
  unfold tRules
  rw [isRulesB_3]
  have e : (items (.tup (rows.map toP))).length = rows.length := by simp [items]
  have a : (items (.tup (rows.map toP))).all (rowB (intOf (.int kk))) = true := by
    show (rows.map toP).all (rowB kk) = true
    rw [List.all_eq_true]
    intro x hx
    obtain ⟨r, hr, rfl⟩ := List.mem_map.mp hx
    exact row_good (h.each r hr)
  have i : inRange 1 200 (.int kk) = true := by
    show (decide (1 ≤ kk) && decide (kk ≤ 200)) = true
    rw [decide_eq_true h.lo, decide_eq_true (by have := h.hi; omega)]
    rfl
  rw [i, decide_eq_true (by rw [e]; exact h.some), decide_eq_true (by rw [e]; have := h.few; omega)]
  rw [a, show isStrP (.str "rules") = true from rfl, show strIs (.str "rules") "rules" = true from by decide +kernel, show isTup (.tup (rows.map toP)) = true from rfl]
  rfl
theorem Ctx.good {kk : Int} {rows : List Row} {ws : List Int} (c : Ctx kk rows ws) : Good kk rows ws := ⟨by
  unfold badWord
  rw [if_pos c.dr.val, if_pos]
  exact letters_word c.lw (by have := c.ln; omega)⟩
theorem Ctx.small {kk : Int} {rows : List Row} {ws : List Int} (c : Ctx kk rows ws) : Small rows := c.good.small
theorem okS {s : PySem.Str} (h : PySem.PyData.strOk s = true) {S : Store} : okV S (.str s) := h
/-! ### the last: numbers of steps that are none -/
theorem part_last (k : Nat) {kk : Int} {rows : List Row} {ws : List Int} {ρ : Core.Loc} {S : Store} {Q : QP} {E : QE} (c : Ctx kk rows ws) (e1 : ρ[1]? = some (some (tRules kk rows))) (e3 : ρ[3]? = some (some (toP ws))) (e11 : ρ.length = 13) (q : ∀ S', SubS S S' → dropQ Q (.bl true) S') :
    wpB (envAt D (k + 6)) (b__law_case.drop 20) ρ S (DE.fn Q E) := by
  refine wp_seq ?_
  unfold wpS wpE wpE wpEs
  show wpE _ (.lst [(.neg (.lit (.int 1))), (.lit (.int 100001)), (.lit .non), (.lit (.bl true))]) ρ S _ _
  unfold wpE
  refine iss_cons (is_neg is_lit) (iss_cons is_lit (iss_cons is_lit (iss_cons is_lit iss_nil))) _ fun a ha => ?_
  unfold wpEs
  have d0 := SubS.upd (o := MO.lst [P.int (-1), .int 100001, .non, .bl true]) ha
  have h0 : (S.upd a (.lst [P.int (-1), .int 100001, .non, .bl true])) a = some (.lst [P.int (-1), .int 100001, .non, .bl true]) := Store.upd_same
  generalize S.upd a (.lst [P.int (-1), .int 100001, .non, .bl true]) = S1 at d0 h0
  show iterS .seq [.loc a] S1 _
  have w := walked_loc h0
  refine comp_core [P.int (-1), .int 100001, .non, .bl true] id (fun _ => some (.str "far")) (by rw [List.map_id]; exact w) (fun x hx S2 d2 Q1 Q2 q1 _ => ?_) fun b hb => ?_
  · unfold wpVT wipeP wipeP wpC
    simp only [if_true]
    unfold wpE
    have g1 : ((ρ.set 11 none).set 11 (some x))[1]? = some (some (tRules kk rows)) := by
      rw [List.getElem?_set_ne (by decide), List.getElem?_set_ne (by decide)]; exact e1
    have g3 : ((ρ.set 11 none).set 11 (some x))[3]? = some (some (toP ws)) := by
      rw [List.getElem?_set_ne (by decide), List.getElem?_set_ne (by decide)]; exact e3
    have g11 : ((ρ.set 11 none).set 11 (some x))[11]? = some (some x) := by
      rw [List.getElem?_set_self (by rw [List.length_set, e11]; decide)]
    refine iss_cons is_fnv (iss_cons (is_tup (iss_cons (is_var g1) (iss_cons (is_var g3) (iss_cons (is_var g11) iss_nil)))) iss_nil) _ ?_
    have bad : inRange 0 100000 x = false := by
      rcases List.mem_cons.mp hx with rfl | hx
      · rfl
      · rcases List.mem_cons.mp hx with rfl | hx
        · rfl
        · rcases List.mem_cons.mp hx with rfl | hx
          · rfl
          · cases List.mem_singleton.mp hx; rfl
    have okx : okV S2 x := by
      rcases List.mem_cons.mp hx with rfl | hx
      · exact trivial
      · rcases List.mem_cons.mp hx with rfl | hx
        · exact trivial
        · rcases List.mem_cons.mp hx with rfl | hx
          · exact trivial
          · cases List.mem_singleton.mp hx; exact trivial
    refine told_ok (k + 5) (.inr (.inl rfl)) (run_rules_ok k (ok_rules S2 kk rows) (ok_word S2 ws) okx (fun w hw => ?_) (fun _ _ => .inr (.inr ⟨rfl, q1 _ rfl⟩)) fun _ z => ?_)
    · rw [c.good.ok] at hw; cases hw
    · rw [bad] at z; cases z
  · have d1 := (SubS.upd (S := S1) (o := MO.lst (List.filterMap (fun (_ : P) => some (P.str "far")) [P.int (-1), .int 100001, .non, .bl true])) hb)
    have h1 : (S1.upd b (.lst (List.filterMap (fun (_ : P) => some (P.str "far")) [P.int (-1), .int 100001, .non, .bl true]))) b = some (.lst (List.replicate 4 (.str "far"))) := Store.upd_same
    generalize S1.upd b (.lst (List.filterMap (fun (_ : P) => some (P.str "far")) [P.int (-1), .int 100001, .non, .bl true])) = S2 at d1 h1
    unfold wpE wpE
    refine es_is is_lit (es_nil fun a2 ha2 => ?_)
    refine is_lit _ ?_
    simp only [opBin, opMul, Store.upd_same]
    refine ⟨_, rfl, by decide, by decide, by rw [PySem.sizeLine_eq]; decide, fun a3 ha3 => ?_⟩
    have n1 : b ≠ a2 := Store.ne_of h1 ha2
    have n2 : b ≠ a3 := by
      intro z
      rw [← z, Store.upd_ne n1, h1] at ha3
      cases ha3
    simp only [opCmp]
    refine eq_strs (s := "far") (n := 4) (by decide +kernel) (by rw [Store.upd_ne n2, Store.upd_ne n1]; exact h1) Store.upd_same ?_
    refine q _ ?_
    have f2 := d1.updr (a := a2) (o := .lst [.str "far"]) (d1.free ha2)
    exact d0.trans (f2.updr (f2.free ha3))
end K60

set_option maxRecDepth 100000
set_option maxHeartbeats 4000000
namespace K60
open Core L2
open Dat (toP toD)
theorem bad_word : ("bad " : PySem.Str) ++ "word" = "bad word" := by decide +kernel
theorem bad_rules : ("bad " : PySem.Str) ++ "rules" = "bad rules" := by decide +kernel
/-- three calls with a value that is none: each tells the same -/
theorem three_bad (k : Nat) {r v : P} {S : Store} {w : PySem.Str} {t : PySem.Str} (o1 : okV S r) (o2 : okV S v) (hb : badWord r v = some w) (hw : w.length ≤ 1000) (ht : ("bad " : PySem.Str) ++ w = t) {Q : QP} {E : QE} (q : Q (.str t) S) :
    (envAt D (k + 6)).fn 18 [.fn 6, .tup [r, v]] S Q E ∧ (envAt D (k + 6)).fn 18 [.fn 10, .tup [r, v]] S Q E ∧ (envAt D (k + 6)).fn 18 [.fn 11, .tup [r, v, .int 3]] S Q E := by
  have hE : ∀ u, badWord r v = some u → told Q ⟨1, [(0, .str u)]⟩ S := fun u hu => by
    rw [hb] at hu
    cases hu
    exact .inr (.inl ⟨rfl, w, rfl, hw, by rw [ht]; exact q⟩)
  refine ⟨told_ok (k + 5) (.inl rfl) (fits_ok k o1 o2 hE fun z => ?_), told_ok (k + 5) (.inl rfl) (next_word_ok k o1 o2 hE fun z => ?_), told_ok (k + 5) (.inr (.inl rfl)) (run_rules_ok k o1 o2 trivial hE (fun z _ => ?_) fun z _ => ?_)⟩
  all_goals rw [hb] at z; cases z
/-- the two together -/
theorem bad_pair (k : Nat) {ρ : Core.Loc} {S : Store} {E : QE} {r v : P} {w t : PySem.Str} {c1 c2 : CE} (hlen : ρ.length = 13) (e1 : ∀ u : P, Is (envAt D (k + 6)) c1 ((ρ.set 12 none).set 12 (some u)) S noE r) (m1 : ∀ (u : P) S', SubS S S' → Is (envAt D (k + 6)) c1 ((ρ.set 12 none).set 12 (some u)) S' noE r) (m2 : ∀ (u : P) S', SubS S S' → Is (envAt D (k + 6)) c2 ((ρ.set 12 none).set 12 (some u)) S' noE v)
    (n1 : ∀ S', SubS S S' → Is (envAt D (k + 6)) c1 ρ S' E r) (n2 : ∀ S', SubS S S' → Is (envAt D (k + 6)) c2 ρ S' E v) (o1 : okV S r) (o2 : okV S v) (hb : badWord r v = some w) (hw : w.length ≤ 1000) (ht : ("bad " : PySem.Str) ++ w = t) (hs : PySem.PyData.strOk t = true) :
    Ix (envAt D (k + 6)) (.or_ (.cmp .NotEq (.cmpr [12] .seq [(.lst [(.fnv 6), (.fnv 10)])] (.nm 12) (.call 18 [(.var 12), (.tup [c1, c2])]) none) (.bin .Mult (.lst [(.lit (.str t))]) (.lit (.int (2 : Nat))))) (.cmp .NotEq (.call 18 [(.fnv 11), (.tup [c1, c2, (.lit (.int 3))])]) (.lit (.str t)))) ρ S E (.bl false) := by
  refine ix_or (x := false) (ix_neConsts (n := 2) hs (iss_cons is_fnv (iss_cons is_fnv iss_nil)) rfl (by decide) fun x hx S' d Q1 q1 => ?_) fun _ S' d => ix_neStrs hs ?_
  · unfold wpVT wipeP wipeP
    have g12 : ((ρ.set 12 none).set 12 (some x))[12]? = some (some x) := by rw [List.getElem?_set_self (by rw [List.length_set, hlen]; decide)]
    unfold wpE
    refine iss_cons (is_var g12) (iss_cons (is_tup (iss_cons (m1 x S' d) (iss_cons (m2 x S' d) iss_nil))) iss_nil) _ ?_
    have h3 := three_bad k (o1.ext d) (o2.ext d) hb hw ht (E := noE) q1
    rcases List.mem_cons.mp hx with rfl | hx
    · exact h3.1
    · cases List.mem_singleton.mp hx
      exact h3.2.1
  · exact ix_call (iss_cons is_fnv (iss_cons (is_tup (iss_cons (n1 S' d) (iss_cons (n2 S' d) (iss_cons is_lit iss_nil)))) iss_nil)).x fun S2 d2 R r => (three_bad k (o1.ext (d.trans d2)) (o2.ext (d.trans d2)) hb hw ht (E := E) (r S2 (.refl S2))).2.2
theorem badWord_val {kk : Int} {rows : List Row} {v : P} (h : isRulesB (tRules kk rows) = true) (hv : isWordB kk 20000 v = false) : badWord (tRules kk rows) v = some ("word" : PySem.Str) := by
  unfold badWord
  rw [if_pos h]
  have hv : isWordB (intOf (atP (tRules kk rows) 1)) 20000 v = false := hv
  rw [if_neg (by rw [hv]; decide)]
theorem badWord_no {r v : P} (h : isRulesB r = false) : badWord r v = some ("rules" : PySem.Str) := by
  unfold badWord
  rw [if_neg (by rw [h]; decide)]
theorem part_word (k : Nat) {a : PySem.Addr} {x y z : Int} {kk : Int} {rows : List Row} {ws : List Int} {v4 v5 v6 v7 v8 v9 v10 v11 v12 : Option P} {S0 S : Store} {Q : QP} {E : QE} (c : Ctx kk rows ws) (d : SubS (S0.upd a (Bag3 x y z)) S) (q : ∀ S' x' y', SubS (S0.upd a (Bag3 x' y' z)) S' → dropQ Q (.bl true) S') :
    wpB (envAt D (k + 6)) (b__law_case.drop 18) [some (.loc a), some (tRules kk rows), some (.int kk), some (toP ws), v4, v5, v6, v7, v8, v9, v10, v11, v12] S (DE.fn Q E) := by
  have big := PySem.sizeLine_eq
  have ln := c.ln
  refine wp_seq (wp_setC ?_)
  unfold wpE wpE
  refine es_is is_lit ?_
  unfold wpEs wpE
  refine es_is (p := toP ws) (is_var rfl) (es_nil ?_)
  show bfS .list [toP ws] S _
  show (ws.map P.int).length ≤ PySem.sizeLine → _
  intro _ b hb
  have d1 := d.updr (a := b) (o := .lst (ws.map P.int)) (d.free hb)
  have hb1 : (S.upd b (.lst (ws.map P.int))) b = some (.lst (ws.map P.int)) := Store.upd_same
  generalize S.upd b (.lst (ws.map P.int)) = S1 at d1 hb1
  have w1 : ∀ {E0 : QE}, Is (envAt D (k + 6)) (.var 3) [some (.loc a), some (tRules kk rows), some (.int kk), some (toP ws), v4, v5, v6, v7, v8, v9, v10, v11, v12] S1 E0 (.tup (ws.map P.int)) := is_var rfl
  have l1 : (ws.map P.int).length + 1 ≤ PySem.sizeLine := by rw [List.length_map]; omega
  refine es_is (is_cat w1 (is_tup (iss_cons (is_var rfl) iss_nil)) l1) (es_is (is_cat w1 (is_tup (iss_cons (is_neg is_lit) iss_nil)) l1) (es_is (is_cat w1 (is_tup (iss_cons is_lit iss_nil)) l1) (es_is (is_rep (is_tup (iss_cons is_lit iss_nil)) is_lit (by decide) (by decide) (by rw [PySem.sizeLine_eq]; decide)) (es_nil fun f hf => ?_))))
  have d2 := d1.updr (a := f) (o := .lst [.non, .loc b, .tup (ws.map P.int ++ [.int kk]), .tup (ws.map P.int ++ [.int (-1)]), .tup (ws.map P.int ++ [.bl true]), .tup (List.replicate (20001 : Int).toNat [P.int 0]).flatten]) (d1.free hf)
  have hf1 : (S1.upd f (.lst [.non, .loc b, .tup (ws.map P.int ++ [.int kk]), .tup (ws.map P.int ++ [.int (-1)]), .tup (ws.map P.int ++ [.bl true]), .tup (List.replicate (20001 : Int).toNat [P.int 0]).flatten])) f = some (.lst [.non, .loc b, .tup (ws.map P.int ++ [.int kk]), .tup (ws.map P.int ++ [.int (-1)]), .tup (ws.map P.int ++ [.bl true]), .tup (List.replicate (20001 : Int).toNat [P.int 0]).flatten]) := Store.upd_same
  have bf : b ≠ f := Store.ne_of hb1 hf
  have hb2 : (S1.upd f (.lst [.non, .loc b, .tup (ws.map P.int ++ [.int kk]), .tup (ws.map P.int ++ [.int (-1)]), .tup (ws.map P.int ++ [.bl true]), .tup (List.replicate (20001 : Int).toNat [P.int 0]).flatten])) b = some (.lst (ws.map P.int)) := by rw [Store.upd_ne bf]; exact hb1
  have af : a ≠ f := Store.ne_of d1.at_ hf
  have ab : a ≠ b := Store.ne_of d.at_ hb
  generalize hL : [P.non, .loc b, .tup (ws.map P.int ++ [.int kk]), .tup (ws.map P.int ++ [.int (-1)]), .tup (ws.map P.int ++ [.bl true]), .tup (List.replicate (20001 : Int).toNat [P.int 0]).flatten] = L at d2 hf1 hb2 ⊢
  generalize S1.upd f (.lst L) = S2 at d2 hf1 hb2
  refine wp_callC (iss_cons (is_var rfl) (iss_cons is_lit iss_nil)) (draw_ok (k + 5) d2.at_ (by decide) (by decide) fun r x1 y1 r0 r1 => ?_)
  have d3 := d2.re (u := Bag3 x1 y1 z)
  have hf3 : (S2.upd a (Bag3 x1 y1 z)) f = some (.lst L) := by rw [Store.upd_ne (Ne.symm af)]; exact hf1
  have hb3 : (S2.upd a (Bag3 x1 y1 z)) b = some (.lst (ws.map P.int)) := by rw [Store.upd_ne (Ne.symm ab)]; exact hb2
  generalize S2.upd a (Bag3 x1 y1 z) = S3 at d3 hf3 hb3
  obtain ⟨i, rfl⟩ : ∃ i : Nat, r = i := ⟨r.toNat, (Int.toNat_of_nonneg r0).symm⟩
  have hi : i < L.length := by rw [← hL]; show i < 6; omega
  have lw := c.lw
  have prop : ∀ v ∈ L, isWordB kk 20000 v = false ∧ okV S3 v := by
    have okw : ∀ u, okV S3 u → okV S3 (.tup (ws.map P.int ++ [u])) := fun u hu => okVs_iff.mpr fun v hv => by
      rcases List.mem_append.mp hv with hv | hv
      · obtain ⟨n, _, rfl⟩ := List.mem_map.mp hv; exact trivial
      · cases List.mem_singleton.mp hv; exact hu
    have badw : ∀ u, inRange 0 (kk - 1) u = false → isWordB kk 20000 (.tup (ws.map P.int ++ [u])) = false := fun u hu => by
      rw [isWordB_tup, List.all_append]
      simp [hu]
    have rep : (List.replicate (20001 : Int).toNat [P.int 0]).flatten = List.replicate 20001 (P.int 0) := by
      have e : ∀ n : Nat, (List.replicate n [P.int 0]).flatten = List.replicate n (P.int 0) := fun n => by
        induction n with
        | zero => rfl
        | succ n ih => rw [List.replicate_succ, List.flatten_cons, ih, List.replicate_succ]; rfl
      exact e 20001
    intro v hv
    rw [← hL] at hv
    simp only [List.mem_cons, List.not_mem_nil, or_false] at hv
    rcases hv with rfl | rfl | rfl | rfl | rfl | rfl
    · exact ⟨rfl, trivial⟩
    · exact ⟨rfl, _, hb3⟩
    · exact ⟨badw _ (by show (decide (0 ≤ kk) && decide (kk ≤ kk - 1)) = false; rw [decide_eq_false (p := kk ≤ kk - 1) (by omega), Bool.and_false]), okw _ trivial⟩
    · exact ⟨badw _ rfl, okw _ trivial⟩
    · exact ⟨badw _ rfl, okw _ trivial⟩
    · rw [rep]
      refine ⟨?_, okVs_iff.mpr fun u hu => ?_⟩
      · rw [isWordB_tup, List.length_replicate]
        rfl
      · cases (List.mem_replicate.mp hu).2; exact trivial
  obtain ⟨hv1, hv2⟩ := prop L[i] (List.getElem_mem hi)
  have hv : L[i]? = some L[i] := by simp [hi]
  generalize L[i] = v at hv1 hv2 hv
  show opIdx (.loc f) (.int (i : Int)) S3 _
  simp only [opIdx, seqOf, hf3]
  intro _
  refine ⟨v, by rw [Core.atI_nat hi]; exact hv, ?_⟩
  show wpB _ _ [some (.loc a), some (tRules kk rows), some (.int kk), some (toP ws), v4, v5, v6, v7, v8, v9, v10, some v, v12] S3 _
  refine wp_seq (wp_ifX (bad_pair k (r := tRules kk rows) (v := v) rfl (fun u => is_var rfl) (fun u S' d => is_var rfl) (fun u S' d => is_var rfl) (fun S' d => is_var rfl) (fun S' d => is_var rfl) (ok_rules S3 kk rows) hv2 (badWord_val c.dr.val hv1) (by decide +kernel) bad_word (by decide +kernel)) (fun e => by cases e) fun _ S4 d4 => ?_)
  exact part_last k c rfl rfl rfl fun S5 d5 => q S5 x1 y1 ((d3.trans d4).trans d5)
end K60

set_option maxRecDepth 100000
set_option maxHeartbeats 4000000
namespace K60
open Core L2
open Dat (toP toD)
theorem rule_not : strIs (.str "rule") "rules" = false := by decide +kernel
theorem part_rules (k : Nat) {a : PySem.Addr} {x y z : Int} {kk : Int} {rows : List Row} {ws : List Int} {v4 v5 v6 v7 v8 v9 v10 v11 v12 : Option P} {S0 S : Store} {Q : QP} {E : QE} (c : Ctx kk rows ws) (d : SubS (S0.upd a (Bag3 x y z)) S) (q : ∀ S' x' y', SubS (S0.upd a (Bag3 x' y' z)) S' → dropQ Q (.bl true) S') :
    wpB (envAt D (k + 6)) (b__law_case.drop 16) [some (.loc a), some (tRules kk rows), some (.int kk), some (toP ws), v4, v5, v6, v7, v8, v9, v10, v11, v12] S (DE.fn Q E) := by
  have big := PySem.sizeLine_eq
  have ln := c.ln
  have few := c.dr.few
  have some1 := c.dr.some
  refine wp_seq (wp_setC ?_)
  unfold wpE wpE
  have rr : ∀ {S : Store} {E0 : QE}, Is (envAt D (k + 6)) (.var 1) [some (.loc a), some (tRules kk rows), some (.int kk), some (toP ws), v4, v5, v6, v7, v8, v9, v10, v11, v12] S E0 (.tup [.str "rules", .int kk, .tup (rows.map toP)]) := is_var rfl
  have r2 : ∀ {S : Store} {E0 : QE}, Is (envAt D (k + 6)) (.idx (.var 1) (.lit (.int 2))) [some (.loc a), some (tRules kk rows), some (.int kk), some (toP ws), v4, v5, v6, v7, v8, v9, v10, v11, v12] S E0 (.tup (rows.map toP)) := is_idx rr is_lit rfl rfl
  have kv : ∀ {S : Store} {E0 : QE}, Is (envAt D (k + 6)) (.var 2) [some (.loc a), some (tRules kk rows), some (.int kk), some (toP ws), v4, v5, v6, v7, v8, v9, v10, v11, v12] S E0 (.int kk) := is_var rfl
  have s0 : ∀ {S : Store} {E0 : QE} {i : Int}, IsO (envAt D (k + 6)) (some (.lit (.int i))) [some (.loc a), some (tRules kk rows), some (.int kk), some (toP ws), v4, v5, v6, v7, v8, v9, v10, v11, v12] S E0 (some i) := is_lit
  have sn : ∀ {S : Store} {E0 : QE}, IsO (envAt D (k + 6)) none [some (.loc a), some (tRules kk rows), some (.int kk), some (toP ws), v4, v5, v6, v7, v8, v9, v10, v11, v12] S E0 none := trivial
  have l1 : (rows.map (toP : Row → P)).length + 1 ≤ PySem.sizeLine := by rw [List.length_map]; omega
  refine es_is is_lit (es_is (is_slcT rr sn s0) (es_is (is_cat (is_tup (iss_cons is_lit iss_nil)) (is_slcT rr s0 sn) (Nat.le_trans (Nat.add_le_add_left cut_le _) (by show 1 + 3 ≤ _; omega))) (es_is (is_tup (iss_cons is_lit (iss_cons is_lit (iss_cons r2 iss_nil)))) (es_is (is_tup (iss_cons is_lit (iss_cons is_lit (iss_cons r2 iss_nil)))) (es_is (is_tup (iss_cons is_lit (iss_cons kv (iss_cons (is_tup iss_nil) iss_nil)))) ?_)))))
  unfold wpEs wpE
  refine es_is is_lit (es_is kv ?_)
  unfold wpEs wpE
  refine es_is r2 (es_nil ?_)
  show bfS .list [.tup (rows.map toP)] S _
  show (rows.map (toP : Row → P)).length ≤ PySem.sizeLine → _
  intro _ b hb
  have d1 := d.updr (a := b) (o := .lst (rows.map toP)) (d.free hb)
  have hb1 : (S.upd b (.lst (rows.map toP))) b = some (.lst (rows.map toP)) := Store.upd_same
  generalize S.upd b (.lst (rows.map toP)) = S1 at d1 hb1
  refine es_nil ?_
  refine es_is (is_tup (iss_cons is_lit (iss_cons kv (iss_cons (is_cat r2 (is_tup (iss_cons (is_tup (iss_cons (is_tup iss_nil) (iss_cons (is_tup (iss_cons is_lit iss_nil)) iss_nil))) iss_nil)) l1) iss_nil)))) ?_
  refine es_is (is_tup (iss_cons is_lit (iss_cons kv (iss_cons (is_cat r2 (is_tup (iss_cons (is_tup (iss_cons (is_tup (iss_cons kv iss_nil)) (iss_cons (is_tup (iss_cons is_lit iss_nil)) iss_nil))) iss_nil)) l1) iss_nil)))) ?_
  refine es_is (is_tup (iss_cons is_lit (iss_cons kv (iss_cons (is_cat r2 (is_tup (iss_cons (is_tup (iss_cons (is_rep (is_tup (iss_cons is_lit iss_nil)) is_lit (by decide) (by decide) (by rw [PySem.sizeLine_eq]; decide)) (iss_cons (is_tup iss_nil) iss_nil))) iss_nil)) l1) iss_nil)))) ?_
  refine es_is (is_tup (iss_cons is_lit (iss_cons kv (iss_cons (is_rep r2 is_lit (by decide) (by decide) (by rw [List.length_map]; have : (401 : Int).toNat = 401 := rfl; rw [this]; omega)) iss_nil)))) ?_
  refine es_is (is_tup (iss_cons is_lit (iss_cons is_lit (iss_cons r2 iss_nil)))) (es_nil fun f hf => ?_)
  generalize hL : [P.non, .tup (cutP [.str "rules", .int kk, .tup (rows.map toP)] none (some 2)), .tup ([.str "rule"] ++ cutP [.str "rules", .int kk, .tup (rows.map toP)] (some 1) none), .tup [.str "rules", .int 0, .tup (rows.map toP)], .tup [.str "rules", .bl true, .tup (rows.map toP)], .tup [.str "rules", .int kk, .tup []], .tup [.str "rules", .int kk, .loc b], .tup [.str "rules", .int kk, .tup (rows.map toP ++ [.tup [.tup [], .tup [.int 0]]])], .tup [.str "rules", .int kk, .tup (rows.map toP ++ [.tup [.tup [.int kk], .tup [.int 0]]])], .tup [.str "rules", .int kk, .tup (rows.map toP ++ [.tup [.tup (List.replicate (7 : Int).toNat [P.int 0]).flatten, .tup []]])], .tup [.str "rules", .int kk, .tup (List.replicate (401 : Int).toNat (rows.map toP)).flatten], .tup [.str "rules", .int 201, .tup (rows.map toP)]] = L
  have d2 := d1.updr (a := f) (o := .lst L) (d1.free hf)
  have hf1 : (S1.upd f (.lst L)) f = some (.lst L) := Store.upd_same
  have bf : b ≠ f := Store.ne_of hb1 hf
  have hb2 : (S1.upd f (.lst L)) b = some (.lst (rows.map toP)) := by rw [Store.upd_ne bf]; exact hb1
  have af : a ≠ f := Store.ne_of d1.at_ hf
  have ab : a ≠ b := Store.ne_of d.at_ hb
  generalize S1.upd f (.lst L) = S2 at d2 hf1 hb2
  refine wp_callC (iss_cons (is_var rfl) (iss_cons is_lit iss_nil)) (draw_ok (k + 5) d2.at_ (by decide) (by decide) fun r x1 y1 r0 r1 => ?_)
  have d3 := d2.re (u := Bag3 x1 y1 z)
  have hf3 : (S2.upd a (Bag3 x1 y1 z)) f = some (.lst L) := by rw [Store.upd_ne (Ne.symm af)]; exact hf1
  have hb3 : (S2.upd a (Bag3 x1 y1 z)) b = some (.lst (rows.map toP)) := by rw [Store.upd_ne (Ne.symm ab)]; exact hb2
  generalize S2.upd a (Bag3 x1 y1 z) = S3 at d3 hf3 hb3
  obtain ⟨i, rfl⟩ : ∃ i : Nat, r = i := ⟨r.toNat, (Int.toNat_of_nonneg r0).symm⟩
  have hi : i < L.length := by rw [← hL]; show i < 12; omega
  have prop : ∀ v ∈ L, isRulesB v = false ∧ okV S3 v := by
    have okr : okVs S3 (rows.map toP) := (ok_rules S3 kk rows).2.2.1
    have ok3 : ∀ u w, okV S3 u → okV S3 w → okV S3 (.tup [.str "rules", u, w]) := fun u w h1 h2 => ⟨(show PySem.PyData.strOk _ = true by decide +kernel), h1, h2, trivial⟩
    have okp : ∀ u, okV S3 u → okV S3 (.tup (rows.map toP ++ [u])) := fun u hu => okVs_iff.mpr fun v hv => by
      rcases List.mem_append.mp hv with hv | hv
      · exact okVs_iff.mp okr v hv
      · cases List.mem_singleton.mp hv; exact hu
    have plus : ∀ u, rowB kk u = false → isRulesB (.tup [.str "rules", .int kk, .tup (rows.map toP ++ [u])]) = false := fun u hu => by
      rw [isRulesB_3]
      have e : (items (.tup (rows.map toP ++ [u]))).all (rowB (intOf (.int kk))) = false := by
        show (rows.map toP ++ [u]).all (rowB kk) = false
        rw [List.all_append]
        simp [hu]
      rw [e]
      simp
    intro v hv
    rw [← hL] at hv
    simp only [List.mem_cons, List.not_mem_nil, or_false] at hv
    rcases hv with rfl | rfl | rfl | rfl | rfl | rfl | rfl | rfl | rfl | rfl | rfl | rfl
    · exact ⟨rfl, trivial⟩
    · exact ⟨rfl, (show PySem.PyData.strOk _ = true by decide +kernel), trivial, trivial⟩
    · refine ⟨?_, (show PySem.PyData.strOk _ = true by decide +kernel), trivial, okr, trivial⟩
      show isRulesB (.tup [.str "rule", .int kk, .tup (rows.map toP)]) = false
      rw [isRulesB_3, rule_not]
      simp
    · exact ⟨by rw [isRulesB_3, show inRange 1 200 (.int 0) = false from rfl]; simp, ok3 _ _ trivial okr⟩
    · exact ⟨by rw [isRulesB_3, show inRange 1 200 (.bl true) = false from rfl]; simp, ok3 _ _ trivial okr⟩
    · exact ⟨by rw [isRulesB_3, show decide (1 ≤ (items (.tup [])).length) = false from rfl]; simp, ok3 _ _ trivial trivial⟩
    · exact ⟨by rw [isRulesB_3, show isTup (.loc b) = false from rfl]; simp, ok3 _ _ trivial ⟨_, hb3⟩⟩
    · exact ⟨plus _ (by show (_ && (true && (_ && !decide (([] : List P).length = 0)))) = false; simp), ok3 _ _ trivial (okp _ ⟨trivial, ⟨trivial, trivial⟩, trivial⟩)⟩
    · refine ⟨plus _ ?_, ok3 _ _ trivial (okp _ ⟨⟨trivial, trivial⟩, ⟨trivial, trivial⟩, trivial⟩)⟩
      have e : isWordB kk 6 (.tup [.int kk]) = false := by
        rw [isWordB_tup]
        show (_ && ((decide (0 ≤ kk) && decide (kk ≤ kk - 1)) && true)) = false
        rw [decide_eq_false (p := kk ≤ kk - 1) (by omega)]
        simp
      show (true && (true && ((isWordB kk 6 (.tup [.int kk]) && _) && _))) = false
      rw [e]
      simp
    · refine ⟨plus _ ?_, ok3 _ _ trivial (okp _ ⟨?_, trivial, trivial⟩)⟩
      · have e : isWordB kk 6 (.tup (List.replicate (7 : Int).toNat [P.int 0]).flatten) = false := rfl
        show (true && (true && ((isWordB kk 6 (.tup (List.replicate (7 : Int).toNat [P.int 0]).flatten) && _) && _))) = false
        rw [e]
        simp
      · exact ⟨trivial, trivial, trivial, trivial, trivial, trivial, trivial, trivial⟩
    · refine ⟨?_, ok3 _ _ trivial (okVs_iff.mpr fun u hu => ?_)⟩
      · rw [isRulesB_3]
        have e : decide ((items (.tup (List.replicate (401 : Int).toNat (rows.map (toP : Row → P))).flatten)).length ≤ 400) = false := by
          show decide ((List.replicate 401 (rows.map (toP : Row → P))).flatten.length ≤ 400) = false
          rw [PyProof.Rows.lm_len_rep_flat, List.length_map]
          exact decide_eq_false (by omega)
        rw [e]
        simp
      · obtain ⟨l, hl, hu⟩ := List.mem_flatten.mp hu
        rw [(List.mem_replicate.mp hl).2] at hu
        exact okVs_iff.mp okr u hu
    · exact ⟨by rw [isRulesB_3, show inRange 1 200 (.int 201) = false from rfl]; simp, ok3 _ _ trivial okr⟩
  obtain ⟨hv1, hv2⟩ := prop L[i] (List.getElem_mem hi)
  have hv : L[i]? = some L[i] := by simp [hi]
  generalize L[i] = v at hv1 hv2 hv
  show opIdx (.loc f) (.int (i : Int)) S3 _
  simp only [opIdx, seqOf, hf3]
  intro _
  refine ⟨v, by rw [Core.atI_nat hi]; exact hv, ?_⟩
  show wpB _ _ [some (.loc a), some (tRules kk rows), some (.int kk), some (toP ws), v4, v5, v6, v7, v8, v9, v10, some v, v12] S3 _
  refine wp_seq (wp_ifX (ix_or (x := false) (is_cmp (op := .IsNot) (v := false) (p := .bl false) (r := .bl false) (is_call (iss_cons (is_var rfl) iss_nil) fun R r => rules_ok (k + 3) hv2 (by rw [hv1]; exact r)) is_lit fun R r => r).x fun _ S4 d4 => bad_pair k (r := v) (v := toP ws) rfl (fun u => is_var rfl) (fun u S' d => is_var rfl) (fun u S' d => is_var rfl) (fun S' d => is_var rfl) (fun S' d => is_var rfl) (hv2.ext d4) (ok_word S4 ws) (badWord_no hv1) (by decide +kernel) bad_rules (by decide +kernel)) (fun e => by cases e) fun _ S4 d4 => ?_)
  exact part_word k c (d3.trans d4) q
end K60

set_option maxRecDepth 100000
set_option maxHeartbeats 4000000
namespace K60
open Core L2
open Dat (toP toD)
def slot9 (ρ : List (Option P)) : Nat := match ρ[9]? with
  | some (some (P.int s)) => s.toNat
  | _ => 0
theorem run_none {rows : List Row} {w : List Int} (h : allFits rows w = []) : ∀ m, run rows m w = (w, 0)
  | 0 => rfl
  | m + 1 => by
    unfold run
    have e : nextW rows w = none := by unfold nextW; rw [h]
    rw [e]
theorem run_one {rows : List Row} {w u : List Int} {m : Nat} (h : nextW rows w = some u) : run rows (m + 1) w = ((run rows m u).1, (run rows m u).2 + 1) := by
  conv => lhs; unfold run
  rw [h]
theorem part_run (k : Nat) {a : PySem.Addr} {x y z : Int} {kk : Int} {rows : List Row} {ws : List Int} {v4 v5 v6 v7 v8 v9 v10 v11 v12 : Option P} {S0 S : Store} {Q : QP} {E : QE} (c : Ctx kk rows ws) (d : SubS (S0.upd a (Bag3 x y z)) S) (q : ∀ S' x' y', SubS (S0.upd a (Bag3 x' y' z)) S' → dropQ Q (.bl true) S') :
    wpB (envAt D (k + 6)) (b__law_case.drop 11) [some (.loc a), some (tRules kk rows), some (.int kk), some (toP ws), v4, v5, v6, v7, v8, v9, v10, v11, v12] S (DE.fn Q E) := by
  have big := PySem.sizeLine_eq
  have ln := c.ln
  have sm := c.small
  have few := c.dr.few
  refine wp_seq (wp_setC ?_)
  refine wp_callC (iss_cons (is_var rfl) (iss_cons is_lit iss_nil)) (draw_ok (k + 5) d.at_ (by decide) (by decide) fun r x1 y1 r0 r1 => ?_)
  have d1 := d.re (u := Bag3 x1 y1 z)
  generalize S.upd a (Bag3 x1 y1 z) = S1 at d1
  obtain ⟨most, rfl⟩ : ∃ i : Nat, r = i := ⟨r.toNat, (Int.toNat_of_nonneg r0).symm⟩
  show wpB _ _ [some (.loc a), some (tRules kk rows), some (.int kk), some (toP ws), v4, v5, v6, v7, some (.int most), v9, v10, v11, v12] S1 _
  refine wp_seq (wp_set is_lit (wp_seq (wp_set (is_var (i := 3) (p := toP ws) rfl) (wp_seq ?_))))
  refine wp_while (fun ρ' S' => SubS (S0.upd a (Bag3 x1 y1 z)) S' ∧ ∃ (w : List Int) (s : Nat) (v6 v7 : Option P), s ≤ most ∧ w.length ≤ 12 + 6 * s ∧ run rows most ws = ((run rows (most - s) w).1, (run rows (most - s) w).2 + s) ∧ ρ' = [some (.loc a), some (tRules kk rows), some (.int kk), some (toP ws), v4, v5, v6, v7, some (.int most), some (.int s), some (toP w), v11, v12]) (fun ρ' _ => most - slot9 ρ') ⟨d1, ws, 0, v6, v7, Nat.zero_le _, by omega, rfl, rfl⟩ ?_ (env_mono D _)
  rintro ρ' S' ⟨d2, w, s, u6, u7, hs, hw, hr, rfl⟩
  have val : ∀ {S3 : Store} (R : QP), (∀ S4, SubS S3 S4 → ∀ b, S4 b = some (.lst ((allFits rows w).map toP)) → R (.loc b) S4) → wpE (envAt D (k + 6)) (.call 16 [(.var 1), (.var 10)]) [some (.loc a), some (tRules kk rows), some (.int kk), some (toP ws), v4, v5, u6, u7, some (.int most), some (.int s), some (toP w), v11, v12] S3 R (dropE E) := fun {S3} R hR => wp_callC (iss_cons (is_var rfl) (iss_cons (is_var rfl) iss_nil)) (lawFits_ok (k + 5) (by omega) (by omega) fun b hb => hR _ (.upd hb) b Store.upd_same)
  have cond : Ix (envAt D (k + 6)) (.and_ (.cmp .Lt (.var 9) (.var 8)) (.cmp .NotEq (.call 16 [(.var 1), (.var 10)]) (.lst []))) [some (.loc a), some (tRules kk rows), some (.int kk), some (toP ws), v4, v5, u6, u7, some (.int most), some (.int s), some (toP w), v11, v12] S' (dropE E) (.bl (decide ((s : Int) < most) && !decide (allFits rows w = []))) := by
    refine ix_and (is_lt (is_var rfl) (is_var rfl)).x fun _ S3 d3 R r => ?_
    unfold wpE
    refine val _ fun S4 d4 b hb => ?_
    unfold wpE
    refine es_nil fun f hf => ?_
    have bf : b ≠ f := Store.ne_of hb hf
    simp only [opCmp]
    exact eq_lst (α := Int × Int) (allFits rows w) [] (by decide) (by rw [Store.upd_ne bf]; exact hb) Store.upd_same (r _ (d4.updr (d4.free hf)))
  refine cond _ fun S3 d3 => ⟨_, rfl, fun e => ?_, fun e => ?_⟩
  · simp only [Bool.and_eq_true, decide_eq_true_eq, Bool.not_eq_true', decide_eq_false_iff_not] at e
    obtain ⟨e1, e2⟩ := e
    obtain ⟨p, n, more, hm⟩ : ∃ p n more, allFits rows w = (p, n) :: more := by
      cases q : allFits rows w with
      | nil => exact absurd q e2
      | cons y ys => exact ⟨y.1, y.2, ys, rfl⟩
    obtain ⟨p0, p1, pn⟩ := allFits_mem.mp (show (p, n) ∈ allFits rows w by rw [hm]; simp)
    obtain ⟨n0, n1⟩ := fitsAt_mem pn
    have hx : nextW rows w = some (putW rows w p.toNat n.toNat) := by unfold nextW; rw [hm]
    refine wp_seq ?_
    unfold wpS wpE
    refine val _ fun S4 d4 b hb => is_lit _ ?_
    simp only [opIdx, seqOf, hb]
    intro _
    refine ⟨toP (p, n), by rw [hm]; show atI _ ((0 : Nat) : Int) = _; rw [Core.atI_nat (by simp)]; rfl, ?_⟩
    unfold wpT
    show _ ∧ wpTs _ _ [.int p, .int n] _ _ _ _
    refine ⟨rfl, ?_⟩
    show wpB _ _ [some (.loc a), some (tRules kk rows), some (.int kk), some (toP ws), v4, v5, some (.int p), some (.int n), some (.int most), some (.int s), some (toP w), v11, v12] S4 _
    have ep : P.int p = P.int (p.toNat : Int) := by rw [Int.toNat_of_nonneg p0]
    have en : P.int n = P.int (n.toNat : Int) := by rw [Int.toNat_of_nonneg n0]
    refine wp_seq (wp_set (p := toP (putW rows w p.toNat n.toNat)) (is_call (iss_cons (is_var rfl) (iss_cons (is_var rfl) (iss_cons (is_var rfl) (iss_cons (is_var rfl) iss_nil)))) fun R r => ?_) (wp_seq (wp_set (is_add (is_var rfl) is_lit) ?_)))
    · rw [ep, en]
      exact lawPut_ok (k + 5) sm n1 (by omega) r
    · have len := nextW_len sm hx
      have e3 : most - s = (most - (s + 1)) + 1 := by omega
      refine ⟨⟨(d2.trans d3).trans d4, putW rows w p.toNat n.toNat, s + 1, some (.int p), some (.int n), by omega, by omega, ?_, rfl⟩, ?_⟩
      · rw [hr, e3, run_one hx]
        simp only
        rw [show (run rows (most - (s + 1)) (putW rows w p.toNat n.toNat)).2 + 1 + s = (run rows (most - (s + 1)) (putW rows w p.toNat n.toNat)).2 + (s + 1) by omega]
      · show most - ((s : Int) + 1).toNat < most - (s : Int).toNat
        omega
  · have fin : run rows most ws = (w, s) := by
      rw [hr]
      by_cases e1 : s = most
      · subst e1
        rw [Nat.sub_self]
        simp [run]
      · have e2 : allFits rows w = [] := by
          rw [decide_eq_true (by omega), Bool.true_and] at e
          simpa using e
        rw [run_none e2]
        simp
    refine wp_seq (wp_ifX (x := false) (ix_ne (p := toP (w, (s : Int))) (r := toP (w, (s : Int))) (v := true) (ix_call (iss_cons (is_var rfl) (iss_cons (is_var rfl) (iss_cons (is_var rfl) iss_nil))).x fun S4 d4 R r => ?_) (fun S4 d4 => (is_tup (iss_cons (is_var rfl) (iss_cons (is_var rfl) iss_nil))).x) fun S4 d4 k q => eq_dat (α := List Int × Int) _ _ (by decide) (by rw [decide_eq_true rfl]; exact q)) (fun e => by cases e) fun _ S4 d4 => ?_)
    · refine run_rules_ok (k + 1) (ok_rules S4 kk rows) (ok_word S4 ws) trivial (fun u hu => by rw [c.good.ok] at hu; cases hu) (fun _ z => ?_) fun _ _ => ⟨kk, rows, ws, most, rfl, rfl, rfl, by omega, ?_⟩
      · have : inRange 0 100000 (.int (most : Int)) = true := by
          show (decide ((0 : Int) ≤ most) && decide ((most : Int) ≤ 100000)) = true
          rw [decide_eq_true (by omega), decide_eq_true (by omega)]
          rfl
        rw [this] at z; cases z
      · rw [fin]
        exact r S4 (.refl S4)
    · exact part_rules k c ((d2.trans d3).trans d4) q
end K60

set_option maxRecDepth 100000
set_option maxHeartbeats 4000000
namespace K60
open Core L2
open Dat (toP toD)
theorem putW_len {rows : List Row} {ws : List Int} (sm : Small rows) (p n : Nat) : (putW rows ws p n).length ≤ ws.length + 6 := by
  unfold putW
  split
  · rename_i l r hr
    have := sm (l, r) (List.mem_of_getElem? hr)
    rw [List.length_append, List.length_append, List.length_take, List.length_drop]
    simp only at this
    omega
  · omega
theorem part_place (k : Nat) {a f : PySem.Addr} {x y z : Int} {kk : Int} {rows : List Row} {ws : List Int} {v5 v6 v7 v8 v9 v10 v11 v12 : Option P} {S0 S : Store} {Q : QP} {E : QE} (c : Ctx kk rows ws) (d : SubS (S0.upd a (Bag3 x y z)) S) (hf : S f = some (.lst ((allFits rows ws).map toP))) (af : a ≠ f) (q : ∀ S' x' y', SubS (S0.upd a (Bag3 x' y' z)) S' → dropQ Q (.bl true) S') :
    wpB (envAt D (k + 6)) (b__law_case.drop 8) [some (.loc a), some (tRules kk rows), some (.int kk), some (toP ws), some (.loc f), v5, v6, v7, v8, v9, v10, v11, v12] S (DE.fn Q E) := by
  have sm := c.small
  have ln := c.ln
  refine wp_seq (wp_setC ?_)
  unfold wpE
  refine wp_callC (iss_cons (is_var rfl) (iss_cons is_lit iss_nil)) (draw_ok (k + 5) d.at_ (by decide) (by decide) fun r x1 y1 r0 r1 => is_lit _ ?_)
  have d1 := d.re (u := Bag3 x1 y1 z)
  have hf1 : (S.upd a (Bag3 x1 y1 z)) f = some (.lst ((allFits rows ws).map toP)) := by rw [Store.upd_ne (Ne.symm af)]; exact hf
  generalize S.upd a (Bag3 x1 y1 z) = S1 at d1 hf1
  simp only [opBin]
  show wpB _ _ [some (.loc a), some (tRules kk rows), some (.int kk), some (toP ws), some (.loc f), v5, some (.int (r - 1)), v7, v8, v9, v10, v11, v12] S1 _
  refine wp_seq (wp_setC ?_)
  refine wp_callC (iss_cons (is_var rfl) (iss_cons is_lit iss_nil)) (draw_ok (k + 5) d1.at_ (by decide) (by decide) fun n x2 y2 n0 n1 => ?_)
  have d2 := d1.re (u := Bag3 x2 y2 z)
  have hf2 : (S1.upd a (Bag3 x2 y2 z)) f = some (.lst ((allFits rows ws).map toP)) := by rw [Store.upd_ne (Ne.symm af)]; exact hf1
  generalize S1.upd a (Bag3 x2 y2 z) = S2 at d2 hf2
  show wpB _ _ [some (.loc a), some (tRules kk rows), some (.int kk), some (toP ws), some (.loc f), v5, some (.int (r - 1)), some (.int n), v8, v9, v10, v11, v12] S2 _
  refine wp_seq (wp_ifX (x := false) ?_ (fun e => by cases e) fun _ S3 d3 => part_run k c (d2.trans d3) q)
  by_cases m : (r - 1, n) ∈ allFits rows ws
  · have := ix_and (G := envAt D (k + 6)) (ρ := [some (.loc a), some (tRules kk rows), some (.int kk), some (toP ws), some (.loc f), v5, some (.int (r - 1)), some (.int n), v8, v9, v10, v11, v12]) (S := S2) (E := dropE E) (a := .cmp .NotIn (.tup [(.var 6), (.var 7)]) (.var 4)) (b := .cmp .NotEq (.call 18 [(.fnv 8), (.tup [(.var 1), (.var 3), (.var 6), (.var 7)])]) (.lit (.str "none"))) (x := false) (y := false) (is_cmp (op := .NotIn) (p := toP (r - 1, n)) (r := .loc f) (is_tup (iss_cons (is_var rfl) (iss_cons (is_var rfl) iss_nil))) (is_var rfl) fun R r => ?_).x (fun e => by cases e)
    · exact this
    · simp only [opCmp, hf2]
      refine in_lst (α := Int × Int) (k := fun b => R (.bl (!b)) S2) _ _ (by decide) ?_
      simpa [m] using r
  · refine ix_and (x := true) (y := false) (is_cmp (op := .NotIn) (p := toP (r - 1, n)) (r := .loc f) (is_tup (iss_cons (is_var rfl) (iss_cons (is_var rfl) iss_nil))) (is_var rfl) fun R r => ?_).x fun _ S3 d3 => ix_neStrs (by decide +kernel) (ix_call (iss_cons is_fnv (iss_cons (is_tup (iss_cons (is_var rfl) (iss_cons (is_var rfl) (iss_cons (is_var rfl) (iss_cons (is_var rfl) iss_nil))))) iss_nil)).x fun S4 d4 R r => told_ok (k + 5) (.inr (.inr rfl)) (rewritten_ok k c.good (fun _ => .inl ⟨rfl, r S4 (.refl S4)⟩) (fun z => absurd z m) fun z => absurd z m))
    simp only [opCmp, hf2]
    refine in_lst (α := Int × Int) (k := fun b => R (.bl (!b)) S2) _ _ (by decide) ?_
    simpa [m] using r
theorem part_next (k : Nat) {a f : PySem.Addr} {x y z : Int} {kk : Int} {rows : List Row} {ws : List Int} {v6 v7 v8 v9 v10 v11 v12 : Option P} {S0 S : Store} {Q : QP} {E : QE} (c : Ctx kk rows ws) (d : SubS (S0.upd a (Bag3 x y z)) S) (hf : S f = some (.lst ((allFits rows ws).map toP))) (af : a ≠ f) (q : ∀ S' x' y', SubS (S0.upd a (Bag3 x' y' z)) S' → dropQ Q (.bl true) S') :
    wpB (envAt D (k + 6)) (b__law_case.drop 7) [some (.loc a), some (tRules kk rows), some (.int kk), some (toP ws), some (.loc f), some (toP (nextW rows ws)), v6, v7, v8, v9, v10, v11, v12] S (DE.fn Q E) := by
  have sm := c.small
  have ln := c.ln
  refine wp_seq (wp_ifX (x := false) (ix_ne (p := toP (nextW rows ws)) (r := toP (nextW rows ws)) (v := true) (ix_call (iss_cons (is_var rfl) (iss_cons (is_var rfl) iss_nil)).x fun S4 d4 R r => ?_) (fun S4 d4 => (is_var rfl).x) fun S4 d4 k q => eq_dat (α := Option (List Int)) _ _ (by decide) (by rw [decide_eq_true rfl]; exact q)) (fun e => by cases e) fun _ S3 d3 => part_place k c (d.trans d3) (d3 _ _ hf) af q)
  refine next_word_ok (k + 1) (ok_rules S4 kk rows) (ok_word S4 ws) (fun u hu => by rw [c.good.ok] at hu; cases hu) fun _ => ⟨kk, rows, ws, rfl, rfl, fun e => ?_, fun w e l => ?_, fun w e l => ?_⟩
  · have := r S4 (.refl S4)
    rw [e] at this
    exact this
  · have := r S4 (.refl S4)
    rw [e] at this
    exact this
  · exfalso
    have := nextW_len sm e
    omega
theorem case_ok (k : Nat) {a : PySem.Addr} {x y z : Int} {S : Store} {Q : QP} {E : QE} (hs : S a = some (Bag3 x y z)) (h : ∀ x' y', Q (.bl true) (S.upd a (Bag3 x' y' z))) : (envAt D (k + 7)).fn 19 [.loc a] S Q E := by
  rw [env_fn (d := ⟨1, 13, b__law_case⟩) rfl]
  refine ⟨rfl, ?_⟩
  show wpB _ b__law_case [some (.loc a), none, none, none, none, none, none, none, none, none, none, none, none] S _
  have q : ∀ S' x' y', SubS (S.upd a (Bag3 x' y' z)) S' → dropQ Q (.bl true) S' := fun S' x' y' d => drop d (h x' y')
  refine wp_seq (wp_setC (wp_callC (iss_cons (is_var rfl) iss_nil) (lawRules_ok (k + 3) hs fun kk rows x1 y1 dr => ?_)))
  refine wp_seq (wp_set (p := .int kk) (is_idx (p := tRules kk rows) (is_var rfl) is_lit (i := 1) rfl rfl) (wp_seq (wp_setC ?_)))
  refine wp_callC (iss_cons (is_var rfl) (iss_cons (is_var rfl) (iss_cons is_lit iss_nil))) (lawWord_ok (k + 4) (most := 12) (Store.upd_same (S := S) (a := a) (o := Bag3 x1 y1 z)) (by have := dr.lo; omega) (by have := dr.hi; omega) (by decide) fun ws x2 y2 lw ln => ?_)
  rw [Store.upd_upd]
  have c : Ctx kk rows ws := ⟨dr, lw, ln⟩
  have sm := c.small
  have few := dr.few
  have d0 := SubS.refl (S.upd a (Bag3 x2 y2 z))
  refine wp_seq (wp_setC (wp_callC (iss_cons (is_var rfl) (iss_cons (is_var rfl) iss_nil)) (lawFits_ok (k + 5) (by omega) (by omega) fun f hf => ?_)))
  have af : a ≠ f := Store.ne_of (Store.upd_same (S := S) (a := a) (o := Bag3 x2 y2 z)) hf
  have d1 := SubS.upd (o := MO.lst ((allFits rows ws).map toP)) hf
  have hf1 : ((S.upd a (Bag3 x2 y2 z)).upd f (.lst ((allFits rows ws).map toP))) f = some (.lst ((allFits rows ws).map toP)) := Store.upd_same
  generalize (S.upd a (Bag3 x2 y2 z)).upd f (.lst ((allFits rows ws).map toP)) = S1 at d1 hf1
  show wpB _ _ [some (.loc a), some (tRules kk rows), some (.int kk), some (toP ws), some (.loc f), none, none, none, none, none, none, none, none] S1 _
  refine wp_seq (wp_ifX (x := false) (ix_or (x := false) (is_cmp (op := .IsNot) (v := false) (p := .bl true) (r := .bl true) (is_call (iss_cons (is_var rfl) iss_nil) fun R r => rules_ok (k + 3) (ok_rules _ _ _) (by rw [dr.val]; exact r)) is_lit fun R r => r).x fun _ S2 d2 => ix_ne (p := toP (allFits rows ws)) (r := toP (allFits rows ws)) (v := true) (ix_call (iss_cons (is_var rfl) (iss_cons (is_var rfl) iss_nil)).x fun S4 d4 R r => ?_) (fun S4 d4 => (is_tuple (p := .loc f) (xs := (allFits rows ws).map toP) (is_var rfl) (by simp only [seqOf, d4 _ _ (d2 _ _ hf1)])).x) fun S4 d4 k q => eq_dat (α := List (Int × Int)) _ _ (by decide) (by rw [decide_eq_true rfl]; exact q)) (fun e => by cases e) fun _ S2 d2 => ?_)
  · exact fits_ok (k + 1) (ok_rules S4 kk rows) (ok_word S4 ws) (fun u hu => by rw [c.good.ok] at hu; cases hu) fun _ => ⟨kk, rows, ws, rfl, rfl, r S4 (.refl S4)⟩
  · have d3 := d1.trans d2
    have hf2 := d2 _ _ hf1
    refine wp_seq (wp_set (p := .non) is_lit (wp_seq ?_))
    show wpS _ _ [some (.loc a), some (tRules kk rows), some (.int kk), some (toP ws), some (.loc f), some .non, none, none, none, none, none, none, none] S2 _
    refine wp_ifX (x := !decide (allFits rows ws = [])) (fun R r => ?_) (fun e S3 d4 => ?_) fun e S3 d4 => ?_
    · unfold wpE
      refine is_var rfl _ ?_
      unfold wpE
      refine es_nil fun g hg => ?_
      have fg : f ≠ g := Store.ne_of hf2 hg
      simp only [opCmp]
      exact eq_lst (α := Int × Int) (allFits rows ws) [] (by decide) (by rw [Store.upd_ne fg]; exact hf2) Store.upd_same (r _ (.upd hg))
    · have e : allFits rows ws ≠ [] := by simpa using e
      have d5 := d3.trans d4
      have hf3 := d4 _ _ hf2
      obtain ⟨p, n, more, hm⟩ : ∃ p n more, allFits rows ws = (p, n) :: more := by
        cases q : allFits rows ws with
        | nil => exact absurd q e
        | cons y ys => exact ⟨y.1, y.2, ys, rfl⟩
      obtain ⟨p0, p1, pn⟩ := allFits_mem.mp (show (p, n) ∈ allFits rows ws by rw [hm]; simp)
      obtain ⟨n0, n1⟩ := fitsAt_mem pn
      have hx : nextW rows ws = some (putW rows ws p.toNat n.toNat) := by unfold nextW; rw [hm]
      have ep : P.int p = P.int (p.toNat : Int) := by rw [Int.toNat_of_nonneg p0]
      have en : P.int n = P.int (n.toNat : Int) := by rw [Int.toNat_of_nonneg n0]
      have first0 : ∀ {E0 : QE}, Is (envAt D (k + 6)) (.idx (.var 4) (.lit (.int 0))) [some (.loc a), some (tRules kk rows), some (.int kk), some (toP ws), some (.loc f), some .non, none, none, none, none, none, none, none] S3 E0 (toP (p, n)) := is_idx (is_var rfl) is_lit (xs := (allFits rows ws).map toP) (by simp only [seqOf, hf3]) (by rw [hm]; show atI _ ((0 : Nat) : Int) = _; rw [Core.atI_nat (by simp)]; rfl)
      refine wp_seq (wp_set (p := toP (putW rows ws p.toNat n.toNat)) (is_call (iss_cons (is_var rfl) (iss_cons (is_var rfl) (iss_cons (is_idx (v := .int p) first0 is_lit rfl rfl) (iss_cons (is_idx (v := .int n) first0 is_lit rfl rfl) iss_nil)))) fun R r => ?_) (wp_seq ?_))
      · rw [ep, en]
        exact lawPut_ok (k + 5) sm n1 (by omega) r
      show wpS _ _ [some (.loc a), some (tRules kk rows), some (.int kk), some (toP ws), some (.loc f), some (toP (putW rows ws p.toNat n.toNat)), none, none, none, none, none, none, none] S3 _
      have big := PySem.sizeLine_eq
      have lens : (allFits rows ws).length ≤ 12 * 4 := Nat.le_trans (flat_len rows ws ws.length) (Nat.mul_le_mul (by omega) few)
      have pos : 0 < (allFits rows ws).length := by rw [hm]; simp
      unfold wpS wpE
      refine is_var rfl _ (wp_callC (iss_cons (is_var rfl) (iss_cons (is_len (p := .loc f) (xs := (allFits rows ws).map toP) (is_var rfl) (by simp only [seqOf, hf3])) iss_nil)) (draw_ok (k + 5) d5.at_ (by rw [List.length_map]; omega) (by rw [List.length_map]; omega) fun r x3 y3 r0 r1 => ?_))
      have d6 := d5.re (u := Bag3 x3 y3 z)
      have hf4 : (S3.upd a (Bag3 x3 y3 z)) f = some (.lst ((allFits rows ws).map toP)) := by rw [Store.upd_ne (Ne.symm af)]; exact hf3
      generalize S3.upd a (Bag3 x3 y3 z) = S4 at d6 hf4
      obtain ⟨i, rfl⟩ : ∃ i : Nat, r = i := ⟨r.toNat, (Int.toNat_of_nonneg r0).symm⟩
      rw [List.length_map] at r1
      have hi : i < (allFits rows ws).length := by omega
      have hv : (allFits rows ws)[i]? = some (allFits rows ws)[i] := by simp [hi]
      have hmem := List.mem_of_getElem? hv
      generalize (allFits rows ws)[i] = pr at hv hmem
      obtain ⟨p2, n2⟩ := pr
      simp only [opIdx, seqOf, hf4]
      intro _
      refine ⟨toP (p2, n2), by rw [Core.atI_nat (by rw [List.length_map]; exact hi)]; simp [hv], ?_⟩
      unfold wpT
      show _ ∧ wpTs _ _ [.int p2, .int n2] _ _ _ _
      refine ⟨rfl, ?_⟩
      show wpB _ _ [some (.loc a), some (tRules kk rows), some (.int kk), some (toP ws), some (.loc f), some (toP (putW rows ws p.toNat n.toNat)), some (.int p2), some (.int n2), none, none, none, none, none] S4 _
      obtain ⟨p20, p21, pn2⟩ := allFits_mem.mp hmem
      obtain ⟨n20, n21⟩ := fitsAt_mem pn2
      have ep2 : P.int p2 = P.int (p2.toNat : Int) := by rw [Int.toNat_of_nonneg p20]
      have en2 : P.int n2 = P.int (n2.toNat : Int) := by rw [Int.toNat_of_nonneg n20]
      refine wp_seq (wp_ifX (x := false) (ix_ne (p := toP (putW rows ws p2.toNat n2.toNat)) (r := toP (putW rows ws p2.toNat n2.toNat)) (v := true) (ix_call (iss_cons (is_var rfl) (iss_cons (is_var rfl) (iss_cons (is_var rfl) (iss_cons (is_var rfl) iss_nil)))).x fun S5 d7 R r => ?_) (fun S5 d7 => (is_call (iss_cons (is_var rfl) (iss_cons (is_var rfl) (iss_cons (is_var rfl) (iss_cons (is_var rfl) iss_nil)))) fun R r => ?_).x) fun S5 d7 k q => eq_dat (α := List Int) _ _ (by decide) (by rw [decide_eq_true rfl]; exact q)) (fun e => by cases e) fun _ S5 d7 => ?_)
      · refine rewritten_ok (k + 1) c.good (fun z => absurd hmem z) (fun _ _ => r S5 (.refl S5)) fun _ l => ?_
        exfalso
        have := putW_len (ws := ws) sm p2.toNat n2.toNat
        omega
      · rw [ep2, en2]
        exact lawPut_ok (k + 5) sm n21 (by omega) r
      · have fin := part_next k (v6 := some (.int p2)) (v7 := some (.int n2)) (v8 := none) (v9 := none) (v10 := none) (v11 := none) (v12 := none) c (d6.trans d7) (d7 _ _ hf4) af q (E := E)
        rw [hx] at fin
        exact fin
    · have e : allFits rows ws = [] := by simpa using e
      have hx : nextW rows ws = none := by unfold nextW; rw [e]
      have fin := part_next k (v6 := none) (v7 := none) (v8 := none) (v9 := none) (v10 := none) (v11 := none) (v12 := none) c (d3.trans d4) (d4 _ _ hf2) af q (E := E)
      rw [hx] at fin
      exact fin
end K60

set_option maxRecDepth 100000
set_option maxHeartbeats 4000000
namespace K60
open Core L2
open Dat (toP toD)
def grow : List Row := [([0], [0, 0, 1])]
def zeros (n : Nat) : List Int := List.replicate n 0
theorem zeros_rep (n : Nat) : (List.replicate n [P.int 0]).flatten = (zeros n).map P.int := by
  unfold zeros
  induction n with
  | zero => rfl
  | succ n ih => rw [List.replicate_succ, List.flatten_cons, ih, List.replicate_succ]; rfl
theorem grow_val : isRulesB (tRules 2 grow) = true := by decide +kernel
theorem grow_good {n : Nat} (h : n ≤ 20000) : badWord (tRules 2 grow) (toP (zeros n)) = none := by
  unfold badWord
  rw [if_pos grow_val, if_pos]
  refine letters_word (fun w hw => ?_) (by unfold zeros; rw [List.length_replicate]; omega)
  cases (List.mem_replicate.mp hw).2
  exact ⟨Int.le_refl 0, (by decide : (0 : Int) < 2)⟩
theorem grow_next (n : Nat) : nextW grow (zeros (n + 1)) = some ([0, 0, 1] ++ zeros n) := by
  have e : fitsAt grow (zeros (n + 1)) 0 = 0 :: [] := by
    unfold fitsAt grow zeros
    simp [fit, List.replicate_succ]
  obtain ⟨more, hm⟩ := allFits_first (rows := grow) (ws := zeros (n + 1)) (p := 0) (by unfold zeros; rw [List.length_replicate]; omega) (fun q hq => absurd hq (by omega)) e
  unfold nextW
  rw [hm]
  show some (putW grow (zeros (n + 1)) 0 0) = _
  unfold putW
  show some ((zeros (n + 1)).take 0 ++ [0, 0, 1] ++ (zeros (n + 1)).drop 1) = _
  unfold zeros
  rw [List.replicate_succ]
  rfl
theorem law_ok (k : Nat) {ns : List Int} {S : Store} {Q : QP} {E : QE} (hl : ns.length ≤ 63) (h : Q (.bl true) S) : (envAt D (k + 8)).fn 20 [.frl (ns.map P.int)] S Q E := by
  rw [env_fn (d := ⟨1, 3, b_law⟩) rfl]
  refine ⟨rfl, ?_⟩
  show wpB _ b_law [some (.frl (ns.map P.int)), none, none] S _
  have big := PySem.sizeLine_eq
  refine wp_seq (wp_set (p := tRules 2 grow) (is_tup (iss_cons is_lit (iss_cons is_lit (iss_cons (is_tup (iss_cons (is_tup (iss_cons (is_tup (iss_cons is_lit iss_nil)) (iss_cons (is_tup (iss_cons is_lit (iss_cons is_lit (iss_cons is_lit iss_nil)))) iss_nil))) iss_nil)) iss_nil)))) ?_)
  show wpB _ _ [some (.frl (ns.map P.int)), some (tRules 2 grow), none] S _
  have zs : ∀ {c : Nat} {E0 : QE} {S : Store}, c ≤ 20000 → Is (envAt D (k + 7)) (.bin .Mult (.tup [(.lit (.int 0))]) (.lit (.int (c : Nat)))) [some (.frl (ns.map P.int)), some (tRules 2 grow), none] S E0 (toP (zeros c)) := fun {c E0 S} hc => by
    have := is_rep (G := envAt D (k + 7)) (ρ := [some (.frl (ns.map P.int)), some (tRules 2 grow), none]) (S := S) (E := E0) (a := .tup [(.lit (.int 0))]) (b := .lit (.int (c : Nat))) (xs := [.int 0]) (k := (c : Int)) (is_tup (iss_cons is_lit iss_nil)) is_lit (by omega) (by omega) (by rw [List.length_singleton, Int.toNat_natCast]; omega)
    rw [Int.toNat_natCast, zeros_rep] at this
    exact this
  refine wp_seq (wp_ifX (x := false) (ix_or (x := false) (y := false) ?_ fun _ S1 d1 => ix_or (x := false) (y := false) (ix_neStrs (by decide +kernel) (ix_call (iss_cons is_fnv (iss_cons (is_tup (iss_cons (is_var rfl) (iss_cons (zs (c := 20000) (by omega)) iss_nil))) iss_nil)).x fun S4 d4 R r => ?_)) fun _ S2 d2 => ?_) (fun e => by cases e) fun _ S3 d3 => ?_)
  · have := (is_neI (i := 20000) (j := 20000) (G := envAt D (k + 7)) (ρ := [some (.frl (ns.map P.int)), some (tRules 2 grow), none]) (S := S) (E := (DE.fn Q E).ex) (is_con (i := 1) (p := .int 20000) cn) is_lit).x
    rw [decide_eq_true rfl] at this
    exact this
  · refine told_ok (k + 6) (.inl rfl) (next_word_ok (k + 1) (ok_rules S4 2 grow) (ok_word S4 (zeros 20000)) (fun w hw => by rw [grow_good (Nat.le_refl _)] at hw; cases hw) fun _ => ⟨2, grow, zeros 20000, rfl, rfl, fun z => ?_, fun w e l => ?_, fun w e l => .inr (.inr ⟨rfl, r S4 (.refl S4)⟩)⟩)
    · rw [grow_next 19999] at z; cases z
    · rw [grow_next 19999] at e
      cases e
      exfalso
      rw [List.length_append] at l
      unfold zeros at l
      rw [List.length_replicate] at l
      have : ([0, 0, 1] : List Int).length = 3 := rfl
      omega
  · refine ix_ne (p := toP (([0, 0, 1] : List Int) ++ zeros 19997)) (r := toP (([0, 0, 1] : List Int) ++ zeros 19997)) (v := true) (ix_call (iss_cons (is_var rfl) (iss_cons (zs (c := 19998) (by omega)) iss_nil)).x fun S4 d4 R r => ?_) (fun S4 d4 => ?_) fun S4 d4 k q => eq_dat (α := List Int) _ _ (by decide) (by rw [decide_eq_true rfl]; exact q)
    · refine next_word_ok (k + 2) (ok_rules S4 2 grow) (ok_word S4 (zeros 19998)) (fun w hw => by rw [grow_good (by omega)] at hw; cases hw) fun _ => ⟨2, grow, zeros 19998, rfl, rfl, fun z => ?_, fun w e l => ?_, fun w e l => ?_⟩
      · rw [grow_next 19997] at z; cases z
      · rw [grow_next 19997] at e
        cases e
        exact r S4 (.refl S4)
      · rw [grow_next 19997] at e
        cases e
        exfalso
        rw [List.length_append] at l
        unfold zeros at l
        rw [List.length_replicate] at l
        have : ([0, 0, 1] : List Int).length = 3 := rfl
        omega
    · have ee : (toP (([0, 0, 1] : List Int) ++ zeros 19997) : P) = .tup ([.int 0, .int 0, .int 1] ++ (zeros 19997).map P.int) := by
        show P.tup ((([0, 0, 1] : List Int) ++ zeros 19997).map P.int) = _
        rw [List.map_append]
        rfl
      rw [ee]
      exact (is_cat (is_tup (iss_cons is_lit (iss_cons is_lit (iss_cons is_lit iss_nil)))) (zs (c := 19997) (by omega)) (by rw [List.length_map]; unfold zeros; rw [List.length_replicate]; show 3 + 19997 ≤ _; omega)).x
  · have e1 : (ns.map P.int).length = ns.length := List.length_map ..
    obtain ⟨m, hm, hm2⟩ : ∃ m : Nat, (if (6 : Int) < (if (1 : Int) > (ns.map P.int).length then 1 else ((ns.map P.int).length : Int)) then 6 else (if (1 : Int) > (ns.map P.int).length then 1 else ((ns.map P.int).length : Int))) = m ∧ m ≤ 6 := by
      refine ⟨(if (6 : Int) < (if (1 : Int) > (ns.map P.int).length then 1 else ((ns.map P.int).length : Int)) then 6 else (if (1 : Int) > (ns.map P.int).length then 1 else ((ns.map P.int).length : Int))).toNat, ?_, ?_⟩ <;> split <;> (try split) <;> omega
    have args : Iss (envAt D (k + 7)) [(.blt .min [(.blt .max [(.blt .len [(.var 0)]), (.lit (.int 1))]), (.lit (.int 6))])] [some (.frl (ns.map P.int)), some (tRules 2 grow), none] S3 (dropE E) [.int m] := iss_cons (fun R r => by
      unfold wpE
      refine iss_cons (p := .int (if (1 : Int) > (ns.map P.int).length then 1 else ((ns.map P.int).length : Int))) (fun R r => ?_) (iss_cons is_lit iss_nil) _ ?_
      · unfold wpE
        exact iss_cons (is_len (p := .frl (ns.map P.int)) (is_var rfl) rfl) (iss_cons is_lit iss_nil) _ r
      · simp only [bfS]
        rw [hm]
        exact r) iss_nil
    have w := walkedG_range (S := S3) (n := (m : Int)) (Good := fun _ => True) (by omega) (by omega)
    rw [Int.toNat_natCast] at w
    refine wp_seq (wp_for (Good := fun _ => True) (fun i ρ' S' => SubS S S' ∧ ∃ x, ρ' = [some (.frl (ns.map P.int)), some (tRules 2 grow), x]) args w ⟨d3, none, rfl⟩ (fun _ _ _ _ => trivial) ?_ ?_)
    · rintro i x ρ' S' hx ⟨d, x0, rfl⟩
      have lt : i < m := by
        have := (List.getElem?_eq_some_iff.mp hx).1
        simpa using this
      have ex : x = .int (i : Int) := by
        simp [lt] at hx
        exact hx.symm
      subst ex
      refine wp_seq ?_
      show wpS _ _ [some (.frl (ns.map P.int)), some (tRules 2 grow), some (.int i)] S' _
      unfold wpS wpE wpE wpEs
      refine wp_callC (iss_cons (is_var rfl) (iss_cons (is_var rfl) iss_nil)) (bag_ok (k + 6) fun a x1 y1 ha => ?_)
      refine es_nil (case_ok k Store.upd_same fun x2 y2 => ?_)
      rw [Store.upd_upd]
      exact ⟨d.updr (d.free ha), some (.int i), rfl⟩
    · rintro ρ' S' ⟨d, x0, rfl⟩
      exact wp_seq (wp_ret is_lit (drop d h))
theorem clean (ns : List Int) (h : ns.length ≤ 63) : (envAt D 61).fn 20 [.frl (ns.map P.int)] (fun _ => none) (fun p _ => p = .bl true) noE := law_ok 53 h rfl
end K60

set_option maxRecDepth 100000
set_option maxHeartbeats 0
namespace K60
open PySem PySem.W PyProof.Rows L2 Core
theorem law_end : PySem.Challenge.rw_neverstops_k60_rules_over_words.Holds := by
  w_on; o_law; k_head; (case hw => w_witness2)
  k_fill
  refine Core.law_walk (D := D) (i := 20) (k := 61) (l := PySem.Challenge.rw_neverstops_k60_rules_over_words) rfl rfl ⟨rfl, by decide, by decide⟩ (fun w h Y => PySem.W.kIn_of Y) ?F clean
  case F =>
    intro w mg fa h KX G hmg
    refine' (fun z => let ⟨fd, h1, h2⟩ := z; ⟨fd, h1, fun base => h2 60 base⟩) (K60.all_mk KX G hmg ?a_f0 ?l_f0 ?c_f0 ?k_f0 ?a_f1 ?l_f1 ?c_f1 ?k_f1 ?a_f2 ?l_f2 ?c_f2 ?k_f2 ?a_f3 ?l_f3 ?c_f3 ?k_f3 ?a_f4 ?l_f4 ?c_f4 ?k_f4 ?a_f5 ?l_f5 ?c_f5 ?k_f5 ?a_f6 ?l_f6 ?c_f6 ?k_f6 ?a_f7 ?l_f7 ?c_f7 ?k_f7 ?a_f8 ?l_f8 ?c_f8 ?k_f8 ?a_f9 ?l_f9 ?c_f9 ?k_f9 ?a_f10 ?l_f10 ?c_f10 ?k_f10 ?a_f11 ?l_f11 ?c_f11 ?k_f11 ?a_f12 ?l_f12 ?c_f12 ?k_f12 ?a_f13 ?l_f13 ?c_f13 ?k_f13 ?a_f14 ?l_f14 ?c_f14 ?k_f14 ?a_f15 ?l_f15 ?c_f15 ?k_f15 ?a_f16 ?l_f16 ?c_f16 ?k_f16 ?a_f17 ?l_f17 ?c_f17 ?k_f17 ?a_f18 ?l_f18 ?c_f18 ?k_f18 ?a_f19 ?l_f19 ?c_f19 ?k_f19 ?a_f20 ?l_f20 ?c_f20 ?k_f20 ?a_C0 ?k_C0 ?a_C1 ?k_C1 ?a_C2 ?k_C2 ?a_C3 ?k_C3 ?x_C1 ?n_C1 ?s_C1 ?y_C1 ?o_C1 ?r_C1 ?sa_C1 ?i_C1 ?t_I1 ?l_I1 ?c_I1 ?k_I1 ?x_C2 ?n_C2 ?s_C2 ?y_C2 ?e_C2 ?x_C3 ?n_C3 ?s_C3 ?y_C3 ?e_C3 ?ee_1_1 ?ee_1_2 ?ee_1_3 ?ee_2_1 ?ee_2_2 ?ee_2_3 ?ee_3_1 ?ee_3_2 ?ee_3_3 ?g_0 ?g_1 ?g_2 ?g_3 ?g_4 ?blt)
    (case a_f0 => first | k_is | rfl | kernel_rfl)
    (case l_f0 => first | k_is | rfl | kernel_rfl)
    (case c_f0 => first | k_is | rfl | kernel_rfl)
    (case k_f0 => first | k_is | rfl | kernel_rfl)
    (case a_f1 => first | k_is | rfl | kernel_rfl)
    (case l_f1 => first | k_is | rfl | kernel_rfl)
    (case c_f1 => first | k_is | rfl | kernel_rfl)
    (case k_f1 => first | k_is | rfl | kernel_rfl)
    (case a_f2 => first | k_is | rfl | kernel_rfl)
    (case l_f2 => first | k_is | rfl | kernel_rfl)
    (case c_f2 => first | k_is | rfl | kernel_rfl)
    (case k_f2 => first | k_is | rfl | kernel_rfl)
    (case a_f3 => first | k_is | rfl | kernel_rfl)
    (case l_f3 => first | k_is | rfl | kernel_rfl)
    (case c_f3 => first | k_is | rfl | kernel_rfl)
    (case k_f3 => first | k_is | rfl | kernel_rfl)
    (case a_f4 => first | k_is | rfl | kernel_rfl)
    (case l_f4 => first | k_is | rfl | kernel_rfl)
    (case c_f4 => first | k_is | rfl | kernel_rfl)
    (case k_f4 => first | k_is | rfl | kernel_rfl)
    (case a_f5 => first | k_is | rfl | kernel_rfl)
    (case l_f5 => first | k_is | rfl | kernel_rfl)
    (case c_f5 => first | k_is | rfl | kernel_rfl)
    (case k_f5 => first | k_is | rfl | kernel_rfl)
    (case a_f6 => first | k_is | rfl | kernel_rfl)
    (case l_f6 => first | k_is | rfl | kernel_rfl)
    (case c_f6 => first | k_is | rfl | kernel_rfl)
    (case k_f6 => first | k_is | rfl | kernel_rfl)
    (case a_f7 => first | k_is | rfl | kernel_rfl)
    (case l_f7 => first | k_is | rfl | kernel_rfl)
    (case c_f7 => first | k_is | rfl | kernel_rfl)
    (case k_f7 => first | k_is | rfl | kernel_rfl)
    (case a_f8 => first | k_is | rfl | kernel_rfl)
    (case l_f8 => first | k_is | rfl | kernel_rfl)
    (case c_f8 => first | k_is | rfl | kernel_rfl)
    (case k_f8 => first | k_is | rfl | kernel_rfl)
    (case a_f9 => first | k_is | rfl | kernel_rfl)
    (case l_f9 => first | k_is | rfl | kernel_rfl)
    (case c_f9 => first | k_is | rfl | kernel_rfl)
    (case k_f9 => first | k_is | rfl | kernel_rfl)
    (case a_f10 => first | k_is | rfl | kernel_rfl)
    (case l_f10 => first | k_is | rfl | kernel_rfl)
    (case c_f10 => first | k_is | rfl | kernel_rfl)
    (case k_f10 => first | k_is | rfl | kernel_rfl)
    (case a_f11 => first | k_is | rfl | kernel_rfl)
    (case l_f11 => first | k_is | rfl | kernel_rfl)
    (case c_f11 => first | k_is | rfl | kernel_rfl)
    (case k_f11 => first | k_is | rfl | kernel_rfl)
    (case a_f12 => first | k_is | rfl | kernel_rfl)
    (case l_f12 => first | k_is | rfl | kernel_rfl)
    (case c_f12 => first | k_is | rfl | kernel_rfl)
    (case k_f12 => first | k_is | rfl | kernel_rfl)
    (case a_f13 => first | k_is | rfl | kernel_rfl)
    (case l_f13 => first | k_is | rfl | kernel_rfl)
    (case c_f13 => first | k_is | rfl | kernel_rfl)
    (case k_f13 => first | k_is | rfl | kernel_rfl)
    (case a_f14 => first | k_is | rfl | kernel_rfl)
    (case l_f14 => first | k_is | rfl | kernel_rfl)
    (case c_f14 => first | k_is | rfl | kernel_rfl)
    (case k_f14 => first | k_is | rfl | kernel_rfl)
    (case a_f15 => first | k_is | rfl | kernel_rfl)
    (case l_f15 => first | k_is | rfl | kernel_rfl)
    (case c_f15 => first | k_is | rfl | kernel_rfl)
    (case k_f15 => first | k_is | rfl | kernel_rfl)
    (case a_f16 => first | k_is | rfl | kernel_rfl)
    (case l_f16 => first | k_is | rfl | kernel_rfl)
    (case c_f16 => first | k_is | rfl | kernel_rfl)
    (case k_f16 => first | k_is | rfl | kernel_rfl)
    (case a_f17 => first | k_is | rfl | kernel_rfl)
    (case l_f17 => first | k_is | rfl | kernel_rfl)
    (case c_f17 => first | k_is | rfl | kernel_rfl)
    (case k_f17 => first | k_is | rfl | kernel_rfl)
    (case a_f18 => first | k_is | rfl | kernel_rfl)
    (case l_f18 => first | k_is | rfl | kernel_rfl)
    (case c_f18 => first | k_is | rfl | kernel_rfl)
    (case k_f18 => first | k_is | rfl | kernel_rfl)
    (case a_f19 => first | k_is | rfl | kernel_rfl)
    (case l_f19 => first | k_is | rfl | kernel_rfl)
    (case c_f19 => first | k_is | rfl | kernel_rfl)
    (case k_f19 => first | k_is | rfl | kernel_rfl)
    (case a_f20 => first | k_is | rfl | kernel_rfl)
    (case l_f20 => first | k_is | rfl | kernel_rfl)
    (case c_f20 => first | k_is | rfl | kernel_rfl)
    (case k_f20 => first | k_is | rfl | kernel_rfl)
    (case a_C0 => first | k_is | rfl | kernel_rfl)
    (case k_C0 => first | k_is | rfl | kernel_rfl)
    (case a_C1 => first | k_is | rfl | kernel_rfl)
    (case k_C1 => first | k_is | rfl | kernel_rfl)
    (case a_C2 => first | k_is | rfl | kernel_rfl)
    (case k_C2 => first | k_is | rfl | kernel_rfl)
    (case a_C3 => first | k_is | rfl | kernel_rfl)
    (case k_C3 => first | k_is | rfl | kernel_rfl)
    (case x_C1 => first | k_is | rfl | kernel_rfl)
    (case n_C1 => first | k_is | rfl | kernel_rfl)
    (case s_C1 => first | k_is | rfl | kernel_rfl)
    (case y_C1 => first | k_is | rfl | kernel_rfl)
    (case o_C1 => first | k_is | rfl | kernel_rfl)
    (case r_C1 => first | k_is | rfl | kernel_rfl)
    (case sa_C1 => first | k_is | rfl | kernel_rfl)
    (case i_C1 => first | k_is | rfl | kernel_rfl)
    (case t_I1 => first | k_is | rfl | kernel_rfl)
    (case l_I1 => first | k_is | rfl | kernel_rfl)
    (case c_I1 => first | k_is | rfl | kernel_rfl)
    (case k_I1 => first | k_is | rfl | kernel_rfl)
    (case x_C2 => first | k_is | rfl | kernel_rfl)
    (case n_C2 => first | k_is | rfl | kernel_rfl)
    (case s_C2 => first | k_is | rfl | kernel_rfl)
    (case y_C2 => first | k_is | rfl | kernel_rfl)
    (case e_C2 => first | k_is | rfl | kernel_rfl)
    (case x_C3 => first | k_is | rfl | kernel_rfl)
    (case n_C3 => first | k_is | rfl | kernel_rfl)
    (case s_C3 => first | k_is | rfl | kernel_rfl)
    (case y_C3 => first | k_is | rfl | kernel_rfl)
    (case e_C3 => first | k_is | rfl | kernel_rfl)
    (case ee_1_1 => first | k_is | rfl | kernel_rfl)
    (case ee_1_2 => first | k_is | rfl | kernel_rfl)
    (case ee_1_3 => first | k_is | rfl | kernel_rfl)
    (case ee_2_1 => first | k_is | rfl | kernel_rfl)
    (case ee_2_2 => first | k_is | rfl | kernel_rfl)
    (case ee_2_3 => first | k_is | rfl | kernel_rfl)
    (case ee_3_1 => first | k_is | rfl | kernel_rfl)
    (case ee_3_2 => first | k_is | rfl | kernel_rfl)
    (case ee_3_3 => first | k_is | rfl | kernel_rfl)
    (case g_0 => first | k_is | rfl | kernel_rfl)
    (case g_1 => first | k_is | rfl | kernel_rfl)
    (case g_2 => first | k_is | rfl | kernel_rfl)
    (case g_3 => first | k_is | rfl | kernel_rfl)
    (case g_4 => first | k_is | rfl | kernel_rfl)
    (case blt => first | k_is | rfl | kernel_rfl)
end K60

theorem PySem.Challenge.cw_neverstops_k60_rules_over_words_holds : PySem.Challenge.rw_neverstops_k60_rules_over_words.Holds :=
  K60.law_end
#print axioms PySem.Challenge.cw_neverstops_k60_rules_over_words_holds
