import PyProof.Rows.All
import HandS.ForMost
import HandS.Exc
import HandS.TryOnly
import HandS.TryMany
import HandS.ExcOwn
import HandS.ExcInit
import HandS.WordsExc
import HandS.Wide
import HandS.WideMore
import HandS.Flow
import HandS.Style
import HandS.TupAny
import HandS.TupMul
import HandS.IsInst
import HandS.Deep
import HandS.Small
import HandS.Conv
import KE.KeyNested
import HandS.Iter
import HandS.DictTup
import HandS.SetKeys
import HandS.WordsDict
import HandS.RevTup
import HandS.RevRange
import HandS.Zip
import KE.KDictDisplayH
import HandS.More
import PyProof.Draws
import PyProof.TupleIter
import PyProof.EnumMake
import HandS.ExcField
import PySem.Challenge.RW_neverstops_k66_whole_two_counters_are_en
set_option Elab.async false
set_option linter.all false
section
/-! Core1: clean values, the clean store, a small syntax, its predicate transformer. -/
namespace Core
open PySem L2

/-- a clean value -/
inductive P where
  | non
  | bl (b : Bool)
  | int (i : Int)
  | str (s : Str)
  | tup (xs : List P)
  | frl (xs : List P)
  | loc (a : Addr)
  | fn (f : Nat)

/-- what stands at a location -/
inductive MO where
  | lst (xs : List P)
  | dct (kvs : List (P × P))
  | ins (c : Nat) (fs : List (Nat × P))
  /-- a list of which no more than this is told -/
  | any (p : List P → Prop)

abbrev Store := Addr → Option MO
abbrev Loc := List (Option P)
def Store.upd (S : Store) (a : Addr) (o : MO) : Store := fun b => if b = a then some o else S b
theorem Store.upd_same {S : Store} {a : Addr} {o : MO} : S.upd a o a = some o := by unfold Store.upd; rw [if_pos rfl]
theorem Store.upd_ne {S : Store} {a b : Addr} {o : MO} (h : b ≠ a) : S.upd a o b = S b := by unfold Store.upd; rw [if_neg h]
theorem Store.upd_upd {S : Store} {a : Addr} {o u : MO} : (S.upd a o).upd a u = S.upd a u := by
  funext b; unfold Store.upd; split <;> rfl

/-- less is told of the store -/
def SubS (S' S : Store) : Prop := ∀ a o, S' a = some o → S a = some o
theorem SubS.refl (S : Store) : SubS S S := fun _ _ h => h
theorem SubS.trans {S1 S2 S3 : Store} (a : SubS S1 S2) (b : SubS S2 S3) : SubS S1 S3 := fun x o h => b x o (a x o h)
/-- what is told of the store is told in other words, or less is told -/
inductive Wk : Store → (Store → Prop) → Prop
  | here {S : Store} {F : Store → Prop} (h : F S) : Wk S F
  | drop {S S' : Store} {F : Store → Prop} (d : SubS S' S) (h : Wk S' F) : Wk S F
  | opn {S : Store} {a : Addr} {p : List P → Prop} {F : Store → Prop} (e : S a = some (.any p)) (h : ∀ xs, p xs → Wk (S.upd a (.lst xs)) F) : Wk S F
  | cls {S : Store} {a : Addr} {xs : List P} (p : List P → Prop) {F : Store → Prop} (e : S a = some (.lst xs)) (hp : p xs) (h : Wk (S.upd a (.any p)) F) : Wk S F
theorem Wk.mono {S : Store} {F F' : Store → Prop} (k : ∀ S', F S' → F' S') (h : Wk S F) : Wk S F' := by
  induction h with
  | here h => exact .here (k _ h)
  | drop d _ ih => exact .drop d (ih k)
  | opn e _ ih => exact .opn e fun xs hp => ih xs hp k
  | cls p e hp _ ih => exact .cls p e hp (ih k)
theorem Wk.join {S : Store} {F F' : Store → Prop} (h : Wk S F) (k : ∀ S', F S' → Wk S' F') : Wk S F' := by
  induction h with
  | here h => exact k _ h
  | drop d _ ih => exact .drop d (ih k)
  | opn e _ ih => exact .opn e fun xs hp => ih xs hp k
  | cls p e hp _ ih => exact .cls p e hp (ih k)

/-- an error of one's own: its class, its fields -/
structure Exc where
  cls : Nat
  fs : List (Nat × P)

abbrev QP := P → Store → Prop
abbrev QE := Exc → Store → Prop
abbrev PSpec := List P → Store → QP → QE → Prop

/-- built-in functions -/
inductive Bf where
  | len | int | list | tuple | abs | min | max | sum | any | all | sorted | bool | str | set | dict | divmod | repr
  deriving DecidableEq
/-- types named in isinstance -/
inductive Ty where
  | int | bool | str | tuple | list
  deriving DecidableEq
/-- what is walked -/
inductive IK where
  | seq | range | enum | zip | items | keys | values | rev | range3
  deriving DecidableEq
/-- methods of built-in types -/
inductive Bm where
  | append | pop | extend | index | insert | get | setdefault | reverse | items | split | find | join
  deriving DecidableEq
/-- targets without expressions -/
inductive VT where
  | nm (i : Nat)
  | tup (ts : List VT)

inductive CE where
  | var (i : Nat)
  | lit (p : P)
  | con (i : Nat)
  | fnv (i : Nat)
  | tup (es : List CE)
  | lst (es : List CE)
  | bin (op : Operator) (a b : CE)
  | neg (a : CE)
  | cmp (op : CmpOp) (a b : CE)
  | chn (op op' : CmpOp) (a b c : CE)
  | and_ (a b : CE)
  | or_ (a b : CE)
  | not_ (a : CE)
  | ife (c a b : CE)
  | idx (a i : CE)
  | slc (a : CE) (lo hi : Option CE)
  | fld (a : CE) (f : Nat)
  | call (f : Nat) (es : List CE)
  | mk (c : Nat) (es : List CE)
  | blt (f : Bf) (es : List CE)
  | isi (a : CE) (ts : List Ty)
  | mth (a : CE) (m : Nat) (es : List CE)
  | bmt (a : CE) (m : Bm) (es : List CE)
  | cmpr (own : List Nat) (k : IK) (args : List CE) (tg : VT) (elt : CE) (cond : Option CE)
  | rev (a : CE)
  | slw (a w : CE)
  | dct (kvs : List CE)
  | cvar (i : Nat) (es : List CE)
  | lrg (es : List CE)

inductive Tgt where
  | nm (i : Nat)
  | tup (ts : List Tgt)
  | sub (a i : CE)
  | fld (a : CE) (f : Nat)

/-- what an except suite does -/
inductive HS where
  | lit (p : P)
  | fld (f : Nat)
  | pre (s : Str) (f : Nat)

inductive CS where
  | asg (t : Tgt) (e : CE)
  | par (is : List Nat) (es : List CE)
  | aug (i : Nat) (op : Operator) (e : CE)
  | augF (a : CE) (f : Nat) (op : Operator) (e : CE)
  | augI (a i : CE) (op : Operator) (e : CE)
  | if_ (c : CE) (a b : List CS)
  | whl (c : CE) (b : List CS)
  | for_ (k : IK) (args : List CE) (tg : VT) (b : List CS)
  | ret (e : CE)
  | retN
  | rse (c : Nat) (es : List CE)
  | exp (e : CE)
  | brk
  | cnt
  | pass
  | try_ (b : List CS) (hs : List (Nat × Option Nat × HS))

/-- what the program's top gives, at a level of calls -/
structure Env where
  con : Nat → P
  fn : Nat → PSpec
  mth : Nat → Nat → PSpec
  has : Nat → Nat → Bool
  ini : Nat → PSpec
  /-- the classes of errors: made without arguments, or with one that is kept in a field -/
  xc : Nat → Option (Option Nat)
  /-- how deep calls may go -/
  lv : Nat

/-! ### operators by values -/
/-- plain data, lists in the store among them, to a depth -/
def dataS (S : Store) : Nat → P → Option PyData
  | 0, _ => none
  | n + 1, .tup xs => (xs.mapM (dataS S n)).map .tuple
  | n + 1, .frl xs => (xs.mapM (dataS S n)).map .list
  | n + 1, .loc a => match S a with
    | some (.lst xs) => (xs.mapM (dataS S n)).map .list
    | _ => none
  | _ + 1, .non => some .none
  | _ + 1, .bl b => some (.bool b)
  | _ + 1, .int i => some (.int i)
  | _ + 1, .str s => if PyData.strOk s then some (.str s) else none
  | _ + 1, .fn _ => none
def eqS (S : Store) (x y : P) (k : Bool → Prop) : Prop :=
  ∃ d e, dataS S 62 x = some d ∧ dataS S 62 y = some e ∧ k (PyData.eqv d e)

def truthS (S : Store) : P → Option Bool
  | .non => some false
  | .bl b => some b
  | .int i => some (i != 0)
  | .str _ => none
  | .tup xs => some (!xs.isEmpty)
  | .frl xs => some (!xs.isEmpty)
  | .loc a => match S a with
    | some (.lst xs) => some (!xs.isEmpty)
    | _ => none
  | .fn _ => none

def opAdd (x y : P) (S : Store) (Q : QP) : Prop :=
  match x, y with
  | .int i, .int j => Q (.int (i + j)) S
  | .str a, .str b => a.length + b.length ≤ sizeLine ∧ Q (.str (a ++ b)) S
  | .tup xs, .tup ys => xs.length + ys.length ≤ sizeLine ∧ Q (.tup (xs ++ ys)) S
  | .loc a, .loc b => ∃ xs ys, S a = some (.lst xs) ∧ S b = some (.lst ys) ∧ xs.length + ys.length ≤ sizeLine ∧ ∀ c, S c = none → Q (.loc c) (S.upd c (.lst (xs ++ ys)))
  | _, _ => False
/-- a product that the model takes -/
def MulOk (i j : Int) : Prop := CMul i j ∨ CMulW i j
def DivOk (i j : Int) : Prop := 0 < j ∧ j.natAbs.log2 < 9000
def opMul (x y : P) (S : Store) (Q : QP) : Prop :=
  match x, y with
  | .int i, .int j => MulOk i j ∧ Q (.int (i * j)) S
  | .loc a, .int k => ∃ xs, S a = some (.lst xs) ∧ -(2 ^ 63) ≤ k ∧ k < 2 ^ 63 ∧ xs.length * k.toNat ≤ sizeLine ∧ ∀ c, S c = none → Q (.loc c) (S.upd c (.lst (List.replicate k.toNat xs).flatten))
  | .tup xs, .int k => -(2 ^ 63) ≤ k ∧ k < 2 ^ 63 ∧ xs.length * k.toNat ≤ sizeLine ∧ Q (.tup (List.replicate k.toNat xs).flatten) S
  | _, _ => False
def opBin (op : Operator) (x y : P) (S : Store) (Q : QP) : Prop :=
  match op with
  | .Add => opAdd x y S Q
  | .Sub => match x, y with
    | .int i, .int j => Q (.int (i - j)) S
    | _, _ => False
  | .Mult => opMul x y S Q
  | .FloorDiv => match x, y with
    | .int i, .int j => DivOk i j ∧ Q (.int (i / j)) S
    | _, _ => False
  | .Mod => match x, y with
    | .int i, .int j => 0 < j ∧ Q (.int (i % j)) S
    | _, _ => False
  | .Pow => match x, y with
    | .int i, .int j => CPow i j ∧ Q (.int (i ^ j.toNat)) S
    | _, _ => False
  | _ => False
/-- x op= y of ints -/
def opAug (op : Operator) (x y : P) (S : Store) (Q : QP) : Prop :=
  match x, y with
  | .int i, .int j => (match op with
    | .Add => Q (.int (i + j)) S
    | .Sub => Q (.int (i - j)) S
    | .Mult => MulOk i j ∧ Q (.int (i * j)) S
    | .FloorDiv => DivOk i j ∧ Q (.int (i / j)) S
    | _ => False)
  | _, _ => False
/-- the rest of a division by a number that may be below zero is not served -/
def flatP : P → Bool
  | .non => true | .bl _ => true | .int _ => true | .str _ => true | _ => false
def flV : P → V
  | .bl b => .bl b | .int i => .int i | .str s => .str s | _ => .non
/-! ### dicts -/
mutual
/-- a key of a dict, up to == -/
def keyOf : P → Option NestedKey
  | .non => some .none
  | .bl b => some (.num (if b = true then 1 else 0))
  | .int i => some (.num i)
  | .str s => some (.text s)
  | .tup xs => (keysOf xs).map .tup
  | _ => none
def keysOf : List P → Option (List NestedKey)
  | [] => some []
  | x :: xs => match keyOf x, keysOf xs with
    | some k, some ks => some (k :: ks)
    | _, _ => none
end
def sameK (p q : P) : Bool := decide (keyOf p = keyOf q)
/-- a whole number or a text -/
def flK : P → Bool
  | .int _ => true
  | .str _ => true
  | _ => false
/-- a tuple that is a key -/
def tuK : P → Bool
  | .tup xs => match keysOf xs with
    | some ks => decide ((NestedKey.tup ks).depth ≤ 8)
    | none => false
  | _ => false
/-- keys of one kind -/
def okK (kvs : List (P × P)) (k : P) : Bool := (flK k && kvs.all fun kv => flK kv.1) || (tuK k && kvs.all fun kv => tuK kv.1)
def valP (kvs : List (P × P)) (k : P) : Option P := (kvs.find? fun kv => sameK kv.1 k).map (·.2)
def putP (kvs : List (P × P)) (k v : P) : List (P × P) :=
  if (kvs.any fun kv => sameK kv.1 k) = true then kvs.map (fun kv => if sameK kv.1 k = true then (kv.1, v) else kv) else kvs ++ [(k, v)]
def pairsP : List P → List (P × P)
  | k :: v :: r => (k, v) :: pairsP r
  | _ => []
def dctS (x : P) (S : Store) : Option (Addr × List (P × P)) :=
  match x with
  | .loc a => match S a with
    | some (.dct kvs) => some (a, kvs)
    | _ => none
  | _ => none
/-- x in a tuple of flat items -/
def inF (x : P) (xs : List P) (k : Bool → Prop) : Prop := flatP x = true ∧ xs.all flatP = true ∧ k (inV (flV x) (xs.map flV))
/-- x in the items, plain data of any depth -/
def inS (S : Store) (x : P) (xs : List P) (k : Bool → Prop) : Prop :=
  ∃ d es, dataS S 62 x = some d ∧ xs.mapM (dataS S 62) = some es ∧ k (es.any fun e => PyData.eqv e d)
def lexLt : List Int → List Int → Bool := HT.lexLt
def opCmp (op : CmpOp) (x y : P) (S : Store) (Q : QP) : Prop :=
  match op with
  | .Eq => eqS S x y fun b => Q (.bl b) S
  | .NotEq => eqS S x y fun b => Q (.bl (!b)) S
  | .Lt => match x, y with
    | .int i, .int j => Q (.bl (decide (i < j))) S
    | _, _ => False
  | .LtE => match x, y with
    | .int i, .int j => Q (.bl (decide (i ≤ j))) S
    | _, _ => False
  | .Gt => match x, y with
    | .int i, .int j => Q (.bl (decide (j < i))) S
    | _, _ => False
  | .GtE => match x, y with
    | .int i, .int j => Q (.bl (decide (j ≤ i))) S
    | _, _ => False
  | .Is => match x, y with
    | .non, .non => Q (.bl true) S
    | _, .non => Q (.bl false) S
    | .bl a, .bl b => Q (.bl (decide (a = b))) S
    | _, _ => False
  | .IsNot => match x, y with
    | .non, .non => Q (.bl false) S
    | _, .non => Q (.bl true) S
    | .bl a, .bl b => Q (.bl (!decide (a = b))) S
    | _, _ => False
  | .In => match y with
    | .tup ys => inF x ys fun b => Q (.bl b) S
    | .loc a => match S a with
      | some (.lst ys) => inS S x ys fun b => Q (.bl b) S
      | some (.dct kvs) => okK kvs x = true ∧ Q (.bl (valP kvs x).isSome) S
      | _ => False
    | _ => False
  | .NotIn => match y with
    | .tup ys => inF x ys fun b => Q (.bl (!b)) S
    | .loc a => match S a with
      | some (.lst ys) => inS S x ys fun b => Q (.bl (!b)) S
      | some (.dct kvs) => okK kvs x = true ∧ Q (.bl (!(valP kvs x).isSome)) S
      | _ => False
    | _ => False
/-- the items of a list or tuple -/
def seqOf (S : Store) : P → Option (List P)
  | .tup xs => some xs
  | .frl xs => some xs
  | .loc a => match S a with
    | some (.lst xs) => some xs
    | _ => none
  | _ => none
def opIdx (x y : P) (S : Store) (Q : QP) : Prop :=
  match dctS x S with
  | some (_, kvs) => okK kvs y = true ∧ ∃ v, valP kvs y = some v ∧ Q v S
  | none => match y with
    | .int i => match seqOf S x with
      | some xs => xs.length ≤ sizeLine → ∃ v, atI xs i = some v ∧ Q v S
      | none => False
    | _ => False
def partOf : Option P → Option (Option Int)
  | none => some none
  | some (.int i) => some (some i)
  | some _ => none
def cutP (xs : List P) (lo hi : Option Int) : List P := (xs.drop (HT.sIx xs.length 0 lo)).take (HT.sIx xs.length xs.length hi - HT.sIx xs.length 0 lo)
def opSlc (x : P) (l h : Option Int) (S : Store) (Q : QP) : Prop :=
  match x with
  | .tup xs => xs.length ≤ sizeLine → Q (.tup (cutP xs l h)) S
  | .loc a => match S a with
    | some (.lst xs) => xs.length ≤ sizeLine → ∀ c, S c = none → Q (.loc c) (S.upd c (.lst (cutP xs l h)))
    | _ => False
  | .frl xs => xs.length ≤ sizeLine → ∀ c, S c = none → Q (.loc c) (S.upd c (.lst (cutP xs l h)))
  | _ => False
def tyOf (S : Store) : P → Option (Option Ty)
  | .non => some none
  | .bl _ => some (some .bool)
  | .int _ => some (some .int)
  | .str _ => some (some .str)
  | .tup _ => some (some .tuple)
  | .frl _ => some (some .list)
  | .loc a => match S a with
    | some (.lst _) => some (some .list)
    | _ => none
  | .fn _ => none
def isTy (t : Option Ty) (u : Ty) : Bool :=
  match t with
  | none => false
  | some t => t == u || (t == .bool && u == .int)
def intsP : List P → Option (List Int)
  | [] => some []
  | .int i :: r => (intsP r).map (i :: ·)
  | _ :: _ => none
def boolsP : List P → Option (List Bool)
  | [] => some []
  | .bl b :: r => (boolsP r).map (b :: ·)
  | _ :: _ => none
def bfS (f : Bf) (vs : List P) (S : Store) (Q : QP) : Prop :=
  match f, vs with
  | .len, [x] => match dctS x S with
    | some (_, kvs) => (kvs.all fun kv => flK kv.1) = true ∧ Q (.int kvs.length) S
    | none => match seqOf S x with
      | some xs => xs.length ≤ sizeLine → Q (.int xs.length) S
      | none => False
  | .int, [.int i] => Q (.int i) S
  | .int, [.bl b] => Q (.int (if b then 1 else 0)) S
  | .bool, [.int i] => Q (.bl (i != 0)) S
  | .bool, [.bl b] => Q (.bl b) S
  | .list, [x] => match dctS x S with
    | some (_, kvs) => (kvs.all fun kv => flK kv.1) = true ∧ (kvs.length ≤ sizeLine → ∀ c, S c = none → Q (.loc c) (S.upd c (.lst (kvs.map (·.1)))))
    | none => match seqOf S x with
      | some xs => xs.length ≤ sizeLine → ∀ c, S c = none → Q (.loc c) (S.upd c (.lst xs))
      | none => False
  | .tuple, [x] => match seqOf S x with
    | some xs => xs.length ≤ sizeLine → Q (.tup xs) S
    | none => False
  | .abs, [.int i] => Q (.int (if i < 0 then -i else i)) S
  | .repr, [.bl b] => Q (.str (if b then "True" else "False")) S
  | .repr, [.str x] => (PySem.reprText x).length ≤ sizeLine ∧ Q (.str (PySem.reprText x)) S
  | .min, [.int i, .int j] => Q (.int (if j < i then j else i)) S
  | .max, [.int i, .int j] => Q (.int (if j > i then j else i)) S
  | .min, [.loc a] => match S a with
    | some (.lst xs) => ∃ ns, intsP xs = some ns ∧ 0 < ns.length ∧ ∀ m, m ∈ ns → (∀ y, y ∈ ns → m ≤ y) → Q (.int m) S
    | _ => False
  | .max, [.loc a] => match S a with
    | some (.lst xs) => ∃ ns, intsP xs = some ns ∧ 0 < ns.length ∧ ∀ m, m ∈ ns → (∀ y, y ∈ ns → y ≤ m) → Q (.int m) S
    | _ => False
  | .sum, [.loc a] => match S a with
    | some (.lst xs) => ∃ ns, intsP xs = some ns ∧ Q (.int ns.sum) S
    | _ => False
  | .any, [.loc a] => match S a with
    | some (.lst xs) => ∃ bs, boolsP xs = some bs ∧ Q (.bl (bs.any id)) S
    | _ => False
  | .all, [.loc a] => match S a with
    | some (.lst xs) => ∃ bs, boolsP xs = some bs ∧ Q (.bl (bs.all id)) S
    | _ => False
  | .dict, [.loc a] => match S a with
    | some (.dct kvs) => (kvs.all fun kv => flK kv.1) = true ∧ ∀ c, S c = none → Q (.loc c) (S.upd c (.dct kvs))
    | some (.lst ps) => ∃ kvs : List (P × P), ps = kvs.map (fun kv => P.tup [kv.1, kv.2]) ∧ (kvs.all fun kv => flK kv.1) = true ∧ ∀ c, S c = none → Q (.loc c) (S.upd c (.dct (kvs.foldl (fun m kv => putP m kv.1 kv.2) [])))
    | _ => False
  | _, _ => False
def lstS (x : P) (S : Store) : Option (Addr × List P) :=
  match x with
  | .loc a => match S a with
    | some (.lst xs) => some (a, xs)
    | _ => none
  | _ => none
/-- whose method it is -/
def rcv (m : Bm) (x : P) (S : Store) : Prop := match m with
  | .get => ∃ a kvs, x = .loc a ∧ S a = some (.dct kvs)
  | _ => ∃ a xs, x = .loc a ∧ S a = some (.lst xs)
def bmS (m : Bm) (x : P) (vs : List P) (S : Store) (Q : QP) : Prop :=
  match m, vs with
  | .append, [y] => match lstS x S with
    | some (a, xs) => xs.length < sizeLine ∧ Q .non (S.upd a (.lst (xs ++ [y])))
    | none => False
  | .pop, [] => match lstS x S with
    | some (a, xs) => ∃ y, xs[xs.length - 1]? = some y ∧ Q y (S.upd a (.lst xs.dropLast))
    | none => False
  | .pop, [.int i] => match lstS x S with
    | some (a, xs) => xs.length ≤ sizeLine → ∃ k y, seqIndex? i xs.length = some k ∧ xs[k]? = some y ∧ Q y (S.upd a (.lst (xs.eraseIdx k)))
    | none => False
  | .extend, [y] => match lstS x S, lstS y S with
    | some (a, xs), some (_, ys) => xs.length + ys.length ≤ sizeLine ∧ Q .non (S.upd a (.lst (xs ++ ys)))
    | _, _ => False
  | .reverse, [] => match lstS x S with
    | some (a, xs) => Q .non (S.upd a (.lst xs.reverse))
    | none => False
  | .index, [y] => match lstS x S with
    | some (_, xs) => ∃ d ds j z, dataS S 62 y = some d ∧ xs.mapM (dataS S 62) = some ds ∧ ds[j]? = some z ∧ PyData.eqv z d = true ∧ (∀ (m : Nat) (z' : PyData), m < j → ds[m]? = some z' → PyData.eqv z' d = false) ∧ Q (.int (j : Nat)) S
    | none => False
  | .get, [k] => match dctS x S with
    | some (_, kvs) => okK kvs k = true ∧ Q ((valP kvs k).getD .non) S
    | none => False
  | .get, [k, y] => match dctS x S with
    | some (_, kvs) => okK kvs k = true ∧ Q ((valP kvs k).getD y) S
    | none => False
  | _, _ => False
/-- range(m, n, st) -/
def steps3 (m n st : Int) : List P := if st = -1 then (List.range (m - n).toNat).map fun (i : Nat) => P.int (m + (i : Nat) * (-1)) else (List.range (if m < n then (n - m - 1) / st + 1 else 0).toNat).map fun (i : Nat) => P.int (m + (i : Nat) * st)
def zipP (xs ys : List P) : List P := (xs.zip ys).map fun p => P.tup [p.1, p.2]
/-- the items that a loop walks, and what must stay true of the store meanwhile -/
def iterS (k : IK) (vs : List P) (S : Store) (K : List P → (Store → Prop) → Prop) : Prop :=
  match k, vs with
  | .seq, [.tup xs] => xs.length ≤ sizeLine → K xs fun _ => True
  | .seq, [.frl xs] => xs.length ≤ sizeLine → K xs fun _ => True
  | .seq, [.loc a] => match S a with
    | some (.lst xs) => xs.length ≤ sizeLine → K xs fun S' => S' a = some (.lst xs)
    | _ => False
  | .range, [.int n] => (-(2 ^ 62) ≤ n ∧ n ≤ sizeLine) ∧ K ((List.range n.toNat).map fun (i : Nat) => P.int i) fun _ => True
  | .range, [.int m, .int n] => (-(2 ^ 62) ≤ m ∧ m < 2 ^ 62 ∧ -(2 ^ 62) ≤ n ∧ n < 2 ^ 62 ∧ n - m ≤ sizeLine) ∧ K ((List.range (n - m).toNat).map fun (i : Nat) => P.int (m + i)) fun _ => True
  | .range3, [.int m, .int n, .int st] => (-(2 ^ 62) ≤ m ∧ m < 2 ^ 62 ∧ -(2 ^ 62) ≤ n ∧ n < 2 ^ 62 ∧ ((st = -1 ∧ m - n ≤ sizeLine) ∨ (0 < st ∧ st < 2 ^ 20 ∧ n - m ≤ sizeLine))) ∧ K (steps3 m n st) fun _ => True
  | .enum, [.loc a] => match S a with
    | some (.lst xs) => xs.length ≤ sizeLine → K (xs.zipIdx.map fun p => P.tup [.int p.2, p.1]) fun S' => S' a = some (.lst xs)
    | _ => False
  | .enum, [.tup xs] => xs.length ≤ sizeLine → K (xs.zipIdx.map fun p => P.tup [.int p.2, p.1]) fun _ => True
  | .zip, [.tup xs, .tup ys] => xs.length ≤ sizeLine → K (zipP xs ys) fun _ => True
  | .zip, [.loc a, .loc b] => match S a, S b with
    | some (.lst xs), some (.lst ys) => xs.length ≤ sizeLine → K (zipP xs ys) fun S' => S' a = some (.lst xs) ∧ S' b = some (.lst ys)
    | _, _ => False
  | .zip, [.tup xs, .loc b] => match S b with
    | some (.lst ys) => xs.length ≤ sizeLine → K (zipP xs ys) fun S' => S' b = some (.lst ys)
    | _ => False
  | .zip, [.loc a, .tup ys] => match S a with
    | some (.lst xs) => xs.length ≤ sizeLine → K (zipP xs ys) fun S' => S' a = some (.lst xs)
    | _ => False
  | _, _ => False

def putN (f : Nat) (p : P) : List (Nat × P) → List (Nat × P)
  | [] => [(f, p)]
  | (g, q) :: r => if g = f then (g, p) :: r else (g, q) :: putN f p r

mutual
def wpVT : VT → P → Loc → (Loc → Prop) → Prop
  | .nm i, p, ρ, Q => Q (ρ.set i (some p))
  | .tup ts, p, ρ, Q => match p with
    | .tup xs => wpVTs ts xs ρ Q
    | _ => False
def wpVTs : List VT → List P → Loc → (Loc → Prop) → Prop
  | [], xs, ρ, Q => match xs with
    | [] => Q ρ
    | _ :: _ => False
  | t :: ts, xs, ρ, Q => match xs with
    | x :: xs => wpVT t x ρ fun ρ' => wpVTs ts xs ρ' Q
    | [] => False
end
def wipeP (ρ : Loc) : List Nat → Loc
  | [] => ρ
  | v :: vs => (wipeP ρ vs).set v none
def noE : QE := fun _ _ => False

mutual
def wpE (G : Env) : CE → Loc → Store → QP → QE → Prop
  | .var i, ρ, S, Q, _ => match ρ[i]? with
    | some (some p) => Q p S
    | _ => False
  | .lit p, _, S, Q, _ => Q p S
  | .con i, _, S, Q, _ => Q (G.con i) S
  | .fnv i, _, S, Q, _ => Q (.fn i) S
  | .tup es, ρ, S, Q, E => wpEs G es ρ S (fun ps S' => Q (.tup ps) S') E
  | .lst es, ρ, S, Q, E => wpEs G es ρ S (fun ps S' => ∀ a, S' a = none → Q (.loc a) (S'.upd a (.lst ps))) E
  | .bin op a b, ρ, S, Q, E => wpE G a ρ S (fun x S1 => wpE G b ρ S1 (fun y S2 => opBin op x y S2 Q) E) E
  | .neg a, ρ, S, Q, E => wpE G a ρ S (fun x S1 => match x with
    | .int i => Q (.int (-i)) S1
    | _ => False) E
  | .cmp op a b, ρ, S, Q, E => wpE G a ρ S (fun x S1 => wpE G b ρ S1 (fun y S2 => opCmp op x y S2 Q) E) E
  | .chn op op' a b c, ρ, S, Q, E => wpE G a ρ S (fun x S1 => wpE G b ρ S1 (fun y S2 => opCmp op x y S2 fun z S3 => match z with
    | .bl true => wpE G c ρ S3 (fun u S4 => opCmp op' y u S4 Q) E
    | .bl false => Q (.bl false) S3
    | _ => False) E) E
  | .and_ a b, ρ, S, Q, E => wpE G a ρ S (fun x S1 => match truthS S1 x with
    | some true => wpE G b ρ S1 Q E
    | some false => Q x S1
    | none => False) E
  | .or_ a b, ρ, S, Q, E => wpE G a ρ S (fun x S1 => match truthS S1 x with
    | some true => Q x S1
    | some false => wpE G b ρ S1 Q E
    | none => False) E
  | .not_ a, ρ, S, Q, E => wpE G a ρ S (fun x S1 => match truthS S1 x with
    | some b => Q (.bl (!b)) S1
    | none => False) E
  | .ife c a b, ρ, S, Q, E => wpE G c ρ S (fun x S1 => match truthS S1 x with
    | some true => wpE G a ρ S1 Q E
    | some false => wpE G b ρ S1 Q E
    | none => False) E
  | .idx a i, ρ, S, Q, E => wpE G a ρ S (fun x S1 => wpE G i ρ S1 (fun y S2 => opIdx x y S2 Q) E) E
  | .slc a lo hi, ρ, S, Q, E => wpE G a ρ S (fun x S1 => wpO G lo ρ S1 (fun l S2 => match partOf l with
    | some l => wpO G hi ρ S2 (fun h S3 => match partOf h with
      | some h => opSlc x l h S3 Q
      | none => False) E
    | none => False) E) E
  | .fld a f, ρ, S, Q, E => wpE G a ρ S (fun x S1 => match x with
    | .loc l => match S1 l with
      | some (.ins _ fs) => match fs.lookup f with
        | some p => Q p S1
        | none => False
      | _ => False
    | _ => False) E
  | .call f es, ρ, S, Q, E => wpEs G es ρ S (fun ps S1 => G.fn f ps S1 Q E) E
  | .mk c es, ρ, S, Q, E => wpEs G es ρ S (fun ps S1 => ∀ a, S1 a = none → G.ini c (.loc a :: ps) (S1.upd a (.ins c [])) (fun v S2 => v = .non ∧ Q (.loc a) S2) E) E
  | .blt f es, ρ, S, Q, E => wpEs G es ρ S (fun ps S1 => bfS f ps S1 Q) E
  | .isi a ts, ρ, S, Q, E => wpE G a ρ S (fun x S1 => match tyOf S1 x with
    | some t => Q (.bl (ts.any fun u => isTy t u)) S1
    | none => False) E
  | .mth a m es, ρ, S, Q, E => wpE G a ρ S (fun x S1 => match x with
    | .loc l => match S1 l with
      | some (.ins c _) => G.has c m = true ∧ wpEs G es ρ S1 (fun ps S2 => G.mth c m (.loc l :: ps) S2 Q E) E
      | _ => False
    | _ => False) E
  | .bmt a m es, ρ, S, Q, E => wpE G a ρ S (fun x S1 => rcv m x S1 ∧ wpEs G es ρ S1 (fun ps S2 => bmS m x ps S2 Q) E) E
  | .cmpr own k args tg elt cond, ρ, S, Q, E => wpEs G args ρ S (fun vs S1 => iterS k vs S1 fun items Gd => ∀ D, S1 D = none →
      ∃ I : Nat → List P → Store → Prop, I 0 [] (S1.upd D (.lst [])) ∧
        (∀ i x acc S2, items[i]? = some x → I i acc S2 → acc.length ≤ i → Gd S2 ∧ wpVT tg x (wipeP ρ own) fun ρ2 => wpC G cond ρ2 S2 (fun b S3 =>
          if b = true then wpE G elt ρ2 S3 (fun p S4 => S4 D = some (.lst acc) ∧ I (i + 1) (acc ++ [p]) (S4.upd D (.lst (acc ++ [p])))) noE else I (i + 1) acc S3)) ∧
        (∀ acc S2, I items.length acc S2 → acc.length ≤ items.length → Gd S2 ∧ Q (.loc D) S2)) E
  | .rev a, ρ, S, Q, E => wpE G a ρ S (fun x S1 => match x with
    | .tup xs => xs.length ≤ sizeLine → Q (.tup xs.reverse) S1
    | x => match seqOf S1 x with
      | some xs => xs.length ≤ sizeLine → ∀ c, S1 c = none → Q (.loc c) (S1.upd c (.lst xs.reverse))
      | none => False) E
  | .slw a w, ρ, S, Q, E => wpE G a ρ S (fun x S1 => wpE G w ρ S1 (fun y S2 => match y with
    | .int i => (i = 1 ∨ i = -1) ∧ (match x with
      | .tup xs => xs.length ≤ sizeLine → Q (.tup (if i = 1 then xs else xs.reverse)) S2
      | x => match seqOf S2 x with
        | some xs => xs.length ≤ sizeLine → ∀ c, S2 c = none → Q (.loc c) (S2.upd c (.lst (if i = 1 then xs else xs.reverse)))
        | none => False)
    | _ => False) E) E
  | .dct es, ρ, S, Q, E => ∀ a, S a = none → wpEs G es ρ (S.upd a (.dct [])) (fun ps S1 => S1 a = some (.dct []) ∧ (((pairsP ps).all fun kv => flK kv.1) = true ∨ (pairsP ps ≠ [] ∧ ((pairsP ps).all fun kv => tuK kv.1) = true)) ∧ Q (.loc a) (S1.upd a (.dct ((pairsP ps).foldl (fun m kv => putP m kv.1 kv.2) [])))) E
  | .cvar i es, ρ, S, Q, E => match ρ[i]? with
    | some (some (.fn f)) => wpEs G es ρ S (fun ps S1 => G.fn f ps S1 Q E) E
    | _ => False
  | .lrg es, ρ, S, Q, E => wpEs G es ρ S (fun ps S1 => iterS .range ps S1 fun items _ => ∀ c, S1 c = none → Q (.loc c) (S1.upd c (.lst items))) E
def wpEs (G : Env) : List CE → Loc → Store → (List P → Store → Prop) → QE → Prop
  | [], _, S, Q, _ => Q [] S
  | e :: es, ρ, S, Q, E => wpE G e ρ S (fun p S1 => wpEs G es ρ S1 (fun ps S2 => Q (p :: ps) S2) E) E
def wpO (G : Env) : Option CE → Loc → Store → (Option P → Store → Prop) → QE → Prop
  | none, _, S, Q, _ => Q none S
  | some e, ρ, S, Q, E => wpE G e ρ S (fun p S1 => Q (some p) S1) E
def wpC (G : Env) : Option CE → Loc → Store → (Bool → Store → Prop) → Prop
  | none, _, S, Q => Q true S
  | some e, ρ, S, Q => wpE G e ρ S (fun p S1 => match truthS S1 p with
    | some b => Q b S1
    | none => False) noE
end

/-- what is wanted behind a statement -/
structure DE where
  nx : Loc → Store → Prop
  rt : QP
  bk : Loc → Store → Prop
  ct : Loc → Store → Prop
  ex : QE

/-- x[y], to be written again -/
def getS (x y : P) (S : Store) (Q : QP) : Prop :=
  match dctS x S with
  | some (_, kvs) => okK kvs y = true ∧ ∃ v, valP kvs y = some v ∧ Q v S
  | none => match lstS x S, y with
    | some (_, xs), .int i => xs.length ≤ sizeLine → ∃ v, atI xs i = some v ∧ Q v S
    | _, _ => False
/-- x[y] = p -/
def putS (x y p : P) (S : Store) (Q : Store → Prop) : Prop :=
  match dctS x S with
  | some (l, kvs) => okK kvs y = true ∧ kvs.length < sizeLine ∧ Q (S.upd l (.dct (putP kvs y p)))
  | none => match lstS x S, y with
    | some (l, xs), .int k => xs.length ≤ sizeLine → ∃ j, ixN xs.length k = some j ∧ Q (S.upd l (.lst (xs.set j p)))
    | _, _ => False
mutual
def wpT (G : Env) : Tgt → P → Loc → Store → (Loc → Store → Prop) → QE → Prop
  | .nm i, p, ρ, S, Q, _ => Q (ρ.set i (some p)) S
  | .tup ts, p, ρ, S, Q, E => match p with
    | .tup xs => xs.length = ts.length ∧ wpTs G ts xs ρ S Q E
    | _ => False
  | .sub a i, p, ρ, S, Q, E => wpE G a ρ S (fun x S1 => wpE G i ρ S1 (fun y S2 => putS x y p S2 fun S3 => Q ρ S3) E) E
  | .fld a f, p, ρ, S, Q, E => wpE G a ρ S (fun x S1 => match x with
    | .loc l => match S1 l with
      | some (.ins c fs) => fs.length < 1000 ∧ Q ρ (S1.upd l (.ins c (putN f p fs)))
      | _ => False
    | _ => False) E
def wpTs (G : Env) : List Tgt → List P → Loc → Store → (Loc → Store → Prop) → QE → Prop
  | [], xs, ρ, S, Q, _ => match xs with
    | [] => Q ρ S
    | _ :: _ => False
  | t :: ts, xs, ρ, S, Q, E => match xs with
    | x :: xs => wpT G t x ρ S (fun ρ' S' => wpTs G ts xs ρ' S' Q E) E
    | [] => False
end

def setAll (ρ : Loc) : List Nat → List P → Loc
  | i :: is, p :: ps => setAll (ρ.set i (some p)) is ps
  | _, _ => ρ
/-- what the clauses make of an error -/
def wpH (hs : List (Nat × Option Nat × HS)) (D : DE) (ρ : Loc) (ex : Exc) (S : Store) : Prop :=
  match hs with
  | [] => D.ex ex S
  | (c, i, h) :: r => if ex.cls = c then
      (match h with
      | .lit p => D.rt p S
      | .fld f => (match ex.fs.lookup f with
        | some p => D.rt p S
        | none => False)
      | .pre s f => match ex.fs.lookup f with
        | some (.str t) => s.length + t.length ≤ sizeLine ∧ D.rt (.str (s ++ t)) S
        | _ => False)
    else wpH r D ρ ex S

mutual
def wpS (G : Env) : CS → Loc → Store → DE → Prop
  | .asg t e, ρ, S, D => wpE G e ρ S (fun p S1 => wpT G t p ρ S1 D.nx D.ex) D.ex
  | .par is es, ρ, S, D => wpEs G es ρ S (fun ps S1 => D.nx (setAll ρ is ps) S1) D.ex
  | .aug i op e, ρ, S, D => match ρ[i]? with
    | some (some x) => wpE G e ρ S (fun y S1 => opAug op x y S1 fun z S2 => D.nx (ρ.set i (some z)) S2) D.ex
    | _ => False
  | .augF a f op e, ρ, S, D => wpE G a ρ S (fun x S1 => match x with
    | .loc l => match S1 l with
      | some (.ins c0 fs) => match fs.lookup f with
        | some p => wpE G e ρ S1 (fun y S2 => opAug op p y S2 fun z S3 => match S3 l with
          | some (.ins c fs) => (c = c0 ∧ fs.length < 1000) ∧ D.nx ρ (S3.upd l (.ins c (putN f z fs)))
          | _ => False) D.ex
        | none => False
      | _ => False
    | _ => False) D.ex
  | .augI a i op e, ρ, S, D => wpE G a ρ S (fun x S1 => wpE G i ρ S1 (fun y S2 => getS x y S2 fun p S3 => wpE G e ρ S3 (fun z S4 => opAug op p z S4 fun w S5 => putS x y w S5 fun S6 => D.nx ρ S6) D.ex) D.ex) D.ex
  | .if_ c a b, ρ, S, D => wpE G c ρ S (fun x S1 => match truthS S1 x with
    | some true => wpB G a ρ S1 D
    | some false => wpB G b ρ S1 D
    | none => False) D.ex
  | .whl c b, ρ, S, D => ∃ (I : Loc → Store → Prop) (μ : Loc → Store → Nat), I ρ S ∧ ∀ ρ S, I ρ S → wpE G c ρ S (fun x S1 => match truthS S1 x with
    | some true => wpB G b ρ S1 { D with nx := fun ρ' S' => I ρ' S' ∧ μ ρ' S' < μ ρ S, ct := fun ρ' S' => I ρ' S' ∧ μ ρ' S' < μ ρ S, bk := D.nx }
    | some false => D.nx ρ S1
    | none => False) D.ex
  | .for_ k args tg b, ρ, S, D => wpEs G args ρ S (fun vs S1 => iterS k vs S1 fun items Gd =>
      ∃ I : Nat → Loc → Store → Prop, I 0 ρ S1 ∧
        (∀ i x ρ S, items[i]? = some x → I i ρ S → Gd S ∧ wpVT tg x ρ fun ρ2 => wpB G b ρ2 S { D with nx := I (i + 1), ct := I (i + 1), bk := D.nx }) ∧
        (∀ ρ S, I items.length ρ S → Gd S ∧ D.nx ρ S)) D.ex
  | .ret e, ρ, S, D => wpE G e ρ S D.rt D.ex
  | .retN, _, S, D => D.rt .non S
  | .rse c es, ρ, S, D => 2 ≤ G.lv ∧ wpEs G es ρ S (fun ps S1 => match G.xc c, ps with
    | some none, [] => D.ex ⟨c, []⟩ S1
    | some (some f), [v] => D.ex ⟨c, [(f, v)]⟩ S1
    | _, _ => False) D.ex
  | .exp e, ρ, S, D => wpE G e ρ S (fun _ S1 => D.nx ρ S1) D.ex
  | .brk, ρ, S, D => D.bk ρ S
  | .cnt, ρ, S, D => D.ct ρ S
  | .pass, ρ, S, D => D.nx ρ S
  | .try_ b hs, ρ, S, D => wpB G b ρ S { D with ex := fun ex S' => wpH hs D ρ ex S' }
def wpB (G : Env) : List CS → Loc → Store → DE → Prop
  | [], ρ, S, D => Wk S fun S' => D.nx ρ S'
  | s :: ss, ρ, S, D => Wk S fun S' => wpS G s ρ S' { D with nx := fun ρ' S' => wpB G ss ρ' S' D }
end
end Core
end
section
/-! Core2: how clean values lie in the abstract heap; the translation. -/
namespace Core
open PySem L2

/-- the names of the program's top -/
structure Tab where
  fns : List Str
  cns : List Str
  cls : List Str
  att : List Str
  mts : List Str
  xc : Nat → Option (Option Nat)

/-- what the heap's facts lean on -/
structure Bs where
  K : PySem.W.Frag
  mg : Str → Option Value
  T : Tab
  w : World

mutual
def Rep (B : Bs) (H : Hp) : P → V → Prop
  | .non, v => v = .non
  | .bl b, v => v = .bl b
  | .int i, v => v = .int i
  | .str s, v => v = .str s
  | .tup ps, v => ∃ a vs, v = .ref a ∧ SqT B.K H a vs ∧ vs.length ≤ sizeLine ∧ Reps B H ps vs
  | .frl ps, v => ∃ a vs, v = .ref a ∧ ((∃ o, H a = some (.frz o (.lst vs))) ∨ ∃ (o : Obj) (its : Array Value) (n : Nat), B.K.lookup a = some o ∧ o.cls = .type "list" ∧ o.dict = none ∧ o.data = .seq its n ∧ its.size ≤ sizeLine ∧ Vals vs its.toList) ∧
      vs.length ≤ sizeLine ∧ Reps B H ps vs
  | .loc a, v => v = .ref a
  | .fn i, v => ∃ x a, B.T.fns[i]? = some x ∧ B.mg x = some (.ref a) ∧ v = .ref a
def Reps (B : Bs) (H : Hp) : List P → List V → Prop
  | [], vs => vs = []
  | p :: ps, vs => ∃ v r, vs = v :: r ∧ Rep B H p v ∧ Reps B H ps r
end

theorem Reps.length {B : Bs} {H : Hp} : ∀ {ps : List P} {vs : List V}, Reps B H ps vs → vs.length = ps.length
  | [], vs, h => by unfold Reps at h; subst h; rfl
  | p :: ps, vs, h => by
    unfold Reps at h
    obtain ⟨v, r, rfl, _, h⟩ := h
    simp [Reps.length h]
theorem Reps.nil {B : Bs} {H : Hp} : Reps B H [] [] := by unfold Reps; rfl
theorem Reps.cons {B : Bs} {H : Hp} {p : P} {ps : List P} {v : V} {vs : List V} (h : Rep B H p v) (t : Reps B H ps vs) : Reps B H (p :: ps) (v :: vs) := by
  unfold Reps; exact ⟨v, vs, rfl, h, t⟩
theorem Reps.cons_inv {B : Bs} {H : Hp} {p : P} {ps : List P} {vs : List V} (h : Reps B H (p :: ps) vs) : ∃ v r, vs = v :: r ∧ Rep B H p v ∧ Reps B H ps r := by
  unfold Reps at h; exact h
theorem Reps.nil_inv {B : Bs} {H : Hp} {vs : List V} (h : Reps B H [] vs) : vs = [] := by unfold Reps at h; exact h
theorem Reps.get {B : Bs} {H : Hp} : ∀ {ps : List P} {vs : List V} {i : Nat} {p : P}, Reps B H ps vs → ps[i]? = some p → ∃ v, vs[i]? = some v ∧ Rep B H p v
  | [], _, _, _, _, e => by simp at e
  | q :: ps, _, 0, p, h, e => by
    obtain ⟨v, r, rfl, h1, _⟩ := h.cons_inv
    simp at e; subst e
    exact ⟨v, rfl, h1⟩
  | q :: ps, _, i + 1, p, h, e => by
    obtain ⟨v, r, rfl, _, h2⟩ := h.cons_inv
    obtain ⟨u, e1, e2⟩ := Reps.get (i := i) h2 (by simpa using e)
    exact ⟨u, by simpa using e1, e2⟩
theorem Reps.get' {B : Bs} {H : Hp} {ps : List P} {vs : List V} {i : Nat} {v : V} (h : Reps B H ps vs) (e : vs[i]? = some v) : ∃ p, ps[i]? = some p ∧ Rep B H p v := by
  have hi : i < ps.length := by
    have := (List.getElem?_eq_some_iff.mp e).1
    rw [h.length] at this; exact this
  obtain ⟨u, e1, e2⟩ := h.get (i := i) (p := ps[i]) (by simp [hi])
  rw [e] at e1; cases e1
  exact ⟨ps[i], by simp [hi], e2⟩
theorem Reps.append {B : Bs} {H : Hp} : ∀ {ps qs : List P} {vs us : List V}, Reps B H ps vs → Reps B H qs us → Reps B H (ps ++ qs) (vs ++ us)
  | [], _, _, _, h, t => by rw [h.nil_inv]; exact t
  | p :: ps, _, _, _, h, t => by
    obtain ⟨v, r, rfl, h1, h2⟩ := h.cons_inv
    exact .cons h1 (Reps.append h2 t)
theorem Reps.take {B : Bs} {H : Hp} : ∀ {ps : List P} {vs : List V} (n : Nat), Reps B H ps vs → Reps B H (ps.take n) (vs.take n)
  | [], _, n, h => by rw [h.nil_inv]; simp; exact .nil
  | p :: ps, _, 0, h => .nil
  | p :: ps, _, n + 1, h => by
    obtain ⟨v, r, rfl, h1, h2⟩ := h.cons_inv
    exact .cons h1 (Reps.take n h2)
theorem Reps.drop {B : Bs} {H : Hp} : ∀ {ps : List P} {vs : List V} (n : Nat), Reps B H ps vs → Reps B H (ps.drop n) (vs.drop n)
  | [], _, n, h => by rw [h.nil_inv]; simp; exact .nil
  | p :: ps, _, 0, h => h
  | p :: ps, _, n + 1, h => by
    obtain ⟨v, r, rfl, h1, h2⟩ := h.cons_inv
    exact Reps.drop n h2
theorem Reps.set {B : Bs} {H : Hp} {p : P} {v : V} (r : Rep B H p v) : ∀ {ps : List P} {vs : List V} (i : Nat), Reps B H ps vs → Reps B H (ps.set i p) (vs.set i v)
  | [], _, n, h => by rw [h.nil_inv]; simp; exact .nil
  | q :: ps, _, 0, h => by
    obtain ⟨v, r', rfl, h1, h2⟩ := h.cons_inv
    exact .cons r h2
  | q :: ps, _, n + 1, h => by
    obtain ⟨v, r', rfl, h1, h2⟩ := h.cons_inv
    exact .cons h1 (Reps.set r n h2)
theorem Reps.dropLast {B : Bs} {H : Hp} {ps : List P} {vs : List V} (h : Reps B H ps vs) : Reps B H ps.dropLast vs.dropLast := by
  rw [List.dropLast_eq_take, List.dropLast_eq_take, h.length]
  exact h.take _
theorem Reps.eraseIdx {B : Bs} {H : Hp} : ∀ {ps : List P} {vs : List V} (i : Nat), Reps B H ps vs → Reps B H (ps.eraseIdx i) (vs.eraseIdx i)
  | [], _, n, h => by rw [h.nil_inv]; simp; exact .nil
  | q :: ps, _, 0, h => by
    obtain ⟨v, r', rfl, h1, h2⟩ := h.cons_inv
    exact h2
  | q :: ps, _, n + 1, h => by
    obtain ⟨v, r', rfl, h1, h2⟩ := h.cons_inv
    exact .cons h1 (Reps.eraseIdx n h2)
theorem Reps.reverse {B : Bs} {H : Hp} : ∀ {ps : List P} {vs : List V}, Reps B H ps vs → Reps B H ps.reverse vs.reverse
  | [], _, h => by rw [h.nil_inv]; exact .nil
  | q :: ps, _, h => by
    obtain ⟨v, r', rfl, h1, h2⟩ := h.cons_inv
    rw [List.reverse_cons, List.reverse_cons]
    exact (Reps.reverse h2).append (.cons h1 .nil)
theorem Reps.rep {B : Bs} {H : Hp} {ps : List P} {vs : List V} (h : Reps B H ps vs) : ∀ k : Nat, Reps B H (List.replicate k ps).flatten (List.replicate k vs).flatten
  | 0 => .nil
  | k + 1 => by
    rw [List.replicate_succ, List.replicate_succ, List.flatten_cons, List.flatten_cons]
    exact h.append (Reps.rep h k)

/-- the heap keeps what never changes -/
structure Ext (H H' : Hp) : Prop where
  tup : ∀ a vs, H a = some (.tup vs) → H' a = some (.tup vs)
  frz : ∀ a o u, H a = some (.frz o u) → H' a = some (.frz o u)
theorem Ext.refl (H : Hp) : Ext H H := ⟨fun _ _ h => h, fun _ _ _ h => h⟩
theorem Ext.trans {H H1 H2 : Hp} (a : Ext H H1) (b : Ext H1 H2) : Ext H H2 := ⟨fun x v h => b.tup x v (a.tup x v h), fun x o u h => b.frz x o u (a.frz x o u h)⟩
theorem Ext.fresh {H : Hp} {p : Addr} {o : HO} (h : H p = none) : Ext H (upd H p o) :=
  ⟨fun a vs e => by rw [upd_ne (ne_of_none e h)]; exact e, fun a ob u e => by rw [upd_ne (ne_of_none e h)]; exact e⟩
theorem Ext.mut {H : Hp} {p : Addr} {o o' : HO} (h : H p = some o) (h1 : ∀ vs, o ≠ .tup vs) (h2 : ∀ ob u, o ≠ .frz ob u) : Ext H (upd H p o') :=
  ⟨fun a vs e => by rw [upd_ne (ne_of e h (fun z => h1 vs z.symm))]; exact e, fun a ob u e => by rw [upd_ne (ne_of e h (fun z => h2 ob u z.symm))]; exact e⟩
theorem Ext.lst {H : Hp} {p : Addr} {xs : List V} {o' : HO} (h : H p = some (.lst xs)) : Ext H (upd H p o') := .mut h (fun _ z => by cases z) (fun _ _ z => by cases z)
theorem Ext.ins {H : Hp} {p C dx : Addr} {fs : List (Str × V)} {o' : HO} (h : H p = some (.ins C dx fs)) : Ext H (upd H p o') := .mut h (fun _ z => by cases z) (fun _ _ z => by cases z)
theorem Ext.sqt {K : PySem.W.Frag} {H H' : Hp} (e : Ext H H') {a : Addr} {vs : List V} (h : SqT K H a vs) : SqT K H' a vs := by
  rcases h with (h | ⟨o, h⟩) | h
  · exact .inl (.inl (e.tup _ _ h))
  · exact .inl (.inr ⟨o, e.frz _ _ _ h⟩)
  · exact .inr h

mutual
theorem Rep.ext {B : Bs} {H H' : Hp} (e : Ext H H') : ∀ {p : P} {v : V}, Rep B H p v → Rep B H' p v
  | .non, _, h => by unfold Rep at h ⊢; exact h
  | .bl b, _, h => by unfold Rep at h ⊢; exact h
  | .int i, _, h => by unfold Rep at h ⊢; exact h
  | .str s, _, h => by unfold Rep at h ⊢; exact h
  | .tup ps, _, h => by
    unfold Rep at h ⊢
    obtain ⟨a, vs, h1, h2, h3, h4⟩ := h
    exact ⟨a, vs, h1, e.sqt h2, h3, Reps.ext e h4⟩
  | .frl ps, _, h => by
    unfold Rep at h ⊢
    obtain ⟨a, vs, h1, h2, h3, h4⟩ := h
    refine ⟨a, vs, h1, ?_, h3, Reps.ext e h4⟩
    rcases h2 with ⟨o, h2⟩ | h2
    · exact .inl ⟨o, e.frz _ _ _ h2⟩
    · exact .inr h2
  | .loc a, _, h => by unfold Rep at h ⊢; exact h
  | .fn i, _, h => by unfold Rep at h ⊢; exact h
theorem Reps.ext {B : Bs} {H H' : Hp} (e : Ext H H') : ∀ {ps : List P} {vs : List V}, Reps B H ps vs → Reps B H' ps vs
  | [], _, h => by unfold Reps at h ⊢; exact h
  | p :: ps, _, h => by
    unfold Reps at h ⊢
    obtain ⟨v, r, h1, h2, h3⟩ := h
    exact ⟨v, r, h1, Rep.ext e h2, Reps.ext e h3⟩
end

/-- the fields of an instance, by name -/
def RepF (B : Bs) (H : Hp) : List (Nat × P) → List (Str × V) → Prop
  | [], fs => fs = []
  | (f, p) :: r, fs => ∃ x v t, fs = (x, v) :: t ∧ B.T.att[f]? = some x ∧ Rep B H p v ∧ RepF B H r t
theorem RepF.ext {B : Bs} {H H' : Hp} (e : Ext H H') : ∀ {fs : List (Nat × P)} {gs : List (Str × V)}, RepF B H fs gs → RepF B H' fs gs
  | [], _, h => h
  | (f, p) :: r, _, ⟨x, v, t, h1, h2, h3, h4⟩ => ⟨x, v, t, h1, h2, h3.ext e, RepF.ext e h4⟩
theorem RepF.length {B : Bs} {H : Hp} : ∀ {fs : List (Nat × P)} {gs : List (Str × V)}, RepF B H fs gs → gs.length = fs.length
  | [], _, h => by rw [show _ = [] from h]; rfl
  | (f, p) :: r, _, ⟨x, v, t, h1, _, _, h4⟩ => by rw [h1]; simp [RepF.length h4]

/-- a dict whose keys are tuples: its table -/
def dN (w : World) (a : Addr) (xs : List (NestedKey × Addr × Value)) : HO := .ext fun h => ∃ o es ep, h.get? a = some o ∧ o.ExactDict ∧ o.data = .dict es ep ∧ es.toList = xs.map (fun x => (⟨x.1.hash w, .ref x.2.1, x.2.2⟩ : DictEntry)) ∧ (xs.map (·.1)).Nodup ∧ xs.length ≤ sizeLine ∧ (a == sysModules) = false
abbrev DK (B : Bs) (H : Hp) : List (P × P) → List (Key × V) → Prop := Paired fun p q => p.1 = (match q.1 with | .inl i => P.int i | .inr s => P.str s) ∧ Rep B H p.2 q.2
abbrev DT (B : Bs) (H : Hp) : List (P × P) → List (NestedKey × Addr × Value) → Prop := Paired fun p q => tuK p.1 = true ∧ keyOf p.1 = some q.1 ∧ Rep B H p.1 (.ref q.2.1) ∧ ∃ v, RelV v q.2.2 ∧ Rep B H p.2 v
theorem DK.ext {B : Bs} {H H' : Hp} (e : Ext H H') {kvs : List (P × P)} {ks : List (Key × V)} (h : DK B H kvs ks) : DK B H' kvs ks := Paired.mapP h fun _ _ z => ⟨z.1, z.2.ext e⟩
theorem DT.ext {B : Bs} {H H' : Hp} (e : Ext H H') {kvs : List (P × P)} {xs : List (NestedKey × Addr × Value)} (h : DT B H kvs xs) : DT B H' kvs xs := Paired.mapP h fun _ _ ⟨z1, z2, z3, v, z4, z5⟩ => ⟨z1, z2, z3.ext e, v, z4, z5.ext e⟩
def DRep (B : Bs) (H : Hp) (a : Addr) (kvs : List (P × P)) : Prop :=
  (∃ ks, H a = some (.dK ks) ∧ DK B H kvs ks ∧ kvs.length ≤ sizeLine) ∨ (kvs ≠ [] ∧ ∃ xs, H a = some (dN B.w a xs) ∧ DT B H kvs xs)
theorem DRep.ext {B : Bs} {H H' : Hp} {a : Addr} {kvs : List (P × P)} (e : Ext H H') (k : H' a = H a) (h : DRep B H a kvs) : DRep B H' a kvs := by
  rcases h with ⟨ks, h1, h2, z⟩ | ⟨hn, xs, h1, h2⟩
  · exact .inl ⟨ks, k.trans h1, h2.ext e, z⟩
  · exact .inr ⟨hn, xs, k.trans h1, h2.ext e⟩
def MRep (B : Bs) (H : Hp) (a : Addr) : MO → Prop
  | .lst ps => ∃ vs, H a = some (.lst vs) ∧ vs.length ≤ sizeLine ∧ Reps B H ps vs
  | .any p => ∃ ps vs, p ps ∧ H a = some (.lst vs) ∧ vs.length ≤ sizeLine ∧ Reps B H ps vs
  | .dct kvs => DRep B H a kvs
  | .ins c fs => ∃ x C dx gs, (B.T.cls[c]? = some x ∧ B.mg x = some (.ref C) ∧ Cls B.K C ∧ ∀ (f : Nat) (y : Str), B.T.att[f]? = some y → NoAttr B.K C y) ∧ H a = some (.ins C dx gs) ∧ RepF B H fs gs
def RelS (B : Bs) (S : Store) (H : Hp) : Prop := ∀ a o, S a = some o → MRep B H a o
theorem MRep.ext {B : Bs} {H H' : Hp} {a : Addr} {o : MO} (e : Ext H H') (k : H' a = H a) (h : MRep B H a o) : MRep B H' a o := by
  cases o with
  | lst ps => obtain ⟨vs, h1, h2, h3⟩ := h; exact ⟨vs, k.trans h1, h2, h3.ext e⟩
  | any p => obtain ⟨ps, vs, h0, h1, h2, h3⟩ := h; exact ⟨ps, vs, h0, k.trans h1, h2, h3.ext e⟩
  | dct _ => exact DRep.ext e k h
  | ins c fs => obtain ⟨x, C, dx, gs, h1, h3, h4⟩ := h; exact ⟨x, C, dx, gs, h1, k.trans h3, h4.ext e⟩
theorem RelS.free {B : Bs} {S : Store} {H : Hp} (h : RelS B S H) {a : Addr} (e : H a = none) : S a = none := by
  cases q : S a with
  | none => rfl
  | some o =>
    have := h a o q
    cases o with
    | lst ps => obtain ⟨vs, h1, _⟩ := this; rw [e] at h1; cases h1
    | any p => obtain ⟨_, vs, _, h1, _⟩ := this; rw [e] at h1; cases h1
    | dct _ => rcases this with ⟨_, h1, _⟩ | ⟨_, _, h1, _⟩ <;> (rw [e] at h1; cases h1)
    | ins c fs => obtain ⟨x, C, dx, gs, _, h3, _⟩ := this; rw [e] at h3; cases h3
/-- an object is laid or written, in both -/
theorem RelS.upd {B : Bs} {S : Store} {H : Hp} {a : Addr} {o : MO} {u : HO} (h : RelS B S H) (e : Ext H (upd H a u)) (n : MRep B (upd H a u) a o) : RelS B (S.upd a o) (upd H a u) := fun b ob q => by
  by_cases hb : b = a
  · subst hb
    rw [Store.upd_same] at q; cases q
    exact n
  · rw [Store.upd_ne hb] at q
    exact (h b ob q).ext e (upd_ne hb)
/-- a new object that the store does not bear -/
theorem RelS.ext {B : Bs} {S : Store} {H : Hp} {a : Addr} {u : HO} (h : RelS B S H) (n : H a = none) : RelS B S (L2.upd H a u) := fun b ob q => by
  have hb : b ≠ a := fun z => by rw [z, h.free n] at q; cases q
  exact (h b ob q).ext (.fresh n) (upd_ne hb)
theorem RelS.sub {B : Bs} {S S' : Store} {H : Hp} (h : RelS B S H) (k : ∀ a o, S' a = some o → S a = some o) : RelS B S' H := fun a o e => h a o (k a o e)

/-- what is told in other words stays true -/
theorem RelS.wk {B : Bs} {S : Store} {H : Hp} {F : Store → Prop} (k : Wk S F) (h : RelS B S H) : ∃ S', RelS B S' H ∧ F S' := by
  induction k with
  | here f => exact ⟨_, h, f⟩
  | drop d _ ih => exact ih (h.sub d)
  | @opn S a p F e _ ih =>
    obtain ⟨ps, vs, h0, h1, h2, h3⟩ := h a _ e
    refine ih ps h0 fun b o q => ?_
    by_cases hb : b = a
    · subst hb; rw [Store.upd_same] at q; cases q; exact ⟨vs, h1, h2, h3⟩
    · rw [Store.upd_ne hb] at q; exact h b o q
  | @cls S a xs p F e hp _ ih =>
    obtain ⟨vs, h1, h2, h3⟩ := h a _ e
    refine ih fun b o q => ?_
    by_cases hb : b = a
    · subst hb; rw [Store.upd_same] at q; cases q; exact ⟨xs, vs, hp, h1, h2, h3⟩
    · rw [Store.upd_ne hb] at q; exact h b o q
/-- slots -/
structure RelL (B : Bs) (H : Hp) (σ : St) (ρ : Loc) : Prop where
  len : σ.length = ρ.length
  at_ : ∀ (i : Nat) (p : P), ρ[i]? = some (some p) → ∃ v, σ[i]? = some (some v) ∧ Rep B H p v
theorem RelL.ext {B : Bs} {H H' : Hp} {σ : St} {ρ : Loc} (e : Ext H H') (h : RelL B H σ ρ) : RelL B H' σ ρ := ⟨h.len, fun i p q => by
  obtain ⟨v, h1, h2⟩ := h.at_ i p q
  exact ⟨v, h1, h2.ext e⟩⟩
theorem RelL.set {B : Bs} {H : Hp} {σ : St} {ρ : Loc} {i : Nat} {p : P} {v : V} (h : RelL B H σ ρ) (r : Rep B H p v) : RelL B H (σ.set i (some v)) (ρ.set i (some p)) := by
  refine ⟨by simpa using h.len, fun j q e => ?_⟩
  by_cases hj : i = j
  · subst hj
    by_cases hl : i < ρ.length
    · rw [List.getElem?_set_self hl] at e
      cases e
      exact ⟨v, List.getElem?_set_self (by rw [h.len]; exact hl), r⟩
    · rw [List.getElem?_eq_none (by simpa using hl)] at e; cases e
  · rw [List.getElem?_set_ne hj] at e ⊢
    exact h.at_ j q e
theorem RelL.wipe {B : Bs} {H : Hp} {σ : St} {ρ : Loc} (h : RelL B H σ ρ) : ∀ own : List Nat, RelL B H (L2.wipe σ own) (wipeP ρ own)
  | [] => h
  | v :: vs => by
    have ih := h.wipe vs
    unfold L2.wipe wipeP
    refine ⟨by simpa using ih.len, fun j q e => ?_⟩
    by_cases hj : v = j
    · subst hj
      by_cases hl : v < (wipeP ρ vs).length
      · rw [List.getElem?_set_self hl] at e; cases e
      · rw [List.getElem?_eq_none (by simpa using hl)] at e; cases e
    · rw [List.getElem?_set_ne hj] at e ⊢
      exact ih.at_ j q e

/-- how an error lies -/
def ExR (B : Bs) (H : Hp) (ex : Exc) (cls : Value) (d : Option Addr) : Prop :=
  ∃ x C, B.T.cls[ex.cls]? = some x ∧ (B.T.xc ex.cls).isSome = true ∧ B.mg x = some (.ref C) ∧ cls = .ref C ∧ (ex.fs = [] ∨ ∃ da gs, d = some da ∧ H da = some (.xd gs) ∧ RepF B H ex.fs gs)

/-! ### the translation -/
def slotOf (N : List Str) (sc : Scope) (x : Str) : Option Nat :=
  if x == ("__debug__" : Str) || x == ("__classdict__" : Str) then none else
  match sc.names.lookup x with
  | some .local => N.idxOf? x
  | some .cell => N.idxOf? x
  | some .free => N.idxOf? x
  | _ => none
def isGl (sc : Scope) (x : Str) : Bool := sc.names.lookup x == some .globalImplicit && !(x == ("__debug__" : Str))
def plainBase0 : PySem.Expr → Bool
  | .Call .. => false
  | _ => true
def plainIx : PySem.Expr → Bool
  | .Slice .. => false
  | _ => true
def ownOf (N : List Str) (scope : Scope) : List (Str × Nat) :=
  scope.names.filterMap fun y => match y.2 with
    | .local => (N.idxOf? y.1).map fun i => (y.1, i)
    | .cell => (N.idxOf? y.1).map fun i => (y.1, i)
    | _ => none
def bfOf0 (x : Str) : Option Bf :=
  if x = "len" then some .len else if x = "int" then some .int else if x = "list" then some .list else if x = "tuple" then some .tuple else if x = "abs" then some .abs
  else if x = "min" then some .min else if x = "max" then some .max else if x = "sum" then some .sum else if x = "any" then some .any else if x = "all" then some .all
  else if x = "bool" then some .bool else if x = "dict" then some .dict else none
def bfOf (x : Str) : Option Bf := if x = "repr" then some .repr else bfOf0 x
def tyName (x : Str) : Option Ty :=
  if x = "int" then some .int else if x = "bool" then some .bool else if x = "str" then some .str else if x = "tuple" then some .tuple else if x = "list" then some .list else none
def bmOf (x : Str) : Option Bm :=
  if x = "append" then some .append else if x = "pop" then some .pop else if x = "extend" then some .extend else if x = "reverse" then some .reverse else if x = "get" then some .get else if x = "index" then some .index else none
def ikOf (x : Str) : Option IK :=
  if x = "range" then some .range else if x = "enumerate" then some .enum else if x = "zip" then some .zip else none

def trVT (c : Bool) (N : List Str) (sc : Scope) : Nat → PySem.Expr → Option VT
  | 0, _ => none
  | n + 1, .Name x _ => match sc.names.lookup x with
    | some .local => (N.idxOf? x).map .nm
    | some .cell => if c then (N.idxOf? x).map .nm else none
    | _ => none
  | n + 1, .Tuple es _ _ => (es.mapM (trVT c N sc n)).map .tup
  | _ + 1, _ => none

mutual
def vtSlots : VT → List Nat
  | .nm i => [i]
  | .tup ts => vtSlotss ts
def vtSlotss : List VT → List Nat
  | [] => []
  | t :: ts => vtSlots t ++ vtSlotss ts
end
def trBo (b : BoolOp) (x y : CE) : CE := match b with
  | .And => .and_ x y
  | .Or => .or_ x y
def trBool (b : BoolOp) : List CE → Option CE
  | [] => none
  | [x] => some x
  | x :: r => (trBool b r).map (trBo b x)

/-- what is walked: a built-in maker of turns, or any list or tuple -/
def trI (tr : PySem.Expr → Option CE) (T : Tab) (sc : Scope) (tg : PySem.Expr) (iter : PySem.Expr) : Option (IK × List CE) :=
  match iter with
  | .Call (.Name f _) args [] _ => if isGl sc f then (match T.fns.idxOf? f with
    | some _ => (tr iter).map fun e => (IK.seq, [e])
    | none => match T.cls.idxOf? f with
      | some _ => none
      | none => match ikOf f, args with
        | some .range, [a] => (tr a).map fun x => (IK.range, [x])
        | some .range, [a, b] => do let x ← tr a; let y ← tr b; some (IK.range, [x, y])
        | some .range, [a, b, c] => do let x ← tr a; let y ← tr b; let z ← tr c; some (IK.range3, [x, y, z])
        | some .enum, [a] => (match tg with
          | .Tuple .. => (tr a).map fun x => (IK.enum, [x])
          | _ => none)
        | some .zip, [a, b] => (match tg with
          | .Tuple .. => do let x ← tr a; let y ← tr b; some (IK.zip, [x, y])
          | _ => none)
        | some _, _ => none
        | none, _ => (tr iter).map fun e => (IK.seq, [e])) else none
  | .Set .. => none
  | _ => (tr iter).map fun e => (IK.seq, [e])

def weave {α : Type} : List α → List α → List α
  | k :: ks, v :: vs => k :: v :: weave ks vs
  | _, _ => []
def trE (T : Tab) (N : List Str) : Nat → Scope → PySem.Expr → Option CE
  | 0, _, _ => none
  | n + 1, sc, e => match e with
    | .Constant .none _ _ => some (.lit .non)
    | .Constant (.bool b) _ _ => some (.lit (.bl b))
    | .Constant (.int i) _ _ => some (.lit (.int i))
    | .Constant (.str s) _ _ => some (.lit (.str s))
    | .Name x _ => match slotOf N sc x with
      | some i => some (.var i)
      | none => if isGl sc x then (match T.cns.idxOf? x with
        | some i => some (.con i)
        | none => (T.fns.idxOf? x).map .fnv) else none
    | .Tuple es _ _ => if es.length ≤ 1000 then (es.mapM (trE T N n sc)).map .tup else none
    | .List es _ => if es.length ≤ 1000 then (es.mapM (trE T N n sc)).map .lst else none
    | .BinOp a op b _ => do let x ← trE T N n sc a; let y ← trE T N n sc b; some (.bin op x y)
    | .UnaryOp .USub a _ => (trE T N n sc a).map .neg
    | .UnaryOp .Not a _ => (trE T N n sc a).map .not_
    | .BoolOp b es _ => do let xs ← es.mapM (trE T N n sc); trBool b xs
    | .Compare a [op] [b] _ => do let x ← trE T N n sc a; let y ← trE T N n sc b; some (.cmp op x y)
    | .Compare a [op, op'] [b, c] _ => do let x ← trE T N n sc a; let y ← trE T N n sc b; let z ← trE T N n sc c; some (.chn op op' x y z)
    | .IfExp c a b _ => do let z ← trE T N n sc c; let x ← trE T N n sc a; let y ← trE T N n sc b; some (.ife z x y)
    | .Subscript a (.Slice lo hi none _) _ => do
      let x ← trE T N n sc a
      let l ← (match lo with | none => some none | some e => (trE T N n sc e).map some)
      let h ← (match hi with | none => some none | some e => (trE T N n sc e).map some)
      some (.slc x l h)
    | .Subscript a (.Slice none none (some (.UnaryOp .USub (.Constant (.int 1) _ _) _)) _) _ => (trE T N n sc a).map .rev
    | .Subscript a (.Slice none none (some w) _) _ => do let x ← trE T N n sc a; let y ← trE T N n sc w; some (.slw x y)
    | .Dict ks vs _ => if ks.length = vs.length && ks.all (·.isSome) && decide (ks.length ≤ 15) then (do
        let xs ← (ks.filterMap id).mapM (trE T N n sc)
        let ys ← vs.mapM (trE T N n sc)
        some (.dct (weave xs ys))) else none
    | .Subscript a i _ => if plainIx i then (do let x ← trE T N n sc a; let y ← trE T N n sc i; some (.idx x y)) else none
    | .Attribute a f _ => if plainBase0 a then (do let x ← trE T N n sc a; let i ← T.att.idxOf? f; some (.fld x i)) else none
    | .Call (.Name f _) args [] _ => if !args.isEmpty && (slotOf N sc f).isSome then (do let i ← slotOf N sc f; let xs ← args.mapM (trE T N n sc); some (.cvar i xs)) else if isGl sc f then (match T.fns.idxOf? f with
        | some i => do let xs ← args.mapM (trE T N n sc); some (.call i xs)
        | none => match T.cls.idxOf? f with
          | some i => do let xs ← args.mapM (trE T N n sc); some (.mk i xs)
          | none => if f = "isinstance" then (match args with
              | [a, .Name t _] => if isGl sc t then (do let x ← trE T N n sc a; let u ← tyName t; some (.isi x [u])) else none
              | [a, .Tuple [.Name t _, .Name t' _] _ _] => if isGl sc t && isGl sc t' then (do let x ← trE T N n sc a; let u ← tyName t; let u' ← tyName t'; some (.isi x [u, u'])) else none
              | _ => none)
            else match bfOf f with
              | some b => (match args.mapM (trE T N n sc) with
                | some xs => some (.blt b xs)
                | none => if f = "list" then (match args with
                  | [.Call (.Name r _) [a] [] _] => if r = "range" && isGl sc r then (do let x ← trE T N n sc a; some (.lrg [x])) else none
                  | [.Call (.Name r _) [a, b] [] _] => if r = "range" && isGl sc r then (do let x ← trE T N n sc a; let y ← trE T N n sc b; some (.lrg [x, y])) else none
                  | _ => none) else none)
              | none => none) else none
    | .Call (.Attribute a m apos) args [] cpos => if !plainBase0 a then none else match T.mts.idxOf? m with
      | some i => if apos.endLine == cpos.line && decide (args.length ≤ 20) then (do let x ← trE T N n sc a; let xs ← args.mapM (trE T N n sc); some (.mth x i xs)) else none
      | none => match bmOf m with
        | some b => if apos.endLine == cpos.line && decide (args.length ≤ 3) && (b != .get || !args.isEmpty) then (do let x ← trE T N n sc a; let xs ← args.mapM (trE T N n sc); some (.bmt x b xs)) else none
        | none => none
    | .ListComp elt [⟨tg, iter, ifs, 0⟩] scope _ =>
      let own := ownOf N scope
      let sc' := relS scope sc
      if blkC N sc scope own then (do
        let t ← trVT false N sc' 8 tg
        let x ← trE T N n sc' elt
        let c ← (match ifs with | [] => some none | [e] => (trE T N n sc' e).map some | _ => none)
        let (k, as) ← trI (trE T N n sc) T sc tg iter
        if (vtSlots t).all (fun i => (own.map (·.2)).contains i) then some (.cmpr (own.map (·.2)) k as t x c) else none) else none
    | _ => none

/-! ### statements -/
def isCompr : PySem.Expr → Bool
  | .ListComp .. => true
  | .SetComp .. => true
  | .DictComp .. => true
  | _ => false
def isTupleE : PySem.Expr → Bool
  | .Tuple .. => true
  | _ => false
/-- a target -/
def trT (T : Tab) (N : List Str) (tr : PySem.Expr → Option CE) (sc : Scope) : Nat → PySem.Expr → Option Tgt
  | 0, _ => none
  | n + 1, .Name x _ => match sc.names.lookup x with
    | some .local => (N.idxOf? x).map .nm
    | some .cell => (N.idxOf? x).map .nm
    | _ => none
  | n + 1, .Tuple es _ _ => (es.mapM (trT T N tr sc n)).map .tup
  | _ + 1, .Subscript a i _ => if plainIx i then (do let x ← tr a; let y ← tr i; some (.sub x y)) else none
  | _ + 1, .Attribute a f _ => if plainBase0 a then (do let x ← tr a; let i ← T.att.idxOf? f; some (.fld x i)) else none
  | _ + 1, _ => none
/-- two or three plain local names, all different, on one line: stored from the right, no tuple made -/
def parNames (N : List Str) (sc : Scope) (ts : List PySem.Expr) : Option (List Nat) :=
  ts.mapM fun
    | .Name x _ => match sc.names.lookup x with
      | some .local => N.idxOf? x
      | _ => none
    | _ => none
def trHs (T : Tab) (N : List Str) (sc : Scope) : List ExceptHandler → Option (List (Nat × Option Nat × HS))
  | [] => some []
  | .ExceptHandler (some (.Name x _)) nm body _ :: r =>
    if isGl sc x then (do
      let c ← T.cls.idxOf? x
      let _ ← T.xc c
      let h ← (match body with
        | [.Return (some (.Constant (.str s) _ _)) _] => some (HS.lit (.str s))
        | [.Return (some (.Constant .none _ _)) _] => some (HS.lit .non)
        | [.Return (some (.Constant (.bool b) _ _)) _] => some (HS.lit (.bl b))
        | [.Return (some (.Constant (.int i) _ _)) _] => some (HS.lit (.int i))
        | [.Return (some (.Attribute (.Name y _) f _)) _] => if nm = some y && (slotOf N sc y).isSome then (T.att.idxOf? f).map HS.fld else none
        | [.Return (some (.BinOp (.Constant (.str s) _ _) .Add (.Attribute (.Name y _) f _) _)) _] => if nm = some y && (slotOf N sc y).isSome then (T.att.idxOf? f).map (HS.pre s) else none
        | _ => none)
      let i ← (match nm with
        | none => some none
        | some y => match sc.names.lookup y with
          | some .local => (N.idxOf? y).map some
          | _ => none)
      let hs ← trHs T N sc r
      some ((c, i, h) :: hs)) else none
  | _ :: _ => none
def trS (T : Tab) (N : List Str) (sc : Scope) : Nat → Stmt → Option CS
  | 0, _ => none
  | n + 1, s => match s with
    | .Assign [.Tuple ts k tp] (.Tuple vs k2 vp) p => (do
      let is ← parNames N sc ts
      if (is.length == 2 || is.length == 3) && vs.length == is.length && decide is.Nodup && decide (ts.all fun t => t.pos.line == (ts.head?.map (·.pos.line)).getD 0) && !vs.all (foldedForSure 8) && !vs.all (constantsAlone 8) then
        (do let xs ← vs.mapM (trE T N 40 sc); some (.par is xs))
      else none)
    | .Assign [t] e p => if isTupleE t && isTupleE e then none else (do
      let g ← trT T N (trE T N 40 sc) sc 6 t
      let x ← trE T N 40 sc e
      some (.asg g x))
    | .AugAssign (.Name x _) op e _ => match sc.names.lookup x with
      | some .local => (do let i ← N.idxOf? x; let y ← trE T N 40 sc e; some (.aug i op y))
      | some .cell => (do let i ← N.idxOf? x; let y ← trE T N 40 sc e; some (.aug i op y))
      | _ => none
    | .AugAssign (.Attribute a f _) op e _ => if plainBase0 a then (do let x ← trE T N 40 sc a; let i ← T.att.idxOf? f; let y ← trE T N 40 sc e; some (.augF x i op y)) else none
    | .AugAssign (.Subscript a i _) op e _ => if plainIx i then (do let x ← trE T N 40 sc a; let y ← trE T N 40 sc i; let z ← trE T N 40 sc e; some (.augI x y op z)) else none
    | .If c a b _ => (do
      let x ← trE T N 40 sc c
      let y ← a.mapM (trS T N sc n)
      let z ← b.mapM (trS T N sc n)
      some (.if_ x y z))
    | .While c b [] _ => (do
      let x ← trE T N 40 sc c
      let y ← b.mapM (trS T N sc n)
      some (.whl x y))
    | .For tg it b [] _ => (do
      let t ← trVT true N sc 8 tg
      let (k, as) ← trI (trE T N 40 sc) T sc tg it
      let y ← b.mapM (trS T N sc n)
      some (.for_ k as t y))
    | .Return none _ => some .retN
    | .Return (some e) _ => (trE T N 40 sc e).map .ret
    | .Raise (some (.Call (.Name x _) args [] _)) none _ => if isGl sc x then (do
      let c ← T.cls.idxOf? x
      match T.xc c, args with
      | some none, [] => some (.rse c [])
      | some (some _), [e] => (trE T N 40 sc e).map fun y => .rse c [y]
      | _, _ => none) else none
    | .Expr (.Constant (.str _) _ _) _ => some .pass
    | .Expr e _ => if isCompr e then none else (trE T N 40 sc e).map .exp
    | .Pass _ => some .pass
    | .Break _ => some .brk
    | .Continue _ => some .cnt
    | .Try b (h :: hs) [] [] _ => (do
      let y ← b.mapM (trS T N sc n)
      let z ← trHs T N sc (h :: hs)
      some (.try_ y z))
    | _ => none
end Core
end
section
/-! Core3: the transformer is monotone. -/
namespace Core
open PySem L2

def SpMono (sp : PSpec) : Prop := ∀ as S (Q Q' : QP) (E E' : QE), (∀ p S, Q p S → Q' p S) → (∀ x S, E x S → E' x S) → sp as S Q E → sp as S Q' E'
structure GMono (G : Env) : Prop where
  fn : ∀ i, SpMono (G.fn i)
  mth : ∀ c m, SpMono (G.mth c m)
  ini : ∀ c, SpMono (G.ini c)

section
variable {Q Q' : QP} {S : Store} {x y : P}
theorem eqS_mono {k k' : Bool → Prop} (h : ∀ b, k b → k' b) : eqS S x y k → eqS S x y k' := fun ⟨d, e, h1, h2, h3⟩ => ⟨d, e, h1, h2, h _ h3⟩
theorem inS_mono {xs : List P} {k k' : Bool → Prop} (h : ∀ b, k b → k' b) : inS S x xs k → inS S x xs k' := fun ⟨d, e, h1, h2, h3⟩ => ⟨d, e, h1, h2, h _ h3⟩
theorem inF_mono {xs : List P} {k k' : Bool → Prop} (h : ∀ b, k b → k' b) : inF x xs k → inF x xs k' := fun ⟨h1, h2, h3⟩ => ⟨h1, h2, h _ h3⟩
theorem opAdd_mono (hQ : ∀ p S, Q p S → Q' p S) : opAdd x y S Q → opAdd x y S Q' := by
  unfold opAdd
  split
  · exact hQ _ _
  · exact fun h => ⟨h.1, hQ _ _ h.2⟩
  · exact fun h => ⟨h.1, hQ _ _ h.2⟩
  · exact fun ⟨xs, ys, h1, h2, h3, h4⟩ => ⟨xs, ys, h1, h2, h3, fun c hc => hQ _ _ (h4 c hc)⟩
  · exact id
theorem opMul_mono (hQ : ∀ p S, Q p S → Q' p S) : opMul x y S Q → opMul x y S Q' := by
  unfold opMul
  split
  · exact fun h => ⟨h.1, hQ _ _ h.2⟩
  · exact fun ⟨xs, h1, h2, h3, h4, h5⟩ => ⟨xs, h1, h2, h3, h4, fun c hc => hQ _ _ (h5 c hc)⟩
  · exact fun ⟨h1, h2, h3, h4⟩ => ⟨h1, h2, h3, hQ _ _ h4⟩
  · exact id
theorem opBin_mono {op : Operator} (hQ : ∀ p S, Q p S → Q' p S) : opBin op x y S Q → opBin op x y S Q' := by
  unfold opBin
  split
  · exact opAdd_mono hQ
  · split
    · exact hQ _ _
    · exact id
  · exact opMul_mono hQ
  · split
    · exact fun h => ⟨h.1, hQ _ _ h.2⟩
    · exact id
  · split
    · exact fun h => ⟨h.1, hQ _ _ h.2⟩
    · exact id
  · split
    · exact fun h => ⟨h.1, hQ _ _ h.2⟩
    · exact id
  · exact id
theorem opAug_mono {op : Operator} (hQ : ∀ p S, Q p S → Q' p S) : opAug op x y S Q → opAug op x y S Q' := by
  unfold opAug
  split
  · split
    · exact hQ _ _
    · exact hQ _ _
    · exact fun h => ⟨h.1, hQ _ _ h.2⟩
    · exact fun h => ⟨h.1, hQ _ _ h.2⟩
    · exact id
  · exact id
theorem opCmp_mono {op : CmpOp} (hQ : ∀ p S, Q p S → Q' p S) : opCmp op x y S Q → opCmp op x y S Q' := by
  unfold opCmp
  split
  · exact eqS_mono fun b => hQ _ _
  · exact eqS_mono fun b => hQ _ _
  · split <;> first | exact hQ _ _ | exact id
  · split <;> first | exact hQ _ _ | exact id
  · split <;> first | exact hQ _ _ | exact id
  · split <;> first | exact hQ _ _ | exact id
  · split <;> first | exact hQ _ _ | exact id
  · split <;> first | exact hQ _ _ | exact id
  · split
    · exact inF_mono fun b => hQ _ _
    · split
      · exact inS_mono fun b => hQ _ _
      · exact fun h => ⟨h.1, hQ _ _ h.2⟩
      · exact id
    · exact id
  · split
    · exact inF_mono fun b => hQ _ _
    · split
      · exact inS_mono fun b => hQ _ _
      · exact fun h => ⟨h.1, hQ _ _ h.2⟩
      · exact id
    · exact id
theorem opIdx_mono (hQ : ∀ p S, Q p S → Q' p S) : opIdx x y S Q → opIdx x y S Q' := by
  unfold opIdx
  split
  · exact fun ⟨h0, v, h1, h2⟩ => ⟨h0, v, h1, hQ _ _ h2⟩
  · split
    · split
      · exact fun h z => let ⟨v, h1, h2⟩ := h z; ⟨v, h1, hQ _ _ h2⟩
      · exact id
    · exact id
theorem opSlc_mono {lo hi : Option Int} (hQ : ∀ p S, Q p S → Q' p S) : opSlc x lo hi S Q → opSlc x lo hi S Q' := by
  unfold opSlc
  split
  · exact fun h z => hQ _ _ (h z)
  · split
    · exact fun h z c hc => hQ _ _ (h z c hc)
    · exact id
  · exact fun h z c hc => hQ _ _ (h z c hc)
  · exact id
theorem bfS_mono {f : Bf} {vs : List P} (hQ : ∀ p S, Q p S → Q' p S) : bfS f vs S Q → bfS f vs S Q' := by
  unfold bfS
  split
  · split
    · exact fun h => ⟨h.1, hQ _ _ h.2⟩
    · split
      · exact fun h z => hQ _ _ (h z)
      · exact id
  · exact hQ _ _
  · exact hQ _ _
  · exact hQ _ _
  · exact hQ _ _
  · split
    · exact fun h => ⟨h.1, fun z c hc => hQ _ _ (h.2 z c hc)⟩
    · split
      · exact fun h z c hc => hQ _ _ (h z c hc)
      · exact id
  · split
    · exact fun h z => hQ _ _ (h z)
    · exact id
  · exact hQ _ _
  · exact hQ _ _
  · exact fun h => ⟨h.1, hQ _ _ h.2⟩
  · exact hQ _ _
  · exact hQ _ _
  · split
    · exact fun ⟨ns, h1, h2, h3⟩ => ⟨ns, h1, h2, fun m hm hy => hQ _ _ (h3 m hm hy)⟩
    · exact id
  · split
    · exact fun ⟨ns, h1, h2, h3⟩ => ⟨ns, h1, h2, fun m hm hy => hQ _ _ (h3 m hm hy)⟩
    · exact id
  · split
    · exact fun ⟨ns, h1, h2⟩ => ⟨ns, h1, hQ _ _ h2⟩
    · exact id
  · split
    · exact fun ⟨ns, h1, h2⟩ => ⟨ns, h1, hQ _ _ h2⟩
    · exact id
  · split
    · exact fun ⟨ns, h1, h2⟩ => ⟨ns, h1, hQ _ _ h2⟩
    · exact id
  · split
    · exact fun ⟨h1, h2⟩ => ⟨h1, fun c hc => hQ _ _ (h2 c hc)⟩
    · exact fun ⟨kvs, h1, h2, h3⟩ => ⟨kvs, h1, h2, fun c hc => hQ _ _ (h3 c hc)⟩
    · exact id
  · exact id
theorem bmS_mono {m : Bm} {vs : List P} (hQ : ∀ p S, Q p S → Q' p S) : bmS m x vs S Q → bmS m x vs S Q' := by
  unfold bmS
  split
  · split
    · exact fun h => ⟨h.1, hQ _ _ h.2⟩
    · exact id
  · split
    · exact fun ⟨y, h1, h2⟩ => ⟨y, h1, hQ _ _ h2⟩
    · exact id
  · split
    · exact fun h z => let ⟨k, y, h1, h2, h3⟩ := h z; ⟨k, y, h1, h2, hQ _ _ h3⟩
    · exact id
  · split
    · exact fun h => ⟨h.1, hQ _ _ h.2⟩
    · exact id
  · split
    · exact hQ _ _
    · exact id
  · split
    · exact fun ⟨d, ds, j, z, h1, h2, h3, h4, h5, h6⟩ => ⟨d, ds, j, z, h1, h2, h3, h4, h5, hQ _ _ h6⟩
    · exact id
  · split
    · exact fun h => ⟨h.1, hQ _ _ h.2⟩
    · exact id
  · split
    · exact fun h => ⟨h.1, hQ _ _ h.2⟩
    · exact id
  · exact id
theorem iterS_mono {k : IK} {vs : List P} {K K' : List P → (Store → Prop) → Prop} (hK : ∀ xs g, K xs g → K' xs g) : iterS k vs S K → iterS k vs S K' := by
  unfold iterS
  split
  · exact fun h z => hK _ _ (h z)
  · exact fun h z => hK _ _ (h z)
  · split
    · exact fun h z => hK _ _ (h z)
    · exact id
  · exact fun h => ⟨h.1, hK _ _ h.2⟩
  · exact fun h => ⟨h.1, hK _ _ h.2⟩
  · exact fun h => ⟨h.1, hK _ _ h.2⟩
  · split
    · exact fun h z => hK _ _ (h z)
    · exact id
  · exact fun h z => hK _ _ (h z)
  · exact fun h z => hK _ _ (h z)
  · split
    · exact fun h z => hK _ _ (h z)
    · exact id
  · split
    · exact fun h z => hK _ _ (h z)
    · exact id
  · split
    · exact fun h z => hK _ _ (h z)
    · exact id
  · exact id
end

mutual
theorem wpVT_mono : ∀ (t : VT) {p : P} {ρ : Loc} {Q Q' : Loc → Prop}, (∀ ρ, Q ρ → Q' ρ) → wpVT t p ρ Q → wpVT t p ρ Q'
  | .nm i, p, ρ, Q, Q', hQ, h => by unfold wpVT at h ⊢; exact hQ _ h
  | .tup ts, p, ρ, Q, Q', hQ, h => by
    cases p <;> unfold wpVT at h ⊢ <;> try exact h
    exact wpVTs_mono ts hQ h
theorem wpVTs_mono : ∀ (ts : List VT) {xs : List P} {ρ : Loc} {Q Q' : Loc → Prop}, (∀ ρ, Q ρ → Q' ρ) → wpVTs ts xs ρ Q → wpVTs ts xs ρ Q'
  | [], xs, ρ, Q, Q', hQ, h => by
    cases xs <;> unfold wpVTs at h ⊢
    · exact hQ _ h
    · exact h
  | t :: ts, xs, ρ, Q, Q', hQ, h => by
    cases xs <;> unfold wpVTs at h ⊢
    · exact h
    · exact wpVT_mono t (fun ρ' => wpVTs_mono ts hQ) h
end

section
variable {G : Env} (gm : GMono G)
include gm
mutual
theorem wpE_mono : ∀ (c : CE) {ρ : Loc} {S : Store} {Q Q' : QP} {E E' : QE}, (∀ p S, Q p S → Q' p S) → (∀ x S, E x S → E' x S) → wpE G c ρ S Q E → wpE G c ρ S Q' E'
  | .var i, ρ, S, Q, Q', E, E', hQ, hE, h => by
    unfold wpE at h ⊢
    split at h
    · exact hQ _ _ h
    · exact h.elim
  | .lit p, ρ, S, Q, Q', E, E', hQ, hE, h => by unfold wpE at h ⊢; exact hQ _ _ h
  | .con i, ρ, S, Q, Q', E, E', hQ, hE, h => by unfold wpE at h ⊢; exact hQ _ _ h
  | .fnv i, ρ, S, Q, Q', E, E', hQ, hE, h => by unfold wpE at h ⊢; exact hQ _ _ h
  | .tup es, ρ, S, Q, Q', E, E', hQ, hE, h => by
    unfold wpE at h ⊢
    exact wpEs_mono es (fun ps S h => hQ _ _ h) hE h
  | .lst es, ρ, S, Q, Q', E, E', hQ, hE, h => by
    unfold wpE at h ⊢
    exact wpEs_mono es (fun ps S h a ha => hQ _ _ (h a ha)) hE h
  | .bin op a b, ρ, S, Q, Q', E, E', hQ, hE, h => by
    unfold wpE at h ⊢
    exact wpE_mono a (fun x S1 h => wpE_mono b (fun y S2 h => opBin_mono hQ h) hE h) hE h
  | .neg a, ρ, S, Q, Q', E, E', hQ, hE, h => by
    unfold wpE at h ⊢
    refine wpE_mono a (fun x S1 h => ?_) hE h
    cases x <;> first | exact hQ _ _ h | exact h
  | .cmp op a b, ρ, S, Q, Q', E, E', hQ, hE, h => by
    unfold wpE at h ⊢
    exact wpE_mono a (fun x S1 h => wpE_mono b (fun y S2 h => opCmp_mono hQ h) hE h) hE h
  | .chn op op' a b c, ρ, S, Q, Q', E, E', hQ, hE, h => by
    unfold wpE at h ⊢
    refine wpE_mono a (fun x S1 h => wpE_mono b (fun y S2 h => opCmp_mono (fun z S3 h => ?_) h) hE h) hE h
    split at h
    · exact wpE_mono c (fun u S4 h => opCmp_mono hQ h) hE h
    · exact hQ _ _ h
    · exact h
  | .and_ a b, ρ, S, Q, Q', E, E', hQ, hE, h => by
    unfold wpE at h ⊢
    refine wpE_mono a (fun x S1 h => ?_) hE h
    split at h
    · exact wpE_mono b hQ hE h
    · exact hQ _ _ h
    · exact h
  | .or_ a b, ρ, S, Q, Q', E, E', hQ, hE, h => by
    unfold wpE at h ⊢
    refine wpE_mono a (fun x S1 h => ?_) hE h
    split at h
    · exact hQ _ _ h
    · exact wpE_mono b hQ hE h
    · exact h
  | .not_ a, ρ, S, Q, Q', E, E', hQ, hE, h => by
    unfold wpE at h ⊢
    refine wpE_mono a (fun x S1 h => ?_) hE h
    split at h
    · exact hQ _ _ h
    · exact h
  | .ife c a b, ρ, S, Q, Q', E, E', hQ, hE, h => by
    unfold wpE at h ⊢
    refine wpE_mono c (fun x S1 h => ?_) hE h
    split at h
    · exact wpE_mono a hQ hE h
    · exact wpE_mono b hQ hE h
    · exact h
  | .idx a i, ρ, S, Q, Q', E, E', hQ, hE, h => by
    unfold wpE at h ⊢
    exact wpE_mono a (fun x S1 h => wpE_mono i (fun y S2 h => opIdx_mono hQ h) hE h) hE h
  | .slc a lo hi, ρ, S, Q, Q', E, E', hQ, hE, h => by
    unfold wpE at h ⊢
    refine wpE_mono a (fun x S1 h => wpO_mono lo (fun l S2 h => ?_) hE h) hE h
    split at h
    · refine wpO_mono hi (fun u S3 h => ?_) hE h
      split at h
      · exact opSlc_mono hQ h
      · exact h
    · exact h
  | .fld a f, ρ, S, Q, Q', E, E', hQ, hE, h => by
    unfold wpE at h ⊢
    refine wpE_mono a (fun x S1 h => ?_) hE h
    split at h
    · split at h
      · split at h
        · exact hQ _ _ h
        · exact h
      · exact h
    · exact h
  | .call f es, ρ, S, Q, Q', E, E', hQ, hE, h => by
    unfold wpE at h ⊢
    exact wpEs_mono es (fun ps S1 h => gm.fn f ps S1 _ _ _ _ hQ hE h) hE h
  | .mk c es, ρ, S, Q, Q', E, E', hQ, hE, h => by
    unfold wpE at h ⊢
    exact wpEs_mono es (fun ps S1 h a ha => gm.ini c _ _ _ _ _ _ (fun p S2 h => ⟨h.1, hQ _ _ h.2⟩) hE (h a ha)) hE h
  | .blt f es, ρ, S, Q, Q', E, E', hQ, hE, h => by
    unfold wpE at h ⊢
    exact wpEs_mono es (fun ps S1 h => bfS_mono hQ h) hE h
  | .isi a ts, ρ, S, Q, Q', E, E', hQ, hE, h => by
    unfold wpE at h ⊢
    refine wpE_mono a (fun x S1 h => ?_) hE h
    split at h
    · exact hQ _ _ h
    · exact h
  | .mth a m es, ρ, S, Q, Q', E, E', hQ, hE, h => by
    unfold wpE at h ⊢
    refine wpE_mono a (fun x S1 h => ?_) hE h
    split at h
    · split at h
      · exact ⟨h.1, wpEs_mono es (fun ps S2 h => gm.mth _ m _ _ _ _ _ _ hQ hE h) hE h.2⟩
      · exact h
    · exact h
  | .bmt a m es, ρ, S, Q, Q', E, E', hQ, hE, h => by
    unfold wpE at h ⊢
    exact wpE_mono a (fun x S1 h => ⟨h.1, wpEs_mono es (fun ps S2 h => bmS_mono hQ h) hE h.2⟩) hE h
  | .cmpr own k args tg elt cond, ρ, S, Q, Q', E, E', hQ, hE, h => by
    unfold wpE at h ⊢
    refine wpEs_mono args (fun vs S1 h => iterS_mono (fun items Gd h D hD => ?_) h) hE h
    obtain ⟨I, h0, hs, hd⟩ := h D hD
    exact ⟨I, h0, hs, fun acc S2 hi hl => ⟨(hd acc S2 hi hl).1, hQ _ _ (hd acc S2 hi hl).2⟩⟩
  | .rev a, ρ, S, Q, Q', E, E', hQ, hE, h => by
    unfold wpE at h ⊢
    refine wpE_mono a (fun x S1 h => ?_) hE h
    cases x <;> try exact h
    all_goals
      simp only [seqOf] at h ⊢
      first
        | exact fun z c hc => hQ _ _ (h z c hc)
        | exact fun z => hQ _ _ (h z)
        | (split at h
           · exact fun z c hc => hQ _ _ (h z c hc)
           · exact h)
  | .slw a w, ρ, S, Q, Q', E, E', hQ, hE, h => by
    unfold wpE at h ⊢
    refine wpE_mono a (fun x S1 h => wpE_mono w (fun y S2 h => ?_) hE h) hE h
    cases y <;> try exact h
    refine ⟨h.1, ?_⟩
    have h := h.2
    cases x <;> try exact h
    all_goals
      simp only [seqOf] at h ⊢
      first
        | exact fun z c hc => hQ _ _ (h z c hc)
        | exact fun z => hQ _ _ (h z)
        | (split at h
           · exact fun z c hc => hQ _ _ (h z c hc)
           · exact h)
  | .lrg es, ρ, S, Q, Q', E, E', hQ, hE, h => by
    unfold wpE at h ⊢
    exact wpEs_mono es (fun ps S1 h => iterS_mono (fun items Gd h c hc => hQ _ _ (h c hc)) h) hE h
  | .dct es, ρ, S, Q, Q', E, E', hQ, hE, h => by
    unfold wpE at h ⊢
    exact fun a ha => wpEs_mono es (fun ps S1 h => ⟨h.1, h.2.1, hQ _ _ h.2.2⟩) hE (h a ha)
  | .cvar i es, ρ, S, Q, Q', E, E', hQ, hE, h => by
    unfold wpE at h ⊢
    split at h
    · exact wpEs_mono es (fun ps S1 h => gm.fn _ ps S1 _ _ _ _ hQ hE h) hE h
    · exact h.elim
theorem wpEs_mono : ∀ (es : List CE) {ρ : Loc} {S : Store} {Q Q' : List P → Store → Prop} {E E' : QE}, (∀ ps S, Q ps S → Q' ps S) → (∀ x S, E x S → E' x S) → wpEs G es ρ S Q E → wpEs G es ρ S Q' E'
  | [], ρ, S, Q, Q', E, E', hQ, hE, h => by unfold wpEs at h ⊢; exact hQ _ _ h
  | e :: es, ρ, S, Q, Q', E, E', hQ, hE, h => by
    unfold wpEs at h ⊢
    exact wpE_mono e (fun p S1 h => wpEs_mono es (fun ps S2 h => hQ _ _ h) hE h) hE h
theorem wpO_mono : ∀ (o : Option CE) {ρ : Loc} {S : Store} {Q Q' : Option P → Store → Prop} {E E' : QE}, (∀ ps S, Q ps S → Q' ps S) → (∀ x S, E x S → E' x S) → wpO G o ρ S Q E → wpO G o ρ S Q' E'
  | none, ρ, S, Q, Q', E, E', hQ, hE, h => by unfold wpO at h ⊢; exact hQ _ _ h
  | some e, ρ, S, Q, Q', E, E', hQ, hE, h => by
    unfold wpO at h ⊢
    exact wpE_mono e (fun p S1 h => hQ _ _ h) hE h
end
theorem wpC_mono (o : Option CE) {ρ : Loc} {S : Store} {Q Q' : Bool → Store → Prop} (hQ : ∀ b S, Q b S → Q' b S) (h : wpC G o ρ S Q) : wpC G o ρ S Q' := by
  cases o with
  | none => unfold wpC at h ⊢; exact hQ _ _ h
  | some e =>
    unfold wpC at h ⊢
    refine wpE_mono gm e (fun p S1 h => ?_) (fun _ _ h => h) h
    split at h
    · exact hQ _ _ h
    · exact h
end

theorem getS_mono {x y : P} {S : Store} {Q Q' : QP} (hQ : ∀ p S, Q p S → Q' p S) : getS x y S Q → getS x y S Q' := by
  unfold getS
  split
  · exact fun ⟨h0, v, h1, h2⟩ => ⟨h0, v, h1, hQ _ _ h2⟩
  · split
    · exact fun h z => let ⟨v, h1, h2⟩ := h z; ⟨v, h1, hQ _ _ h2⟩
    · exact id
theorem putS_mono {x y p : P} {S : Store} {Q Q' : Store → Prop} (hQ : ∀ S, Q S → Q' S) : putS x y p S Q → putS x y p S Q' := by
  unfold putS
  split
  · exact fun h => ⟨h.1, h.2.1, hQ _ h.2.2⟩
  · split
    · exact fun h z => let ⟨j, h1, h2⟩ := h z; ⟨j, h1, hQ _ h2⟩
    · exact id
section
variable {G : Env} (gm : GMono G)
include gm
mutual
theorem wpT_mono : ∀ (t : Tgt) {p : P} {ρ : Loc} {S : Store} {Q Q' : Loc → Store → Prop} {E E' : QE}, (∀ ρ S, Q ρ S → Q' ρ S) → (∀ x S, E x S → E' x S) → wpT G t p ρ S Q E → wpT G t p ρ S Q' E'
  | .nm i, p, ρ, S, Q, Q', E, E', hQ, hE, h => by unfold wpT at h ⊢; exact hQ _ _ h
  | .tup ts, p, ρ, S, Q, Q', E, E', hQ, hE, h => by
    cases p <;> unfold wpT at h ⊢ <;> try exact h
    exact ⟨h.1, wpTs_mono ts hQ hE h.2⟩
  | .sub a i, p, ρ, S, Q, Q', E, E', hQ, hE, h => by
    unfold wpT at h ⊢
    exact wpE_mono gm a (fun x S1 h => wpE_mono gm i (fun y S2 h => putS_mono (fun S3 => hQ _ S3) h) hE h) hE h
  | .fld a f, p, ρ, S, Q, Q', E, E', hQ, hE, h => by
    unfold wpT at h ⊢
    refine wpE_mono gm a (fun x S1 h => ?_) hE h
    split at h
    · split at h
      · exact ⟨h.1, hQ _ _ h.2⟩
      · exact h
    · exact h
theorem wpTs_mono : ∀ (ts : List Tgt) {xs : List P} {ρ : Loc} {S : Store} {Q Q' : Loc → Store → Prop} {E E' : QE}, (∀ ρ S, Q ρ S → Q' ρ S) → (∀ x S, E x S → E' x S) → wpTs G ts xs ρ S Q E → wpTs G ts xs ρ S Q' E'
  | [], xs, ρ, S, Q, Q', E, E', hQ, hE, h => by
    cases xs <;> unfold wpTs at h ⊢
    · exact hQ _ _ h
    · exact h
  | t :: ts, xs, ρ, S, Q, Q', E, E', hQ, hE, h => by
    cases xs <;> unfold wpTs at h ⊢
    · exact h
    · exact wpT_mono t (fun ρ' S' h => wpTs_mono ts hQ hE h) hE h
end
structure DE.Le (D D' : DE) : Prop where
  nx : ∀ ρ S, D.nx ρ S → D'.nx ρ S
  rt : ∀ p S, D.rt p S → D'.rt p S
  bk : ∀ ρ S, D.bk ρ S → D'.bk ρ S
  ct : ∀ ρ S, D.ct ρ S → D'.ct ρ S
  ex : ∀ x S, D.ex x S → D'.ex x S
omit gm in
theorem wpH_mono {D D' : DE} (hD : DE.Le D D') {ρ : Loc} {ex : Exc} {S : Store} : ∀ hs, wpH hs D ρ ex S → wpH hs D' ρ ex S
  | [], h => hD.ex _ _ h
  | (c, i, hh) :: r, h => by
    unfold wpH at h ⊢
    split at h
    · rename_i hc
      rw [if_pos hc]
      cases hh with
      | lit p => exact hD.rt _ _ h
      | fld f =>
        simp only at h ⊢
        split at h
        · exact hD.rt _ _ h
        · exact h.elim
      | pre s f =>
        simp only at h ⊢
        split at h
        · exact ⟨h.1, hD.rt _ _ h.2⟩
        · exact h.elim
    · rename_i hc
      rw [if_neg hc]
      exact wpH_mono hD r h
mutual
theorem wpS_mono : ∀ (s : CS) {ρ : Loc} {S : Store} {D D' : DE}, DE.Le D D' → wpS G s ρ S D → wpS G s ρ S D'
  | .asg t e, ρ, S, D, D', hD, h => by
    unfold wpS at h ⊢
    exact wpE_mono gm e (fun p S1 h => wpT_mono gm t hD.nx hD.ex h) hD.ex h
  | .par is es, ρ, S, D, D', hD, h => by
    unfold wpS at h ⊢
    exact wpEs_mono gm es (fun ps S1 h => hD.nx _ _ h) hD.ex h
  | .aug i op e, ρ, S, D, D', hD, h => by
    unfold wpS at h ⊢
    split at h
    · exact wpE_mono gm e (fun y S1 h => opAug_mono (fun z S2 h => hD.nx _ _ h) h) hD.ex h
    · exact h.elim
  | .augF a f op e, ρ, S, D, D', hD, h => by
    unfold wpS at h ⊢
    refine wpE_mono gm a (fun x S1 h => ?_) hD.ex h
    split at h
    · split at h
      · split at h
        · refine wpE_mono gm e (fun y S2 h => opAug_mono (fun z S3 h => ?_) h) hD.ex h
          split at h
          · exact ⟨h.1, hD.nx _ _ h.2⟩
          · exact h
        · exact h
      · exact h
    · exact h
  | .augI a i op e, ρ, S, D, D', hD, h => by
    unfold wpS at h ⊢
    exact wpE_mono gm a (fun x S1 h => wpE_mono gm i (fun y S2 h => getS_mono (fun p S3 h => wpE_mono gm e (fun z S4 h => opAug_mono (fun w S5 h => putS_mono (fun S6 h => hD.nx _ _ h) h) h) hD.ex h) h) hD.ex h) hD.ex h
  | .if_ c a b, ρ, S, D, D', hD, h => by
    unfold wpS at h ⊢
    refine wpE_mono gm c (fun x S1 h => ?_) hD.ex h
    split at h
    · exact wpB_mono a hD h
    · exact wpB_mono b hD h
    · exact h
  | .whl c b, ρ, S, D, D', hD, h => by
    unfold wpS at h ⊢
    obtain ⟨I, μ, h0, hs⟩ := h
    refine ⟨I, μ, h0, fun ρ S hi => wpE_mono gm c (fun x S1 h => ?_) hD.ex (hs ρ S hi)⟩
    split at h
    · refine wpB_mono b ?_ h
      exact ⟨fun _ _ h => h, hD.rt, hD.nx, fun _ _ h => h, hD.ex⟩
    · exact hD.nx _ _ h
    · exact h
  | .for_ k args tg b, ρ, S, D, D', hD, h => by
    unfold wpS at h ⊢
    refine wpEs_mono gm args (fun vs S1 h => iterS_mono (fun items Gd h => ?_) h) hD.ex h
    obtain ⟨I, h0, hs, hd⟩ := h
    exact ⟨I, h0, fun i x ρ S hx hi => ⟨(hs i x ρ S hx hi).1, wpVT_mono tg (fun ρ2 h => by refine wpB_mono b ?_ h; exact ⟨fun _ _ h => h, hD.rt, hD.nx, fun _ _ h => h, hD.ex⟩) (hs i x ρ S hx hi).2⟩,
      fun ρ S hi => ⟨(hd ρ S hi).1, hD.nx _ _ (hd ρ S hi).2⟩⟩
  | .ret e, ρ, S, D, D', hD, h => by unfold wpS at h ⊢; exact wpE_mono gm e hD.rt hD.ex h
  | .retN, ρ, S, D, D', hD, h => by unfold wpS at h ⊢; exact hD.rt _ _ h
  | .rse c es, ρ, S, D, D', hD, h => by
    unfold wpS at h ⊢
    refine ⟨h.1, wpEs_mono gm es (fun ps S1 h => ?_) hD.ex h.2⟩
    split at h
    · exact hD.ex _ _ h
    · exact hD.ex _ _ h
    · exact h
  | .exp e, ρ, S, D, D', hD, h => by unfold wpS at h ⊢; exact wpE_mono gm e (fun p S1 h => hD.nx _ _ h) hD.ex h
  | .brk, ρ, S, D, D', hD, h => by unfold wpS at h ⊢; exact hD.bk _ _ h
  | .cnt, ρ, S, D, D', hD, h => by unfold wpS at h ⊢; exact hD.ct _ _ h
  | .pass, ρ, S, D, D', hD, h => by unfold wpS at h ⊢; exact hD.nx _ _ h
  | .try_ b hs, ρ, S, D, D', hD, h => by
    unfold wpS at h ⊢
    refine wpB_mono b ?_ h
    exact ⟨hD.nx, hD.rt, hD.bk, hD.ct, fun x S h => wpH_mono hD hs h⟩
theorem wpB_mono : ∀ (b : List CS) {ρ : Loc} {S : Store} {D D' : DE}, DE.Le D D' → wpB G b ρ S D → wpB G b ρ S D'
  | [], ρ, S, D, D', hD, h => by unfold wpB at h ⊢; exact h.mono fun S' h => hD.nx _ _ h
  | s :: ss, ρ, S, D, D', hD, h => by
    unfold wpB at h ⊢
    refine h.mono fun S' h => wpS_mono s ?_ h
    exact ⟨fun ρ' S' h => wpB_mono ss hD h, hD.rt, hD.bk, hD.ct, hD.ex⟩
end
end
end Core
end
section
set_option maxRecDepth 100000
set_option maxHeartbeats 4000000
/-! CoreA: a tuple times an int, of any size that fits. -/
namespace L2
open PySem PySem.Spec PyProof.Rows
theorem tuple_mulSame (at_ : Addr) (row : Array Value) (n : Nat) (sl : Array (Option Value)) (dd : Option Addr) (x : Int) (u : Tok) (g0 : (decide (x < -(2 ^ 63)) || decide (x ≥ 2 ^ 63)) = false) (g1 : (row.isEmpty || x == 1) = true) :
    Meets (Builtin.«tuple.__mul__» ⟨[.ref at_, .int x u], []⟩) (fun _ R s => s.heap.get? at_ = some { cls := .type "tuple", dict := dd, data := .seq row n, slots := sl } ∧ R (.ok (.ret (Value.ref at_))) s) :=
  .of_wp fun prog w A R s h => by
    obtain ⟨hp, g, d, tk, os⟩ := s
    obtain ⟨hl, h⟩ := h
    have f1 := AutoSeq1.idx_int
    wp_walk using wpAny_loadPart' hl
    repeat (first
      | (refine wpAny_ite_false (decide_eq_false (by rw [g0]; exact Bool.false_ne_true)) ?_; wp_walk using wpAny_loadPart' hl)
      | (refine wpAny_ite_true (decide_eq_true (by rw [g1])) ?_; wp_walk using wpAny_loadPart' hl))
    exact ⟨_, rfl, h⟩
theorem tuple_mulNone (at_ : Addr) (row : Array Value) (n : Nat) (sl : Array (Option Value)) (dd : Option Addr) (x : Int) (u : Tok) (g0 : (decide (x < -(2 ^ 63)) || decide (x ≥ 2 ^ 63)) = false) (g1 : (row.isEmpty || x == 1) = false) (g2 : (decide (x ≤ 0) || row.isEmpty) = true) :
    Meets (Builtin.«tuple.__mul__» ⟨[.ref at_, .int x u], []⟩) (fun _ R s => s.heap.get? at_ = some { cls := .type "tuple", dict := dd, data := .seq row n, slots := sl } ∧
      R (.ok (.ret (Value.ref s.heap.objs.size))) { s with heap := s.heap.push { cls := Value.type "tuple", data := Data.seq #[] }, toks := s.toks }) :=
  .of_wp fun prog w A R s h => by
    obtain ⟨hp, g, d, tk, os⟩ := s
    obtain ⟨hl, h⟩ := h
    have f1 := AutoSeq1.idx_int
    wp_walk using wpAny_loadPart' hl
    repeat (first
      | (refine wpAny_ite_false (decide_eq_false (by rw [g0]; exact Bool.false_ne_true)) ?_; wp_walk using wpAny_loadPart' hl)
      | (refine wpAny_ite_false (decide_eq_false (by rw [g1]; exact Bool.false_ne_true)) ?_; wp_walk using wpAny_loadPart' hl)
      | (refine wpAny_ite_true (decide_eq_true (by rw [g2])) ?_; wp_walk using wpAny_loadPart' hl))
    exact ⟨_, rfl, h⟩
/-- a tuple times an int: itself, or a new one -/
def rTimes (K : PySem.W.Frag) : R2 := fun x y H Q => ∃ l k xs, x = .ref l ∧ y = .int k ∧ SqT K H l xs ∧ -(2 ^ 63) ≤ k ∧ k < 2 ^ 63 ∧ xs.length * k.toNat ≤ sizeLine ∧ (xs = [] ∨ k = 1 → Q (.ref l) H) ∧
  ∀ p, H p = none → Q (.ref p) (upd H p (.tup (List.replicate k.toNat xs).flatten))
theorem op_times {X : Cx} : OpR X (binaryOp .Mult) (rTimes X.K) := by
  intro pins s σ H x y v u Q I rx ry h
  obtain ⟨l, k, xs, rfl, rfl, hT, lo, hi, fit, same, fresh⟩ := h
  cases rx
  obtain ⟨t, rfl⟩ := ry
  obtain ⟨row, rr, ⟨⟨cls, dd, data, sl⟩, get, hc, n, hd⟩, _⟩ := I.tuple hT
  simp only at hc hd
  subst hc hd
  have len : row.length = xs.length := rr.length.symm
  have g0 : (decide (k < -(2 ^ 63)) || decide (k ≥ 2 ^ 63)) = false := by
    rw [decide_eq_false (by omega), decide_eq_false (by omega)] <;> rfl
  have size : row.toArray.size = xs.length := by rw [List.size_toArray, len]
  by_cases e1 : (row.toArray.isEmpty || k == 1) = true
  · refine wpAny_binaryOp_repeat_ref (T := "tuple") (U := "int") (by decide) ⟨_, get, rfl⟩ (fun z => typeIs_int z k t) noFill_tuple_mul F.fills_int_mul F.slot_int_rmul repeat_tuple F.slot_int_index.lookup
      (call_meets F.slot_int_rmul (typeIs_int s k t) F.entry_int_rmul (F.args_int_rmul_2 _ _) (int_rmul_tuple k t l row.toArray n dd sl)
        ⟨get, rfl, ⟨_, get, rfl⟩, call_meets F.slot_tuple_mul ⟨_, get, rfl⟩ F.entry_tuple_mul (F.args_tuple_mul_2 _ _) (tuple_mulSame l row.toArray n sl dd k t g0 e1) ⟨get, ?_⟩⟩)
    refine ⟨.ref l, H, I, rfl, same ?_⟩
    rcases Bool.or_eq_true_iff.mp e1 with z | z
    · refine .inl (List.eq_nil_of_length_eq_zero ?_)
      rw [← len]
      cases row with
      | nil => rfl
      | cons _ _ => cases z
    · exact .inr (beq_iff_eq.mp z)
  · have e1 : (row.toArray.isEmpty || k == 1) = false := by simpa using e1
    by_cases e2 : (decide (k ≤ 0) || row.toArray.isEmpty) = true
    · refine wpAny_binaryOp_repeat_ref (T := "tuple") (U := "int") (by decide) ⟨_, get, rfl⟩ (fun z => typeIs_int z k t) noFill_tuple_mul F.fills_int_mul F.slot_int_rmul repeat_tuple F.slot_int_index.lookup
        (call_meets F.slot_int_rmul (typeIs_int s k t) F.entry_int_rmul (F.args_int_rmul_2 _ _) (int_rmul_tuple k t l row.toArray n dd sl)
          ⟨get, rfl, ⟨_, get, rfl⟩, call_meets F.slot_tuple_mul ⟨_, get, rfl⟩ F.entry_tuple_mul (F.args_tuple_mul_2 _ _) (tuple_mulNone l row.toArray n sl dd k t g0 e1 e2) ⟨get, ?_⟩⟩)
      have z : (List.replicate k.toNat xs).flatten = [] := by
        rcases Bool.or_eq_true_iff.mp e2 with z | z
        · have : k.toNat = 0 := by have := of_decide_eq_true z; omega
          rw [this]; rfl
        · rw [(Bool.or_eq_false_iff.mp e1).1] at z; cases z
      refine ⟨.ref s.heap.objs.size, _, I.laid (t' := s.toks) (o := .tup (List.replicate k.toNat xs).flatten) (fun b ob q => Heap.get?_push_of_some _ q) (Nat.le_refl _) ?_, rfl, fresh _ (I.hok.fresh (Nat.le_refl _))⟩
      rw [z]
      exact ⟨Nat.zero_le _, [], .nil, IsTup.new _ _⟩
    · have e2 : (decide (k ≤ 0) || row.toArray.isEmpty) = false := by simpa using e2
      have kpos : 0 < k := by
        have := of_decide_eq_false (Bool.or_eq_false_iff.mp e2).1
        omega
      have flen : (List.replicate k.toNat row).flatten.length ≤ sizeLine := by
        rw [PyProof.Rows.lm_len_rep_flat, len, Nat.mul_comm]
        exact fit
      have cast : ((row.toArray.size : Nat) : Int) * k = ((xs.length * k.toNat : Nat) : Int) := by
        rw [size, Int.natCast_mul, Int.toNat_of_nonneg (Int.le_of_lt kpos)]
      have big := sizeLine_eq
      have g4 : Builtin.Tuple.tupleTooMany (((row.toArray.size : Nat) : Int) * k) = false := by
        unfold Builtin.Tuple.tupleTooMany
        rw [cast]
        exact decide_eq_false (by omega)
      refine wpAny_binaryOp_repeat_ref (T := "tuple") (U := "int") (by decide) ⟨_, get, rfl⟩ (fun z => typeIs_int z k t) noFill_tuple_mul F.fills_int_mul F.slot_int_rmul repeat_tuple F.slot_int_index.lookup
        (call_meets F.slot_int_rmul (typeIs_int s k t) F.entry_int_rmul (F.args_int_rmul_2 _ _) (int_rmul_tuple k t l row.toArray n dd sl)
          ⟨get, rfl, ⟨_, get, rfl⟩, call_meets F.slot_tuple_mul ⟨_, get, rfl⟩ F.entry_tuple_mul (F.args_tuple_mul_2 _ _) (tuple_mulW l row.toArray n dd sl k t g0 e1 e2 (by rw [cast]; omega) g4 (by rw [size_rep, List.size_toArray]; exact flen)) ⟨get, ?_⟩⟩)
      rw [size_rep]
      refine ⟨.ref s.heap.objs.size, _, I.laid (t' := s.toks) (o := .tup (List.replicate k.toNat xs).flatten) (fun b ob q => Heap.get?_push_of_some _ q) (Nat.le_refl _) ?_, rfl, fresh _ (I.hok.fresh (Nat.le_refl _))⟩
      exact ⟨by rw [PyProof.Rows.lm_len_rep_flat, Nat.mul_comm]; exact fit, _, rr.rep k.toNat, IsTup.new _ _⟩
end L2
end
section
set_option maxRecDepth 100000
set_option maxHeartbeats 4000000
/-! CoreD: dicts whose keys are tuples, nested; and those whose keys are ints and texts: one set of rules. -/
namespace Core
open PySem L2 PySem.Spec PyProof.Rows
theorem rep_tup_inv {B : Bs} {H : Hp} {ps : List P} {v : V} (h : Rep B H (.tup ps) v) : ∃ a vs, v = .ref a ∧ SqT B.K H a vs ∧ vs.length ≤ sizeLine ∧ Reps B H ps vs := by unfold Rep at h; exact h
theorem keysOf_cons {x : P} {xs : List P} {ks : List NestedKey} (h : keysOf (x :: xs) = some ks) : ∃ k r, keyOf x = some k ∧ keysOf xs = some r ∧ ks = k :: r := by
  simp only [keysOf] at h
  split at h
  · rename_i k r h1 h2
    cases h
    exact ⟨k, r, h1, h2, rfl⟩
  · cases h
section
variable {X : Cx} {B : Bs} {pins : List (Addr × Obj)} {σ : L2.St} {H : Hp} {s : Shared}
mutual
theorem nest_ok (hK : X.K = B.K) (I : Inv X pins σ H s) : ∀ {p : P} {v : V} {u : Value} {k : NestedKey}, Rep B H p v → RelV v u → keyOf p = some k → NestedIs s.heap k u
  | .non, v, u, k, r, rv, h => by
    unfold Rep at r; subst r
    cases (show u = Value.none from rv)
    simp only [keyOf, Option.some.injEq] at h; subst h
    exact .none
  | .bl b, v, u, k, r, rv, h => by
    unfold Rep at r; subst r
    cases (show u = Value.bool b from rv)
    simp only [keyOf, Option.some.injEq] at h; subst h
    exact .bool rfl
  | .int i, v, u, k, r, rv, h => by
    unfold Rep at r; subst r
    obtain ⟨t, rfl⟩ := rv
    simp only [keyOf, Option.some.injEq] at h; subst h
    exact .int i t
  | .str x, v, u, k, r, rv, h => by
    unfold Rep at r; subst r
    obtain ⟨t, rfl⟩ := rv
    simp only [keyOf, Option.some.injEq] at h; subst h
    exact .text x t
  | .tup xs, v, u, k, r, rv, h => by
    obtain ⟨a, vs, rfl, s1, z1, r1⟩ := rep_tup_inv r
    cases (show u = Value.ref a from rv)
    simp only [keyOf, Option.map_eq_some_iff] at h
    obtain ⟨ks, h1, rfl⟩ := h
    obtain ⟨its, rr, p, hz⟩ := I.tuple (show SqT X.K H a vs by rw [hK]; exact s1)
    obtain ⟨o, e1, e2, n, e3⟩ := (show _ from p)
    refine .tup e1 e2 e3 ?_
    simpa using nests_ok hK I r1 rr h1
  | .frl xs, v, u, k, r, rv, h => by simp [keyOf] at h
  | .loc xs, v, u, k, r, rv, h => by simp [keyOf] at h
  | .fn xs, v, u, k, r, rv, h => by simp [keyOf] at h
theorem nests_ok (hK : X.K = B.K) (I : Inv X pins σ H s) : ∀ {ps : List P} {vs : List V} {us : List Value} {ks : List NestedKey}, Reps B H ps vs → Vals vs us → keysOf ps = some ks → NestedAll s.heap ks us
  | [], vs, us, ks, r, rv, h => by
    rw [r.nil_inv] at rv; cases rv
    simp only [keysOf, Option.some.injEq] at h; subst h
    exact .nil
  | p :: ps, vs, us, ks, r, rv, h => by
    obtain ⟨v, t, rfl, r1, r2⟩ := r.cons_inv
    cases rv with
    | cons q qs =>
      obtain ⟨k, rs, h1, h2, rfl⟩ := keysOf_cons h
      exact .cons (nest_ok hK I r1 q h1) (nests_ok hK I r2 qs h2)
end
end

def KeyAt (B : Bs) (H : Hp) (k : NestedKey) (b : Addr) : Prop := k.depth ≤ 8 ∧ ∃ p, keyOf p = some k ∧ Rep B H p (.ref b)
theorem KeyAt.ext {B : Bs} {H H' : Hp} (e : Ext H H') {k : NestedKey} {b : Addr} (h : KeyAt B H k b) : KeyAt B H' k b := let ⟨h1, p, h2, h3⟩ := h; ⟨h1, p, h2, h3.ext e⟩
/-- a table whose keys are tuples; or a dict that is empty -/
def Tb (B : Bs) (H : Hp) (a : Addr) (xs : List (NestedKey × Addr × Value)) : Prop := ((H a = some (.dK []) ∧ xs = []) ∨ H a = some (dN B.w a xs)) ∧ ∀ x ∈ xs, KeyAt B H x.1 x.2.1
/-- what the dict holds -/
def DGN (B : Bs) (H : Hp) (a : Addr) (y : V) (o : Option V) : Prop := DGet H a y o ∨ ∃ xs k b, Tb B H a xs ∧ y = .ref b ∧ KeyAt B H k b ∧ RelO o ((atKey xs k).map (·.2))
/-- the dict behind d[y] = v -/
def DPN (B : Bs) (H : Hp) (a : Addr) (y v : V) (Q : Hp → Prop) : Prop := (∃ H', DPut H a y v H' ∧ Q H') ∨ ∃ xs k b, Tb B H a xs ∧ y = .ref b ∧ KeyAt B H k b ∧ xs.length < sizeLine ∧ ∀ u, RelV v u → Q (upd H a (dN B.w a (storedH xs k b u)))
section
variable {X : Cx} {B : Bs} {pins : List (Addr × Obj)} {σ : L2.St} {H : Hp} {s : Shared} {a : Addr}
theorem KeyAt.is (hK : X.K = B.K) (I : Inv X pins σ H s) {k : NestedKey} {b : Addr} (h : KeyAt B H k b) : (nestedKind X.prog X.w).is s.heap k b := let ⟨h1, _, h2, h3⟩ := h; ⟨nest_ok hK I h3 rfl h2, h1⟩
theorem Tb.at (hK : X.K = B.K) (hw : X.w = B.w) (I : Inv X pins σ H s) {xs : List (NestedKey × Addr × Value)} (h : Tb B H a xs) : (a == sysModules) = false ∧ xs.length ≤ sizeLine ∧ s.heap.DictOfH (nestedKind X.prog X.w) a xs := by
  obtain ⟨h, hk⟩ := h
  rcases h with ⟨e, rfl⟩ | e
  · obtain ⟨z, hd, vs, rel, o, es, ep, e1, e2, e3, _, e4, _⟩ := dk_of I.hok e
    unfold KV at rel
    cases rel
    refine ⟨hd, Nat.zero_le _, o, es, ep, e1, e2, e3, ?_, fun _ hx => by simp at hx, List.nodup_nil⟩
    generalize es.toList = l at e4
    cases e4
    rfl
  · obtain ⟨⟨o, es, ep, e1, e2, e3, e4, e5, e6, e7⟩, _⟩ := I.hok a _ e
    exact ⟨e7, e6, o, es, ep, e1, e2, e3, by rw [e4, ← hw]; rfl, fun x hx => (hk x hx).is hK I, e5⟩
theorem dN_ok {h' : Heap} {H' : Hp} {P' : Program} {w : World} {xs : List (NestedKey × Addr × Value)} (z : xs.length ≤ sizeLine) (hd : (a == sysModules) = false) (dd : h'.DictOfH (nestedKind P' w) a xs) : ObjOk P' w H' h' a (dN w a xs) := by
  obtain ⟨o, es, ep, e1, e2, e3, e4, _, e5⟩ := dd
  exact ⟨⟨o, es, ep, e1, e2, e3, e4, e5, z, hd⟩, ⟨o, e1⟩, fun h1 h2 ⟨o, es, ep, f1, f2⟩ k => ⟨o, es, ep, k _ f1, f2⟩⟩
theorem storedH_len {xs : List (NestedKey × Addr × Value)} {k : NestedKey} {b : Addr} {u : Value} : (storedH xs k b u).length ≤ xs.length + 1 := by
  unfold storedH
  split <;> simp
variable {A : Around} {E : Value → Shared → Prop} {y v d : V} {u r : Value} {o : Option V}
theorem n_getItem {Q : Value → Shared → Prop} (hK : X.K = B.K) (hw : X.w = B.w) (hu : A.units + 16 < cLine) (I : Inv X pins σ H s) (g : DGN B H a y (some v)) (ry : RelV y u) (h : ∀ w' s', Inv X pins σ H s' → RelV v w' → Q w' s') :
    wpAny (model X.prog X.w) A (getItem (.ref a) u) Q E s := by
  rcases g with g | ⟨xs, k, b, t, ey, hk, l⟩
  · exact d_getItem (by omega) I g ry h
  · subst ey
    cases (show u = Value.ref b from ry)
    obtain ⟨hd, z, dd⟩ := t.at hK hw I
    obtain ⟨w', hw', rw'⟩ := RelO.some_of (v := v) l
    obtain ⟨p, hp, hp2⟩ := Option.map_eq_some_iff.mp hw'
    refine wpAny_getItem_heap (show A.units + 1 + 8 < cLine by omega) (hk.is hK I) dd hp ?_
    rw [hp2]
    exact h w' _ (I.tok _) rw'
theorem n_in {Q : Value → Shared → Prop} (hK : X.K = B.K) (hw : X.w = B.w) (hu : A.units + 16 < cLine) (I : Inv X pins σ H s) (g : DGN B H a y o) (ry : RelV y u) (h : ∀ s', Inv X pins σ H s' → Q (.bool o.isSome) s') :
    wpAny (model X.prog X.w) A (compareOp .In u (.ref a)) Q E s := by
  rcases g with g | ⟨xs, k, b, t, ey, hk, l⟩
  · exact d_in (by omega) I g ry h
  · subst ey
    cases (show u = Value.ref b from ry)
    obtain ⟨hd, z, dd⟩ := t.at hK hw I
    refine wpAny_in_heap (show A.units + 1 + 8 < cLine by omega) (hk.is hK I) hd dd ?_
    have q := l.isSome_eq
    rw [Option.isSome_map] at q
    rw [← q]
    exact h _ (I.tok _)
theorem n_notIn {Q : Value → Shared → Prop} (hK : X.K = B.K) (hw : X.w = B.w) (hu : A.units + 16 < cLine) (I : Inv X pins σ H s) (g : DGN B H a y o) (ry : RelV y u) (h : ∀ s', Inv X pins σ H s' → Q (.bool (!o.isSome)) s') :
    wpAny (model X.prog X.w) A (compareOp .NotIn u (.ref a)) Q E s := by
  rcases g with g | ⟨xs, k, b, t, ey, hk, l⟩
  · exact d_notIn (by omega) I g ry h
  · subst ey
    cases (show u = Value.ref b from ry)
    obtain ⟨hd, z, dd⟩ := t.at hK hw I
    refine wpAny_notIn_heap (show A.units + 1 + 8 < cLine by omega) (hk.is hK I) hd dd ?_
    have q := l.isSome_eq
    rw [Option.isSome_map] at q
    rw [← q]
    exact h _ (I.tok _)
theorem n_setItem {R : Hp → Prop} {Q : Unit → Shared → Prop} (hK : X.K = B.K) (hw : X.w = B.w) (hu : A.units + 16 < cLine) (I : Inv X pins σ H s) (g : DPN B H a y v R) (ry : RelV y u) (rv : RelV v r) (h : ∀ H' s', Inv X pins σ H' s' → R H' → Q () s') :
    wpAny (model X.prog X.w) A (setItem (.ref a) u r) Q E s := by
  rcases g with ⟨H', g, q⟩ | ⟨xs, k, b, t, ey, hk, l, q⟩
  · exact d_setItem (by omega) I g ry rv fun s' I' => h H' s' I' q
  · subst ey
    cases (show u = Value.ref b from ry)
    obtain ⟨hd, z, dd⟩ := t.at hK hw I
    refine wpAny_setItem_heap (hsz := z) (show A.units + 1 + 8 < cLine by omega) (hk.is hK I) dd fun h' dd' hs => h _ _ ?_ (q r rv)
    have he : ∃ q, h'.get? a = some q := let ⟨q, _, _, hq, _⟩ := dd'; ⟨q, hq⟩
    refine d_write I ?_ hs he ?_
    · rcases t.1 with ⟨e, _⟩ | e <;> (rw [e]; exact True.intro)
    · rw [← hw]
      exact dN_ok (Nat.le_trans storedH_len l) hd dd'
theorem n_get1 {Q : Value → Shared → Prop} (hK : X.K = B.K) (hw : X.w = B.w) (hu : A.units + 16 < cLine) (I : Inv X pins σ H s) (g : DGN B H a y o) (ry : RelV y u) (h : ∀ w' s', Inv X pins σ H s' → RelV (o.getD .non) w' → Q w' s') :
    wpAny (model X.prog X.w) A (call (.builtin "dict.get") [.ref a, u]) Q E s := by
  rcases g with g | ⟨xs, k, b, t, ey, hk, l⟩
  · exact d_get1 (by omega) I g ry h
  · subst ey
    cases (show u = Value.ref b from ry)
    obtain ⟨hd, z, dd⟩ := t.at hK hw I
    exact call_meetsIn PySem.F.slot_dict_get dd.typeIs PySem.F.entry_dict_get (PySem.F.args_dict_get_2 _ _) (meetsH_dict_get (nestedKind X.prog X.w) a b hd) ⟨(show A.units + 1 + 8 < cLine by omega), k, xs, hk.is hK I, dd, h _ _ (I.tok _) (l.getD rfl)⟩
theorem n_get2 {Q : Value → Shared → Prop} (hK : X.K = B.K) (hw : X.w = B.w) (hu : A.units + 16 < cLine) (I : Inv X pins σ H s) (g : DGN B H a y o) (ry : RelV y u) (rd : RelV d r) (h : ∀ w' s', Inv X pins σ H s' → RelV (o.getD d) w' → Q w' s') :
    wpAny (model X.prog X.w) A (call (.builtin "dict.get") [.ref a, u, r]) Q E s := by
  rcases g with g | ⟨xs, k, b, t, ey, hk, l⟩
  · exact d_get2 (by omega) I g ry rd h
  · subst ey
    cases (show u = Value.ref b from ry)
    obtain ⟨hd, z, dd⟩ := t.at hK hw I
    exact call_meetsIn PySem.F.slot_dict_get dd.typeIs PySem.F.entry_dict_get (PySem.F.args_dict_get_3 _ _ _) (meetsH_dict_get_default (nestedKind X.prog X.w) a b hd r) ⟨(show A.units + 1 + 8 < cLine by omega), k, xs, hk.is hK I, dd, h _ _ (I.tok _) (l.getD rd)⟩
/-- a is a dict -/
def IsDN (B : Bs) (H : Hp) (a : Addr) : Prop := (∃ ks, H a = some (.dK ks)) ∨ ∃ xs, H a = some (dN B.w a xs)
theorem isDN_at (I : Inv X pins σ H s) (d : IsDN B H a) : s.TypeIs (.ref a) "dict" ∧ ∀ b, Value.ref a = .ref b → ∃ ob, s.heap.get? b = some ob ∧ ob.dict = none := by
  rcases d with ⟨kvs, e⟩ | ⟨xs, e⟩
  · exact ⟨(isD_at I (.inl ⟨kvs, .inl e⟩)).1, (isD_at I (.inl ⟨kvs, .inl e⟩)).2.1⟩
  · obtain ⟨⟨o, es, ep, e1, e2, e3, e4, e5, e6, e7⟩, _⟩ := I.hok a _ e
    refine ⟨⟨o, e1, e2.1⟩, fun b q => ?_⟩
    cases q
    exact ⟨o, e1, e2.2.1⟩
end
/-! ### the rules -/
section
variable {X : Cx} {B : Bs}
def rDIn (B : Bs) : R2 := fun y x H Q => ∃ a o, x = .ref a ∧ DGN B H a y o ∧ Q (.bl o.isSome) H
def rDNin (B : Bs) : R2 := fun y x H Q => ∃ a o, x = .ref a ∧ DGN B H a y o ∧ Q (.bl (!o.isSome)) H
theorem op_dIn (hK : X.K = B.K) (hw : X.w = B.w) (hu : X.A.units + 16 < cLine) : OpR X (compareOp .In) (rDIn B) := by
  intro pins s σ H y x u v Q I ry rx h
  obtain ⟨a, o, rfl, g, q⟩ := h
  cases (show v = Value.ref a from rx)
  exact n_in hK hw hu I g ry fun s' I' => ⟨.bl o.isSome, H, I', rfl, q⟩
theorem op_dNin (hK : X.K = B.K) (hw : X.w = B.w) (hu : X.A.units + 16 < cLine) : OpR X (compareOp .NotIn) (rDNin B) := by
  intro pins s σ H y x u v Q I ry rx h
  obtain ⟨a, o, rfl, g, q⟩ := h
  cases (show v = Value.ref a from rx)
  exact n_notIn hK hw hu I g ry fun s' I' => ⟨.bl (!o.isSome), H, I', rfl, q⟩
theorem dgn_type {pins : List (Addr × Obj)} {σ : L2.St} {H : Hp} {s : Shared} {a : Addr} {y : V} {o : Option V} (hK : X.K = B.K) (hw : X.w = B.w) (I : Inv X pins σ H s) (g : DGN B H a y o) : s.TypeIs (.ref a) "dict" := by
  rcases g with g | ⟨xs, k, b, t, _⟩
  · exact dict_typeIs I g
  · obtain ⟨hd, z, dd⟩ := t.at hK hw I
    exact dd.typeIs
def rDIx (B : Bs) : R2 := fun x y H Q => ∃ a v, x = .ref a ∧ DGN B H a y (some v) ∧ Q v H
theorem ix_dN (hK : X.K = B.K) (hw : X.w = B.w) (hu : X.A.units + 16 < cLine) : IxR X (rDIx B) := by
  intro value slice pins s σ H x y v u Q I rx ry h hs
  obtain ⟨a, z, rfl, g, q⟩ := h
  cases (show v = Value.ref a from rx)
  have hT := dgn_type hK hw I g
  unfold subscriptTail
  refine wpAny_bind ?_
  rw [getitemInPython_of_ne hT.not_modules]
  refine wpAny_bind (wpAny_specialOf hT PySem.F.slot_dict_getitem.lookup ?_)
  have fin : wpAny (model X.prog X.w) X.A (subscripted slice false (.ref a) u) (fun r s₃ => wpAny (model X.prog X.w) X.A (letTemporaryGo value (.ref a) r >>= fun _ => pure r) (EP X pins σ Q) X.xe s₃) X.xe s := by
    rw [hs]
    exact wpAny_operating (n_getItem hK hw hu I g ry fun w' s' I' rw' => wpAny_bind (wpAny_letTemporaryGo (wpAny_pure ⟨z, H, I', rw', q⟩)))
  first
    | exact wpAny_pure (wpAny_bind fin)
    | exact wpAny_bind (wpAny_pure (wpAny_bind fin))
    | exact wpAny_bind fin
def rDSet (B : Bs) : TSet := fun x y v H Q => ∃ a, x = .ref a ∧ DPN B H a y v Q
theorem set_dN (hK : X.K = B.K) (hw : X.w = B.w) (hu : X.A.units + 16 < cLine) : PSet X (rDSet B) := by
  intro pins s σ H o i v ov iv u Q I ro ri rv h
  obtain ⟨a, rfl, g⟩ := h
  cases (show ov = Value.ref a from ro)
  exact n_setItem hK hw hu I g ri rv fun H' s' I' q => ⟨H', I', q⟩
def rDG (B : Bs) : V → List V → Hp → VK → Prop := fun x xs H Q => ∃ a, x = .ref a ∧ ((∃ y o, xs = [y] ∧ DGN B H a y o ∧ Q (o.getD .non) H) ∨ ∃ y z o, xs = [y, z] ∧ DGN B H a y o ∧ Q (o.getD z) H)
theorem mt_dN (hK : X.K = B.K) (hw : X.w = B.w) (hu : X.A.units + 16 < cLine) : MtR X "dict.get" (rDG B) := by
  intro pins s σ H x xs v us Q I rx rs h
  obtain ⟨a, rfl, h⟩ := h
  cases (show v = Value.ref a from rx)
  rcases h with ⟨y, o, rfl, g, q⟩ | ⟨y, z, o, rfl, g, q⟩
  · obtain ⟨u, rfl, ru⟩ := rs.one
    exact n_get1 hK hw hu I g ru fun w' s' I' rw' => ⟨_, H, I', rw', q⟩
  · obtain ⟨u, u2, rfl, ru, ru2⟩ := rs.two
    exact n_get2 hK hw hu I g ru ru2 fun w' s' I' rw' => ⟨_, H, I', rw', q⟩
/-- d.get(..) -/
def tDM (B : Bs) (r : V → List V → Hp → VK → Prop) (to : TE) (t : TA) : TE := fun σ H Q => to σ H fun x H1 => (∃ a, x = .ref a ∧ IsDN B H1 a) ∧ t σ H1 fun xs H2 => r x xs H2 Q
theorem pe_dM {o e : PySem.Expr} {es : List PySem.Expr} {to : TE} {t : TA} {name : Str} {apos cpos : Pos} {id : String} {r : V → List V → Hp → VK → Prop} (slot : Slot "dict" name id) (hty : typeOf (.builtin id) = pure (.type "method_descriptor")) (hm : MtR X id r) (ho : PE X o to) (ha : PA X (e :: es) t)
    (hbase : attributeBase o name X.env (eval o X.env) = eval o X.env)
    (hfew : ((backTo cpos (starEach (e :: es) X.env)).all (fun x => !x.1) && (backToKw cpos (keywordEach [] X.env)).all (fun x => x.1.isSome)
      && decide ((e :: es).length + ([] : List Keyword).length + (if ([] : List Keyword).isEmpty then 0 else 1) < 30)) = true)
    (hline : (apos.endLine == cpos.line) = true) (hs : starEach (e :: es) X.env = (false, eval e X.env) :: starEach es X.env) (hplain : (backTo cpos (starEach es X.env)).any (·.1) = false) :
    PE X (.Call (.Attribute o name apos) (e :: es) [] cpos) (tDM B r to t) := by
  refine ⟨fun pins s σ H Q I h => ?_⟩
  refine wpAny_Call_method_late hbase hfew hline rfl (thn (ho.run pins s σ H _ I h) fun v s1 ⟨x, H1, I1, r1, ty, q1⟩ => ?_)
  obtain ⟨a, rfl, ty⟩ := ty
  cases (show v = Value.ref a from r1)
  obtain ⟨h1, h2⟩ := isDN_at I1 ty
  refine ⟨"dict", id, PySem.F.plainAttrs_dict, slot, hty, h1, h2, ?_⟩
  have hA := ha.run cpos pins s1 σ H1 _ I1 q1
  rw [hs] at hA ⊢
  refine Calls.callWith_builtin (by show (false || (backTo cpos (starEach es X.env)).any (·.1)) = false; rw [hplain] <;> rfl) (Calls.evalArgs_plain ?_)
  exact thn hA fun us s2 ⟨vs, H2, I2, r2, q2⟩ => hm pins s2 σ H2 _ vs _ us Q I2 (show RelV (.ref a) (.ref a) from rfl) r2 q2
end
/-! ### by clean values -/
section
variable {B : Bs} {H : Hp} {S : Store}
theorem sameK_of {p q : P} {k l : NestedKey} (h1 : keyOf p = some k) (h2 : keyOf q = some l) : sameK p q = decide (k = l) := by
  unfold sameK
  rw [h1, h2]
  by_cases e : k = l
  · subst e; simp
  · simp [e]
/-- a flat key -/
def kOf : P → Option Key
  | .int i => some (.inl i)
  | .str s => some (.inr s)
  | _ => none
def pK : Key → P
  | .inl i => .int i
  | .inr s => .str s
theorem flK_inv {p : P} (h : flK p = true) : ∃ k, p = pK k := by
  cases p with
  | int i => exact ⟨.inl i, rfl⟩
  | str s => exact ⟨.inr s, rfl⟩
  | _ => cases h
theorem pK_same (k l : Key) : sameK (pK k) (pK l) = decide (k = l) := by
  cases k <;> cases l <;> simp [sameK, pK, keyOf]
theorem pK_rep {k : Key} {v : V} (r : Rep B H (pK k) v) : v = kV k := by
  cases k <;> (unfold pK Rep at r; exact r)
theorem DK.same {kvs : List (P × P)} {ks : List (Key × V)} (h : DK B H kvs ks) : Paired (fun p q => p.1 = pK q.1 ∧ Rep B H p.2 q.2) kvs ks := Paired.mapP h fun p q z => ⟨z.1.trans (by cases q.1 <;> rfl), z.2⟩
theorem DK.val {kvs : List (P × P)} {ks : List (Key × V)} (h : DK B H kvs ks) (k : Key) : (∃ p v, valP kvs (pK k) = some p ∧ valV ks k = some v ∧ Rep B H p v) ∨ (valP kvs (pK k) = none ∧ valV ks k = none) := by
  have h' := h.same
  clear h
  induction h' with
  | nil => exact .inr ⟨rfl, rfl⟩
  | @cons p q ps qs z t ih =>
    have e1 : sameK p.1 (pK k) = decide (q.1 = k) := by rw [z.1, pK_same]
    by_cases e : q.1 = k
    · refine .inl ⟨p.2, q.2, ?_, valV_pos e, z.2⟩
      simp [valP, List.find?_cons, e1, e]
    · rw [valV_neg e]
      have : valP (p :: ps) (pK k) = valP ps (pK k) := by simp [valP, List.find?_cons, e1, e]
      rw [this]
      exact ih
theorem DK.any {kvs : List (P × P)} {ks : List (Key × V)} (h : DK B H kvs ks) (k : Key) : (kvs.any fun kv => sameK kv.1 (pK k)) = ks.any fun kv => decide (kv.1 = k) := by
  have h' := h.same
  clear h
  induction h' with
  | nil => rfl
  | cons z t ih => rw [List.any_cons, List.any_cons, ih, z.1, pK_same]
theorem DK.put {kvs : List (P × P)} {ks : List (Key × V)} (h : DK B H kvs ks) (k : Key) {p : P} {v : V} (r : Rep B H p v) : DK B H (putP kvs (pK k) p) (putK ks k v) := by
  unfold putP putK
  rw [h.any k]
  split
  · rename_i hh
    clear hh
    unfold DK at h ⊢
    induction h with
    | nil => exact .nil
    | @cons a b as bs z t ih =>
      rw [List.map_cons, List.map_cons]
      refine .cons ?_ ih
      have e1 : sameK a.1 (pK k) = decide (b.1 = k) := by
        have : a.1 = pK b.1 := z.1.trans (by cases b.1 <;> rfl)
        rw [this, pK_same]
      by_cases e : b.1 = k
      · simp only [e1, e, decide_true, if_true]
        refine ⟨?_, r⟩
        rw [← e]; exact z.1
      · simp only [e1, e, decide_false, if_false]
        exact z
  · refine Paired.snoc h ⟨?_, r⟩
    cases k <;> rfl
theorem DT.val {kvs : List (P × P)} {xs : List (NestedKey × Addr × Value)} (h : DT B H kvs xs) {k : P} {n : NestedKey} (hn : keyOf k = some n) :
    (∃ p v u, valP kvs k = some p ∧ (atKey xs n).map (·.2) = some u ∧ RelV v u ∧ Rep B H p v) ∨ (valP kvs k = none ∧ (atKey xs n).map (·.2) = none) := by
  unfold DT at h
  induction h with
  | nil => exact .inr ⟨rfl, rfl⟩
  | @cons p q ps qs z t ih =>
    obtain ⟨z1, z2, z3, v, z4, z5⟩ := z
    have e1 : sameK p.1 k = decide (q.1 = n) := sameK_of z2 hn
    by_cases e : q.1 = n
    · refine .inl ⟨p.2, v, q.2.2, ?_, ?_, z4, z5⟩
      · simp [valP, List.find?_cons, e1, e]
      · simp [atKey, List.find?_cons, e]
    · have h1 : valP (p :: ps) k = valP ps k := by simp [valP, List.find?_cons, e1, e]
      have h2 : atKey (q :: qs) n = atKey qs n := by simp [atKey, List.find?_cons, e]
      rw [h1, h2]
      exact ih
theorem DT.put {kvs : List (P × P)} {xs : List (NestedKey × Addr × Value)} (h : DT B H kvs xs) {k : P} {n : NestedKey} {b : Addr} {p : P} {v : V} {u : Value} (ht : tuK k = true) (hn : keyOf k = some n) (hb : Rep B H k (.ref b)) (ru : RelV v u) (r : Rep B H p v) : DT B H (putP kvs k p) (storedH xs n b u) := by
  have e : (kvs.any fun kv => sameK kv.1 k) = (atKey xs n).isSome := by
    rcases h.val hn with ⟨p, v, u, h1, h2, _⟩ | ⟨h1, h2⟩
    · have a1 : (atKey xs n).isSome = true := by
        cases q : atKey xs n with
        | none => rw [q] at h2; cases h2
        | some _ => rfl
      rw [a1]
      unfold valP at h1
      obtain ⟨z, hz, _⟩ := Option.map_eq_some_iff.mp h1
      exact List.any_eq_true.mpr ⟨z, List.mem_of_find?_eq_some hz, (List.find?_some (p := fun kv : P × P => sameK kv.1 k) hz)⟩
    · have a1 : (atKey xs n).isSome = false := by
        cases q : atKey xs n with
        | none => rfl
        | some _ => rw [q] at h2; cases h2
      rw [a1]
      unfold valP at h1
      rw [Option.map_eq_none_iff] at h1
      rw [Bool.eq_false_iff]
      intro z
      obtain ⟨x, hx, hs⟩ := List.any_eq_true.mp z
      exact absurd hs (by simpa using List.find?_eq_none.mp h1 x hx)
  unfold putP storedH
  rw [e]
  split
  · unfold DT at h ⊢
    rename_i hh
    clear e hh
    induction h with
    | nil => exact .nil
    | @cons a c as cs z t ih =>
      rw [List.map_cons, List.map_cons]
      refine .cons ?_ ih
      obtain ⟨z1, z2, z3, z4⟩ := z
      have e1 : sameK a.1 k = decide (c.1 = n) := sameK_of z2 hn
      unfold putAt
      by_cases e : c.1 = n
      · simp only [e1, e, decide_true, if_true]
        exact ⟨z1, by rw [← e]; exact z2, z3, v, ru, r⟩
      · simp only [e1, e, decide_false, if_false]
        exact ⟨z1, z2, z3, z4⟩
  · exact Paired.snoc h ⟨ht, hn, hb, v, ru, r⟩
theorem tuK_inv {k : P} (h : tuK k = true) : ∃ xs n, k = .tup xs ∧ keyOf k = some n ∧ n.depth ≤ 8 := by
  cases k with
  | tup xs =>
    simp only [tuK] at h
    split at h
    · rename_i ks hk
      exact ⟨xs, .tup ks, rfl, by simp [keyOf, hk], of_decide_eq_true h⟩
    · cases h
  | _ => cases h
theorem DT.keys {kvs : List (P × P)} {xs : List (NestedKey × Addr × Value)} (h : DT B H kvs xs) : ∀ x ∈ xs, KeyAt B H x.1 x.2.1 := by
  unfold DT at h
  induction h with
  | nil => intro x hx; cases hx
  | @cons p q ps qs z t ih =>
    intro x hx
    rcases List.mem_cons.mp hx with rfl | hx
    · obtain ⟨z1, z2, z3, _⟩ := z
      obtain ⟨_, n, _, hn, hd⟩ := tuK_inv z1
      rw [z2] at hn; cases hn
      exact ⟨hd, p.1, z2, z3⟩
    · exact ih x hx
theorem fl_tu {p : P} (h1 : flK p = true) (h2 : tuK p = true) : False := by
  cases p <;> first | (cases h1; done) | (cases h2; done)
/-- which kind of dict -/
theorem DRep.flat {a : Addr} {kvs : List (P × P)} (h : DRep B H a kvs) (hf : (kvs.all fun kv => flK kv.1) = true) : ∃ ks, H a = some (.dK ks) ∧ DK B H kvs ks ∧ kvs.length ≤ sizeLine := by
  rcases h with h | ⟨hn, xs, h1, h2⟩
  · exact h
  · exfalso
    unfold DT at h2
    cases h2 with
    | nil => exact hn rfl
    | cons z t => exact fl_tu (by simp only [List.all_cons, Bool.and_eq_true] at hf; exact hf.1) z.1
theorem DRep.tups {a : Addr} {kvs : List (P × P)} (h : DRep B H a kvs) (hf : (kvs.all fun kv => tuK kv.1) = true) : ∃ xs, Tb B H a xs ∧ DT B H kvs xs := by
  rcases h with ⟨ks, h1, h2, _⟩ | ⟨hn, xs, h1, h2⟩
  · unfold DK at h2
    cases h2 with
    | nil => exact ⟨[], ⟨.inl ⟨h1, rfl⟩, fun _ hx => by cases hx⟩, .nil⟩
    | @cons a b as bs z t =>
      exfalso
      simp only [List.all_cons, Bool.and_eq_true] at hf
      have : flK a.1 = true := by rw [z.1]; cases b.1 <;> rfl
      exact fl_tu this hf.1
  · exact ⟨xs, ⟨.inr h1, h2.keys⟩, h2⟩
theorem DRep.get {a : Addr} {kvs : List (P × P)} {k : P} {y : V} (h : DRep B H a kvs) (ok : okK kvs k = true) (r : Rep B H k y) : (∃ p v, valP kvs k = some p ∧ DGN B H a y (some v) ∧ Rep B H p v) ∨ (valP kvs k = none ∧ DGN B H a y none) := by
  unfold okK at ok
  rw [Bool.or_eq_true, Bool.and_eq_true, Bool.and_eq_true] at ok
  rcases ok with ⟨h1, h2⟩ | ⟨h1, h2⟩
  · obtain ⟨ks, e, hk, hz⟩ := h.flat h2
    obtain ⟨κ, rfl⟩ := flK_inv h1
    have ey := pK_rep r
    subst ey
    rcases hk.val κ with ⟨p, v, q1, q2, q3⟩ | ⟨q1, q2⟩
    · exact .inl ⟨p, v, q1, .inl (by rw [← q2]; exact DGet.k e), q3⟩
    · exact .inr ⟨q1, .inl (by rw [← q2]; exact DGet.k e)⟩
  · obtain ⟨xs, t, hk⟩ := h.tups h2
    obtain ⟨ps, n, rfl, hn, hd⟩ := tuK_inv h1
    obtain ⟨b, vs, rfl, _⟩ := rep_tup_inv r
    have ka : KeyAt B H n b := ⟨hd, _, hn, r⟩
    rcases hk.val hn with ⟨p, v, u, q1, q2, q3, q4⟩ | ⟨q1, q2⟩
    · exact .inl ⟨p, v, q1, .inr ⟨xs, n, b, t, rfl, ka, by rw [q2]; exact q3⟩, q4⟩
    · exact .inr ⟨q1, .inr ⟨xs, n, b, t, rfl, ka, by rw [q2]; exact True.intro⟩⟩
theorem putP_ne {kvs : List (P × P)} {k p : P} : putP kvs k p ≠ [] := by
  unfold putP
  split
  · rename_i h
    obtain ⟨x, hx, _⟩ := List.any_eq_true.mp h
    cases kvs with
    | nil => cases hx
    | cons _ _ => simp
  · simp
theorem putP_len {kvs : List (P × P)} {k p : P} : (putP kvs k p).length ≤ kvs.length + 1 := by
  unfold putP
  split <;> simp
theorem DRep.put {a : Addr} {kvs : List (P × P)} {k p : P} {y v : V} {R : Hp → Prop} (h : DRep B H a kvs) (ok : okK kvs k = true) (r : Rep B H k y) (rp : Rep B H p v) (hl : kvs.length < sizeLine)
    (q : ∀ H' u, Ext H H' → H' = upd H a u → DRep B H' a (putP kvs k p) → R H') : DPN B H a y v R := by
  unfold okK at ok
  rw [Bool.or_eq_true, Bool.and_eq_true, Bool.and_eq_true] at ok
  rcases ok with ⟨h1, h2⟩ | ⟨h1, h2⟩
  · obtain ⟨ks, e, hk, hz⟩ := h.flat h2
    obtain ⟨κ, rfl⟩ := flK_inv h1
    have ey := pK_rep r
    subst ey
    have ex : Ext H (upd H a (.dK (putK ks κ v))) := .mut e (fun _ z => by cases z) (fun _ _ z => by cases z)
    exact .inl ⟨_, DPut.k e (by rw [← Paired.length hk]; exact hl), q _ _ ex rfl (.inl ⟨_, L2.upd_same, (hk.put κ rp).ext ex, Nat.le_trans putP_len hl⟩)⟩
  · obtain ⟨xs, t, hk⟩ := h.tups h2
    obtain ⟨ps, n, rfl, hn, hd⟩ := tuK_inv h1
    obtain ⟨b, vs, rfl, _⟩ := rep_tup_inv r
    have ka : KeyAt B H n b := ⟨hd, _, hn, r⟩
    refine .inr ⟨xs, n, b, t, rfl, ka, by rw [← Paired.length hk]; exact hl, fun u ru => ?_⟩
    have ex : Ext H (upd H a (dN B.w a (storedH xs n b u))) := by
      rcases t.1 with ⟨e, _⟩ | e
      · exact .mut e (fun _ z => by cases z) (fun _ _ z => by cases z)
      · exact .mut e (fun _ z => by cases z) (fun _ _ z => by cases z)
    exact q _ _ ex rfl (.inr ⟨putP_ne, _, L2.upd_same, (hk.put h1 hn r ru rp).ext ex⟩)
end
/-! ### displays -/
section
variable {B : Bs} {H : Hp}
theorem dk_fold : ∀ {more : List (P × P)} {mk : List (Key × V)} {kvs : List (P × P)} {ks : List (Key × V)}, DK B H more mk → DK B H kvs ks → DK B H (more.foldl (fun m kv => putP m kv.1 kv.2) kvs) (mergeK ks mk) := by
  intro more mk kvs ks h
  unfold DK at h
  induction h generalizing kvs ks with
  | nil => intro q; exact q
  | @cons p q ps qs z t ih =>
    intro q0
    have e : p.1 = pK q.1 := z.1.trans (by cases q.1 <;> rfl)
    have := DK.put q0 q.1 z.2
    rw [← e] at this
    exact ih this
/-- pairs, in both -/
abbrev DV (B : Bs) (H : Hp) : List (P × P) → List (V × V) → Prop := Paired fun p q => Rep B H p.1 q.1 ∧ Rep B H p.2 q.2
theorem dv_flat : ∀ {kvs : List (P × P)} {prs : List (V × V)}, DV B H kvs prs → (kvs.all fun kv => flK kv.1) = true → ∃ ks : List (Key × V), prs = ks.map (fun kv => (kV kv.1, kv.2)) ∧ DK B H kvs ks := by
  intro kvs prs h
  unfold DV at h
  induction h with
  | nil => exact fun _ => ⟨[], rfl, .nil⟩
  | @cons p q ps qs z t ih =>
    intro hf
    rw [List.all_cons, Bool.and_eq_true] at hf
    obtain ⟨ks, e, hk⟩ := ih hf.2
    obtain ⟨k, hk1⟩ := flK_inv hf.1
    have z1 := z.1
    rw [hk1] at z1
    have e1 := pK_rep z1
    refine ⟨(k, q.2) :: ks, ?_, .cons ⟨?_, z.2⟩ hk⟩
    · rw [List.map_cons, ← e, ← e1]
    · rw [hk1]; cases k <;> rfl
end
end Core
end
section
set_option maxRecDepth 100000
/-! Core4: operators by values: the clean rule is served by the layer's. -/
namespace Core
open PySem L2

/-- what is wanted in the heap, from what is wanted of the clean end -/
def OkQ (B : Bs) (H : Hp) (Q0 : QP) (Q : VK) : Prop := ∀ p S' H' v, Ext H H' → RelS B S' H' → Rep B H' p v → Q0 p S' → Q v H'
theorem OkQ.at {B : Bs} {H H1 : Hp} {Q0 : QP} {Q : VK} (h : OkQ B H Q0 Q) (e : Ext H H1) : OkQ B H1 Q0 Q := fun p S' H' v e' => h p S' H' v (e.trans e')
def Serves (B : Bs) (r : R2) (t : P → P → Store → QP → Prop) : Prop :=
  ∀ x y S vx vy H Q0 Q, RelS B S H → Rep B H x vx → Rep B H y vy → OkQ B H Q0 Q → t x y S Q0 → r vx vy H Q
def rNo : R2 := fun _ _ _ _ => False
theorem op_no {X : Cx} {f : Value → Value → Sem Value} : OpR X f rNo := by
  intro pins s σ H x y v u Q I rx ry h
  exact h.elim

section
variable {B : Bs} {H : Hp} {S : Store}
theorem rep_int {i : Int} : Rep B H (.int i) (.int i) := by unfold Rep; rfl
theorem rep_bl {i : Bool} : Rep B H (.bl i) (.bl i) := by unfold Rep; rfl
theorem rep_str {i : Str} : Rep B H (.str i) (.str i) := by unfold Rep; rfl
theorem rep_non : Rep B H .non .non := by unfold Rep; rfl
theorem rep_loc {a : Addr} : Rep B H (.loc a) (.ref a) := by unfold Rep; rfl
theorem rep_tup {ps : List P} {vs : List V} {a : Addr} (h : SqT B.K H a vs) (z : vs.length ≤ sizeLine) (r : Reps B H ps vs) : Rep B H (.tup ps) (.ref a) := by
  unfold Rep; exact ⟨a, vs, rfl, h, z, r⟩
theorem Rep.int_inv {i : Int} {v : V} (h : Rep B H (.int i) v) : v = .int i := by unfold Rep at h; exact h
theorem Rep.bl_inv {i : Bool} {v : V} (h : Rep B H (.bl i) v) : v = .bl i := by unfold Rep at h; exact h
theorem Rep.str_inv {i : Str} {v : V} (h : Rep B H (.str i) v) : v = .str i := by unfold Rep at h; exact h
theorem Rep.non_inv {v : V} (h : Rep B H .non v) : v = .non := by unfold Rep at h; exact h
theorem Rep.loc_inv {a : Addr} {v : V} (h : Rep B H (.loc a) v) : v = .ref a := by unfold Rep at h; exact h
theorem Rep.tup_inv {ps : List P} {v : V} (h : Rep B H (.tup ps) v) : ∃ a vs, v = .ref a ∧ SqT B.K H a vs ∧ vs.length ≤ sizeLine ∧ Reps B H ps vs := by unfold Rep at h; exact h
theorem Rep.frl_inv {ps : List P} {v : V} (h : Rep B H (.frl ps) v) : ∃ a vs, v = .ref a ∧ SqL B.K H a vs ∧ vs.length ≤ sizeLine ∧ Reps B H ps vs := by
  unfold Rep at h
  obtain ⟨a, vs, h1, h2, h3, h4⟩ := h
  refine ⟨a, vs, h1, ?_, h3, h4⟩
  rcases h2 with ⟨o, h2⟩ | h2
  · exact .inl (.inr ⟨o, h2⟩)
  · exact .inr h2
theorem RelS.lst (h : RelS B S H) {a : Addr} {ps : List P} (e : S a = some (.lst ps)) : ∃ vs, H a = some (.lst vs) ∧ vs.length ≤ sizeLine ∧ Reps B H ps vs := h a _ e
theorem RelS.newL (h : RelS B S H) {c : Addr} (n : H c = none) {ps : List P} {vs : List V} (z : vs.length ≤ sizeLine) (r : Reps B H ps vs) : RelS B (S.upd c (.lst ps)) (L2.upd H c (.lst vs)) :=
  h.upd (.fresh n) ⟨vs, L2.upd_same, z, r.ext (.fresh n)⟩
theorem RelS.setL (h : RelS B S H) {c : Addr} {us : List V} (n : H c = some (.lst us)) {ps : List P} {vs : List V} (z : vs.length ≤ sizeLine) (r : Reps B H ps vs) : RelS B (S.upd c (.lst ps)) (L2.upd H c (.lst vs)) :=
  h.upd (.lst n) ⟨vs, L2.upd_same, z, r.ext (.lst n)⟩
/-- a new tuple -/
theorem tup_new {Q0 : QP} {Q : VK} (k : OkQ B H Q0 Q) (hS : RelS B S H) {p : Addr} (n : H p = none) {ps : List P} {vs : List V} (z : vs.length ≤ sizeLine) (r : Reps B H ps vs) (q : Q0 (.tup ps) S) : Q (.ref p) (upd H p (.tup vs)) :=
  k _ S _ _ (.fresh n) (hS.ext n) (rep_tup (SqT.of L2.upd_same) z (r.ext (.fresh n))) q
theorem lst_new {Q0 : QP} {Q : VK} (k : OkQ B H Q0 Q) (hS : RelS B S H) {p : Addr} (n : H p = none) {ps : List P} {vs : List V} (z : vs.length ≤ sizeLine) (r : Reps B H ps vs) (q : ∀ c, S c = none → Q0 (.loc c) (S.upd c (.lst ps))) : Q (.ref p) (upd H p (.lst vs)) :=
  k _ _ _ _ (.fresh n) (hS.newL n z r) rep_loc (q p (hS.free n))
theorem here {Q0 : QP} {Q : VK} (k : OkQ B H Q0 Q) (hS : RelS B S H) {p : P} {v : V} (r : Rep B H p v) (q : Q0 p S) : Q v H := k p S H v (.refl H) hS r q
end

section
variable {X : Cx} {B : Bs}
def rAddP (K : PySem.W.Frag) : R2 := fun x y H Q => (rI0 (fun i j => .int (i + j))) x y H Q ∨ (∃ i j, x = .str i ∧ y = .str j ∧ i.length + j.length ≤ sizeLine ∧ Q (.str (i ++ j)) H) ∨ rCatA K x y H Q ∨ rCat x y H Q
theorem op_addP : OpR X (binaryOp .Add) (rAddP X.K) := op_add.or (op_add_str.or (op_catA.or op_cat))
theorem serves_add : Serves B (rAddP B.K) opAdd := by
  intro x y S vx vy H Q0 Q hS rx ry k h
  unfold opAdd at h
  split at h
  · exact .inl ⟨_, _, rx.int_inv, ry.int_inv, here k hS rep_int h⟩
  · exact .inr (.inl ⟨_, _, rx.str_inv, ry.str_inv, h.1, here k hS rep_str h.2⟩)
  · obtain ⟨a, vs, e1, s1, z1, r1⟩ := rx.tup_inv
    obtain ⟨b, us, e2, s2, z2, r2⟩ := ry.tup_inv
    have l1 := r1.length
    have l2 := r2.length
    have z : (vs ++ us).length ≤ sizeLine := by rw [List.length_append]; have := h.1; omega
    have r := r1.append r2
    refine .inr (.inr (.inl ⟨a, b, vs, us, e1, e2, s1, s2, by rw [l1, l2]; exact h.1, fun e => ?_, fun _ e => ?_, fun _ _ p hp => tup_new k hS hp z r h.2⟩))
    · subst e
      exact here k hS (rep_tup s2 z2 (by simpa using r)) h.2
    · subst e
      exact here k hS (rep_tup s1 z1 (by simpa using r)) h.2
  · obtain ⟨xs, ys, h1, h2, h3, h4⟩ := h
    obtain ⟨vs, e1, z1, r1⟩ := hS.lst h1
    obtain ⟨us, e2, z2, r2⟩ := hS.lst h2
    have l1 := r1.length
    have l2 := r2.length
    exact .inr (.inr (.inr ⟨_, _, vs, us, rx.loc_inv, ry.loc_inv, e1, e2, by omega, fun p hp => lst_new k hS hp (by rw [List.length_append]; omega) (r1.append r2) h4⟩))
  · exact h.elim
def rMulP (K : PySem.W.Frag) : R2 := fun x y H Q => (rI CMul (fun i j => .int (i * j))) x y H Q ∨ (rI CMulW (fun i j => .int (i * j))) x y H Q ∨ rRep x y H Q ∨ rTimes K x y H Q
theorem op_mulP : OpR X (binaryOp .Mult) (rMulP X.K) := op_mul.or (op_mulW.or (op_rep.or op_times))
theorem serves_mul : Serves B (rMulP B.K) opMul := by
  intro x y S vx vy H Q0 Q hS rx ry k h
  unfold opMul at h
  split at h
  · obtain ⟨h1 | h1, h2⟩ := h
    · exact .inl ⟨_, _, rx.int_inv, ry.int_inv, h1, here k hS rep_int h2⟩
    · exact .inr (.inl ⟨_, _, rx.int_inv, ry.int_inv, h1, here k hS rep_int h2⟩)
  · obtain ⟨xs, h1, h2, h3, h4, h5⟩ := h
    obtain ⟨vs, e1, z1, r1⟩ := hS.lst h1
    have l1 := r1.length
    refine .inr (.inr (.inl ⟨_, _, vs, rx.loc_inv, ry.int_inv, e1, h2, h3, by rw [l1]; exact h4, fun p hp => lst_new k hS hp ?_ (r1.rep _) h5⟩))
    rw [PyProof.Rows.lm_len_rep_flat, l1, Nat.mul_comm]
    exact h4
  · obtain ⟨h1, h2, h3, h4⟩ := h
    obtain ⟨a, vs, e1, s1, z1, r1⟩ := rx.tup_inv
    have l1 := r1.length
    refine .inr (.inr (.inr ⟨a, _, vs, e1, ry.int_inv, s1, h1, h2, by rw [l1]; exact h3, fun same => ?_, fun p hp => tup_new k hS hp ?_ (r1.rep _) h4⟩))
    · rename_i xs j
      have e : (List.replicate j.toNat xs).flatten = xs := by
        rcases same with z | z
        · rw [z] at l1
          have : xs = [] := List.eq_nil_of_length_eq_zero l1.symm
          rw [this]; simp
        · rw [z]; simp
      rw [e] at h4
      exact here k hS (rep_tup s1 z1 r1) h4
    · rw [PyProof.Rows.lm_len_rep_flat, l1, Nat.mul_comm]
      exact h3
  · exact h.elim
theorem bin_ok (hK : X.K = B.K) (op : Operator) : ∃ r, OpR X (binaryOp op) r ∧ Serves B r (opBin op) := by
  cases op with
  | Add => exact ⟨_, op_addP, by rw [hK]; exact serves_add⟩
  | Sub =>
    refine ⟨_, op_sub, fun x y S vx vy H Q0 Q hS rx ry k h => ?_⟩
    unfold opBin at h
    simp only at h
    split at h
    · exact ⟨_, _, rx.int_inv, ry.int_inv, here k hS rep_int h⟩
    · exact h.elim
  | Mult => exact ⟨_, op_mulP, by rw [hK]; exact serves_mul⟩
  | FloorDiv =>
    refine ⟨_, op_fdivW, fun x y S vx vy H Q0 Q hS rx ry k h => ?_⟩
    unfold opBin at h
    simp only at h
    split at h
    · exact ⟨_, _, rx.int_inv, ry.int_inv, h.1, here k hS rep_int h.2⟩
    · exact h.elim
  | Mod =>
    refine ⟨_, op_mod, fun x y S vx vy H Q0 Q hS rx ry k h => ?_⟩
    unfold opBin at h
    simp only at h
    split at h
    · exact ⟨_, _, rx.int_inv, ry.int_inv, h.1, here k hS rep_int h.2⟩
    · exact h.elim
  | Pow =>
    refine ⟨_, op_pow, fun x y S vx vy H Q0 Q hS rx ry k h => ?_⟩
    unfold opBin at h
    simp only at h
    split at h
    · exact ⟨_, _, rx.int_inv, ry.int_inv, h.1, here k hS rep_int h.2⟩
    · exact h.elim
  | _ =>
    refine ⟨_, op_no, fun x y S vx vy H Q0 Q hS rx ry k h => ?_⟩
    unfold opBin at h
    exact h.elim
theorem iop_mulW : OpR X (inplaceOp .Mult) (rI CMulW fun i j => .int (i * j)) := opI fun _ _ _ _ _ _ _ hc q => PyProof.Rows.imul_int q hc.ok
/-- x op= y of ints -/
theorem aug_ok (op : Operator) : ∃ r : TIp, PIp X op r ∧ Serves B r (opAug op) := by
  have no : ∃ r : TIp, PIp X op r ∧ ∀ x y S vx vy H Q0 Q, RelS B S H → Rep B H x vx → Rep B H y vy → OkQ B H Q0 Q → False → r vx vy H Q := ⟨fun _ _ _ _ => False, fun pins s σ H x y v u Q I rx ry h => h.elim, fun x y S vx vy H Q0 Q _ _ _ _ h => h⟩
  cases op with
  | Add =>
    refine ⟨_, (fun pins s σ H x y v u Q I rx ry h => augR iop_add I rx ry h : PIp X .Add (rI0 fun i j => .int (i + j))), fun x y S vx vy H Q0 Q hS rx ry k h => ?_⟩
    unfold opAug at h
    split at h
    · exact ⟨_, _, rx.int_inv, ry.int_inv, here k hS rep_int h⟩
    · exact h.elim
  | Sub =>
    refine ⟨_, (fun pins s σ H x y v u Q I rx ry h => augR iop_sub I rx ry h : PIp X .Sub (rI0 fun i j => .int (i - j))), fun x y S vx vy H Q0 Q hS rx ry k h => ?_⟩
    unfold opAug at h
    split at h
    · exact ⟨_, _, rx.int_inv, ry.int_inv, here k hS rep_int h⟩
    · exact h.elim
  | FloorDiv =>
    refine ⟨_, (fun pins s σ H x y v u Q I rx ry h => augR iop_fdivW I rx ry h : PIp X .FloorDiv (rI CDivW fun i j => .int (i / j))), fun x y S vx vy H Q0 Q hS rx ry k h => ?_⟩
    unfold opAug at h
    split at h
    · exact ⟨_, _, rx.int_inv, ry.int_inv, h.1, here k hS rep_int h.2⟩
    · exact h.elim
  | Mult =>
    refine ⟨_, (fun pins s σ H x y v u Q I rx ry h => augR (iop_mul.or iop_mulW) I rx ry h : PIp X .Mult (fun x y H Q => (rI CMul fun i j => .int (i * j)) x y H Q ∨ (rI CMulW fun i j => .int (i * j)) x y H Q)), fun x y S vx vy H Q0 Q hS rx ry k h => ?_⟩
    unfold opAug at h
    split at h
    · obtain ⟨h1 | h1, h2⟩ := h
      · exact .inl ⟨_, _, rx.int_inv, ry.int_inv, h1, here k hS rep_int h2⟩
      · exact .inr ⟨_, _, rx.int_inv, ry.int_inv, h1, here k hS rep_int h2⟩
    · exact h.elim
  | _ =>
    refine ⟨_, (fun pins s σ H x y v u Q I rx ry h => h.elim : PIp X _ (fun _ _ _ _ => False)), fun x y S vx vy H Q0 Q hS rx ry k h => ?_⟩
    unfold opAug at h
    split at h <;> exact h.elim

/-! ### comparisons -/
mutual
theorem dataS_ok {S : Store} {H : Hp} (hS : RelS B S H) : ∀ (n : Nat) (p : P) (v : V) (d : PyData), Rep B H p v → dataS S n p = some d → Dp B.K H v d ∧ PyData.canLay0 d = true ∧ PyData.depth d ≤ n
  | 0, p, v, d, r, e => by cases p <;> simp [dataS] at e
  | n + 1, .non, v, d, r, e => by
    simp only [dataS, Option.some.injEq] at e
    subst e; rw [r.non_inv]
    exact ⟨.non, rfl, Nat.zero_le _⟩
  | n + 1, .bl b, v, d, r, e => by
    simp only [dataS, Option.some.injEq] at e
    subst e; rw [r.bl_inv]
    exact ⟨.bl _, rfl, Nat.zero_le _⟩
  | n + 1, .int b, v, d, r, e => by
    simp only [dataS, Option.some.injEq] at e
    subst e; rw [r.int_inv]
    exact ⟨.int _, rfl, Nat.zero_le _⟩
  | n + 1, .str b, v, d, r, e => by
    simp only [dataS] at e
    split at e
    · rename_i hb
      cases e; rw [r.str_inv]
      exact ⟨.str _, by simpa [PyData.canLay0] using hb, Nat.zero_le _⟩
    · cases e
  | n + 1, .fn b, v, d, r, e => by simp [dataS] at e
  | n + 1, .tup xs, v, d, r, e => by
    simp only [dataS, Option.map_eq_some_iff] at e
    obtain ⟨ds, e1, e2⟩ := e
    subst e2
    obtain ⟨a, vs, rfl, s1, z1, r1⟩ := r.tup_inv
    obtain ⟨q1, q2, q3⟩ := datasS_ok hS n xs vs ds r1 e1
    exact ⟨.tup s1 q1, by simpa [PyData.canLay0] using q2, by simp only [PyData.depth]; omega⟩
  | n + 1, .frl xs, v, d, r, e => by
    simp only [dataS, Option.map_eq_some_iff] at e
    obtain ⟨ds, e1, e2⟩ := e
    subst e2
    obtain ⟨a, vs, rfl, s1, z1, r1⟩ := r.frl_inv
    obtain ⟨q1, q2, q3⟩ := datasS_ok hS n xs vs ds r1 e1
    exact ⟨.lst s1 q1, by simpa [PyData.canLay0] using q2, by simp only [PyData.depth]; omega⟩
  | n + 1, .loc a, v, d, r, e => by
    simp only [dataS] at e
    split at e
    · rename_i xs hx
      simp only [Option.map_eq_some_iff] at e
      obtain ⟨ds, e1, e2⟩ := e
      subst e2
      obtain ⟨vs, s1, z1, r1⟩ := hS.lst hx
      obtain ⟨q1, q2, q3⟩ := datasS_ok hS n xs vs ds r1 e1
      rw [r.loc_inv]
      exact ⟨.lst (SqL.of s1) q1, by simpa [PyData.canLay0] using q2, by simp only [PyData.depth]; omega⟩
    · cases e
theorem datasS_ok {S : Store} {H : Hp} (hS : RelS B S H) : ∀ (n : Nat) (ps : List P) (vs : List V) (ds : List PyData), Reps B H ps vs → ps.mapM (dataS S n) = some ds → DpAll B.K H vs ds ∧ PyData.canLayAll0 ds = true ∧ PyData.depthAll ds ≤ n
  | n, [], vs, ds, r, e => by
    rw [r.nil_inv]
    simp at e
    subst e
    exact ⟨.nil, rfl, Nat.zero_le _⟩
  | n, p :: ps, vs, ds, r, e => by
    obtain ⟨v, t, rfl, r1, r2⟩ := r.cons_inv
    rw [List.mapM_cons] at e
    cases h1 : dataS S n p with
    | none => rw [h1] at e; cases e
    | some d =>
      cases h2 : ps.mapM (dataS S n) with
      | none => rw [h1, h2] at e; cases e
      | some es =>
        rw [h1, h2] at e
        cases e
        obtain ⟨q1, q2, q3⟩ := dataS_ok hS n p v d r1 h1
        obtain ⟨w1, w2, w3⟩ := datasS_ok hS n ps t es r2 h2
        refine ⟨.cons q1 w1, by simp only [PyData.canLayAll0, q2, w2, Bool.and_self], by simp only [PyData.depthAll]; omega⟩
end
theorem shaped_ok {d : PyData} {n : Nat} (h : PyData.canLay0 d = true) (z : PyData.depth d ≤ n) (hn : n ≤ 64) : SeqAt.shaped d = true := by
  unfold SeqAt.shaped
  rw [h, decide_eq_true (by omega : PyData.depth d ≤ 64)]
  rfl
theorem flV_ok {S : Store} {H : Hp} {p : P} {v : V} (r : Rep B H p v) (f : flatP p = true) : v = flV p ∧ flatV v = true := by
  cases p with
  | non => rw [r.non_inv]; exact ⟨rfl, rfl⟩
  | bl b => rw [r.bl_inv]; exact ⟨rfl, rfl⟩
  | int b => rw [r.int_inv]; exact ⟨rfl, rfl⟩
  | str b => rw [r.str_inv]; exact ⟨rfl, rfl⟩
  | _ => cases f
theorem flVs_ok {S : Store} {H : Hp} : ∀ {ps : List P} {vs : List V}, Reps B H ps vs → ps.all flatP = true → vs = ps.map flV ∧ vs.all flatV = true
  | [], _, r, _ => by rw [r.nil_inv]; exact ⟨rfl, rfl⟩
  | p :: ps, _, r, f => by
    obtain ⟨v, t, rfl, r1, r2⟩ := r.cons_inv
    rw [List.all_cons, Bool.and_eq_true] at f
    obtain ⟨e1, f1⟩ := flV_ok (S := S) r1 f.1
    obtain ⟨e2, f2⟩ := flVs_ok (S := S) r2 f.2
    exact ⟨by rw [List.map_cons, ← e1, ← e2], by rw [List.all_cons, f1, f2]; rfl⟩
theorem Rep.non_of {H : Hp} {p : P} (r : Rep B H p .non) : p = .non := by
  cases p with
  | non => rfl
  | bl b => exact nomatch r.bl_inv
  | int b => exact nomatch r.int_inv
  | str b => exact nomatch r.str_inv
  | tup b => obtain ⟨_, _, e, _⟩ := r.tup_inv; exact nomatch e
  | frl b => obtain ⟨_, _, e, _⟩ := r.frl_inv; exact nomatch e
  | loc b => exact nomatch r.loc_inv
  | fn b => unfold Rep at r; obtain ⟨_, _, _, _, e⟩ := r; exact nomatch e
def isNonP : P → Bool
  | .non => true
  | _ => false
theorem bl_non {H : Hp} {x : P} {v : V} (r : Rep B H x v) : decide (v = .non) = isNonP x := by
  cases x with
  | non => rw [r.non_inv]; rfl
  | bl b => rw [r.bl_inv]; rfl
  | int b => rw [r.int_inv]; rfl
  | str b => rw [r.str_inv]; rfl
  | tup b => obtain ⟨_, _, e, _⟩ := r.tup_inv; rw [e]; rfl
  | frl b => obtain ⟨_, _, e, _⟩ := r.frl_inv; rw [e]; rfl
  | loc b => rw [r.loc_inv]; rfl
  | fn b => unfold Rep at r; obtain ⟨_, _, _, _, e⟩ := r; rw [e]; rfl
theorem serves_is : Serves B (fun x y H Q => (y = .non ∧ Q (.bl (decide (x = .non))) H) ∨ rIsB x y H Q) (opCmp .Is) := by
  intro x y S vx vy H Q0 Q hS rx ry k h
  unfold opCmp at h
  simp only at h
  split at h
  · rw [rx.non_inv]
    exact .inl ⟨ry.non_inv, here k hS rep_bl h⟩
  · rename_i hx
    refine .inl ⟨ry.non_inv, ?_⟩
    have e := bl_non rx
    have e2 : isNonP x = false := by cases x <;> first | rfl | exact absurd rfl hx
    rw [e, e2]
    exact here k hS rep_bl h
  · exact .inr ⟨_, _, rx.bl_inv, ry.bl_inv, here k hS rep_bl h⟩
  · exact h.elim
theorem serves_isnot : Serves B (fun x y H Q => (y = .non ∧ Q (.bl (!decide (x = .non))) H) ∨ rNotB x y H Q) (opCmp .IsNot) := by
  intro x y S vx vy H Q0 Q hS rx ry k h
  unfold opCmp at h
  simp only at h
  split at h
  · rw [rx.non_inv]
    exact .inl ⟨ry.non_inv, here k hS rep_bl h⟩
  · rename_i hx
    refine .inl ⟨ry.non_inv, ?_⟩
    have e := bl_non rx
    have e2 : isNonP x = false := by cases x <;> first | rfl | exact absurd rfl hx
    rw [e, e2]
    exact here k hS rep_bl h
  · exact .inr ⟨_, _, rx.bl_inv, ry.bl_inv, here k hS rep_bl h⟩
  · exact h.elim
theorem serves_in : Serves B (fun x y H Q => rIn B.K false x y H Q ∨ rInD B.K x y H Q ∨ rDIn B x y H Q) (opCmp .In) := by
  intro x y S vx vy H Q0 Q hS rx ry k h
  unfold opCmp at h
  simp only at h
  split at h
  · obtain ⟨h1, h2, h3⟩ := h
    obtain ⟨a, vs, e, s1, z1, r1⟩ := ry.tup_inv
    obtain ⟨e1, f1⟩ := flV_ok (S := S) rx h1
    obtain ⟨e2, f2⟩ := flVs_ok (S := S) r1 h2
    refine .inl ⟨a, vs, e, .inr s1, f1, f2, ?_⟩
    rw [e1, e2]
    exact here k hS rep_bl h3
  · split at h
    · rename_i ys hy
      obtain ⟨d, es, h1, h2, h3⟩ := h
      obtain ⟨vs, s1, z1, r1⟩ := hS.lst hy
      obtain ⟨q1, q2, q3⟩ := dataS_ok hS _ _ _ _ rx h1
      obtain ⟨w1, w2, w3⟩ := datasS_ok hS _ _ _ _ r1 h2
      refine .inr (.inl ⟨d, es, q1, ?_, shaped_ok q2 q3 (by decide), shaped_ok (n := 63) (by simpa [PyData.canLay0] using w2) (by simp only [PyData.depth]; omega) (by decide), here k hS rep_bl h3⟩)
      rw [ry.loc_inv]
      exact .lst (SqL.of s1) w1
    · rename_i kvs hy
      rcases (show DRep B H _ kvs from hS _ _ hy).get h.1 rx with ⟨p, v, q1, q2, q3⟩ | ⟨q1, q2⟩
      · exact .inr (.inr ⟨_, some v, ry.loc_inv, q2, here k hS rep_bl (by rw [q1] at h; exact h.2)⟩)
      · exact .inr (.inr ⟨_, none, ry.loc_inv, q2, here k hS rep_bl (by rw [q1] at h; exact h.2)⟩)
    · exact h.elim
  · exact h.elim
theorem serves_notin : Serves B (fun x y H Q => rIn B.K true x y H Q ∨ rNotInD B.K x y H Q ∨ rDNin B x y H Q) (opCmp .NotIn) := by
  intro x y S vx vy H Q0 Q hS rx ry k h
  unfold opCmp at h
  simp only at h
  split at h
  · obtain ⟨h1, h2, h3⟩ := h
    obtain ⟨a, vs, e, s1, z1, r1⟩ := ry.tup_inv
    obtain ⟨e1, f1⟩ := flV_ok (S := S) rx h1
    obtain ⟨e2, f2⟩ := flVs_ok (S := S) r1 h2
    refine .inl ⟨a, vs, e, .inr s1, f1, f2, ?_⟩
    rw [e1, e2]
    exact here k hS rep_bl h3
  · split at h
    · rename_i ys hy
      obtain ⟨d, es, h1, h2, h3⟩ := h
      obtain ⟨vs, s1, z1, r1⟩ := hS.lst hy
      obtain ⟨q1, q2, q3⟩ := dataS_ok hS _ _ _ _ rx h1
      obtain ⟨w1, w2, w3⟩ := datasS_ok hS _ _ _ _ r1 h2
      refine .inr (.inl ⟨d, es, q1, ?_, shaped_ok q2 q3 (by decide), shaped_ok (n := 63) (by simpa [PyData.canLay0] using w2) (by simp only [PyData.depth]; omega) (by decide), here k hS rep_bl h3⟩)
      rw [ry.loc_inv]
      exact .lst (SqL.of s1) w1
    · rename_i kvs hy
      rcases (show DRep B H _ kvs from hS _ _ hy).get h.1 rx with ⟨p, v, q1, q2, q3⟩ | ⟨q1, q2⟩
      · exact .inr (.inr ⟨_, some v, ry.loc_inv, q2, here k hS rep_bl (by rw [q1] at h; exact h.2)⟩)
      · exact .inr (.inr ⟨_, none, ry.loc_inv, q2, here k hS rep_bl (by rw [q1] at h; exact h.2)⟩)
    · exact h.elim
  · exact h.elim
theorem serves_eq : Serves B (rEqD B.K) (opCmp .Eq) := by
  intro x y S vx vy H Q0 Q hS rx ry k h
  obtain ⟨d, e, h1, h2, h3⟩ := h
  obtain ⟨q1, q2, q3⟩ := dataS_ok hS _ _ _ _ rx h1
  obtain ⟨w1, w2, w3⟩ := dataS_ok hS _ _ _ _ ry h2
  exact ⟨d, e, q1, w1, shaped_ok q2 q3 (by decide), shaped_ok w2 w3 (by decide), here k hS rep_bl h3⟩
theorem serves_ne : Serves B (rNeD B.K) (opCmp .NotEq) := by
  intro x y S vx vy H Q0 Q hS rx ry k h
  obtain ⟨d, e, h1, h2, h3⟩ := h
  obtain ⟨q1, q2, q3⟩ := dataS_ok hS _ _ _ _ rx h1
  obtain ⟨w1, w2, w3⟩ := dataS_ok hS _ _ _ _ ry h2
  exact ⟨d, e, q1, w1, shaped_ok q2 q3 (by decide), shaped_ok w2 w3 (by decide), here k hS rep_bl h3⟩
theorem cmp_ok (hK : X.K = B.K) (hw : X.w = B.w) {n : Nat} (hr : Room n X.A) (op : CmpOp) : ∃ r, OpR X (compareOp op) r ∧ Serves B r (opCmp op) := by
  cases op with
  | Eq => exact ⟨_, op_eqD hr.units, by rw [hK]; exact serves_eq⟩
  | NotEq => exact ⟨_, op_neD hr.units, by rw [hK]; exact serves_ne⟩
  | Is => exact ⟨_, op_isN.or op_isBl, serves_is⟩
  | IsNot => exact ⟨_, op_notN.or op_notBl, serves_isnot⟩
  | In => exact ⟨_, op_in_seq.or ((op_inD (by have := hr.un; omega)).or (op_dIn (B := B) hK hw (by have := hr.un; omega))), by rw [hK]; exact serves_in⟩
  | NotIn => exact ⟨_, op_notIn_seq.or ((op_notInD (by have := hr.un; omega)).or (op_dNin (B := B) hK hw (by have := hr.un; omega))), by rw [hK]; exact serves_notin⟩
  | Lt =>
    refine ⟨_, op_lt, fun x y S vx vy H Q0 Q hS rx ry k h => ?_⟩
    unfold opCmp at h
    simp only at h
    split at h
    · exact ⟨_, _, rx.int_inv, ry.int_inv, here k hS rep_bl h⟩
    · exact h.elim
  | LtE =>
    refine ⟨_, op_le, fun x y S vx vy H Q0 Q hS rx ry k h => ?_⟩
    unfold opCmp at h
    simp only at h
    split at h
    · exact ⟨_, _, rx.int_inv, ry.int_inv, here k hS rep_bl h⟩
    · exact h.elim
  | Gt =>
    refine ⟨_, op_gt, fun x y S vx vy H Q0 Q hS rx ry k h => ?_⟩
    unfold opCmp at h
    simp only at h
    split at h
    · exact ⟨_, _, rx.int_inv, ry.int_inv, here k hS rep_bl h⟩
    · exact h.elim
  | GtE =>
    refine ⟨_, op_ge, fun x y S vx vy H Q0 Q hS rx ry k h => ?_⟩
    unfold opCmp at h
    simp only at h
    split at h
    · exact ⟨_, _, rx.int_inv, ry.int_inv, here k hS rep_bl h⟩
    · exact h.elim
end
end Core
end
section
set_option maxRecDepth 100000
set_option maxHeartbeats 4000000
/-! CoreB: a display of a dict, keys of one kind, told when the pairs are there. -/
namespace Core
open PySem PySem.Spec PyProof.Rows L2
section
variable {prog : Program} {w : World} {A : Around} {E : Value → Shared → Prop} {s : Shared} {env : PySem.Env}
abbrev storeAllF (d : Addr) (vs : List (Value × Value)) : Sem PUnit := forIn vs PUnit.unit fun (x : Value × Value) (_ : PUnit) => (do dictSet d x.1 x.2; pure (ForInStep.yield PUnit.unit) : Sem (ForInStep PUnit))
theorem wpAny_subDict_raw {pairs : List (Sem Value × Sem Value)} {Q : Addr → Shared → Prop} (hlen : pairs.length ≤ 15)
    (h : wpAny (model prog w) A (evalPairs pairs) (fun vs s₁ => vs.length = pairs.length → wpAny (model prog w) A (storeAllF s.heap.objs.size vs) (fun _ s2 => Q s.heap.objs.size s2) E s₁) E
      { s with heap := s.heap.push { cls := .type "dict", data := .dict #[] } }) :
    wpAny (model prog w) A (subDict pairs) Q E s := by
  unfold subDict
  refine wpAny_bind (wpAny_alloc ?_)
  refine wpAny_bind (wpAny_holding ?_)
  rw [if_pos hlen]
  refine wpAny_bind (wpAny_mono (wpAny_evalPairs_len h) (fun vs s₁ h₁ => ?_) fun _ _ e => e)
  refine wpAny_holding ?_
  exact wpAny_bind (wpAny_mono (h₁.2 h₁.1) (fun _ s2 q => wpAny_pure (wpAny_pure q)) fun _ _ e => e)
theorem wpAny_Dict_raw {keys : List (Option PySem.Expr)} {values : List PySem.Expr} {pos : Pos} {Q : Value → Shared → Prop} (hall : keys.all (·.isSome) = true) (hl : keys.length = values.length) (h0 : keys ≠ []) (hlen : keys.length ≤ 15)
    (h : wpAny (model prog w) A (evalPairs (pairTrees keys values env pos)) (fun vs s₁ => vs.length ≤ 15 → wpAny (model prog w) A (storeAllF s.heap.objs.size vs) (fun _ s2 => Q (.ref s.heap.objs.size) s2) E s₁) E
      { s with heap := s.heap.push { cls := .type "dict", data := .dict #[] } }) :
    wpAny (model prog w) A (eval (.Dict keys values pos) env) Q E s := by
  have hn := pairTrees_length keys values env pos hall hl
  have h0' : pairTrees keys values env pos ≠ [] := by
    intro he
    rw [he] at hn
    exact h0 (List.length_eq_zero_iff.mp hn.symm)
  rw [arm_eval_Dict, zip_pairTrees keys values env pos hall hl, dictDisplay_pairs _ h0' (by omega)]
  refine wpAny_bind (wpAny_standAt (wpAny_bind (wpAny_subDict_raw (Q := fun d s' => wpAny (model prog w) A (pure (Value.ref d)) Q E s') (by omega) ?_)))
  refine wpAny_mono h (fun vs s₁ h₁ hv => ?_) fun _ _ e => e
  exact wpAny_mono (h₁ (by omega)) (fun _ s2 q => wpAny_pure q) fun _ _ e => e
end
/-- {k: v, ..}: flat keys, or tuples -/
def tDispA (B : Bs) (trs : List (TE × TE)) : TE := fun σ H Q => ∀ p, H p = none → tPairs trs σ (upd H p (.dK [])) fun ps H2 => H2 p = some (.dK []) ∧
  ((∃ kvs : List (Key × V), ps = kvs.map (fun kv => (kV kv.1, kv.2)) ∧ Q (.ref p) (upd H2 p (.dK (mergeK [] kvs)))) ∨
   (∃ kvs : List (NestedKey × Addr × V), ps = kvs.map (fun x => (V.ref x.2.1, x.2.2)) ∧ (∀ x ∈ kvs, KeyAt B H2 x.1 x.2.1) ∧
     ∀ xs : List (NestedKey × Addr × Value), Paired (fun (x : NestedKey × Addr × V) (y : NestedKey × Addr × Value) => x.1 = y.1 ∧ x.2.1 = y.2.1 ∧ RelV x.2.2 y.2.2) kvs xs → Q (.ref p) (upd H2 p (dN B.w p (storedAllH [] xs)))))
theorem carriesH_of {X : Cx} {B : Bs} {pins : List (Addr × Obj)} {σ : L2.St} {H : Hp} {s : Shared} (hK : X.K = B.K) (I : Inv X pins σ H s) : ∀ {kvs : List (NestedKey × Addr × V)} {ws : List (Value × Value)}, (∀ x ∈ kvs, KeyAt B H x.1 x.2.1) → VV (kvs.map fun x => (V.ref x.2.1, x.2.2)) ws →
    ∃ xs : List (NestedKey × Addr × Value), CarriesH (nestedKind X.prog X.w) s.heap ws xs ∧ Paired (fun (x : NestedKey × Addr × V) (y : NestedKey × Addr × Value) => x.1 = y.1 ∧ x.2.1 = y.2.1 ∧ RelV x.2.2 y.2.2) kvs xs
  | [], _, _, r => by rw [List.map_nil] at r; cases r; exact ⟨[], True.intro, .nil⟩
  | p :: kvs, _, hk, r => by
    rw [List.map_cons] at r
    cases r with
    | @cons a b as bs h t =>
      obtain ⟨xs, c, q⟩ := carriesH_of hK I (fun x hx => hk x (List.mem_cons_of_mem _ hx)) t
      obtain ⟨b1, b2⟩ := b
      have e1 : b1 = Value.ref p.2.1 := h.1
      subst e1
      exact ⟨(p.1, p.2.1, b2) :: xs, ⟨rfl, rfl, (hk p List.mem_cons_self).is hK I, c⟩, .cons ⟨rfl, rfl, h.2⟩ q⟩
theorem storedAllH_len : ∀ (xs acc : List (NestedKey × Addr × Value)), (storedAllH acc xs).length ≤ acc.length + xs.length
  | [], acc => Nat.le_refl _
  | (k, a, v) :: xs, acc => by
    have h1 := storedAllH_len xs (storedH acc k a v)
    have h2 := storedH_len (xs := acc) (k := k) (b := a) (u := v)
    show (storedAllH (storedH acc k a v) xs).length ≤ _
    rw [List.length_cons]; omega
theorem pe_dispA {X : Cx} {B : Bs} {pos : Pos} {keys : List (Option PySem.Expr)} {values : List PySem.Expr} {trs : List (TE × TE)} (hK : X.K = B.K) (hw : X.w = B.w) (hu : X.A.units + 16 < cLine) (h : PPs X pos keys values trs) (hall : keys.all (·.isSome) = true) (hl : keys.length = values.length) (h0 : keys ≠ [])
    (h15 : keys.length ≤ 15) : PE X (.Dict keys values pos) (tDispA B trs) := by
  refine ⟨fun pins s σ H Q I q => ?_⟩
  have hz := sizeLine_eq
  have hn := I.hok.fresh (Nat.le_refl s.heap.objs.size)
  have I1 := I.laid (a := s.heap.objs.size) (o := .dK []) (h' := s.heap.push { cls := .type "dict", data := .dict #[] }) (t' := s.toks) (fun _ _ q => Heap.get?_push_of_some _ q) (Nat.le_refl _) (dk_empty s.heap I.big)
  refine wpAny_Dict_raw hall hl h0 h15 (thn (h.run pins _ σ _ _ I1 (q _ hn)) fun ws s2 ⟨ps, H2, I2, rel, e, q2⟩ => fun hv => ?_)
  rcases q2 with ⟨kvs, ep, q2⟩ | ⟨kvs, ep, hk, q2⟩
  · subst ep
    obtain ⟨rs, c, rk⟩ := carries_of (P := X.prog) (w := X.w) rel
    obtain ⟨z, hd, vs0, r0, dd⟩ := dk_of I2.hok e
    cases r0
    have hlen : kvs.length ≤ 15 := by
      have := Paired.length rel
      rw [List.length_map] at this
      omega
    have hrs : rs.length = ws.length := by
      have := Paired.length rk
      have h2 := Paired.length rel
      rw [List.length_map] at h2
      omega
    refine wpAny_storeAll (knd := mixKind X.prog X.w) ws rs [] s2 _ c dd (by rw [List.length_nil]; omega) fun h' dd' hs => ⟨.ref s.heap.objs.size, _, ?_, rfl, q2⟩
    have hz : (mergeK [] kvs).length ≤ sizeLine := by
      have h1 := length_mergeK kvs []
      rw [List.length_nil] at h1
      rw [sizeLine_eq]; omega
    have he : ∃ q, h'.get? s.heap.objs.size = some q := let ⟨q, _, _, hq, _⟩ := dd'; ⟨q, hq⟩
    exact d_write I2 (by rw [e]; exact True.intro) hs he (dk_new hz hd (rk.merge .nil) dd')
  · subst ep
    obtain ⟨xs, c, rk⟩ := carriesH_of hK I2 hk rel
    obtain ⟨hd, z, dd⟩ := (show Tb B H2 s.heap.objs.size [] from ⟨.inl ⟨e, rfl⟩, fun _ h => by cases h⟩).at hK hw I2
    have hrs : xs.length = ws.length := c.length
    refine wpAny_storeAllH (knd := nestedKind X.prog X.w) (show X.A.units + 8 < cLine by omega) ws xs [] s2 _ c dd (by rw [List.length_nil]; omega) fun h' tk dd' hs => ⟨.ref s.heap.objs.size, _, ?_, rfl, q2 xs rk⟩
    have he : ∃ q, h'.get? s.heap.objs.size = some q := let ⟨q, _, _, hq, _⟩ := dd'; ⟨q, hq⟩
    refine d_write I2 (by rw [e]; exact True.intro) hs he ?_
    rw [← hw]
    exact dN_ok (by have := storedAllH_len xs []; rw [List.length_nil] at this; omega) hd dd'
section
variable {B : Bs} {H : Hp}
theorem dv_tup : ∀ {kvs : List (P × P)} {prs : List (V × V)}, DV B H kvs prs → (kvs.all fun kv => tuK kv.1) = true → ∃ ks : List (NestedKey × Addr × V), prs = ks.map (fun x => (V.ref x.2.1, x.2.2)) ∧ (∀ x ∈ ks, KeyAt B H x.1 x.2.1) ∧
    Paired (fun (p : P × P) (x : NestedKey × Addr × V) => tuK p.1 = true ∧ keyOf p.1 = some x.1 ∧ Rep B H p.1 (.ref x.2.1) ∧ Rep B H p.2 x.2.2) kvs ks := by
  intro kvs prs h
  unfold DV at h
  induction h with
  | nil => exact fun _ => ⟨[], rfl, fun _ h => (by cases h), .nil⟩
  | @cons p q ps qs z t ih =>
    intro hf
    rw [List.all_cons, Bool.and_eq_true] at hf
    obtain ⟨ks, e, hk, hp⟩ := ih hf.2
    obtain ⟨xs, n, e1, hn, hd⟩ := tuK_inv hf.1
    have z1 := z.1
    rw [e1] at z1
    obtain ⟨b, vs, eb, _⟩ := rep_tup_inv z1
    have z1 := z.1
    rw [eb] at z1
    refine ⟨(n, b, q.2) :: ks, ?_, fun x hx => ?_, .cons ⟨hf.1, hn, z1, z.2⟩ hp⟩
    · rw [List.map_cons, ← e, ← eb]
    · rcases List.mem_cons.mp hx with rfl | hx
      · exact ⟨hd, _, hn, z1⟩
      · exact hk x hx
theorem dt_fold : ∀ {more : List (P × P)} {ks : List (NestedKey × Addr × V)} {xs : List (NestedKey × Addr × Value)} {kvs : List (P × P)} {acc : List (NestedKey × Addr × Value)},
    Paired (fun (p : P × P) (x : NestedKey × Addr × V) => tuK p.1 = true ∧ keyOf p.1 = some x.1 ∧ Rep B H p.1 (.ref x.2.1) ∧ Rep B H p.2 x.2.2) more ks → Paired (fun (x : NestedKey × Addr × V) (y : NestedKey × Addr × Value) => x.1 = y.1 ∧ x.2.1 = y.2.1 ∧ RelV x.2.2 y.2.2) ks xs →
    DT B H kvs acc → DT B H (more.foldl (fun m kv => putP m kv.1 kv.2) kvs) (storedAllH acc xs) := by
  intro more ks xs kvs acc h
  induction h generalizing xs kvs acc with
  | nil => intro h2 q; cases h2; exact q
  | @cons p x ps qs z t ih =>
    intro h2 q0
    cases h2 with
    | @cons a y as ys z2 t2 =>
      obtain ⟨y1, y2, y3⟩ := y
      obtain ⟨w1, w2, w3⟩ := z2
      obtain ⟨z1, z3, z4, z5⟩ := z
      dsimp only at w1 w2 w3
      subst w1 w2
      have := DT.put q0 z1 z3 z4 w3 z5
      show DT B H _ (storedAllH (storedH acc x.1 x.2.1 y3) ys)
      exact ih t2 this
theorem foldl_put_ne : ∀ {more kvs : List (P × P)}, more ≠ [] ∨ kvs ≠ [] → more.foldl (fun m kv => putP m kv.1 kv.2) kvs ≠ []
  | [], kvs, h => by
    rcases h with h | h
    · exact absurd rfl h
    · exact h
  | p :: more, kvs, _ => foldl_put_ne (more := more) (.inr putP_ne)
end
end Core
end
section
set_option maxRecDepth 100000
set_option maxHeartbeats 4000000
/-! Core5: truth, items, slices, built-in functions and methods, what is walked. -/
namespace Core
open PySem L2 PySem.Spec PyProof.Rows
section
variable {X : Cx} {B : Bs} {H : Hp} {S : Store}
theorem truth_ok (hS : RelS B S H) {x : P} {v : V} {b : Bool} (r : Rep B H x v) (h : truthS S x = some b) : TruV B.K v H b := by
  cases x with
  | non => rw [r.non_inv]; simp only [truthS, Option.some.injEq] at h; exact h.symm
  | bl c => rw [r.bl_inv]; simp only [truthS, Option.some.injEq] at h; exact h.symm
  | int c => rw [r.int_inv]; simp only [truthS, Option.some.injEq] at h; exact h.symm
  | str c => simp [truthS] at h
  | fn c => simp [truthS] at h
  | tup xs =>
    obtain ⟨a, vs, rfl, s1, z1, r1⟩ := r.tup_inv
    simp only [truthS, Option.some.injEq] at h
    refine .inr (.inl ⟨vs, s1, ?_⟩)
    rw [← h]
    cases xs with
    | nil => rw [r1.nil_inv]; rfl
    | cons p ps => obtain ⟨v, t, e, _, _⟩ := r1.cons_inv; rw [e]; rfl
  | frl xs =>
    obtain ⟨a, vs, rfl, s1, z1, r1⟩ := r.frl_inv
    simp only [truthS, Option.some.injEq] at h
    refine .inl ⟨vs, s1, ?_⟩
    rw [← h]
    cases xs with
    | nil => rw [r1.nil_inv]; rfl
    | cons p ps => obtain ⟨v, t, e, _, _⟩ := r1.cons_inv; rw [e]; rfl
  | loc a =>
    simp only [truthS] at h
    split at h
    · rename_i xs hx
      obtain ⟨vs, s1, z1, r1⟩ := hS.lst hx
      rw [r.loc_inv]
      simp only [Option.some.injEq] at h
      refine .inl ⟨vs, SqL.of s1, ?_⟩
      rw [← h]
      cases xs with
      | nil => rw [r1.nil_inv]; rfl
      | cons p ps => obtain ⟨v, t, e, _, _⟩ := r1.cons_inv; rw [e]; rfl
    · cases h
/-- a list or a tuple -/
theorem seq_ok (hS : RelS B S H) {x : P} {v : V} {xs : List P} (r : Rep B H x v) (h : seqOf S x = some xs) : ∃ a vs, v = .ref a ∧ (SqL B.K H a vs ∨ SqT B.K H a vs) ∧ vs.length ≤ sizeLine ∧ Reps B H xs vs := by
  cases x with
  | tup ys =>
    simp only [seqOf, Option.some.injEq] at h; subst h
    obtain ⟨a, vs, rfl, s1, z1, r1⟩ := r.tup_inv
    exact ⟨a, vs, rfl, .inr s1, z1, r1⟩
  | frl ys =>
    simp only [seqOf, Option.some.injEq] at h; subst h
    obtain ⟨a, vs, rfl, s1, z1, r1⟩ := r.frl_inv
    exact ⟨a, vs, rfl, .inl s1, z1, r1⟩
  | loc a =>
    simp only [seqOf] at h
    split at h
    · rename_i ys hx
      simp only [Option.some.injEq] at h; subst h
      obtain ⟨vs, s1, z1, r1⟩ := hS.lst hx
      exact ⟨a, vs, r.loc_inv, .inl (SqL.of s1), z1, r1⟩
    · cases h
  | _ => simp [seqOf] at h
theorem Reps.atI {ps : List P} {vs : List V} {i : Int} {p : P} (r : Reps B H ps vs) (h : atI ps i = some p) : ∃ v, L2.atI vs i = some v ∧ Rep B H p v := by
  unfold L2.atI at h ⊢
  rw [r.length]
  cases e : ixN ps.length i with
  | none => rw [e] at h; cases h
  | some j =>
    rw [e] at h
    simp only [Option.bind_some] at h ⊢
    exact r.get h
theorem dctS_inv {x : P} {S : Store} {a : Addr} {kvs : List (P × P)} (h : dctS x S = some (a, kvs)) : x = .loc a ∧ S a = some (.dct kvs) := by
  unfold dctS at h
  split at h
  · split at h
    · rename_i hx
      cases h
      exact ⟨rfl, hx⟩
    · cases h
  · cases h
theorem RelS.dct (h : RelS B S H) {a : Addr} {kvs : List (P × P)} (e : S a = some (.dct kvs)) : DRep B H a kvs := h a _ e
theorem serves_idx : Serves B (fun x y H Q => rIx B.K x y H Q ∨ rDIx B x y H Q) opIdx := by
  intro x y S vx vy H Q0 Q hS rx ry k h
  unfold opIdx at h
  split at h
  · rename_i a kvs hd
    obtain ⟨rfl, hx⟩ := dctS_inv hd
    obtain ⟨ok, p, h1, h2⟩ := h
    rcases (hS.dct hx).get ok ry with ⟨p', v, q1, q2, q3⟩ | ⟨q1, _⟩
    · rw [h1] at q1; cases q1
      exact .inr ⟨a, v, rx.loc_inv, q2, here k hS q3 h2⟩
    · rw [h1] at q1; cases q1
  · split at h
    · split at h
      · rename_i xs hx
        obtain ⟨a, vs, e, s, z, r⟩ := seq_ok hS rx hx
        obtain ⟨p, h1, h2⟩ := h (by rw [← r.length]; exact z)
        obtain ⟨v, e1, r1⟩ := r.atI h1
        rcases s with s | s
        · exact .inl (.inl ⟨a, vs, _, v, e, ry.int_inv, s, e1, here k hS r1 h2⟩)
        · exact .inl (.inr (.inl ⟨a, vs, _, v, e, ry.int_inv, s, e1, here k hS r1 h2⟩))
      · exact h.elim
    · exact h.elim
/-! slices -/
theorem Reps.cut {ps : List P} {vs : List V} (r : Reps B H ps vs) (lo hi : Option Int) : Reps B H (cutP ps lo hi) (cutV vs lo hi) := by
  unfold cutP cutV
  rw [r.length]
  exact (r.drop _).take _
theorem cut_le {ps : List P} {lo hi : Option Int} : (cutP ps lo hi).length ≤ ps.length := by
  unfold cutP
  rw [List.length_take, List.length_drop]
  omega
theorem cut_whole {ps : List P} {lo hi : Option Int} (h : HT.sIx ps.length 0 lo = 0 ∧ HT.sIx ps.length ps.length hi = ps.length) : cutP ps lo hi = ps := by
  unfold cutP
  rw [h.1, h.2]
  simp
/-- a slice's part -/
def PartV (o : Option P) (u : Option Int) : Prop := partOf o = some u
theorem serves_slc {x : P} {l u : Option Int} {vx : V} {Q0 : QP} {Q : VK} (hS : RelS B S H) (rx : Rep B H x vx) (k : OkQ B H Q0 Q) (h : opSlc x l u S Q0) :
    rSlA B.K vx l u H Q ∨ rSlL B.K vx l u H Q := by
  unfold opSlc at h
  split at h
  · obtain ⟨a, vs, rfl, s1, z1, r1⟩ := rx.tup_inv
    have q := h (by rw [← r1.length]; exact z1)
    refine .inl ⟨a, vs, rfl, s1, fun w => ?_, fun w p hp => ?_⟩
    · rw [cut_whole (by rw [← r1.length]; exact w)] at q
      exact here k hS (rep_tup s1 z1 r1) q
    · exact tup_new k hS hp (Nat.le_trans (cutV_length _ _ _) z1) (r1.cut l u) q
  · split at h
    · rename_i xs hx
      obtain ⟨vs, s1, z1, r1⟩ := hS.lst hx
      exact .inr ⟨_, vs, rx.loc_inv, SqL.of s1, fun p hp => lst_new k hS hp (Nat.le_trans (cutV_length _ _ _) z1) (r1.cut l u) (h (by rw [← r1.length]; exact z1))⟩
    · exact h.elim
  · obtain ⟨a, vs, rfl, s1, z1, r1⟩ := rx.frl_inv
    exact .inr ⟨a, vs, rfl, s1, fun p hp => lst_new k hS hp (Nat.le_trans (cutV_length _ _ _) z1) (r1.cut l u) (h (by rw [← r1.length]; exact z1))⟩
  · exact h.elim

/-! ### isinstance -/
def tyStr : Ty → String
  | .int => "int" | .bool => "bool" | .str => "str" | .tuple => "tuple" | .list => "list"
theorem ty_ok (hK : X.K = B.K) (hS : RelS B S H) {x : P} {v : V} {t : Option Ty} (r : Rep B H x v) (h : tyOf S x = some t) :
    ∃ n : String, TyX B.K H v (.type n) ∧ ∀ u : Ty, kitB n (tyStr u) = some (isTy t u) := by
  cases x with
  | non =>
    rw [r.non_inv]; simp only [tyOf, Option.some.injEq] at h; subst h
    exact ⟨"NoneType", .base .non, fun u => by cases u <;> decide +kernel⟩
  | bl c =>
    rw [r.bl_inv]; simp only [tyOf, Option.some.injEq] at h; subst h
    exact ⟨"bool", .base (.bl c), fun u => by cases u <;> decide +kernel⟩
  | int c =>
    rw [r.int_inv]; simp only [tyOf, Option.some.injEq] at h; subst h
    exact ⟨"int", .base (.int c), fun u => by cases u <;> decide +kernel⟩
  | str c =>
    rw [r.str_inv]; simp only [tyOf, Option.some.injEq] at h; subst h
    exact ⟨"str", .base (.str c), fun u => by cases u <;> decide +kernel⟩
  | tup ps =>
    obtain ⟨a, vs, rfl, s1, z1, r1⟩ := r.tup_inv
    simp only [tyOf, Option.some.injEq] at h; subst h
    refine ⟨"tuple", ?_, fun u => by cases u <;> decide +kernel⟩
    rcases s1 with (s1 | ⟨o, s1⟩) | ⟨o, its, n, hk, hc, _⟩
    · exact .base (.tup s1)
    · exact .fTuple s1
    · exact .kTuple hk hc
  | frl ps =>
    unfold Rep at r
    obtain ⟨a, vs, rfl, s1, z1, r1⟩ := r
    simp only [tyOf, Option.some.injEq] at h; subst h
    refine ⟨"list", ?_, fun u => by cases u <;> decide +kernel⟩
    rcases s1 with ⟨o, s1⟩ | ⟨o, its, n, hk, hc, _⟩
    · exact .base (.frz s1)
    · exact .kList hk hc
  | loc a =>
    rw [r.loc_inv]
    simp only [tyOf] at h
    split at h
    · rename_i xs hx
      simp only [Option.some.injEq] at h; subst h
      obtain ⟨vs, s1, z1, r1⟩ := hS.lst hx
      exact ⟨"list", .base (.lst s1), fun u => by cases u <;> decide +kernel⟩
    · cases h
  | fn c => simp [tyOf] at h
end

/-! ### built-in functions -/
def ServesC (B : Bs) (r : List V → Hp → VK → Prop) (t : List P → Store → QP → Prop) : Prop :=
  ∀ ps S vs H Q0 Q, RelS B S H → Reps B H ps vs → OkQ B H Q0 Q → t ps S Q0 → r vs H Q
def bfName : Bf → Str
  | .len => "len" | .int => "int" | .list => "list" | .tuple => "tuple" | .abs => "abs" | .min => "min" | .max => "max" | .sum => "sum" | .any => "any" | .all => "all"
  | .sorted => "sorted" | .bool => "bool" | .str => "str" | .set => "set" | .dict => "dict" | .divmod => "divmod" | .repr => "repr"
theorem bfOf0_name {x : Str} {f : Bf} (h : bfOf0 x = some f) : x = bfName f := by
  unfold bfOf0 at h
  repeat' (split at h; (rename_i e; cases h; exact e))
  cases h
theorem bfOf_name {x : Str} {f : Bf} (h : bfOf x = some f) : x = bfName f := by
  unfold bfOf at h
  split at h
  · rename_i e; cases h; exact e
  · exact bfOf0_name h
theorem Reps.one {B : Bs} {H : Hp} {p : P} {vs : List V} (h : Reps B H [p] vs) : ∃ v, vs = [v] ∧ Rep B H p v := by
  obtain ⟨v, r, rfl, h1, h2⟩ := h.cons_inv
  rw [h2.nil_inv]
  exact ⟨v, rfl, h1⟩
theorem Reps.two {B : Bs} {H : Hp} {p q : P} {vs : List V} (h : Reps B H [p, q] vs) : ∃ v u, vs = [v, u] ∧ Rep B H p v ∧ Rep B H q u := by
  obtain ⟨v, r, rfl, h1, h2⟩ := h.cons_inv
  obtain ⟨u, rfl, h3⟩ := h2.one
  exact ⟨v, u, rfl, h1, h3⟩
theorem ints_ok {B : Bs} {H : Hp} : ∀ {ps : List P} {vs : List V} {ns : List Int}, Reps B H ps vs → intsP ps = some ns → vs = ns.map V.int
  | [], vs, ns, r, h => by
    simp only [intsP, Option.some.injEq] at h; subst h
    rw [r.nil_inv]; rfl
  | p :: ps, vs, ns, r, h => by
    obtain ⟨v, t, rfl, r1, r2⟩ := r.cons_inv
    cases p with
    | int i =>
      simp only [intsP, Option.map_eq_some_iff] at h
      obtain ⟨ms, h1, h2⟩ := h
      subst h2
      rw [r1.int_inv, ints_ok r2 h1]; rfl
    | _ => simp [intsP] at h
theorem bools_ok {B : Bs} {H : Hp} : ∀ {ps : List P} {vs : List V} {ns : List Bool}, Reps B H ps vs → boolsP ps = some ns → vs = ns.map V.bl
  | [], vs, ns, r, h => by
    simp only [boolsP, Option.some.injEq] at h; subst h
    rw [r.nil_inv]; rfl
  | p :: ps, vs, ns, r, h => by
    obtain ⟨v, t, rfl, r1, r2⟩ := r.cons_inv
    cases p with
    | bl i =>
      simp only [boolsP, Option.map_eq_some_iff] at h
      obtain ⟨ms, h1, h2⟩ := h
      subst h2
      rw [r1.bl_inv, bools_ok r2 h1]; rfl
    | _ => simp [boolsP] at h
/-- pairs in a list -/
theorem pair_refs {B : Bs} {H : Hp} : ∀ {kvs : List (P × P)} {vs : List V}, Reps B H (kvs.map fun kv => P.tup [kv.1, kv.2]) vs → (kvs.all fun kv => flK kv.1) = true → ∃ (as : List Addr) (ks : List (Key × V)), vs = as.map V.ref ∧ Paired (fun p kv => SqT B.K H p [kV kv.1, kv.2]) as ks ∧ DK B H kvs ks
  | [], vs, r, _ => ⟨[], [], r.nil_inv, .nil, .nil⟩
  | kv :: kvs, vs, r, hf => by
    rw [List.map_cons] at r
    obtain ⟨v, t, rfl, r1, r2⟩ := r.cons_inv
    rw [List.all_cons, Bool.and_eq_true] at hf
    obtain ⟨as, ks, e, hp, hd⟩ := pair_refs r2 hf.2
    obtain ⟨a, us, rfl, s, z, q⟩ := r1.tup_inv
    obtain ⟨x, y, rfl, rx, ry⟩ := q.two
    obtain ⟨k, hk1⟩ := flK_inv hf.1
    rw [hk1] at rx
    have e1 := pK_rep rx
    subst e1
    refine ⟨a :: as, (k, y) :: ks, by rw [List.map_cons, e], .cons s hp, .cons ⟨?_, ry⟩ hd⟩
    rw [hk1]; cases k <;> rfl
/-- a built-in function, called -/
inductive BCall (X : Cx) (x : Str) (r : List V → Hp → VK → Prop) : Prop where
  | fn (id : String) (h : bootBuiltins x = some (.builtin id)) (c : CallR X (.builtin id) r)
  | ty (T : String) (h : bootBuiltins x = some (.type T)) (c : CallR X (.type T) r)
section
variable {X : Cx} {B : Bs}
theorem call_reprT : CallR X (.builtin "repr") (fun xs H Q => (∃ b, xs = [.bl b] ∧ Q (.str (if b then "True" else "False")) H) ∨ ∃ x : Str, xs = [.str x] ∧ (PySem.reprText x).length ≤ sizeLine ∧ Q (.str (PySem.reprText x)) H) := by
  intro pins s σ H xs us Q I r h
  rcases h with ⟨b, rfl, q⟩ | ⟨x, rfl, hz, q⟩
  · obtain ⟨u, rfl, e⟩ := vals1 r
    subst e
    exact PySem.P.repr_of_bool ⟨.str _, H, I.tok _, ⟨_, rfl⟩, q⟩
  · obtain ⟨u, rfl, t, rfl⟩ := vals1 r
    exact PySem.P.repr_of_str ⟨.str _, H, I.tok _, ⟨_, rfl⟩, q⟩ hz
theorem bf_ok (hK : X.K = B.K) (hc : X.calm = true) (f : Bf) : ∃ r, BCall X (bfName f) r ∧ ServesC B r (bfS f) := by
  have no : ∃ r, BCall X (bfName f) r ∧ ServesC B r (fun _ _ _ => False) → True := ⟨fun _ _ _ => False, fun _ => trivial⟩
  cases f with
  | len =>
    refine ⟨_, .fn "len" PySem.boot_len (CallR.or call_len_seq call_lenD), fun ps S vs H Q0 Q hS r k h => ?_⟩
    unfold bfS at h
    split at h <;> first | contradiction | skip
    split at h
    · rename_i a kvs hd
      obtain ⟨rfl, hx⟩ := dctS_inv hd
      obtain ⟨v, rfl, r1⟩ := r.one
      obtain ⟨ks, e, hk, hz⟩ := (hS.dct hx).flat h.1
      exact .inr ⟨a, ks, by rw [r1.loc_inv], e, by rw [← Paired.length hk]; exact here k hS rep_int h.2⟩
    split at h
    · rename_i xs hx
      obtain ⟨v, rfl, r1⟩ := r.one
      obtain ⟨a, us, rfl, s, z, q⟩ := seq_ok hS r1 hx
      rw [hK]
      refine .inl ⟨a, us, rfl, s, ?_⟩
      rw [q.length]
      exact here k hS rep_int (h (by rw [← q.length]; exact z))
    · exact h.elim
  | int =>
    refine ⟨_, .ty "int" boot_int call_int1, fun ps S vs H Q0 Q hS r k h => ?_⟩
    unfold bfS at h
    split at h <;> first | contradiction | skip
    · obtain ⟨v, rfl, r1⟩ := r.one
      exact .inl ⟨_, by rw [r1.int_inv], here k hS rep_int h⟩
    · obtain ⟨v, rfl, r1⟩ := r.one
      exact .inr ⟨_, by rw [r1.bl_inv], here k hS rep_int h⟩
  | bool =>
    refine ⟨_, .ty "bool" boot_bool call_bool1, fun ps S vs H Q0 Q hS r k h => ?_⟩
    unfold bfS at h
    split at h <;> first | contradiction | skip
    · obtain ⟨v, rfl, r1⟩ := r.one
      exact .inl ⟨_, by rw [r1.int_inv], here k hS rep_bl h⟩
    · obtain ⟨v, rfl, r1⟩ := r.one
      exact .inr ⟨_, by rw [r1.bl_inv], here k hS rep_bl h⟩
  | list =>
    refine ⟨_, .ty "list" boot_list (CallR.or call_list_of (call_list_dK hc)), fun ps S vs H Q0 Q hS r k h => ?_⟩
    unfold bfS at h
    split at h <;> first | contradiction | skip
    split at h
    · rename_i a kvs hd
      obtain ⟨rfl, hx⟩ := dctS_inv hd
      obtain ⟨v, rfl, r1⟩ := r.one
      obtain ⟨ks, e, hk, hz⟩ := (hS.dct hx).flat h.1
      have rr : ∀ {kvs : List (P × P)} {ks : List (Key × V)}, DK B H kvs ks → Reps B H (kvs.map (·.1)) (ks.map fun kv => kV kv.1) := fun {kvs ks} h => by
        unfold DK at h
        induction h with
        | nil => exact .nil
        | @cons p q ps qs z t ih =>
          refine .cons ?_ ih
          obtain ⟨z1, _⟩ := z
          obtain ⟨p1, p2⟩ := p
          obtain ⟨q1, q2⟩ := q
          simp only at z1
          subst z1
          cases q1
          · exact rep_int
          · exact rep_str
      refine .inr ⟨a, ks, by rw [r1.loc_inv], e, fun q hq => lst_new k hS hq ?_ (rr hk) (h.2 ?_)⟩
      · rw [List.length_map, ← Paired.length hk]; exact hz
      · exact hz
    split at h
    · rename_i xs hx
      obtain ⟨v, rfl, r1⟩ := r.one
      obtain ⟨a, us, rfl, s, z, q⟩ := seq_ok hS r1 hx
      rw [hK]
      exact .inl ⟨a, us, rfl, s, fun l hl => lst_new k hS hl z q (h (by rw [← q.length]; exact z))⟩
    · exact h.elim
  | tuple =>
    refine ⟨_, .ty "tuple" boot_tuple call_tuple_of, fun ps S vs H Q0 Q hS r k h => ?_⟩
    unfold bfS at h
    split at h <;> first | contradiction | skip
    split at h
    · rename_i xs hx
      obtain ⟨v, rfl, r1⟩ := r.one
      obtain ⟨a, us, rfl, s, z, q⟩ := seq_ok hS r1 hx
      have h' := h (by rw [← q.length]; exact z)
      rw [hK]
      refine ⟨a, us, rfl, ?_⟩
      rcases s with s | s
      · exact .inl ⟨s, fun l hl => tup_new k hS hl z q h'⟩
      · exact .inr ⟨s, here k hS (rep_tup s z q) h'⟩
    · exact h.elim
  | abs =>
    refine ⟨_, .fn "abs" boot_abs call_abs, fun ps S vs H Q0 Q hS r k h => ?_⟩
    unfold bfS at h
    split at h <;> first | contradiction | skip
    obtain ⟨v, rfl, r1⟩ := r.one
    exact ⟨_, by rw [r1.int_inv], here k hS rep_int h⟩
  | min =>
    refine ⟨_, .fn "min" boot_min (CallR.or (call_min2 hc) (cr_min hc)), fun ps S vs H Q0 Q hS r k h => ?_⟩
    unfold bfS at h
    split at h <;> first | contradiction | skip
    · obtain ⟨v, u, rfl, r1, r2⟩ := r.two
      exact .inl ⟨_, _, by rw [r1.int_inv, r2.int_inv], here k hS rep_int h⟩
    · split at h
      · rename_i xs hx
        obtain ⟨ns, h1, h2, h3⟩ := h
        obtain ⟨v, rfl, r1⟩ := r.one
        obtain ⟨us, s, z, q⟩ := hS.lst hx
        rw [ints_ok q h1] at s
        rw [hK]
        exact .inr ⟨_, ns, by rw [r1.loc_inv], SqL.of s, h2, fun m hm hy => here k hS rep_int (h3 m hm hy)⟩
      · exact h.elim
  | max =>
    refine ⟨_, .fn "max" boot_max (CallR.or (call_max2 hc) (cr_max hc)), fun ps S vs H Q0 Q hS r k h => ?_⟩
    unfold bfS at h
    split at h <;> first | contradiction | skip
    · obtain ⟨v, u, rfl, r1, r2⟩ := r.two
      exact .inl ⟨_, _, by rw [r1.int_inv, r2.int_inv], here k hS rep_int h⟩
    · split at h
      · rename_i xs hx
        obtain ⟨ns, h1, h2, h3⟩ := h
        obtain ⟨v, rfl, r1⟩ := r.one
        obtain ⟨us, s, z, q⟩ := hS.lst hx
        rw [ints_ok q h1] at s
        rw [hK]
        exact .inr ⟨_, ns, by rw [r1.loc_inv], SqL.of s, h2, fun m hm hy => here k hS rep_int (h3 m hm hy)⟩
      · exact h.elim
  | sum =>
    refine ⟨_, .fn "sum" (by decide +kernel) (cr_sum hc), fun ps S vs H Q0 Q hS r k h => ?_⟩
    unfold bfS at h
    split at h <;> first | contradiction | skip
    split at h
    · rename_i xs hx
      obtain ⟨ns, h1, h2⟩ := h
      obtain ⟨v, rfl, r1⟩ := r.one
      obtain ⟨us, s, z, q⟩ := hS.lst hx
      rw [ints_ok q h1] at s
      rw [hK]
      exact ⟨_, ns, by rw [r1.loc_inv], SqL.of s, here k hS rep_int h2⟩
    · exact h.elim
  | any =>
    refine ⟨_, .fn "any" (by decide +kernel) (cr_any hc), fun ps S vs H Q0 Q hS r k h => ?_⟩
    unfold bfS at h
    split at h <;> first | contradiction | skip
    split at h
    · rename_i xs hx
      obtain ⟨ns, h1, h2⟩ := h
      obtain ⟨v, rfl, r1⟩ := r.one
      obtain ⟨us, s, z, q⟩ := hS.lst hx
      rw [bools_ok q h1] at s
      rw [hK]
      exact ⟨_, ns, by rw [r1.loc_inv], SqL.of s, here k hS rep_bl h2⟩
    · exact h.elim
  | all =>
    refine ⟨_, .fn "all" (by decide +kernel) (cr_all hc), fun ps S vs H Q0 Q hS r k h => ?_⟩
    unfold bfS at h
    split at h <;> first | contradiction | skip
    split at h
    · rename_i xs hx
      obtain ⟨ns, h1, h2⟩ := h
      obtain ⟨v, rfl, r1⟩ := r.one
      obtain ⟨us, s, z, q⟩ := hS.lst hx
      rw [bools_ok q h1] at s
      rw [hK]
      exact ⟨_, ns, by rw [r1.loc_inv], SqL.of s, here k hS rep_bl h2⟩
    · exact h.elim
  | sorted => exact ⟨fun _ _ _ => False, .fn "sorted" boot_sorted (fun pins s σ H xs us Q I r h => h.elim), fun ps S vs H Q0 Q hS r k h => by unfold bfS at h; split at h <;> first | contradiction | exact h.elim⟩
  | str => exact ⟨fun _ _ _ => False, .ty "str" boot_str (fun pins s σ H xs us Q I r h => h.elim), fun ps S vs H Q0 Q hS r k h => by unfold bfS at h; split at h <;> first | contradiction | exact h.elim⟩
  | set => exact ⟨fun _ _ _ => False, .ty "set" boot_set (fun pins s σ H xs us Q I r h => h.elim), fun ps S vs H Q0 Q hS r k h => by unfold bfS at h; split at h <;> first | contradiction | exact h.elim⟩
  | dict =>
    refine ⟨_, .ty "dict" boot_dict (CallR.or (call_dictP hc) call_dictD), fun ps S vs H Q0 Q hS r k h => ?_⟩
    unfold bfS at h
    split at h <;> first | contradiction | skip
    split at h
    · rename_i kvs hx
      obtain ⟨v, rfl, r1⟩ := r.one
      obtain ⟨ks, e, hk, hz⟩ := (hS.dct hx).flat h.1
      refine .inr ⟨_, ks, by rw [r1.loc_inv], .inl e, fun p hp => ?_⟩
      have ex : Ext H (L2.upd H p (.dK ks)) := .fresh hp
      exact k _ _ _ _ ex (hS.upd (o := .dct kvs) ex (show DRep B _ _ _ from .inl ⟨_, L2.upd_same, hk.ext ex, hz⟩)) rep_loc (h.2 p (hS.free hp))
    · rename_i ps hx
      obtain ⟨kvs, e0, hf, hq⟩ := h
      obtain ⟨v, rfl, r1⟩ := r.one
      obtain ⟨us, s, z, q⟩ := hS.lst hx
      subst e0
      obtain ⟨as, ks, e1, p1, d1⟩ := pair_refs q hf
      subst e1
      rw [hK]
      refine .inl ⟨_, as, ks, by rw [r1.loc_inv], SqL.of s, p1, fun p hp => ?_⟩
      have ex : Ext H (L2.upd H p (.dK (mergeK [] ks))) := .fresh hp
      have fk := (dk_fold d1 (.nil : DK B H [] [])).ext ex
      refine k _ _ _ _ ex (hS.upd (o := .dct (kvs.foldl (fun m kv => putP m kv.1 kv.2) [])) ex (show DRep B _ _ _ from .inl ⟨_, L2.upd_same, fk, ?_⟩)) rep_loc (hq p (hS.free hp))
      rw [Paired.length fk]
      have h1 := length_mergeK ks []
      have h2 := Paired.length p1
      rw [List.length_map] at z
      rw [List.length_nil] at h1
      omega
    · exact h.elim
  | divmod => exact ⟨fun _ _ _ => False, .fn "divmod" boot_divmod (fun pins s σ H xs us Q I r h => h.elim), fun ps S vs H Q0 Q hS r k h => by unfold bfS at h; split at h <;> first | contradiction | exact h.elim⟩
  | repr =>
    refine ⟨_, .fn "repr" boot_repr call_reprT, fun ps S vs H Q0 Q hS r k h => ?_⟩
    unfold bfS at h
    split at h <;> first | contradiction | skip
    · obtain ⟨v, rfl, r1⟩ := r.one
      exact .inl ⟨_, by rw [r1.bl_inv], here k hS rep_str h⟩
    · obtain ⟨v, rfl, r1⟩ := r.one
      exact .inr ⟨_, by rw [r1.str_inv], h.1, here k hS rep_str h.2⟩
end
end Core
end
section
set_option maxRecDepth 100000
set_option maxHeartbeats 4000000
/-! Core5a: enumerate over a tuple. -/
namespace PySem
open Sem (wp)
open Builtin
section
variable {prog : Program} {w : World} {A : Around} {E : Value → Shared → Prop} {s : Shared}
theorem drawT_item {me tp : Addr} {k : Nat} {row : Array Value} {x : Value} {Q : Value → Shared → Prop} (st : s.heap.IsTupleIter me tp k) (tt : s.heap.IsTuple tp row) (at_ : row[k]? = some x)
    (hQ : ∀ h1, h1.IsTupleIter me tp (k + 1) → Heap.SameBut me s.heap h1 → Q x { s with heap := h1 }) : wpAny (model prog w) A (SmallTypes.nextOf (.ref me)) Q E s := by
  obtain ⟨ob, get, cl, dt⟩ := id st
  obtain ⟨ot, gett, _, nt, dtt⟩ := tt
  unfold SmallTypes.nextOf
  refine wpAny_bind (wpAny_callSpecial?_slot (name := Str.ofString "__next__") st.typeIs F.slot_tuple_iterator_next (wpAny_call_entry F.slot_tuple_iterator_next st.typeIs F.entry_tuple_iterator_next ?_ (F.args_tuple_iterator_next_1 _)))
  show wpAny _ _ (field (.ref me) 0 >>= _) _ _ s
  refine wpAny_bind (wpAny_field get dt (x := .ref tp) rfl ?_)
  show wpAny _ _ (if (Value.ref tp == Value.none) = true then _ else _) _ _ s
  rw [if_neg (show ¬ ((Value.ref tp == Value.none) = true) from Bool.false_ne_true)]
  show wpAny _ _ (field (.ref me) 1 >>= _) _ _ s
  refine wpAny_bind (wpAny_field get dt (x := .int k 0) rfl ?_)
  show wpAny _ _ (seqItems? (.ref tp) >>= _) _ _ s
  refine wpAny_bind (wpAny_seqItems gett dtt ?_)
  simp only [Int.toNat_natCast, at_]
  refine wpAny_bind (wpAny_setField get dt (by simp) (wpAny_pure ⟨x, rfl, wpAny_pure (hQ _ ?_ (Heap.SameBut.update ..))⟩))
  exact ⟨_, Heap.get?_update_self _ get (Obj.isFreed_of_fields (Obj.data_mapFields dt _)), (Obj.cls_mapFields ..).trans cl, by rw [Obj.data_mapFields dt]; simp [rawInt]⟩
theorem drawT_end {me tp : Addr} {k : Nat} {row : Array Value} {Q : Value → Shared → Prop} (calm : A.handled = none) (st : s.heap.IsTupleIter me tp k) (tt : s.heap.IsTuple tp row) (out : row[k]? = none)
    (hE : ∀ h1 e, Heap.ExtBut me s.heap h1 → (∃ o, h1.get? e = some o ∧ o.cls = .type "StopIteration") → E (.ref e) { s with heap := h1 }) : wpAny (model prog w) A (SmallTypes.nextOf (.ref me)) Q E s := by
  obtain ⟨ob, get, cl, dt⟩ := id st
  obtain ⟨ot, gett, _, nt, dtt⟩ := tt
  unfold SmallTypes.nextOf
  refine wpAny_bind (wpAny_callSpecial?_slot (name := Str.ofString "__next__") st.typeIs F.slot_tuple_iterator_next (wpAny_call_entry F.slot_tuple_iterator_next st.typeIs F.entry_tuple_iterator_next ?_ (F.args_tuple_iterator_next_1 _)))
  show wpAny _ _ (field (.ref me) 0 >>= _) _ _ s
  refine wpAny_bind (wpAny_field get dt (x := .ref tp) rfl ?_)
  show wpAny _ _ (if (Value.ref tp == Value.none) = true then _ else _) _ _ s
  rw [if_neg (show ¬ ((Value.ref tp == Value.none) = true) from Bool.false_ne_true)]
  show wpAny _ _ (field (.ref me) 1 >>= _) _ _ s
  refine wpAny_bind (wpAny_field get dt (x := .int k 0) rfl ?_)
  show wpAny _ _ (seqItems? (.ref tp) >>= _) _ _ s
  refine wpAny_bind (wpAny_seqItems gett dtt ?_)
  simp only [Int.toNat_natCast, out]
  refine wpAny_bind (wpAny_rule (wpAny_bind (wpAny_setField get dt (by simp) ?_)))
  show wpAny _ _ (newExc (.type "StopIteration") [] >>= _) _ _ _
  refine wpAny_bind ?_
  simp only [newExc, newTuple]
  refine wpAny_bind (wpAny_newObj_type ?_ (by size_fits))
  refine wpAny_bind (m := firstArgMember _ _) (wpAny_of_eq (a := Value.none) (by first | rfl | (simp only [firstArgMember]; rfl)) ?_)
  refine wpAny_newObj_type ?_ (by size_fits)
  simp only [raiseNew]
  refine wpAny_bind (wpAny_handled ?_)
  first | rw [show A.in1.handled = none from calm] | rw [calm]
  refine wpAny_bind (wpAny_pure (wpAny_throw ?_))
  exact hE _ _ (((Heap.SameBut.update ..).extBut.push _).push _) ⟨_, Heap.get?_push_size _ rfl, rfl⟩
theorem enumT_new (tp : Addr) (row : Array Value) (n : Nat) (dd : Option Addr) (sl : Array (Option Value)) :
    Meets (Builtin.«enumerate.__new__» ⟨[.type "enumerate", .ref tp], []⟩) (fun _ R s => s.heap.get? tp = some { cls := .type "tuple", dict := dd, data := .seq row n, slots := sl } ∧
      R (.ok (.ret (.ref (s.heap.push { cls := .type "tuple_iterator", data := .fields #[.ref tp, .int 0 0] }).objs.size)))
        { s with heap := (s.heap.push { cls := .type "tuple_iterator", data := .fields #[.ref tp, .int 0 0] }).push { cls := .type "enumerate", data := .fields #[.none, .bool false, .ref s.heap.objs.size, rawInt 0, .none, .none] } }) :=
  .of_wp fun prog w A R s h => by
    obtain ⟨hp, g, d, tk, os⟩ := s; obtain ⟨hl, h⟩ := h
    have hsub := sub_enumerate
    have hT : Heap.IsTuple (Shared.heap ⟨hp, g, d, tk, os⟩) tp row := ⟨_, hl, rfl, n, rfl⟩
    wp_walk using AutoSeq1.wpAny_loadPart' hl
    refine wpAny_stack_any fun st => wpAny_pure ?_
    split
    · rename_i c _ _ _ _ _
      cases (c == Value.type "enumerate")
      · wp_walk using AutoSeq1.wpAny_loadPart' hl, wpAny_pyIter_tuple hT
        exact ⟨_, rfl, h⟩
      · wp_walk using AutoSeq1.wpAny_loadPart' hl, wpAny_pyIter_tuple hT
        exact ⟨_, rfl, h⟩
    · wp_walk using AutoSeq1.wpAny_loadPart' hl, wpAny_pyIter_tuple hT
      exact ⟨_, rfl, h⟩
theorem call_enumT {tp : Addr} {row : Array Value} {Q : Value → Shared → Prop} (hT : s.heap.IsTuple tp row)
    (h : ∀ h1, IsEnum h1 (s.heap.objs.size + 1) s.heap.objs.size 0 .none → h1.IsTupleIter s.heap.objs.size tp 0 → (∀ b o, s.heap.get? b = some o → h1.get? b = some o) → Q (.ref (s.heap.objs.size + 1)) { s with heap := h1 }) :
    wpAny (model prog w) A (call (.type "enumerate") [.ref tp]) Q E s := by
  obtain ⟨⟨c, dd, dt, sl⟩, get, hc, n, hd⟩ := hT
  replace hc : c = .type "tuple" := hc
  replace hd : dt = .seq row n := hd
  subst hc hd
  refine callType_new F.called_enumerate (by decide) (F.typeCall_enumerate_1 _) (F.newCall_enumerate_1 _) (fun obj => F.args_object_init_2 obj _) F.entry_enumerate_new (enumT_new tp row n dd sl) ⟨get, ?_⟩
  have size : (s.heap.push { cls := .type "tuple_iterator", data := .fields #[.ref tp, .int 0 0] }).objs.size = s.heap.objs.size + 1 := Heap.size_push ..
  show _ ∧ _
  rw [size]
  have en : IsEnum ((s.heap.push { cls := .type "tuple_iterator", data := .fields #[.ref tp, .int 0 0] }).push { cls := .type "enumerate", data := .fields #[.none, .bool false, .ref s.heap.objs.size, rawInt 0, .none, .none] }) (s.heap.objs.size + 1) s.heap.objs.size 0 .none := by
    have q := Heap.get?_push_size (s.heap.push { cls := .type "tuple_iterator", data := .fields #[.ref tp, .int 0 0] }) (o := { cls := .type "enumerate", data := .fields #[.none, .bool false, .ref s.heap.objs.size, rawInt 0, .none, .none] }) rfl
    rw [size] at q
    exact q
  exact ⟨⟨_, en, rfl⟩, h _ en ⟨_, Heap.get?_push_of_some _ (Heap.get?_push_size _ rfl), rfl, rfl⟩ fun b o x => Heap.get?_push_of_some _ (Heap.get?_push_of_some _ x)⟩
theorem Draws.tuple (calm : A.handled = none) (me tp : Addr) (ne : tp ≠ me) (row : Array Value) :
    Draws prog w A me [me, tp] row.size (fun i v => row[i]? = some v) (fun i h => h.IsTupleIter me tp i ∧ h.IsTuple tp row) where
  live := fun _ _ st => let ⟨o, ho, _⟩ := st.1; ⟨o, ho⟩
  frame := fun _ _ _ st hk => ⟨st.1.at fun o e => hk me (by simp) o e, let ⟨o, ho, r⟩ := st.2; ⟨o, hk tp (by simp) o ho, r⟩⟩
  item := fun i s Q E hi st hQ => by
    refine drawT_item st.1 st.2 (x := row[i]) (by simp [hi]) fun h1 it1 sb => ?_
    exact hQ _ h1 s.toks (by simp [hi]) ⟨it1, st.2.extBut sb.extBut ne⟩ sb
  done := fun s Q E st hE => drawT_end calm st.1 st.2 (by simp) hE
end
end PySem
namespace L2
open PySem PySem.Spec PyProof.Rows
/-- the tuple at a, its items in new pairs -/
def IteT (K : PySem.W.Frag) (a : Addr) : It :=
  ⟨fun i H => ∃ (xs : List V) (x : V), SqT K H a xs ∧ xs[i]? = some x, fun i H v H' => ∃ T x, v = .ref T ∧ H T = none ∧ H' = upd H T (.tup [.int (i : Nat), x]) ∧ ∀ xs, SqT K H a xs → xs[i]? = some x, fun i H => ∃ xs : List V, SqT K H a xs ∧ xs.length ≤ i⟩
theorem turn_enumT {P : Program} {w : World} {K : PySem.W.Frag} {elts : List PySem.Expr} {kk : Nat} {tpos : Pos} (a e me : Addr) :
    Turn P w K (.Tuple elts kk tpos) (IteT K a) [e, me] e (fun i h => (∃ old, IsEnum h e me ((i : Nat) : Int) old) ∧ h.IsTupleIter me a i ∧ e ≠ me) where
  mem := by simp
  obj := fun i h st b hb => by
    obtain ⟨⟨old, en⟩, ⟨o, ho, hc, hd⟩, _⟩ := st
    have which : b = e ∨ b = me := by simpa using hb
    rcases which with z | z
    · rw [z]; exact ⟨_, en, fun v q => nomatch q⟩
    · rw [z]; exact ⟨o, ho, fun v q => by rw [hd] at q; cases q⟩
  keep := fun i h h' st k => let ⟨⟨old, en⟩, hi, ne⟩ := st; ⟨⟨old, k e (by simp) _ en⟩, hi.at fun o q => k me (by simp) o q, ne⟩
  item := by
    intro X hP hw hK hc i pins s σ H E I hf st hg
    subst hP hw hK
    obtain ⟨⟨old, en⟩, it, ne⟩ := st
    obtain ⟨xs, x, hq, hx⟩ := hg
    obtain ⟨its, rv, p, hz⟩ := I.tuple hq
    obtain ⟨u, hu, ru⟩ := rv.get hx
    have lt1 : e < s.heap.objs.size := Heap.lt_size en
    have lt2 : me < s.heap.objs.size := by obtain ⟨_, q, _⟩ := it; exact Heap.lt_size q
    have tt : s.heap.IsTuple a its.toArray := p
    have ane : a ≠ me := fun z => by
      obtain ⟨o1, g1, c1, _⟩ := it
      obtain ⟨o2, g2, c2, _⟩ := tt
      rw [z, g1] at g2
      cases g2
      rw [c1] at c2
      exact absurd c2 (by decide)
    have ane2 : a ≠ e := fun z => by
      obtain ⟨o2, g2, c2, _⟩ := tt
      rw [z] at g2
      have g1 : s.heap.get? e = _ := en
      rw [g1] at g2
      cases g2
      exact absurd (show Value.type "enumerate" = Value.type "tuple" from c2) (by decide)
    have ui : its[i]? = some u := hu
    have ilt : i < its.toArray.size := by
      have := (List.getElem?_eq_some_iff.mp ui).1
      simpa using this
    have out2 : e ∉ [me, a] := fun z => by
      rcases List.mem_cons.mp z with z | z
      · exact ne z
      · exact ane2 (List.mem_singleton.mp z).symm
    refine wpAny_pyNext_enum_itemD (Draws.tuple (A := X.A.in1) (show X.A.in1.handled = none from I.ok.hd hc) me a ane its.toArray) en ⟨it, tt⟩ ilt ne out2 fun y h1 tk hy out st1 hT hsz hk => ?_
    have ey : y = u := by
      have hy : its.toArray[i]? = some y := hy
      have : its[i]? = some y := by simpa using hy
      rw [ui] at this
      exact (Option.some.inj this).symm
    subst ey
    refine ⟨_, rfl, wpAny_letOwnedTupleGo_enum (s := { s with heap := h1, toks := tk + 1 }) out fun h2 en2 sb => ?_⟩
    have hT2 : h2.get? s.heap.objs.size = some { cls := .type "tuple", data := .seq #[.int i tk, y] } := (sb.2 _ (Nat.ne_of_gt lt1)).trans hT
    have new : ObjOk X.prog X.w (upd H s.heap.objs.size (.tup [.int (i : Nat), x])) h2 s.heap.objs.size (.tup [.int (i : Nat), x]) :=
      ⟨by show 2 ≤ sizeLine; decide, [.int i tk, y], .cons ⟨_, rfl⟩ (.cons ru .nil), ⟨_, hT2, rfl, _, rfl⟩⟩
    have I1 : Inv X pins σ (upd H s.heap.objs.size (.tup [.int (i : Nat), x])) { s with heap := h2, toks := tk + 1 } :=
      I.turnedNew (ch := [e, me]) (fun b ob hb q => (sb.2 b (fun z => hb (by simp [z]))).trans (hk b ob (fun z => hb (by simp [z])) (fun z => hb (by simp [z])) q)) hf (Nat.le_refl _) new
    refine ⟨.ref s.heap.objs.size, _, I1, rfl, ⟨_, x, rfl, I.hok.fresh (Nat.le_refl _), rfl, fun ys hy => by rw [I.tuple_inj hy hq]; exact hx⟩, ⟨⟨y, ?_⟩, st1.1.at fun o q => (sb.2 me (Ne.symm ne)).trans q, ne⟩, fun b hb => ?_⟩
    · have e1 : ((i + 1 : Nat) : Int) = (i : Int) + 1 := by omega
      rw [e1]; exact en2
    · have lt3 : b < s.heap.objs.size := by
        have which : b = e ∨ b = me := by simpa using hb
        rcases which with z | z
        · rw [z]; exact lt1
        · rw [z]; exact lt2
      rw [upd_ne (Nat.ne_of_lt lt3)]
      exact (hf b hb).1
  done := by
    intro X hP hw hK hc i pins s σ H E I hf st hg
    subst hP hw hK
    obtain ⟨⟨old, en⟩, it, ne⟩ := st
    obtain ⟨xs, hq, hx⟩ := hg
    obtain ⟨its, rv, p, hz⟩ := I.tuple hq
    have tt : s.heap.IsTuple a its.toArray := p
    obtain ⟨f0, f1, f2, f3, f4, f5⟩ := hf me (by simp)
    have hl := rv.length
    have hT : s.TypeIs (.ref e) "enumerate" := ⟨_, en, rfl⟩
    unfold pyNext
    refine wpAny_bind (wpAny_attempt (wpAny_callSpecial?_slot (name := Str.ofString "__next__") hT F.slot_enumerate_next (wpAny_call_entry F.slot_enumerate_next hT F.entry_enumerate_next ?_ (F.args_enumerate_next_1 _))))
    show wpAny _ _ (field (.ref e) 2 >>= _) _ _ _
    refine wpAny_bind (wpAny_field en rfl (x := .ref me) rfl ?_)
    refine wpAny_bind (drawT_end (show X.A.in1.handled = none from I.ok.hd hc) it tt (by simp; omega) fun h1 x ext hx' => ?_)
    obtain ⟨o, ho, hcl⟩ := hx'
    refine wpAny_bind (wpAny_isInstance (T := "StopIteration") (b := true) ⟨o, ho, hcl⟩ isSubtype_stop ?_)
    exact wpAny_pure ⟨rfl, I.turned (t' := s.toks) (fun b o hb q => ext b o hb q) f0 f1 f3 f4 f5⟩
  self := fun A i s Q E st h => let ⟨⟨_, en⟩, _⟩ := st; wpAny_pyIter_enum en h
/-- enumerate(list or tuple) -/
def iEnumB (K : PySem.W.Frag) (ta : TA) : TI := fun σ H R => ta σ H fun vs H1 => ∃ a, vs = [.ref a] ∧ ((∃ xs, SqL K H1 a xs ∧ R (Ite K a) H1) ∨ ∃ xs, SqT K H1 a xs ∧ R (IteT K a) H1)
theorem pi_enumB {X : Cx} {e : PySem.Expr} {ta : TA} {p pos tpos : Pos} {elts : List PySem.Expr} {kk : Nat} (hg : Gl X "enumerate") (hm : X.mg "enumerate" = none) (ha : PA X [e] ta) (hs : starEach [e] X.env = [(false, eval e X.env)] := by rfl) :
    PI X (.Tuple elts kk tpos) (.Call (.Name "enumerate" p) [e] [] pos) (iEnumB X.K ta) := by
  refine ⟨fun pins s σ H R I h => ?_⟩
  refine Call_ (ld_blt I hg hm boot_enumerate (PyProof.Rows.callWith_type1 (thn (ha.run pos pins s σ H _ I h) fun us s1 ⟨vs, H1, I1, r1, a, ex, q1⟩ => ?_) hs rfl))
  subst ex
  cases r1 with
  | cons r rr =>
    cases rr
    cases r
    have fp : ∀ b ∈ [s1.heap.objs.size + 1, s1.heap.objs.size], FpOk X pins H1 b := fun b hb => by
      have which : b = s1.heap.objs.size + 1 ∨ b = s1.heap.objs.size := by simpa using hb
      have hle : s1.heap.objs.size ≤ b := by
        rcases which with z | z
        · rw [z]; exact Nat.le_add_right _ _
        · rw [z]; exact Nat.le_refl _
      exact I1.fpOk hle (I1.hok.fresh hle)
    rcases q1 with ⟨xs, hq, q⟩ | ⟨xs, hq, q⟩
    · obtain ⟨its, rv, p', hz⟩ := I1.list hq
      refine call_enumerate_list p'.isList fun h1 en it hsz hk => wpAny_pyIter_enum en ?_
      exact ⟨s1.heap.objs.size + 1, [s1.heap.objs.size + 1, s1.heap.objs.size], _, _, H1, rfl, I1.kept (t' := s1.toks) hk, turn_enum a _ _, ⟨⟨.none, en⟩, it, Nat.succ_ne_self _⟩, fp, q⟩
    · obtain ⟨its, rv, p', hz⟩ := I1.tuple hq
      refine call_enumT (show s1.heap.IsTuple a its.toArray from p') fun h1 en it hk => wpAny_pyIter_enum en ?_
      exact ⟨s1.heap.objs.size + 1, [s1.heap.objs.size + 1, s1.heap.objs.size], _, _, H1, rfl, I1.kept (t' := s1.toks) hk, turn_enumT a _ _, ⟨⟨.none, en⟩, it, Nat.succ_ne_self _⟩, fp, q⟩
end L2
end
section
set_option maxRecDepth 100000
set_option maxHeartbeats 4000000
/-! CoreZ: zip of a list with a tuple, of a tuple with a list. -/
namespace CZ
open PySem L2 PySem.Spec PyProof.Rows
open Sem (wp)
/-- how an iterator over a list (true) or a tuple (false) stands -/
def ItAt : Bool → Heap → Addr → Addr → Nat → Prop
  | true, h, it, l, i => h.IsListIter it l i
  | false, h, it, l, i => h.IsTupleIter it l i
def SqAt : Bool → Heap → Addr → Array Value → Prop
  | true, h, l, xs => h.IsList l xs
  | false, h, l, xs => h.IsTuple l xs
def Sq2 : Bool → PySem.W.Frag → Hp → Addr → List V → Prop
  | true, K, H, a, xs => SqL K H a xs
  | false, K, H, a, xs => SqT K H a xs
theorem ItAt.at {k : Bool} {h h' : Heap} {it l : Addr} {i : Nat} (x : ItAt k h it l i) (e : ∀ o, h.get? it = some o → h'.get? it = some o) : ItAt k h' it l i := by
  cases k
  · exact Heap.IsTupleIter.at x e
  · exact Heap.IsListIter.at x e
theorem ItAt.ext {k : Bool} {h h' : Heap} {it l b : Addr} {i : Nat} (x : ItAt k h it l i) (hs : Heap.ExtBut b h h') (n : it ≠ b) : ItAt k h' it l i := x.at fun o e => hs _ _ n e
theorem SqAt.at {k : Bool} {h h' : Heap} {l : Addr} {xs : Array Value} (x : SqAt k h l xs) (e : ∀ o, h.get? l = some o → h'.get? l = some o) : SqAt k h' l xs := by
  cases k <;> (obtain ⟨o, ho, r⟩ := x; exact ⟨o, e _ ho, r⟩)
theorem SqAt.ext {k : Bool} {h h' : Heap} {l b : Addr} {xs : Array Value} (x : SqAt k h l xs) (hs : Heap.ExtBut b h h') (n : l ≠ b) : SqAt k h' l xs := x.at fun o e => hs _ _ n e
theorem ItAt.obj {k : Bool} {h : Heap} {it l : Addr} {i : Nat} (x : ItAt k h it l i) : ∃ o, h.get? it = some o ∧ ∀ v, o.data ≠ .cell v := by
  cases k <;> (obtain ⟨o, e, _, d⟩ := x; exact ⟨o, e, fun v q => by rw [d] at q; cases q⟩)
section
variable {prog : Program} {w : World} {A : Around} {E : Value → Shared → Prop} {s : Shared}
theorem next_item {k : Bool} {it l : Addr} {i : Nat} {items : Array Value} {x : Value} {Q : Value → Shared → Prop} (hit : ItAt k s.heap it l i)
    (hl : SqAt k s.heap l items) (hx : items[i]? = some x) (hQ : ∀ h', ItAt k h' it l (i + 1) → Heap.SameBut it s.heap h' → Q x { s with heap := h' }) :
    wpAny (model prog w) A (Builtin.SmallTypes.nextOf (.ref it)) Q E s := by
  cases k
  · exact RZ.nextOf_tuple_item hit hl hx hQ
  · exact wpAny_nextOf_list_item hit hl hx hQ
theorem next_end {k : Bool} {it l : Addr} {i : Nat} {items : Array Value} {Q : Value → Shared → Prop} (hh : A.handled = none)
    (hit : ItAt k s.heap it l i) (hl : SqAt k s.heap l items) (hx : items[i]? = none)
    (hE : ∀ h' e, Heap.ExtBut it s.heap h' → (∃ o, h'.get? e = some o ∧ o.cls = .type "StopIteration") → E (.ref e) { s with heap := h' }) :
    wpAny (model prog w) A (Builtin.SmallTypes.nextOf (.ref it)) Q E s := by
  cases k
  · exact RZ.nextOf_tuple_end hh hit hl hx hE
  · exact wpAny_nextOf_list_end hh hit hl hx hE
theorem zip_item {k1 k2 : Bool} {z TI TO i1 i2 l1 l2 : Addr} {n1 n2 : Nat} {xs ys : Array Value} {x y a b : Value} {Q : Value → Shared → Prop} (D : ZipApart z TI TO i1 i2 l1 l2)
    (hz : IsZip s.heap z TI TO .none) (hTI : IsPair s.heap TI (.ref i1) (.ref i2)) (hTO : IsPair s.heap TO a b)
    (h1 : ItAt k1 s.heap i1 l1 n1) (h2 : ItAt k2 s.heap i2 l2 n2) (hl1 : SqAt k1 s.heap l1 xs) (hl2 : SqAt k2 s.heap l2 ys) (hx : xs[n1]? = some x) (hy : ys[n2]? = some y)
    (hQ : ∀ h', IsZip h' z TI TO (rawInt s.heap.objs.size) → IsPair h' TO x y → ItAt k1 h' i1 l1 (n1 + 1) → ItAt k2 h' i2 l2 (n2 + 1) → IsPair h' s.heap.objs.size x y → h'.objs.size = s.heap.objs.size + 1 →
      (∀ c o, c ≠ z → c ≠ TO → c ≠ i1 → c ≠ i2 → s.heap.get? c = some o → h'.get? c = some o) → Q (.ref s.heap.objs.size) { s with heap := h' }) :
    wpAny (model prog w) A (Builtin.«zip.__next__» ⟨[.ref z], []⟩) (fun fin s' => ∃ v, fin = .done (.ret v) ∧ Q v s') E s := by
  show wpAny _ _ (field (.ref z) 2 >>= _) _ _ _
  refine wpAny_bind (wpAny_field hz rfl (x := .bool false) rfl ?_)
  show wpAny _ _ (field (.ref z) 3 >>= _) _ _ _
  refine wpAny_bind (wpAny_field hz rfl (x := .ref TI) rfl ?_)
  refine wpAny_bind (wpAny_seqItems hTI rfl ?_)
  show wpAny _ _ (Builtin.SmallTypes.ownedTupleIsFree (.ref z) >>= _) _ _ _
  refine wpAny_bind ?_
  unfold Builtin.SmallTypes.ownedTupleIsFree
  refine wpAny_bind (wpAny_field hz rfl (x := .none) rfl (wpAny_pure ?_))
  simp only [if_true]
  refine wpAny_bind (wpAny_rule ?_)
  refine wpAny_bind (wpAny_field hz rfl (x := .ref TO) rfl ?_)
  refine wpAny_bind (wpAny_setField_rec hz (by simp) fun h₁ hz₁ hs₁ => ?_)
  replace hz₁ : IsZip h₁ z TI TO .ellipsis := hz₁
  refine wpAny_bind ?_
  simp only [List.zipIdx_cons, List.zipIdx_nil, List.forIn_cons, List.forIn_nil]
  refine wpAny_bind (wpAny_bind (wpAny_onRaise ?_))
  show wpAny _ _ (Builtin.SmallTypes.nextOf (.ref i1) >>= _) _ _ _
  refine wpAny_bind (next_item (h1.ext hs₁.extBut D.i1z) (hl1.ext hs₁.extBut D.l1z) hx fun h₂ h1₂ hs₂ => wpAny_pure ?_)
  have hTO₂ : IsPair h₂ TO a b := hs₂.extBut _ _ D.TOi1 (hs₁.extBut _ _ D.TOz hTO)
  refine wpAny_bind (wpAny_seqItems hTO₂ rfl ?_)
  refine wpAny_bind (wpAny_updateSeq_pair hTO₂ fun h₃ hTO₃ hs₃ => ?_)
  replace hTO₃ : IsPair h₃ TO x b := hTO₃
  refine wpAny_bind (wpAny_letGo (wpAny_pure ?_))
  refine wpAny_bind (wpAny_bind (wpAny_onRaise ?_))
  show wpAny _ _ (Builtin.SmallTypes.nextOf (.ref i2) >>= _) _ _ _
  refine wpAny_bind (next_item (((h2.ext hs₁.extBut D.i2z).ext hs₂.extBut D.i12.symm).ext hs₃.extBut D.TOi2.symm)
    (((hl2.ext hs₁.extBut D.l2z).ext hs₂.extBut D.l2i1).ext hs₃.extBut D.l2TO) hy fun h₄ h2₄ hs₄ => wpAny_pure ?_)
  have hTO₄ : IsPair h₄ TO x b := hs₄.extBut _ _ D.TOi2 hTO₃
  refine wpAny_bind (wpAny_seqItems hTO₄ rfl ?_)
  refine wpAny_bind (wpAny_updateSeq_pair hTO₄ fun h₅ hTO₅ hs₅ => ?_)
  replace hTO₅ : IsPair h₅ TO x y := hTO₅
  refine wpAny_bind (wpAny_letGo (wpAny_pure (wpAny_pure ?_)))
  refine wpAny_bind (wpAny_seqItems hTO₅ rfl ?_)
  refine wpAny_bind (wpAny_newTuple ?_)
  have hsz : h₅.objs.size = s.heap.objs.size := by rw [hs₅.1, hs₄.1, hs₃.1, hs₂.1, hs₁.1]
  have hz₅ : IsZip h₅ z TI TO .ellipsis := hs₅.extBut _ _ D.TOz.symm (hs₄.extBut _ _ D.i2z.symm (hs₃.extBut _ _ D.TOz.symm (hs₂.extBut _ _ D.i1z.symm hz₁)))
  have hk₅ : ∀ c o, c ≠ z → c ≠ TO → c ≠ i1 → c ≠ i2 → s.heap.get? c = some o → h₅.get? c = some o := fun c o c1 c2 c3 c4 e =>
    hs₅.extBut _ _ c2 (hs₄.extBut _ _ c4 (hs₃.extBut _ _ c2 (hs₂.extBut _ _ c3 (hs₁.extBut _ _ c1 e))))
  have h1₅ : ItAt k1 h₅ i1 l1 (n1 + 1) := ((h1₂.ext hs₃.extBut D.TOi1.symm).ext hs₄.extBut D.i12).ext hs₅.extBut D.TOi1.symm
  have h2₅ : ItAt k2 h₅ i2 l2 (n2 + 1) := h2₄.ext hs₅.extBut D.TOi2.symm
  have hzlt : z < h₅.objs.size := Heap.lt_size hz₅
  show wpAny _ _ (Builtin.SmallTypes.ownedTupleHandOut (.ref z) (.ref h₅.objs.size) >>= _) _ _ _
  refine wpAny_bind ?_
  unfold Builtin.SmallTypes.ownedTupleHandOut
  have hz₆ : IsZip (h₅.push { cls := .type "tuple", data := .seq #[x, y] }) z TI TO .ellipsis := Heap.get?_push_of_some _ hz₅
  refine wpAny_bind (wpAny_setField_rec hz₆ (by simp) fun h₇ hz₇ hs₇ => ?_)
  replace hz₇ : IsZip h₇ z TI TO (rawInt h₅.objs.size) := hz₇
  refine wpAny_setField_rec hz₇ (by simp) fun h₈ hz₈ hs₈ => ?_
  replace hz₈ : IsZip h₈ z TI TO (rawInt h₅.objs.size) := hz₈
  have up : ∀ c o, c ≠ z → h₅.get? c = some o → h₈.get? c = some o := fun c o c1 e => hs₈.extBut _ _ c1 (hs₇.extBut _ _ c1 (Heap.get?_push_of_some _ e))
  have hT₈ : IsPair h₈ h₅.objs.size x y := hs₈.extBut _ _ (Nat.ne_of_gt hzlt) (hs₇.extBut _ _ (Nat.ne_of_gt hzlt) (Heap.get?_push_size _ rfl))
  have hz8 : h₈.objs.size = h₅.objs.size + 1 := by rw [hs₈.1, hs₇.1, Heap.size_push]
  rw [hsz] at hz₈ hT₈ hz8
  refine wpAny_pure ⟨_, rfl, ?_⟩
  show Q (.ref h₅.objs.size) _
  rw [hsz]
  exact hQ h₈ hz₈ (up _ _ D.TOz hTO₅) (h1₅.at fun o e => up _ o D.i1z e) (h2₅.at fun o e => up _ o D.i2z e) hT₈ hz8 fun c o c1 c2 c3 c4 e => up c o c1 (hk₅ c o c1 c2 c3 c4 e)
theorem zip_end {k1 k2 : Bool} {z TI TO i1 i2 l1 l2 : Addr} {n1 n2 : Nat} {xs ys : Array Value} {a b : Value} {Q : Fin → Shared → Prop} (hh : A.handled = none) (D : ZipApart z TI TO i1 i2 l1 l2)
    (hz : IsZip s.heap z TI TO .none) (hTI : IsPair s.heap TI (.ref i1) (.ref i2)) (hTO : IsPair s.heap TO a b)
    (h1 : ItAt k1 s.heap i1 l1 n1) (h2 : ItAt k2 s.heap i2 l2 n2) (hl1 : SqAt k1 s.heap l1 xs) (hl2 : SqAt k2 s.heap l2 ys) (hend : xs[n1]? = none ∨ ys[n2]? = none)
    (hE : ∀ h' e, (∀ c o, c ≠ z → c ≠ TO → c ≠ i1 → c ≠ i2 → s.heap.get? c = some o → h'.get? c = some o) → (∃ o, h'.get? e = some o ∧ o.cls = .type "StopIteration") → E (.ref e) { s with heap := h' }) :
    wpAny (model prog w) A (Builtin.«zip.__next__» ⟨[.ref z], []⟩) Q E s := by
  show wpAny _ _ (field (.ref z) 2 >>= _) _ _ _
  refine wpAny_bind (wpAny_field hz rfl (x := .bool false) rfl ?_)
  show wpAny _ _ (field (.ref z) 3 >>= _) _ _ _
  refine wpAny_bind (wpAny_field hz rfl (x := .ref TI) rfl ?_)
  refine wpAny_bind (wpAny_seqItems hTI rfl ?_)
  show wpAny _ _ (Builtin.SmallTypes.ownedTupleIsFree (.ref z) >>= _) _ _ _
  refine wpAny_bind ?_
  unfold Builtin.SmallTypes.ownedTupleIsFree
  refine wpAny_bind (wpAny_field hz rfl (x := .none) rfl (wpAny_pure ?_))
  simp only [if_true]
  refine wpAny_bind (wpAny_rule ?_)
  refine wpAny_bind (wpAny_field hz rfl (x := .ref TO) rfl ?_)
  refine wpAny_bind (wpAny_setField_rec hz (by simp) fun h₁ hz₁ hs₁ => ?_)
  replace hz₁ : IsZip h₁ z TI TO .ellipsis := hz₁
  refine wpAny_bind ?_
  simp only [List.zipIdx_cons, List.zipIdx_nil, List.forIn_cons, List.forIn_nil]
  refine wpAny_bind (wpAny_bind (wpAny_onRaise ?_))
  show wpAny _ _ (Builtin.SmallTypes.nextOf (.ref i1) >>= _) _ _ _
  cases hx : xs[n1]? with
  | none =>
    refine wpAny_bind (next_end hh (h1.ext hs₁.extBut D.i1z) (hl1.ext hs₁.extBut D.l1z) hx fun h₂ e hs₂ he => ?_)
    obtain ⟨oe, hoe, hce⟩ := he
    have hz₂ : IsZip h₂ z TI TO .ellipsis := hs₂ _ _ D.i1z.symm hz₁
    have hez : e ≠ z := fun x => by subst x; rw [hz₂] at hoe; cases hoe; simp at hce
    refine wpAny_setField_rec hz₂ (by simp) fun h₃ _ hs₃ => hE h₃ e (fun c o c1 _ c3 _ x => hs₃.extBut _ _ c1 (hs₂ _ _ c3 (hs₁.extBut _ _ c1 x))) ⟨oe, hs₃.extBut _ _ hez hoe, hce⟩
  | some x =>
    have hy : ys[n2]? = none := by rcases hend with h | h; rw [hx] at h; cases h; exact h
    refine wpAny_bind (next_item (h1.ext hs₁.extBut D.i1z) (hl1.ext hs₁.extBut D.l1z) hx fun h₂ h1₂ hs₂ => wpAny_pure ?_)
    have hTO₂ : IsPair h₂ TO a b := hs₂.extBut _ _ D.TOi1 (hs₁.extBut _ _ D.TOz hTO)
    refine wpAny_bind (wpAny_seqItems hTO₂ rfl ?_)
    refine wpAny_bind (wpAny_updateSeq_pair hTO₂ fun h₃ hTO₃ hs₃ => ?_)
    refine wpAny_bind (wpAny_letGo (wpAny_pure ?_))
    refine wpAny_bind (wpAny_bind (wpAny_onRaise ?_))
    show wpAny _ _ (Builtin.SmallTypes.nextOf (.ref i2) >>= _) _ _ _
    refine wpAny_bind (next_end hh (((h2.ext hs₁.extBut D.i2z).ext hs₂.extBut D.i12.symm).ext hs₃.extBut D.TOi2.symm)
      (((hl2.ext hs₁.extBut D.l2z).ext hs₂.extBut D.l2i1).ext hs₃.extBut D.l2TO) hy fun h₄ e hs₄ he => ?_)
    obtain ⟨oe, hoe, hce⟩ := he
    have hz₄ : IsZip h₄ z TI TO .ellipsis := hs₄ _ _ D.i2z.symm (hs₃.extBut _ _ D.TOz.symm (hs₂.extBut _ _ D.i1z.symm hz₁))
    have hez : e ≠ z := fun x => by subst x; rw [hz₄] at hoe; cases hoe; simp at hce
    refine wpAny_setField_rec hz₄ (by simp) fun h₅ _ hs₅ => hE h₅ e (fun c o c1 c2 c3 c4 x => hs₅.extBut _ _ c1 (hs₄ _ _ c4 (hs₃.extBut _ _ c2 (hs₂.extBut _ _ c3 (hs₁.extBut _ _ c1 x))))) ⟨oe, hs₅.extBut _ _ hez hoe, hce⟩
theorem pyNext_item {k1 k2 : Bool} {z TI TO i1 i2 l1 l2 : Addr} {n1 n2 : Nat} {xs ys : Array Value} {x y a b : Value} {Q : Option Value → Shared → Prop} (D : ZipApart z TI TO i1 i2 l1 l2)
    (hz : IsZip s.heap z TI TO .none) (hTI : IsPair s.heap TI (.ref i1) (.ref i2)) (hTO : IsPair s.heap TO a b)
    (h1 : ItAt k1 s.heap i1 l1 n1) (h2 : ItAt k2 s.heap i2 l2 n2) (hl1 : SqAt k1 s.heap l1 xs) (hl2 : SqAt k2 s.heap l2 ys) (hx : xs[n1]? = some x) (hy : ys[n2]? = some y)
    (hQ : ∀ h', IsZip h' z TI TO (rawInt s.heap.objs.size) → IsPair h' TO x y → ItAt k1 h' i1 l1 (n1 + 1) → ItAt k2 h' i2 l2 (n2 + 1) → IsPair h' s.heap.objs.size x y → h'.objs.size = s.heap.objs.size + 1 →
      (∀ c o, c ≠ z → c ≠ TO → c ≠ i1 → c ≠ i2 → s.heap.get? c = some o → h'.get? c = some o) → Q (some (.ref s.heap.objs.size)) { s with heap := h' }) :
    wpAny (model prog w) A (pyNext (.ref z)) Q E s := by
  have hT : s.TypeIs (.ref z) "zip" := ⟨_, hz, rfl⟩
  unfold pyNext
  exact wpAny_bind (wpAny_attempt (wpAny_callSpecial?_slot (name := Str.ofString "__next__") hT F.slot_zip_next
    (wpAny_call_entry F.slot_zip_next hT F.entry_zip_next
      (zip_item D hz hTI hTO h1 h2 hl1 hl2 hx hy fun h' a1 a2 a3 a4 a5 a6 a7 => wpAny_pure (hQ h' a1 a2 a3 a4 a5 a6 a7)) (F.args_zip_next_1 _))))
theorem pyNext_end {k1 k2 : Bool} {z TI TO i1 i2 l1 l2 : Addr} {n1 n2 : Nat} {xs ys : Array Value} {a b : Value} {Q : Option Value → Shared → Prop} (hh : A.handled = none) (D : ZipApart z TI TO i1 i2 l1 l2)
    (hz : IsZip s.heap z TI TO .none) (hTI : IsPair s.heap TI (.ref i1) (.ref i2)) (hTO : IsPair s.heap TO a b)
    (h1 : ItAt k1 s.heap i1 l1 n1) (h2 : ItAt k2 s.heap i2 l2 n2) (hl1 : SqAt k1 s.heap l1 xs) (hl2 : SqAt k2 s.heap l2 ys) (hend : xs[n1]? = none ∨ ys[n2]? = none)
    (hQ : ∀ h', (∀ c o, c ≠ z → c ≠ TO → c ≠ i1 → c ≠ i2 → s.heap.get? c = some o → h'.get? c = some o) → Q none { s with heap := h' }) : wpAny (model prog w) A (pyNext (.ref z)) Q E s := by
  have hT : s.TypeIs (.ref z) "zip" := ⟨_, hz, rfl⟩
  unfold pyNext
  refine wpAny_bind (wpAny_attempt (wpAny_callSpecial?_slot (name := Str.ofString "__next__") hT F.slot_zip_next
    (wpAny_call_entry F.slot_zip_next hT F.entry_zip_next (zip_end hh D hz hTI hTO h1 h2 hl1 hl2 hend fun h' e hk he => ?_) (F.args_zip_next_1 _))))
  obtain ⟨o, ho, hc⟩ := he
  refine wpAny_bind (wpAny_isInstance (T := "StopIteration") (b := true) ⟨o, ho, hc⟩ isSubtype_stop ?_)
  exact wpAny_pure (hQ _ hk)
end
def itCls : Bool → String
  | true => "list_iterator"
  | false => "tuple_iterator"
abbrev zH1 (k : Bool) (h : Heap) (l1 : Addr) : Heap := h.push { cls := .type (itCls k), data := .fields #[.ref l1, .int 0 0] }
abbrev zH2 (k1 k2 : Bool) (h : Heap) (l1 l2 : Addr) : Heap := (zH1 k1 h l1).push { cls := .type (itCls k2), data := .fields #[.ref l2, .int 0 0] }
abbrev zH3 (k1 k2 : Bool) (h : Heap) (l1 l2 : Addr) : Heap := (zH2 k1 k2 h l1 l2).push { cls := .type "tuple", data := .seq #[.ref h.objs.size, .ref (zH1 k1 h l1).objs.size] }
abbrev zH4 (k1 k2 : Bool) (h : Heap) (l1 l2 : Addr) : Heap := (zH3 k1 k2 h l1 l2).push { cls := .type "tuple", data := .seq #[.none, .none] }
abbrev zH5 (k1 k2 : Bool) (h : Heap) (l1 l2 : Addr) : Heap := (zH4 k1 k2 h l1 l2).push { cls := .type "zip", data := .fields #[.none, .bool false, .bool false, .ref (zH2 k1 k2 h l1 l2).objs.size, .ref (zH3 k1 k2 h l1 l2).objs.size] }
theorem meets_new_TL (l1 l2 : Addr) (xs ys : Array Value) :
    Meets (Builtin.«zip.__new__» ⟨[.type "zip", .ref l1, .ref l2], []⟩) (fun _ R s => s.heap.IsTuple l1 xs ∧ s.heap.IsList l2 ys ∧
      R (.ok (.ret (.ref (zH4 false true s.heap l1 l2).objs.size))) { s with heap := zH5 false true s.heap l1 l2 }) :=
  .of_wp fun prog w A R s h => by
    obtain ⟨hp, g, d, tk, os⟩ := s; obtain ⟨hl1, hl2, h⟩ := h
    have hsub := sub_zip
    have hL1 : Heap.IsTuple (Shared.heap ⟨hp, g, d, tk, os⟩) l1 xs := hl1
    have hL2 : Heap.IsList (Shared.heap ⟨hp.push { cls := .type "tuple_iterator", data := .fields #[.ref l1, .int 0 0] }, g, d, tk, os⟩) l2 ys := Heap.IsList.push hl2 _
    wp_walk using wpAny_pyIter_tuple hL1, wpAny_pyIter_list hL2
    exact ⟨_, rfl, h⟩
theorem meets_new_LT (l1 l2 : Addr) (xs ys : Array Value) :
    Meets (Builtin.«zip.__new__» ⟨[.type "zip", .ref l1, .ref l2], []⟩) (fun _ R s => s.heap.IsList l1 xs ∧ s.heap.IsTuple l2 ys ∧
      R (.ok (.ret (.ref (zH4 true false s.heap l1 l2).objs.size))) { s with heap := zH5 true false s.heap l1 l2 }) :=
  .of_wp fun prog w A R s h => by
    obtain ⟨hp, g, d, tk, os⟩ := s; obtain ⟨hl1, hl2, h⟩ := h
    have hsub := sub_zip
    have hL1 : Heap.IsList (Shared.heap ⟨hp, g, d, tk, os⟩) l1 xs := hl1
    have hL2 : Heap.IsTuple (Shared.heap ⟨hp.push { cls := .type "list_iterator", data := .fields #[.ref l1, .int 0 0] }, g, d, tk, os⟩) l2 ys := Heap.IsTuple.push hl2 _
    wp_walk using wpAny_pyIter_list hL1, wpAny_pyIter_tuple hL2
    exact ⟨_, rfl, h⟩
theorem ItAt.new {k : Bool} {h : Heap} {it l : Addr} (e : h.get? it = some { cls := .type (itCls k), data := .fields #[.ref l, .int 0 0] }) : ItAt k h it l 0 := by
  cases k <;> exact ⟨_, e, rfl, rfl⟩
section
variable {prog : Program} {w : World} {A : Around} {E : Value → Shared → Prop} {s : Shared}
theorem call_zipM {k1 k2 : Bool} (hk : k1 ≠ k2) {l1 l2 : Addr} {xs ys : Array Value} {Q : Value → Shared → Prop} (hl1 : SqAt k1 s.heap l1 xs) (hl2 : SqAt k2 s.heap l2 ys)
    (h : ∀ h', IsZip h' (s.heap.objs.size + 4) (s.heap.objs.size + 2) (s.heap.objs.size + 3) .none → IsPair h' (s.heap.objs.size + 2) (.ref s.heap.objs.size) (.ref (s.heap.objs.size + 1)) →
      IsPair h' (s.heap.objs.size + 3) .none .none → ItAt k1 h' s.heap.objs.size l1 0 → ItAt k2 h' (s.heap.objs.size + 1) l2 0 → h'.objs.size = s.heap.objs.size + 5 →
      (∀ c o, s.heap.get? c = some o → h'.get? c = some o) → Q (.ref (s.heap.objs.size + 4)) { s with heap := h' }) :
    wpAny (model prog w) A (call (.type "zip") [.ref l1, .ref l2]) Q E s := by
  have z1 : (zH1 k1 s.heap l1).objs.size = s.heap.objs.size + 1 := Heap.size_push ..
  have z2 : (zH2 k1 k2 s.heap l1 l2).objs.size = s.heap.objs.size + 2 := by rw [Heap.size_push, z1]
  have z3 : (zH3 k1 k2 s.heap l1 l2).objs.size = s.heap.objs.size + 3 := by rw [Heap.size_push, z2]
  have z4 : (zH4 k1 k2 s.heap l1 l2).objs.size = s.heap.objs.size + 4 := by rw [Heap.size_push, z3]
  have z5 : (zH5 k1 k2 s.heap l1 l2).objs.size = s.heap.objs.size + 5 := by rw [Heap.size_push, z4]
  have g5 : (zH5 k1 k2 s.heap l1 l2).get? (zH4 k1 k2 s.heap l1 l2).objs.size = some _ := Heap.get?_push_size _ rfl
  have g4 : (zH5 k1 k2 s.heap l1 l2).get? (zH3 k1 k2 s.heap l1 l2).objs.size = some _ := Heap.get?_push_of_some _ (Heap.get?_push_size _ rfl)
  have g3 : (zH5 k1 k2 s.heap l1 l2).get? (zH2 k1 k2 s.heap l1 l2).objs.size = some _ := Heap.get?_push_of_some _ (Heap.get?_push_of_some _ (Heap.get?_push_size _ rfl))
  have g2 : (zH5 k1 k2 s.heap l1 l2).get? (zH1 k1 s.heap l1).objs.size = some _ := Heap.get?_push_of_some _ (Heap.get?_push_of_some _ (Heap.get?_push_of_some _ (Heap.get?_push_size _ rfl)))
  have g1 : (zH5 k1 k2 s.heap l1 l2).get? s.heap.objs.size = some _ := Heap.get?_push_of_some _ (Heap.get?_push_of_some _ (Heap.get?_push_of_some _ (Heap.get?_push_of_some _ (Heap.get?_push_size _ rfl))))
  rw [z2, z3, z4] at g5
  rw [z1, z2] at g3
  rw [z3] at g4
  rw [z1] at g2
  have fin := h _ g5 g3 g4 (ItAt.new g1) (ItAt.new g2) z5 fun c o x =>
    Heap.get?_push_of_some _ (Heap.get?_push_of_some _ (Heap.get?_push_of_some _ (Heap.get?_push_of_some _ (Heap.get?_push_of_some _ x))))
  cases k1 <;> cases k2
  · exact absurd rfl hk
  · refine callType_new F.called_zip (by decide) (F.typeCall_zip_2 _ _) (F.newCall_zip_2 _ _) (fun obj => F.args_object_init_3 obj _ _) F.entry_zip_new (meets_new_TL l1 l2 xs ys) ⟨hl1, hl2, ?_⟩
    show _ ∧ _
    rw [z4]
    exact ⟨⟨_, g5, rfl⟩, fin⟩
  · refine callType_new F.called_zip (by decide) (F.typeCall_zip_2 _ _) (F.newCall_zip_2 _ _) (fun obj => F.args_object_init_3 obj _ _) F.entry_zip_new (meets_new_LT l1 l2 xs ys) ⟨hl1, hl2, ?_⟩
    show _ ∧ _
    rw [z4]
    exact ⟨⟨_, g5, rfl⟩, fin⟩
  · exact absurd rfl hk
end
theorem sq_rel {X : Cx} {k : Bool} {pins : List (Addr × Obj)} {σ : L2.St} {H : Hp} {s : Shared} {a : Addr} {xs : List V} (I : Inv X pins σ H s) (h : Sq2 k X.K H a xs) : ∃ its : List Value, Vals xs its ∧ SqAt k s.heap a its.toArray ∧ a < s.heap.objs.size := by
  cases k
  · obtain ⟨its, r, p, _⟩ := I.tuple h
    obtain ⟨o, ho, _⟩ := id p
    exact ⟨its, r, p, Heap.lt_size ho⟩
  · obtain ⟨its, r, p, _⟩ := I.list h
    exact ⟨its, r, p.isList, p.lt⟩
theorem sq_inj {X : Cx} {k : Bool} {pins : List (Addr × Obj)} {σ : L2.St} {H : Hp} {s : Shared} {a : Addr} {xs ys : List V} (I : Inv X pins σ H s) (h : Sq2 k X.K H a xs) (h' : Sq2 k X.K H a ys) : xs = ys := by
  cases k
  · exact I.tuple_inj h h'
  · exact I.list_inj h h'
/-- what stands at a and b at each turn, the items in new pairs -/
def Itk (k1 k2 : Bool) (K : PySem.W.Frag) (a b : Addr) : It :=
  ⟨fun i H => ∃ (xs ys : List V) (x y : V), Sq2 k1 K H a xs ∧ Sq2 k2 K H b ys ∧ xs[i]? = some x ∧ ys[i]? = some y,
    fun i H v H' => ∃ T x y, v = .ref T ∧ H T = none ∧ H' = upd H T (.tup [x, y]) ∧ (∀ xs, Sq2 k1 K H a xs → xs[i]? = some x) ∧ ∀ ys, Sq2 k2 K H b ys → ys[i]? = some y,
    fun i H => ∃ xs ys : List V, Sq2 k1 K H a xs ∧ Sq2 k2 K H b ys ∧ (xs.length ≤ i ∨ ys.length ≤ i)⟩
theorem turn_zipK {P : Program} {w : World} {K : PySem.W.Frag} {elts : List PySem.Expr} {kk : Nat} {tpos : Pos} {k1 k2 : Bool} {a b z TI TO i1 i2 : Addr} (D : ZipApart z TI TO i1 i2 a b) :
    Turn P w K (.Tuple elts kk tpos) (Itk k1 k2 K a b) [z, TI, TO, i1, i2] z (fun i h => IsZip h z TI TO .none ∧ IsPair h TI (.ref i1) (.ref i2) ∧ (∃ x y, IsPair h TO x y) ∧ ItAt k1 h i1 a i ∧ ItAt k2 h i2 b i) where
  mem := by simp
  obj := fun i h st c hc => by
    obtain ⟨hz, hTI, ⟨x, y, hTO⟩, h1, h2⟩ := st
    have e' : c = z ∨ c = TI ∨ c = TO ∨ c = i1 ∨ c = i2 := by simpa using hc
    rcases e' with q | q | q | q | q
    · rw [q]; exact ⟨_, hz, fun v q => nomatch q⟩
    · rw [q]; exact ⟨_, hTI, fun v q => nomatch q⟩
    · rw [q]; exact ⟨_, hTO, fun v q => nomatch q⟩
    · rw [q]; exact h1.obj
    · rw [q]; exact h2.obj
  keep := fun i h h' st k => by
    obtain ⟨hz, hTI, ⟨x, y, hTO⟩, h1, h2⟩ := st
    exact ⟨k z (by simp) _ hz, k TI (by simp) _ hTI, ⟨x, y, k TO (by simp) _ hTO⟩, h1.at fun o q => k i1 (by simp) o q, h2.at fun o q => k i2 (by simp) o q⟩
  item := by
    intro X hP hw hK hc i pins s σ H E I hf st hg
    subst hP hw hK
    obtain ⟨hz, hTI, ⟨x0, y0, hTO⟩, h1, h2⟩ := st
    obtain ⟨xs, ys, x, y, hqx, hqy, hx, hy⟩ := hg
    obtain ⟨its, rv, p, _⟩ := sq_rel I hqx
    obtain ⟨its2, rv2, p2, _⟩ := sq_rel I hqy
    obtain ⟨u, hu, ru⟩ := rv.get hx
    obtain ⟨u2, hu2, ru2⟩ := rv2.get hy
    have hzl : z < s.heap.objs.size := Heap.lt_size hz
    refine pyNext_item D hz hTI hTO h1 h2 p p2 (x := u) (y := u2) (by simpa using hu) (by simpa using hu2) fun h' z' TO' h1' h2' hT hsz hk => ?_
    refine ⟨_, rfl, wpAny_letOwnedTupleGo_zip (s := { s with heap := h' }) z' fun h'' z'' sb => ?_⟩
    have hT2 : h''.get? s.heap.objs.size = some { cls := .type "tuple", data := .seq #[u, u2] } := (sb.2 _ (Nat.ne_of_gt hzl)).trans hT
    have new : ObjOk X.prog X.w (upd H s.heap.objs.size (.tup [x, y])) h'' s.heap.objs.size (.tup [x, y]) :=
      ⟨by show 2 ≤ sizeLine; decide, [u, u2], .cons ru (.cons ru2 .nil), ⟨_, hT2, rfl, _, rfl⟩⟩
    have I1 : Inv X pins σ (upd H s.heap.objs.size (.tup [x, y])) { s with heap := h'' } :=
      I.turnedNew (t' := s.toks) (ch := [z, TI, TO, i1, i2]) (fun c o hb q => (sb.2 c (fun q' => hb (by simp [q']))).trans (hk c o (fun q' => hb (by simp [q'])) (fun q' => hb (by simp [q'])) (fun q' => hb (by simp [q'])) (fun q' => hb (by simp [q'])) q)) hf (Nat.le_refl _) new
    refine ⟨.ref s.heap.objs.size, _, I1, rfl, ⟨_, x, y, rfl, I.hok.fresh (Nat.le_refl _), rfl, fun l hl => by rw [sq_inj I hl hqx]; exact hx, fun l hl => by rw [sq_inj I hl hqy]; exact hy⟩, ⟨z'', ?_, ⟨u, u2, ?_⟩, ?_, ?_⟩, fun c hcm => ?_⟩
    · exact (sb.2 _ D.TIz).trans (hk _ _ D.TIz D.TITO D.TIi1 D.TIi2 hTI)
    · exact (sb.2 _ D.TOz).trans TO'
    · exact h1'.at fun o q => (sb.2 _ D.i1z).trans q
    · exact h2'.at fun o q => (sb.2 _ D.i2z).trans q
    · have hlt : c < s.heap.objs.size := by
        have e' : c = z ∨ c = TI ∨ c = TO ∨ c = i1 ∨ c = i2 := by simpa using hcm
        rcases e' with q | q | q | q | q
        · rw [q]; exact hzl
        · rw [q]; exact Heap.lt_size hTI
        · rw [q]; exact Heap.lt_size hTO
        · rw [q]; obtain ⟨_, e1, _⟩ := h1.obj; exact Heap.lt_size e1
        · rw [q]; obtain ⟨_, e2, _⟩ := h2.obj; exact Heap.lt_size e2
      rw [upd_ne (Nat.ne_of_lt hlt)]
      exact (hf c hcm).1
  done := by
    intro X hP hw hK hc i pins s σ H E I hf st hg
    subst hP hw hK
    obtain ⟨hz, hTI, ⟨x0, y0, hTO⟩, h1, h2⟩ := st
    obtain ⟨xs, ys, hqx, hqy, hend⟩ := hg
    obtain ⟨its, rv, p, _⟩ := sq_rel I hqx
    obtain ⟨its2, rv2, p2, _⟩ := sq_rel I hqy
    have l1 := rv.length
    have l2 := rv2.length
    have he : its.toArray[i]? = none ∨ its2.toArray[i]? = none := by
      rcases hend with q | q
      · exact .inl (by simp; omega)
      · exact .inr (by simp; omega)
    exact pyNext_end (I.ok.hd hc) D hz hTI hTO h1 h2 p p2 he fun h' hk => ⟨rfl, I.turnedL (t' := s.toks) (ch := [z, TI, TO, i1, i2]) (fun c o hb q =>
      hk c o (fun q' => hb (by simp [q'])) (fun q' => hb (by simp [q'])) (fun q' => hb (by simp [q'])) (fun q' => hb (by simp [q'])) q) hf⟩
  self := fun A i s Q E st h => wpAny_pyIter_zip st.1 h
/-- what zip walks: two lists, two tuples, one of each -/
def iZipM (K : PySem.W.Frag) (ta : TA) : TI := fun σ H R => ta σ H fun vs H1 => ∃ a b xs ys, vs = [.ref a, .ref b] ∧
  ((SqL K H1 a xs ∧ SqL K H1 b ys ∧ R (Itz K a b) H1) ∨ (SqT K H1 a xs ∧ SqT K H1 b ys ∧ R (RZ.ItzT K a b) H1) ∨ ∃ k1 k2 : Bool, k1 ≠ k2 ∧ Sq2 k1 K H1 a xs ∧ Sq2 k2 K H1 b ys ∧ R (Itk k1 k2 K a b) H1)
theorem pi_zipM {X : Cx} {e e2 : PySem.Expr} {ta : TA} {p pos tpos : Pos} {elts : List PySem.Expr} {kk : Nat} (hg : Gl X "zip") (hm : X.mg "zip" = none) (ha : PA X [e, e2] ta)
    (hs : starEach [e, e2] X.env = (false, eval e X.env) :: starEach [e2] X.env := by rfl) (hpl : (backTo pos (starEach [e2] X.env)).any (·.1) = false := by rfl) :
    PI X (.Tuple elts kk tpos) (.Call (.Name "zip" p) [e, e2] [] pos) (iZipM X.K ta) := by
  refine ⟨fun pins s σ H R I h => ?_⟩
  refine Call_ (ld_blt I hg hm PyProof.Rows.boot_zip (PyProof.Rows.callWith_type1 (thn (ha.run pos pins s σ H _ I h) fun us s1 ⟨vs, H1, I1, r1, q1⟩ => ?_) hs hpl))
  obtain ⟨a, b, xs, ys, ex, q1⟩ := q1
  subst ex
  cases r1 with
  | cons r rr =>
    cases rr with
    | cons r' rr =>
      cases rr
      cases r
      cases r'
      have fresh5 : ∀ c, c ∈ [s1.heap.objs.size + 4, s1.heap.objs.size + 2, s1.heap.objs.size + 3, s1.heap.objs.size, s1.heap.objs.size + 1] → FpOk X pins H1 c := fun c hcm => by
        have hle : s1.heap.objs.size ≤ c := by
          have e' : c = s1.heap.objs.size + 4 ∨ c = s1.heap.objs.size + 2 ∨ c = s1.heap.objs.size + 3 ∨ c = s1.heap.objs.size ∨ c = s1.heap.objs.size + 1 := by simpa using hcm
          rcases e' with z | z | z | z | z <;> (rw [z]; first | exact Nat.le_refl _ | exact Nat.le_add_right _ _)
        exact I1.fpOk hle (I1.hok.fresh hle)
      rcases q1 with ⟨hqx, hqy, q⟩ | ⟨hqx, hqy, q⟩ | ⟨k1, k2, hk, hqx, hqy, q⟩
      · obtain ⟨its, rv, p1, _⟩ := I1.list hqx
        obtain ⟨its2, rv2, p2, _⟩ := I1.list hqy
        refine call_zip_2 p1.isList p2.isList fun h' hz hTI hTO h1 h2 hsz hk => wpAny_pyIter_zip hz ?_
        have I2 : Inv X pins σ H1 { s1 with heap := h' } := I1.kept (t' := s1.toks) hk
        exact ⟨s1.heap.objs.size + 4, [s1.heap.objs.size + 4, s1.heap.objs.size + 2, s1.heap.objs.size + 3, s1.heap.objs.size, s1.heap.objs.size + 1], _, _, H1, rfl, I2, turn_zip (PySem.W.ktu_apart s1.heap.objs.size a b p1.lt p2.lt), ⟨hz, hTI, ⟨_, _, hTO⟩, h1, h2⟩, fresh5, q⟩
      · obtain ⟨its, rv, p1, _⟩ := I1.tuple hqx
        obtain ⟨its2, rv2, p2, _⟩ := I1.tuple hqy
        obtain ⟨o1, ho1, _⟩ := id p1
        obtain ⟨o2, ho2, _⟩ := id p2
        refine RZ.call_zipT (show s1.heap.IsTuple a its.toArray from p1) (show s1.heap.IsTuple b its2.toArray from p2) fun h' hz hTI hTO h1 h2 hsz hk => wpAny_pyIter_zip hz ?_
        have I2 : Inv X pins σ H1 { s1 with heap := h' } := I1.kept (t' := s1.toks) hk
        exact ⟨s1.heap.objs.size + 4, [s1.heap.objs.size + 4, s1.heap.objs.size + 2, s1.heap.objs.size + 3, s1.heap.objs.size, s1.heap.objs.size + 1], _, _, H1, rfl, I2, RZ.turn_zipT (PySem.W.ktu_apart s1.heap.objs.size a b (Heap.lt_size ho1) (Heap.lt_size ho2)), ⟨hz, hTI, ⟨_, _, hTO⟩, h1, h2⟩, fresh5, q⟩
      · obtain ⟨its, rv, p1, la⟩ := sq_rel I1 hqx
        obtain ⟨its2, rv2, p2, lb⟩ := sq_rel I1 hqy
        refine call_zipM hk p1 p2 fun h' hz hTI hTO h1 h2 hsz hk => wpAny_pyIter_zip hz ?_
        have I2 : Inv X pins σ H1 { s1 with heap := h' } := I1.kept (t' := s1.toks) hk
        exact ⟨s1.heap.objs.size + 4, [s1.heap.objs.size + 4, s1.heap.objs.size + 2, s1.heap.objs.size + 3, s1.heap.objs.size, s1.heap.objs.size + 1], _, _, H1, rfl, I2, turn_zipK (PySem.W.ktu_apart s1.heap.objs.size a b la lb), ⟨hz, hTI, ⟨_, _, hTO⟩, h1, h2⟩, fresh5, q⟩
end CZ
end
section
set_option maxRecDepth 100000
set_option maxHeartbeats 4000000
/-! Core6: methods of lists, what is walked. -/
namespace Core
open PySem L2 PySem.Spec PyProof.Rows
def bmName : Bm → Str
  | .append => "append" | .pop => "pop" | .extend => "extend" | .index => "index" | .insert => "insert" | .get => "get" | .setdefault => "setdefault" | .reverse => "reverse" | .items => "items"
  | .split => "split" | .find => "find" | .join => "join"
theorem bmOf_name {x : Str} {f : Bm} (h : bmOf x = some f) : x = bmName f := by
  unfold bmOf at h
  repeat' (split at h; (rename_i e; cases h; exact e))
  cases h
/-- a method of lists -/
inductive BMeth (X : Cx) (x : Str) (r : V → List V → Hp → VK → Prop) : Prop where
  | mk (id : String) (slot : Slot "list" x id) (hty : typeOf (.builtin id) = pure (.type "method_descriptor")) (hm : MtR X id r)
def ServesM (B : Bs) (r : V → List V → Hp → VK → Prop) (t : P → List P → Store → QP → Prop) : Prop :=
  ∀ x ps S vx vs H Q0 Q, RelS B S H → Rep B H x vx → Reps B H ps vs → OkQ B H Q0 Q → t x ps S Q0 → r vx vs H Q
theorem ix_bound {i : Int} {n j : Nat} (h : seqIndex? i n = some j) (z : n ≤ sizeLine) : -(2 ^ 63 : Int) ≤ i ∧ i < 2 ^ 63 := by
  have hz := sizeLine_eq
  unfold seqIndex? at h
  dsimp only at h
  by_cases c : i < 0
  · rw [if_pos c] at h
    split at h
    · rename_i hc
      simp at hc
      constructor <;> omega
    · cases h
  · rw [if_neg c] at h
    split at h
    · rename_i hc
      simp at hc
      constructor <;> omega
    · cases h
theorem lstS_inv {x : P} {S : Store} {a : Addr} {xs : List P} (h : lstS x S = some (a, xs)) : x = .loc a ∧ S a = some (.lst xs) := by
  unfold lstS at h
  split at h
  · split at h
    · rename_i hx
      cases h
      exact ⟨rfl, hx⟩
    · cases h
  · cases h
section
variable {X : Cx} {B : Bs}
theorem lst_set {H : Hp} {S : Store} {Q0 : QP} {Q : VK} (k : OkQ B H Q0 Q) (hS : RelS B S H) {a : Addr} {us vs : List V} {ps : List P} (e : H a = some (.lst us)) (z : vs.length ≤ sizeLine) (r : Reps B H ps vs) {p : P} {v : V} (rp : Rep B H p v)
    (q : Q0 p (S.upd a (.lst ps))) : Q v (upd H a (.lst vs)) := k _ _ _ _ (.lst e) (hS.setL e z r) (rp.ext (.lst e)) q
theorem bm_ok (hK : X.K = B.K) (hu : X.A.units + 65 < cLine) (m : Bm) (n : Nat) : ∃ r, (∀ hm : m = .append ∨ m = .pop ∨ m = .extend ∨ m = .reverse ∨ m = .index, BMeth X (bmName m) r) ∧ ServesM B r (fun x ps S Q => ps.length = n ∧ bmS m x ps S Q) := by
  cases m with
  | append =>
    refine ⟨_, fun _ => .mk _ PySem.F.slot_list_append PySem.F.type_list_append mt_append, fun x ps S vx vs H Q0 Q hS rx rs k ⟨_, h⟩ => ?_⟩
    unfold bmS at h
    split at h <;> first | contradiction | skip
    split at h
    · rename_i a xs hx
      obtain ⟨rfl, hx'⟩ := lstS_inv hx
      obtain ⟨v, rfl, r1⟩ := rs.one
      obtain ⟨us, e, z, q⟩ := hS.lst hx'
      refine ⟨a, us, v, rx.loc_inv, rfl, e, by rw [q.length]; exact h.1, lst_set k hS e ?_ (q.append (.cons r1 .nil)) rep_non h.2⟩
      rw [List.length_append, q.length]
      exact h.1
    · exact h.elim
  | extend =>
    refine ⟨_, fun _ => .mk _ PySem.F.slot_list_extend PySem.F.type_list_extend mt_extend, fun x ps S vx vs H Q0 Q hS rx rs k ⟨_, h⟩ => ?_⟩
    unfold bmS at h
    split at h <;> first | contradiction | skip
    split at h
    · rename_i a xs b ys hx hy
      obtain ⟨rfl, hx'⟩ := lstS_inv hx
      obtain ⟨rfl, hy'⟩ := lstS_inv hy
      obtain ⟨v, rfl, r1⟩ := rs.one
      obtain ⟨us, e, z, q⟩ := hS.lst hx'
      obtain ⟨ws, e2, z2, q2⟩ := hS.lst hy'
      refine ⟨a, b, us, ws, rx.loc_inv, by rw [r1.loc_inv], e, e2, by rw [q.length, q2.length]; exact h.1, lst_set k hS e ?_ (q.append q2) rep_non h.2⟩
      rw [List.length_append, q.length, q2.length]
      exact h.1
    · exact h.elim
  | reverse =>
    refine ⟨_, fun _ => .mk _ PySem.F.slot_list_reverse PySem.F.type_list_reverse mt_reverse, fun x ps S vx vs H Q0 Q hS rx rs k ⟨_, h⟩ => ?_⟩
    unfold bmS at h
    split at h <;> first | contradiction | skip
    split at h
    · rename_i a xs hx
      obtain ⟨rfl, hx'⟩ := lstS_inv hx
      obtain ⟨us, e, z, q⟩ := hS.lst hx'
      exact ⟨a, us, rx.loc_inv, rs.nil_inv, e, lst_set k hS e (by simpa using z) q.reverse rep_non h⟩
    · exact h.elim
  | pop =>
    by_cases hn : n = 0
    · refine ⟨_, fun _ => .mk _ PySem.F.slot_list_pop PySem.F.type_list_pop mt_pop, fun x ps S vx vs H Q0 Q hS rx rs k ⟨hl, h⟩ => ?_⟩
      unfold bmS at h
      split at h <;> first | contradiction | skip
      · split at h
        · rename_i a xs hx
          obtain ⟨rfl, hx'⟩ := lstS_inv hx
          obtain ⟨us, e, z, q⟩ := hS.lst hx'
          obtain ⟨y, h1, h2⟩ := h
          obtain ⟨v, e1, r1⟩ := q.get h1
          refine ⟨a, us, v, rx.loc_inv, rs.nil_inv, e, by rw [q.length]; exact e1, lst_set k hS e (by rw [List.length_dropLast]; omega) q.dropLast r1 h2⟩
        · exact h.elim
      · simp at hl; omega
    · refine ⟨_, fun _ => .mk _ PySem.F.slot_list_pop PySem.F.type_list_pop mt_popAt, fun x ps S vx vs H Q0 Q hS rx rs k ⟨hl, h⟩ => ?_⟩
      unfold bmS at h
      split at h <;> first | contradiction | skip
      · simp at hl; omega
      · split at h
        · rename_i a xs hx
          obtain ⟨rfl, hx'⟩ := lstS_inv hx
          obtain ⟨us, e, z, q⟩ := hS.lst hx'
          obtain ⟨j, y, h0, h1, h2⟩ := h (by rw [← q.length]; exact z)
          obtain ⟨v, e1, r1⟩ := q.get h1
          obtain ⟨u, rfl, ru⟩ := rs.one
          have hz := sizeLine_eq
          have hb := ix_bound h0 (by rw [← q.length]; exact z)
          refine ⟨a, us, _, j, v, rx.loc_inv, by rw [ru.int_inv], e, hb.1, hb.2, by rw [q.length]; exact h0, e1, lst_set k hS e (Nat.le_trans (len_erase _ _) z) (q.eraseIdx j) r1 h2⟩
        · exact h.elim
  | index =>
    refine ⟨_, fun _ => .mk _ PySem.F.slot_list_index PySem.F.type_list_index (mt_indexD hu), fun x ps S vx vs H Q0 Q hS rx rs k ⟨_, h⟩ => ?_⟩
    unfold bmS at h
    split at h <;> first | contradiction | skip
    split at h
    · rename_i a xs hx
      obtain ⟨rfl, hx'⟩ := lstS_inv hx
      obtain ⟨v, rfl, r1⟩ := rs.one
      obtain ⟨d, ds, j, z, h1, h2, h3, h4, h5, h6⟩ := h
      have ha : dataS S 63 (.loc a) = some (.list ds) := by simp [dataS, hx', h2]
      obtain ⟨da, g1, g2⟩ := dataS_ok hS 63 (.loc a) vx (.list ds) rx ha
      obtain ⟨dv, g3, g4⟩ := dataS_ok hS 62 _ v d r1 h1
      rw [hK]
      exact ⟨a, v, d, ds, j, z, rx.loc_inv, rfl, by rw [← rx.loc_inv]; exact da, dv, shaped_ok g1 g2 (by omega), shaped_ok g3 g4 (by omega), h3, h4, h5, here k hS rep_int h6⟩
    · exact h.elim
  | get => exact ⟨fun _ _ _ _ => True, fun hm => by simp at hm, fun _ _ _ _ _ _ _ _ _ _ _ _ _ => trivial⟩
  | _ => exact ⟨fun _ _ _ _ => False, fun hm => by simp at hm, fun x ps S vx vs H Q0 Q hS rx rs k ⟨_, h⟩ => by unfold bmS at h; split at h <;> first | contradiction | exact h.elim⟩

/-! ### what is walked -/
structure WalksI (B : Bs) (J : It) (items : List P) (Gd : Store → Prop) (H0 : Hp) : Prop where
  big : items.length ≤ sizeLine
  go : ∀ (i : Nat) H S, RelS B S H → Ext H0 H → Gd S → i < items.length → J.go i H
  stop : ∀ H S, RelS B S H → Ext H0 H → Gd S → J.stop items.length H
  yld : ∀ (i : Nat) H S x H', RelS B S H → Ext H0 H → Gd S → i < items.length → J.yld i H x H' → Ext H H' ∧ RelS B S H' ∧ ∃ p, items[i]? = some p ∧ Rep B H' p x
theorem walks_list {H0 : Hp} {a : Addr} {items : List P} (big : items.length ≤ sizeLine) : WalksI B (Itl B.K a) items (fun S' => S' a = some (.lst items)) H0 where
  big := big
  go := fun i H S hS _ g hi => by
    obtain ⟨vs, e, z, r⟩ := hS.lst g
    obtain ⟨v, e1, _⟩ := r.get (i := i) (p := items[i]) (by simp [hi])
    exact ⟨vs, v, SqL.of e, e1⟩
  stop := fun H S hS _ g => by
    obtain ⟨vs, e, z, r⟩ := hS.lst g
    exact ⟨vs, SqL.of e, Nat.le_of_eq r.length⟩
  yld := fun i H S x H' hS _ g hi y => by
    obtain ⟨rfl, y⟩ := y
    obtain ⟨vs, e, z, r⟩ := hS.lst g
    obtain ⟨p, e1, r1⟩ := r.get' (y vs (SqL.of e))
    exact ⟨.refl _, hS, p, e1, r1⟩
theorem walks_frl {H0 : Hp} {a : Addr} {items : List P} {vs : List V} {Gd : Store → Prop} (s : ∀ H, Ext H0 H → SqL B.K H a vs) (r : Reps B H0 items vs) (big : items.length ≤ sizeLine) : WalksI B (Itl B.K a) items Gd H0 where
  big := big
  go := fun i H S hS e g hi => by
    obtain ⟨v, e1, _⟩ := r.get (i := i) (p := items[i]) (by simp [hi])
    exact ⟨vs, v, s H e, e1⟩
  stop := fun H S hS e g => ⟨vs, s H e, Nat.le_of_eq r.length⟩
  yld := fun i H S x H' hS e g hi y => by
    obtain ⟨rfl, y⟩ := y
    obtain ⟨p, e1, r1⟩ := r.get' (y vs (s _ e))
    exact ⟨.refl _, hS, p, e1, r1.ext e⟩
theorem walks_tup {H0 : Hp} {a : Addr} {items : List P} {vs : List V} {Gd : Store → Prop} (s : SqT B.K H0 a vs) (r : Reps B H0 items vs) (big : items.length ≤ sizeLine) : WalksI B (Itt B.K a) items Gd H0 where
  big := big
  go := fun i H S hS e g hi => by
    obtain ⟨v, e1, _⟩ := r.get (i := i) (p := items[i]) (by simp [hi])
    exact ⟨vs, v, e.sqt s, e1⟩
  stop := fun H S hS e g => ⟨vs, e.sqt s, Nat.le_of_eq r.length⟩
  yld := fun i H S x H' hS e g hi y => by
    obtain ⟨rfl, y⟩ := y
    obtain ⟨p, e1, r1⟩ := r.get' (y vs (e.sqt s))
    exact ⟨.refl _, hS, p, e1, r1.ext e⟩
theorem walks_range {H0 : Hp} {lo : Int} {n : Nat} {Gd : Store → Prop} {items : List P} (hi : items = (List.range n).map fun (i : Nat) => P.int (lo + i)) (hn : n ≤ sizeLine) : WalksI B (Itr lo n) items Gd H0 where
  big := by subst hi; simpa using hn
  go := fun i H S hS e g h => by subst hi; show i < n; simpa using h
  stop := fun H S hS e g => by subst hi; show n ≤ _; simp
  yld := fun i H S x H' hS e g h y => by
    obtain ⟨rfl, rfl⟩ := y
    subst hi
    refine ⟨.refl _, hS, .int (lo + i), ?_, rep_int⟩
    have h' : i < n := by simpa using h
    simp [h']
theorem walks_rangeC {H0 : Hp} {lo c : Int} {n : Nat} {Gd : Store → Prop} {items : List P} (hi : items = (List.range n).map fun (i : Nat) => P.int (lo + (i : Nat) * c)) (hn : n ≤ sizeLine) : WalksI B (Itc lo c n) items Gd H0 where
  big := by subst hi; simpa using hn
  go := fun i H S hS e g h => by subst hi; show i < n; simpa using h
  stop := fun H S hS e g => by subst hi; show n ≤ _; simp
  yld := fun i H S x H' hS e g h y => by
    obtain ⟨rfl, rfl⟩ := y
    subst hi
    refine ⟨.refl _, hS, .int (lo + (i : Nat) * c), ?_, rep_int⟩
    have h' : i < n := by simpa using h
    simp [h']
theorem rgC_pos {i j c : Int} (hc : 0 < c) (hc2 : c < 2 ^ 20) (ha : -(2 ^ 62) ≤ i) (ha' : i < 2 ^ 62) (hb : -(2 ^ 62) ≤ j) (hb' : j < 2 ^ 62) : RgC i j c (if i < j then (j - i - 1) / c + 1 else 0).toNat := by
  have sz : Builtin.Range.rangeSize i j c = (if i < j then (j - i - 1) / c + 1 else 0) := by
    unfold Builtin.Range.rangeSize
    rw [if_pos (by omega)]
  have d0 : i < j → 0 ≤ (j - i - 1) / c := fun h => Int.ediv_nonneg (by omega) (by omega)
  have d1 : i < j → c * ((j - i - 1) / c) ≤ j - i - 1 := fun h => Int.mul_ediv_self_le (by omega)
  have d2 : i < j → (j - i - 1) / c ≤ j - i - 1 := fun h => by
    have := Int.ediv_le_self c (show 0 ≤ j - i - 1 by omega)
    omega
  refine ⟨by omega, by omega, ?_, ?_⟩
  · unfold Builtin.Range.small
    rw [sz]
    simp only [Builtin.Range.rangeFitsLong, Bool.and_eq_true, Bool.or_eq_true, decide_eq_true_eq, beq_iff_eq, if_pos (show c > 0 from hc)]
    by_cases h : i < j
    · have h0 := d0 h
      have h1 := d1 h
      have h2 := d2 h
      rw [if_pos h]
      generalize (j - i - 1) / c = q at h0 h1 h2
      exact ⟨⟨⟨⟨⟨by omega, by omega⟩, by omega, by omega⟩, by omega, by omega⟩, by omega, by omega⟩, .inr ⟨by omega, by omega⟩⟩
    · rw [if_neg h]
      exact ⟨⟨⟨⟨⟨by omega, by omega⟩, by omega, by omega⟩, by omega, by omega⟩, by omega, by omega⟩, .inl rfl⟩
  · rw [sz]
    by_cases h : i < j
    · have := d0 h
      rw [if_pos h]; omega
    · rw [if_neg h]; rfl
theorem walks_enum {H0 : Hp} {a : Addr} {items : List P} (big : items.length ≤ sizeLine) : WalksI B (Ite B.K a) (items.zipIdx.map fun p => P.tup [.int p.2, p.1]) (fun S' => S' a = some (.lst items)) H0 where
  big := by simpa using big
  go := fun i H S hS _ g hi => by
    obtain ⟨vs, e, z, r⟩ := hS.lst g
    have hi' : i < items.length := by simpa using hi
    obtain ⟨v, e1, _⟩ := r.get (i := i) (p := items[i]) (by simp [hi'])
    exact ⟨vs, v, SqL.of e, e1⟩
  stop := fun H S hS _ g => by
    obtain ⟨vs, e, z, r⟩ := hS.lst g
    exact ⟨vs, SqL.of e, by simp [r.length]⟩
  yld := fun i H S x H' hS _ g hi y => by
    obtain ⟨T, v, rfl, hT, rfl, y⟩ := y
    obtain ⟨vs, e, z, r⟩ := hS.lst g
    obtain ⟨p, e1, r1⟩ := r.get' (y vs (SqL.of e))
    refine ⟨.fresh hT, hS.ext hT, .tup [.int i, p], ?_, rep_tup (SqT.of L2.upd_same) (by show 2 ≤ sizeLine; decide) (.cons rep_int (.cons (r1.ext (.fresh hT)) .nil))⟩
    have hi' : i < items.length := by simpa using hi
    simp only [List.getElem?_map, List.getElem?_zipIdx, e1, Option.map_some, Nat.zero_add]
theorem zipP_get {xs ys : List P} {i : Nat} {p q : P} (h1 : xs[i]? = some p) (h2 : ys[i]? = some q) : (zipP xs ys)[i]? = some (.tup [p, q]) := by
  unfold zipP
  rw [List.getElem?_map, (List.getElem?_zip_eq_some (z := (p, q))).mpr ⟨h1, h2⟩]
  rfl
theorem zipP_len {xs ys : List P} : (zipP xs ys).length = min xs.length ys.length := by simp [zipP]
theorem walks_zip {H0 : Hp} {a b : Addr} {xs ys : List P} (big : xs.length ≤ sizeLine) : WalksI B (Itz B.K a b) (zipP xs ys) (fun S' => S' a = some (.lst xs) ∧ S' b = some (.lst ys)) H0 where
  big := by rw [zipP_len]; omega
  go := fun i H S hS _ g hi => by
    rw [zipP_len] at hi
    obtain ⟨vs, e, z, r⟩ := hS.lst g.1
    obtain ⟨us, e2, z2, r2⟩ := hS.lst g.2
    have h1 : i < xs.length := by omega
    have h2 : i < ys.length := by omega
    obtain ⟨v, e3, _⟩ := r.get (i := i) (p := xs[i]) (by simp [h1])
    obtain ⟨u, e4, _⟩ := r2.get (i := i) (p := ys[i]) (by simp [h2])
    exact ⟨vs, us, v, u, SqL.of e, SqL.of e2, e3, e4⟩
  stop := fun H S hS _ g => by
    obtain ⟨vs, e, z, r⟩ := hS.lst g.1
    obtain ⟨us, e2, z2, r2⟩ := hS.lst g.2
    refine ⟨vs, us, SqL.of e, SqL.of e2, ?_⟩
    rw [zipP_len, r.length, r2.length]
    omega
  yld := fun i H S x H' hS _ g hi y => by
    obtain ⟨T, v, u, rfl, hT, rfl, y1, y2⟩ := y
    obtain ⟨vs, e, z, r⟩ := hS.lst g.1
    obtain ⟨us, e2, z2, r2⟩ := hS.lst g.2
    obtain ⟨p, e3, r3⟩ := r.get' (y1 vs (SqL.of e))
    obtain ⟨q, e4, r4⟩ := r2.get' (y2 us (SqL.of e2))
    exact ⟨.fresh hT, hS.ext hT, .tup [p, q], zipP_get e3 e4, rep_tup (SqT.of L2.upd_same) (by show 2 ≤ sizeLine; decide) (.cons (r3.ext (.fresh hT)) (.cons (r4.ext (.fresh hT)) .nil))⟩
theorem walks_zipT {H0 : Hp} {a b : Addr} {xs ys : List P} {vs us : List V} {Gd : Store → Prop} (s1 : SqT B.K H0 a vs) (s2 : SqT B.K H0 b us) (r : Reps B H0 xs vs) (r2 : Reps B H0 ys us) (big : xs.length ≤ sizeLine) : WalksI B (RZ.ItzT B.K a b) (zipP xs ys) Gd H0 where
  big := by rw [zipP_len]; omega
  go := fun i H S hS e g hi => by
    rw [zipP_len] at hi
    have h1 : i < xs.length := by omega
    have h2 : i < ys.length := by omega
    obtain ⟨v, e3, _⟩ := r.get (i := i) (p := xs[i]) (by simp [h1])
    obtain ⟨u, e4, _⟩ := r2.get (i := i) (p := ys[i]) (by simp [h2])
    exact ⟨vs, us, v, u, e.sqt s1, e.sqt s2, e3, e4⟩
  stop := fun H S hS e g => by
    refine ⟨vs, us, e.sqt s1, e.sqt s2, ?_⟩
    rw [zipP_len, r.length, r2.length]
    omega
  yld := fun i H S x H' hS e g hi y => by
    obtain ⟨T, v, u, rfl, hT, rfl, y1, y2⟩ := y
    obtain ⟨p, e3, r3⟩ := r.get' (y1 vs (e.sqt s1))
    obtain ⟨q, e4, r4⟩ := r2.get' (y2 us (e.sqt s2))
    exact ⟨.fresh hT, hS.ext hT, .tup [p, q], zipP_get e3 e4, rep_tup (SqT.of L2.upd_same) (by show 2 ≤ sizeLine; decide) (.cons ((r3.ext e).ext (.fresh hT)) (.cons ((r4.ext e).ext (.fresh hT)) .nil))⟩
theorem walks_zipTL {H0 : Hp} {a b : Addr} {xs ys : List P} {vs : List V} (s1 : SqT B.K H0 a vs) (r : Reps B H0 xs vs) (big : xs.length ≤ sizeLine) : WalksI B (CZ.Itk false true B.K a b) (zipP xs ys) (fun S' => S' b = some (.lst ys)) H0 where
  big := by rw [zipP_len]; omega
  go := fun i H S hS e g hi => by
    rw [zipP_len] at hi
    obtain ⟨us, e2, z2, r2⟩ := hS.lst g
    have h1 : i < xs.length := by omega
    have h2 : i < ys.length := by omega
    obtain ⟨v, e3, _⟩ := r.get (i := i) (p := xs[i]) (by simp [h1])
    obtain ⟨u, e4, _⟩ := r2.get (i := i) (p := ys[i]) (by simp [h2])
    exact ⟨vs, us, v, u, e.sqt s1, SqL.of e2, e3, e4⟩
  stop := fun H S hS e g => by
    obtain ⟨us, e2, z2, r2⟩ := hS.lst g
    refine ⟨vs, us, e.sqt s1, SqL.of e2, ?_⟩
    rw [zipP_len, r.length, r2.length]
    omega
  yld := fun i H S x H' hS e g hi y => by
    obtain ⟨T, v, u, rfl, hT, rfl, y1, y2⟩ := y
    obtain ⟨us, e2, z2, r2⟩ := hS.lst g
    obtain ⟨p, e3, r3⟩ := r.get' (y1 vs (e.sqt s1))
    obtain ⟨q, e4, r4⟩ := r2.get' (y2 us (SqL.of e2))
    exact ⟨.fresh hT, hS.ext hT, .tup [p, q], zipP_get e3 e4, rep_tup (SqT.of L2.upd_same) (by show 2 ≤ sizeLine; decide) (.cons ((r3.ext e).ext (.fresh hT)) (.cons (r4.ext (.fresh hT)) .nil))⟩
theorem walks_zipLT {H0 : Hp} {a b : Addr} {xs ys : List P} {us : List V} (s2 : SqT B.K H0 b us) (r2 : Reps B H0 ys us) (big : xs.length ≤ sizeLine) : WalksI B (CZ.Itk true false B.K a b) (zipP xs ys) (fun S' => S' a = some (.lst xs)) H0 where
  big := by rw [zipP_len]; omega
  go := fun i H S hS e g hi => by
    rw [zipP_len] at hi
    obtain ⟨vs, e2, z2, r⟩ := hS.lst g
    have h1 : i < xs.length := by omega
    have h2 : i < ys.length := by omega
    obtain ⟨v, e3, _⟩ := r.get (i := i) (p := xs[i]) (by simp [h1])
    obtain ⟨u, e4, _⟩ := r2.get (i := i) (p := ys[i]) (by simp [h2])
    exact ⟨vs, us, v, u, SqL.of e2, e.sqt s2, e3, e4⟩
  stop := fun H S hS e g => by
    obtain ⟨vs, e2, z2, r⟩ := hS.lst g
    refine ⟨vs, us, SqL.of e2, e.sqt s2, ?_⟩
    rw [zipP_len, r.length, r2.length]
    omega
  yld := fun i H S x H' hS e g hi y => by
    obtain ⟨T, v, u, rfl, hT, rfl, y1, y2⟩ := y
    obtain ⟨vs, e2, z2, r⟩ := hS.lst g
    obtain ⟨p, e3, r3⟩ := r.get' (y1 vs (SqL.of e2))
    obtain ⟨q, e4, r4⟩ := r2.get' (y2 us (e.sqt s2))
    exact ⟨.fresh hT, hS.ext hT, .tup [p, q], zipP_get e3 e4, rep_tup (SqT.of L2.upd_same) (by show 2 ≤ sizeLine; decide) (.cons (r3.ext (.fresh hT)) (.cons ((r4.ext e).ext (.fresh hT)) .nil))⟩
theorem walks_enumT {H0 : Hp} {a : Addr} {items : List P} {vs : List V} {Gd : Store → Prop} (s : SqT B.K H0 a vs) (r : Reps B H0 items vs) (big : items.length ≤ sizeLine) : WalksI B (IteT B.K a) (items.zipIdx.map fun p => P.tup [.int p.2, p.1]) Gd H0 where
  big := by simpa using big
  go := fun i H S hS e g hi => by
    have hi' : i < items.length := by simpa using hi
    obtain ⟨v, e1, _⟩ := r.get (i := i) (p := items[i]) (by simp [hi'])
    exact ⟨vs, v, e.sqt s, e1⟩
  stop := fun H S hS e g => ⟨vs, e.sqt s, by simp [r.length]⟩
  yld := fun i H S x H' hS e g hi y => by
    obtain ⟨T, v, rfl, hT, rfl, y⟩ := y
    obtain ⟨p, e1, r1⟩ := r.get' (y vs (e.sqt s))
    refine ⟨.fresh hT, hS.ext hT, .tup [.int i, p], ?_, rep_tup (SqT.of L2.upd_same) (by show 2 ≤ sizeLine; decide) (.cons rep_int (.cons ((r1.ext e).ext (.fresh hT)) .nil))⟩
    simp only [List.getElem?_map, List.getElem?_zipIdx, e1, Option.map_some, Nat.zero_add]
end

/-- a list or a tuple, whichever -/
def iSeq (K : PySem.W.Frag) (tl : TE) : TI := fun σ H R => tl σ H fun x H1 => ∃ a, x = .ref a ∧ (((∃ xs, SqL K H1 a xs) ∧ R (Itl K a) H1) ∨ ((∃ xs, SqT K H1 a xs) ∧ R (Itt K a) H1))
theorem pi_seq {X : Cx} {tg l : PySem.Expr} {tl : TE} (hl : PE X l tl) : PI X tg l (iSeq X.K tl) := by
  refine ⟨fun pins s σ H R I h => ?_⟩
  refine thn (hl.run pins s σ H _ I h) fun v s1 ⟨x, H1, I1, r1, q1⟩ => ?_
  obtain ⟨a, e, ⟨⟨xs, hq⟩, q⟩ | ⟨⟨xs, hq⟩, q⟩⟩ := q1
  · subst e
    cases r1
    obtain ⟨its, rv, p, hz⟩ := I1.list hq
    refine wpAny_pyIter_list p.isList ?_
    refine ⟨s1.heap.objs.size, [s1.heap.objs.size], _, _, H1, rfl, I1.kept (t' := s1.toks) fun b o e => Heap.get?_push_of_some _ e, turn_list a _, ⟨_, Heap.get?_push_size _ rfl, rfl, rfl⟩, fun b hb => ?_, q⟩
    have e : b = s1.heap.objs.size := by simpa using hb
    subst e
    exact I1.fpOk (Nat.le_refl _) (I1.hok.fresh (Nat.le_refl _))
  · subst e
    cases r1
    obtain ⟨its, rv, p, hz⟩ := I1.tuple hq
    refine wpAny_pyIter_tuple (show s1.heap.IsTuple a its.toArray from p) ?_
    refine ⟨s1.heap.objs.size, [s1.heap.objs.size], _, _, H1, rfl, I1.kept (t' := s1.toks) fun b o e => Heap.get?_push_of_some _ e, turn_tuple a _, ⟨_, Heap.get?_push_size _ rfl, rfl, rfl⟩, fun b hb => ?_, q⟩
    have e : b = s1.heap.objs.size := by simpa using hb
    subst e
    exact I1.fpOk (Nat.le_refl _) (I1.hok.fresh (Nat.le_refl _))
end Core
end
section
set_option maxRecDepth 100000
/-! Core7: what the program's top gives; the translation of expressions is sound. -/
namespace Core
open PySem L2 PySem.Spec PyProof.Rows

def OkX (B : Bs) (H : Hp) (E0 : QE) (E : XK) : Prop := ∀ ex S' H' cls d, Ext H H' → RelS B S' H' → ExR B H' ex cls d → E0 ex S' → E cls d H'
theorem OkX.at {B : Bs} {H H1 : Hp} {E0 : QE} {E : XK} (h : OkX B H E0 E) (e : Ext H H1) : OkX B H1 E0 E := fun ex S' H' cls d e' => h ex S' H' cls d (e.trans e')
theorem OkX.no {B : Bs} {H : Hp} {E : XK} : OkX B H noE E := fun _ _ _ _ _ _ _ _ h => h.elim
def OkA (B : Bs) (H : Hp) (Q0 : List P → Store → Prop) (Q : List V → Hp → Prop) : Prop := ∀ ps S' H' vs, Ext H H' → RelS B S' H' → Reps B H' ps vs → Q0 ps S' → Q vs H'
/-- a def's promise, from its clean one -/
def spOf (B : Bs) (n : Nat) (sp : PSpec) : Sp := fun vs H Q E => vs.length = n ∧ ∃ (ps : List P) (S : Store) (Q0 : QP) (E0 : QE), Reps B H ps vs ∧ RelS B S H ∧ OkQ B H Q0 Q ∧ OkX B H E0 E ∧ sp ps S Q0 E0
def bltNames : List Str := ["len", "int", "list", "tuple", "abs", "min", "max", "sum", "any", "all", "bool", "isinstance", "range", "enumerate", "str", "zip", "dict", "repr"]

/-- what __init__ of an error with one field promises -/
def spXi (C : Addr) (y : Str) : Sp := fun vs H Q _ => ∃ a v, vs = [.ref a, v] ∧ H a = some (exo a C none) ∧ ∀ dx, H dx = none → dx ≠ a → Q .non (L2.upd (L2.upd H dx (exd dx [(y, v)])) a (exo a C (some dx)))
/-- what the top has written, and what the defs keep, k calls deep -/
structure PFact (P : Program) (w : World) (base : Heap) (B : Bs) (G : Env) (k : Nat) : Prop where
  wd : w = B.w
  con : ∀ (i : Nat) (x : Str), B.T.cns[i]? = some x → ∃ v u, B.mg x = some u ∧ RelV v u ∧ ∀ H, Rep B H (G.con i) v
  fnv : ∀ (i : Nat) (x : Str), B.T.fns[i]? = some x → ∃ a, B.mg x = some (.ref a) ∧ PySem.W.keepIn B.K (.ref a) = true
  clv : ∀ (i : Nat) (x : Str), B.T.cls[i]? = some x → ∃ a, B.mg x = some (.ref a) ∧ PySem.W.keepIn B.K (.ref a) = true
  fn : ∀ (i : Nat) (x : Str) (f : Addr) as S Q E, B.T.fns[i]? = some x → B.mg x = some (.ref f) → G.fn i as S Q E → ∃ fd ps, Binds B.K fd ps [] ∧ FnOk P w B.K B.mg base (L2.CX P w) k f fd ps (spOf B ps.length (G.fn i)) ∧ as.length = ps.length
  has : ∀ (i j : Nat) (x m : Str) (C : Addr), B.T.cls[i]? = some x → B.mg x = some (.ref C) → B.T.mts[j]? = some m → G.has i j = true → ∃ f, Meth B.K C m f
  mth : ∀ (i j : Nat) (x m : Str) (C f : Addr) as S Q E, B.T.cls[i]? = some x → B.mg x = some (.ref C) → B.T.mts[j]? = some m → Meth B.K C m f → G.mth i j as S Q E → ∃ fd ps, Binds B.K fd ps [] ∧ FnOk P w B.K B.mg base (L2.CX P w) k f fd ps (spOf B ps.length (G.mth i j)) ∧ as.length = ps.length
  ini : ∀ (i : Nat) (x : Str) (C : Addr) as S Q E, B.T.cls[i]? = some x → B.mg x = some (.ref C) → G.ini i as S Q E → ∃ f fd ps k', k = k' + 1 ∧ Cls B.K C ∧ (∀ (f : Nat) (y : Str), B.T.att[f]? = some y → NoAttr B.K C y) ∧ Mk B.K C f ∧ Binds B.K fd ps [] ∧
    FnOk P w B.K B.mg base (L2.CX P w) k' f fd ps (spOf B ps.length (G.ini i)) ∧ as.length = ps.length
  blt : ∀ x ∈ bltNames, B.mg x = none
  att : B.T.att.Nodup
  gm : GMono G
  xc : G.xc = B.T.xc
  lv : G.lv = k
  /-- an error's class is caught by its own name alone -/
  exm : ∀ (i j : Nat) (x y : Str) (C D : Addr), B.T.cls[i]? = some x → B.T.cls[j]? = some y → (B.T.xc i).isSome = true → (B.T.xc j).isSome = true → B.mg x = some (.ref C) → B.mg y = some (.ref D) → PySem.W.exmOne B.K (.ref C) (.ref D) = some (decide (i = j))
  xfs : ∀ (i : Nat) (x : Str) (C : Addr), B.T.cls[i]? = some x → (B.T.xc i).isSome = true → B.mg x = some (.ref C) → XfC B.K C ∧ (∀ (f : Nat) (y : Str), B.T.att[f]? = some y → PySem.W.findIn B.K (.ref C) y = some none) ∧
    PySem.W.subIn B.K (.ref C) (.type "BaseException") = some true ∧ PySem.W.typeIn B.K (.ref C) = some (.type "type")
  xc0 : ∀ (i : Nat) (x : Str) (C : Addr), B.T.cls[i]? = some x → B.T.xc i = some none → B.mg x = some (.ref C) → PySem.W.excIn B.K C PySem.HandSPX.veTail "ValueError.__new__" = true
  xc1 : ∀ (i f : Nat) (x y : Str) (C : Addr), B.T.cls[i]? = some x → B.T.xc i = some (some f) → B.T.att[f]? = some y → B.mg x = some (.ref C) → ∃ fI fd ps, OexC B.K C ∧ PySem.W.findIn B.K (.ref C) "__init__" = some (some (.ref fI)) ∧ PySem.W.typeIn B.K (.ref fI) = some (.type "function") ∧
    Binds B.K fd ps [] ∧ FnOk P w B.K B.mg base L2.CX0 1 fI fd ps (spXi C y)
  xcf : ∀ (i f : Nat), B.T.xc i = some (some f) → ∃ y, B.T.att[f]? = some y
  dis : ∀ (i j : Nat) (x : Str), B.T.att[i]? = some x → B.T.mts[j]? = some x → False

/-- where an expression stands -/
structure XOk (B : Bs) (N : List Str) (G : Env) (k : Nat) (sc : Scope) (W : WX) (X : Cx) : Prop where
  hK : X.K = B.K
  hM : X.mg = B.mg
  hN : X.N = N
  nd : X.N.Nodup
  hS : X.env.scope = sc
  calm : X.calm = true
  room : Room k X.A
  tk : Takes X W
  pf : PFact X.prog X.w X.base B G k

def tE (B : Bs) (G : Env) (W : WX) (c : CE) : TE := fun σ H Q => ∃ (ρ : Loc) (S : Store) (Q0 : QP) (E0 : QE), RelL B H σ ρ ∧ RelS B S H ∧ OkQ B H Q0 Q ∧ OkX B H E0 (fun cls d H' => W cls d σ H') ∧ wpE G c ρ S Q0 E0
def tA (B : Bs) (G : Env) (W : WX) (cs : List CE) : TA := fun σ H Q => ∃ (ρ : Loc) (S : Store) (Q0 : List P → Store → Prop) (E0 : QE), RelL B H σ ρ ∧ RelS B S H ∧ OkA B H Q0 Q ∧ OkX B H E0 (fun cls d H' => W cls d σ H') ∧ wpEs G cs ρ S Q0 E0

theorem PE.imp {X : Cx} {e : PySem.Expr} {t t' : TE} (h : PE X e t) (k : ∀ σ H Q, t' σ H Q → t σ H Q) : PE X e t' := ⟨fun pins s σ H Q I hw => h.run pins s σ H Q I (k σ H Q hw)⟩
theorem PT.imp {X : Cx} {e : PySem.Expr} {t t' : TT} (h : PT X e t) (k : ∀ σ H Q, t' σ H Q → t σ H Q) : PT X e t' := ⟨fun pins s σ H Q I hw => h.run pins s σ H Q I (k σ H Q hw)⟩
theorem PA.imp {X : Cx} {e : List PySem.Expr} {t t' : TA} (h : PA X e t) (k : ∀ σ H Q, t' σ H Q → t σ H Q) : PA X e t' := ⟨fun pos pins s σ H Q I hw => h.run pos pins s σ H Q I (k σ H Q hw)⟩

def noStar : PySem.Expr → Bool
  | .Starred .. => false
  | _ => true
theorem star_cons {e : PySem.Expr} {es : List PySem.Expr} {env : PySem.Env} (h : noStar e = true) : starEach (e :: es) env = (false, eval e env) :: starEach es env := by
  cases e <;> first | rfl | cases h
theorem star_all {env : PySem.Env} {pos : Pos} : ∀ {es : List PySem.Expr}, (∀ e ∈ es, noStar e = true) → (backTo pos (starEach es env)).any (·.1) = false
  | [], _ => rfl
  | e :: es, h => by
    rw [star_cons (h e List.mem_cons_self)]
    have ih := star_all (env := env) (pos := pos) (es := es) fun e he => h e (List.mem_cons_of_mem _ he)
    unfold backTo at ih ⊢
    rw [List.map_cons, List.any_cons, ih]
    rfl
theorem star_all' {env : PySem.Env} {pos : Pos} : ∀ {es : List PySem.Expr}, (∀ e ∈ es, noStar e = true) → (backTo pos (starEach es env)).all (fun x => !x.1) = true
  | [], _ => rfl
  | e :: es, h => by
    rw [star_cons (h e List.mem_cons_self)]
    have ih := star_all' (env := env) (pos := pos) (es := es) fun e he => h e (List.mem_cons_of_mem _ he)
    unfold backTo at ih ⊢
    rw [List.map_cons, List.all_cons, ih]
    rfl
theorem trE_noStar {T : Tab} {N : List Str} {n : Nat} {sc : Scope} {e : PySem.Expr} {c : CE} (h : trE T N n sc e = some c) : noStar e = true := by
  cases n with
  | zero => simp [trE] at h
  | succ n => cases e <;> first | rfl | simp [trE] at h
theorem mapM_noStar {T : Tab} {N : List Str} {n : Nat} {sc : Scope} : ∀ {es : List PySem.Expr} {cs : List CE}, es.mapM (trE T N n sc) = some cs → ∀ e ∈ es, noStar e = true
  | [], _, _, e, he => by simp at he
  | a :: es, cs, h, e, he => by
    rw [List.mapM_cons] at h
    cases h1 : trE T N n sc a with
    | none => rw [h1] at h; cases h
    | some c =>
      cases h2 : es.mapM (trE T N n sc) with
      | none => rw [h1, h2] at h; cases h
      | some ds =>
        rcases List.mem_cons.mp he with rfl | he
        · exact trE_noStar h1
        · exact mapM_noStar h2 e he
theorem mapM_len {α β : Type} {f : α → Option β} : ∀ {es : List α} {cs : List β}, es.mapM f = some cs → cs.length = es.length
  | [], cs, h => by simp at h; subst h; rfl
  | a :: es, cs, h => by
    rw [List.mapM_cons] at h
    cases h1 : f a with
    | none => rw [h1] at h; cases h
    | some c =>
      cases h2 : es.mapM f with
      | none => rw [h1, h2] at h; cases h
      | some ds => rw [h1, h2] at h; cases h; simp [mapM_len h2]

theorem wpEs_len {G : Env} : ∀ {cs : List CE} {ρ : Loc} {S : Store} {Q : List P → Store → Prop} {E : QE}, GMono G → wpEs G cs ρ S Q E → wpEs G cs ρ S (fun ps S' => ps.length = cs.length ∧ Q ps S') E
  | [], ρ, S, Q, E, gm, h => by unfold wpEs at h ⊢; exact ⟨rfl, h⟩
  | c :: cs, ρ, S, Q, E, gm, h => by
    unfold wpEs at h ⊢
    refine wpE_mono gm c (fun p S1 h => ?_) (fun _ _ h => h) h
    exact wpEs_mono gm cs (fun ps S2 h => ⟨by simp [h.1], h.2⟩) (fun _ _ h => h) (wpEs_len gm h)

section
variable {B : Bs} {N : List Str} {G : Env} {k : Nat} {sc : Scope} {W : WX} {X : Cx}
theorem slotOf_ok {x : Str} {i : Nat} (h : slotOf N sc x = some i) : N[i]? = some x ∧ (sc.names.lookup x = some .local ∨ sc.names.lookup x = some .cell ∨ sc.names.lookup x = some .free) ∧ (x == ("__debug__" : Str)) = false ∧ (x == ("__classdict__" : Str)) = false := by
  unfold slotOf at h
  split at h
  · cases h
  · rename_i hx
    have hx' : (x == ("__debug__" : Str)) = false ∧ (x == ("__classdict__" : Str)) = false := by simpa using hx
    have ix : ∀ {j}, N.idxOf? x = some j → N[j]? = some x := fun {j} e => by
      rw [List.idxOf?_eq_some_iff] at e
      obtain ⟨h1, h2, _⟩ := e
      rw [List.getElem?_eq_getElem h1]
      simpa using h2
    split at h
    · rename_i e; exact ⟨ix h, .inl e, hx'⟩
    · rename_i e; exact ⟨ix h, .inr (.inl e), hx'⟩
    · rename_i e; exact ⟨ix h, .inr (.inr e), hx'⟩
    · cases h
theorem idx_get {l : List Str} {x : Str} {j : Nat} (e : l.idxOf? x = some j) : l[j]? = some x := by
  rw [List.idxOf?_eq_some_iff] at e
  obtain ⟨h1, h2, _⟩ := e
  rw [List.getElem?_eq_getElem h1]
  simpa using h2
theorem isGl_ok (ok : XOk B N G k sc W X) {x : Str} (h : isGl sc x = true) : Gl X x ∧ (x == ("__debug__" : Str)) = false := by
  unfold isGl at h
  simp only [Bool.and_eq_true, beq_iff_eq, Bool.not_eq_true'] at h
  refine ⟨?_, h.2⟩
  show X.env.scope.names.lookup x = some .globalImplicit
  rw [ok.hS]
  exact h.1
theorem pa_of (IH : ∀ e c, trE B.T N n sc e = some c → PE X e (tE B G W c)) : ∀ {es : List PySem.Expr} {cs : List CE}, es.mapM (trE B.T N n sc) = some cs → PA X es (tA B G W cs)
  | [], cs, h => by
    simp at h; subst h
    refine PA.imp pa_nil fun σ H Q ⟨ρ, S, Q0, E0, hL, hS, kQ, kE, h⟩ => ?_
    unfold wpEs at h
    exact kQ _ _ _ _ (.refl H) hS .nil h
  | e :: es, cs, h => by
    rw [List.mapM_cons] at h
    cases h1 : trE B.T N n sc e with
    | none => rw [h1] at h; cases h
    | some c =>
      cases h2 : es.mapM (trE B.T N n sc) with
      | none => rw [h1, h2] at h; cases h
      | some ds =>
        rw [h1, h2] at h
        cases h
        refine PA.imp (pa_cons (IH e c h1) (pa_of IH h2) (star_cons (trE_noStar h1))) fun σ H Q ⟨ρ, S, Q0, E0, hL, hS, kQ, kE, h⟩ => ?_
        unfold wpEs at h
        refine ⟨ρ, S, _, E0, hL, hS, fun p S1 H1 v e1 s1 r1 q1 => ?_, kE, h⟩
        exact ⟨ρ, S1, _, E0, hL.ext e1, s1, fun ps S2 H2 vs e2 s2 r2 q2 => kQ _ _ _ _ (e1.trans e2) s2 (.cons (r1.ext e2) r2) q2, kE.at e1, q1⟩

/-- a call of a def, what it promises known when the arguments are there -/
def tCallD (X : Cx) (f : Addr) (E : L2.St → XK) (t : TA) : TE := fun σ H Q => t σ H fun vs H1 => ∃ fd ps sp k, FnOk X.prog X.w X.K X.mg X.base (L2.CX X.prog X.w) k f fd ps sp ∧ Room k X.A ∧ Binds X.K fd ps [] ∧ sp vs H1 Q (E σ)
theorem pe_callD0 {f : Addr} {E : L2.St → XK} {x : Str} {p pos : Pos} (hg : Gl X x) (hm : X.mg x = some (.ref f)) (hk : PySem.W.keepIn X.K (.ref f) = true)
    (hx : ∀ σ, PassesAt (L2.CX X.prog X.w) X σ (E σ)) (hdb : (x == ("__debug__" : Str)) = false) : PE X (.Call (.Name x p) [] [] pos) (tCallD X f E tNil) := by
  refine ⟨fun pins s σ H Q I ⟨fd, ps, sp, k, F, hr, hb, h⟩ => ?_⟩
  refine wpAny_Call_Name_kw (ld_glob I hg hm ?_ hdb)
  exact PySem.W.callWith_K0 I.kIn hk (run_fnS (us := []) F hr hb (hx σ) I .nil h)
theorem pe_callD {f : Addr} {E : L2.St → XK} {x : Str} {p pos : Pos} {e : PySem.Expr} {es : List PySem.Expr} {t : TA} (hg : Gl X x) (hm : X.mg x = some (.ref f)) (hk : PySem.W.keepIn X.K (.ref f) = true)
    (hx : ∀ σ, PassesAt (L2.CX X.prog X.w) X σ (E σ)) (ha : PA X (e :: es) t) (hdb : (x == ("__debug__" : Str)) = false) (he : starEach (e :: es) X.env = (false, eval e X.env) :: starEach es X.env) (hpl : (backTo pos (starEach es X.env)).any (·.1) = false) :
    PE X (.Call (.Name x p) (e :: es) [] pos) (tCallD X f E t) := by
  refine ⟨fun pins s σ H Q I h => ?_⟩
  refine wpAny_Call_Name_kw (ld_glob I hg hm ?_ hdb)
  refine PySem.W.callWith_K (h₀ := X.base) I.ok.mod.kin hk (thn (ha.run pos pins s σ H _ I h) fun us s1 ⟨vs, H1, I1, r, fd, ps, sp, k, F, hr, hb, q⟩ => ⟨I1.kIn, ?_⟩) he hpl
  exact run_fnS F hr hb (hx σ) I1 r q

/-- a method's call, the class known when the object is there -/
def tMethD (X : Cx) (m : Str) (E : L2.St → XK) (ta : TE) (t : TA) : TE := fun σ H Q => ta σ H fun x H1 => ∃ a C dx fs f, x = .ref a ∧ H1 a = some (.ins C dx fs) ∧ fs.lookup m = none ∧ Cls X.K C ∧ Meth X.K C m f ∧
  t σ H1 fun vs H2 => ∃ fd ps sp k, FnOk X.prog X.w X.K X.mg X.base (L2.CX X.prog X.w) k f fd ps sp ∧ Room k X.A ∧ Binds X.K fd ps [] ∧ sp (x :: vs) H2 Q (E σ)
theorem pe_methD {m : Str} {E : L2.St → XK} {o e : PySem.Expr} {es : List PySem.Expr} {ta : TE} {t : TA} {apos pos : Pos} {pl : Sem Bool} (he : PE X o ta) (hx : ∀ σ, PassesAt (L2.CX X.prog X.w) X σ (E σ)) (ha : PA X (e :: es) t)
    (hst : starEach (e :: es) X.env = (false, eval e X.env) :: starEach es X.env) (hpl : (backTo pos (starEach es X.env)).any (·.1) = false)
    (ht : eval (.Call (.Attribute o m apos) (e :: es) [] pos) X.env = (do
      let ov ← eval o X.env
      standAt apos.atName
      let (f, first) ← holding [ov] (getMethod ov m pl)
      callWith pos f first (backTo pos (starEach (e :: es) X.env)) (backToKw pos (keywordEach [] X.env)))) :
    PE X (.Call (.Attribute o m apos) (e :: es) [] pos) (tMethD X m E ta t) := by
  refine ⟨fun pins s σ H Q I h => ?_⟩
  refine PySem.W.methodCall_KW (pl := pl) (thn (he.run pins s σ H _ I h) fun u s1 ⟨x, H1, I1, rx, a, C, dx, fs, f, ex, ea, l, c, hm, q⟩ => ?_) ht
  subst ex
  obtain rfl : u = Value.ref a := rx
  refine getmeth_ok I1 ea c hm l ?_
  refine PySem.W.callWith_K (first := [.ref a]) (h₀ := X.base) I.ok.mod.kin hm.kp (thn (ha.run pos pins s1 σ H1 _ I1 q) fun us s2 ⟨vs, H2, I2, r, fd, ps, sp, k, F, hr, hb, q2⟩ => ⟨I2.kIn, ?_⟩) hst hpl
  exact run_fnS (us := .ref a :: us) (vs := .ref a :: vs) F hr hb (hx σ) I2 (.cons rfl r) q2
theorem pe_methD0 {m : Str} {E : L2.St → XK} {o : PySem.Expr} {ta : TE} {apos pos : Pos} {pl : Sem Bool} (he : PE X o ta) (hx : ∀ σ, PassesAt (L2.CX X.prog X.w) X σ (E σ))
    (ht : eval (.Call (.Attribute o m apos) [] [] pos) X.env = (do
      let ov ← eval o X.env
      standAt apos.atName
      let (f, first) ← holding [ov] (getMethod ov m pl)
      callWith pos f first (backTo pos (starEach [] X.env)) (backToKw pos (keywordEach [] X.env)))) :
    PE X (.Call (.Attribute o m apos) [] [] pos) (tMethD X m E ta tNil) := by
  refine ⟨fun pins s σ H Q I h => ?_⟩
  refine PySem.W.methodCall_KW (pl := pl) (thn (he.run pins s σ H _ I h) fun u s1 ⟨x, H1, I1, rx, a, C, dx, fs, f, ex, ea, l, c, hm, fd, ps, sp, k, F, hr, hb, q⟩ => ?_) ht
  subst ex
  obtain rfl : u = Value.ref a := rx
  refine getmeth_ok I1 ea c hm l ?_
  exact PySem.W.callWith_K0 (first := [.ref a]) I1.kIn hm.kp (run_fnS (us := [.ref a]) (vs := [.ref a]) F hr hb (hx σ) I1 (.cons rfl .nil) q)
theorem run_makeS {C : Addr} {E : L2.St → XK} {pins : List (Addr × Obj)} {σ : L2.St} {H : Hp} {s : Shared} {Q : VK} {us : List Value} {vs : List V}
    (hx : PassesAt (L2.CX X.prog X.w) X σ (E σ)) (I : Inv X pins σ H s) (r : Vals vs us)
    (h : ∀ x dx, H x = none → H dx = none → dx ≠ x → ∃ f fd ps sp k, Mk X.K C f ∧ FnOk X.prog X.w X.K X.mg X.base (L2.CX X.prog X.w) k f fd ps sp ∧ Room (k + 1) X.A ∧ Binds X.K fd ps [] ∧
      sp (.ref x :: vs) (L2.upd (L2.upd H dx (.own x)) x (.ins C dx [])) (fun v H2 => v = .non ∧ Q (.ref x) H2) (E σ)) :
    wpAny (model X.prog X.w) X.A (call (.ref C) us) (EP X pins σ Q) X.xe s := by
  obtain ⟨f, fd, ps, sp, k, M, F, hr, hb, hq⟩ := h (s.heap.objs.size + 1) s.heap.objs.size (I.hok.fresh (Nat.le_succ _)) (I.hok.fresh (Nat.le_refl _)) (Nat.ne_of_lt (Nat.lt_succ_self _))
  have I2 := Inv.made (C := C) I
  have r2 : Vals (V.ref (s.heap.objs.size + 1) :: vs) (Value.ref (s.heap.objs.size + 1) :: us) := .cons rfl r
  have hl : (Value.ref (s.heap.objs.size + 1) :: us).length = ps.length := by
    have e := r2.length
    rw [F.len _ _ _ _ hq] at e
    exact e.symm
  have b := hb _ (Value.ref (s.heap.objs.size + 1) :: us) I2.kIn (by rw [List.append_nil]; exact hl)
  rw [List.append_nil] at b
  refine wpAny_call (make_map (f := f) I.kIn M.makes M.init (beq_iff_eq.mp M.fn) (codeAny_mono (F.run _ X.stack _ _ ⟨Value.ref (s.heap.objs.size + 1) :: us, []⟩ (Value.ref (s.heap.objs.size + 1) :: us) _ _ (E σ) (hr.make C us [])
    (I2.env0.make C us []) b r2 hq) fun r s' hq' => ?_))
  cases r with
  | error e => exact hx pins _ _ e s' I2 hq'
  | ok fl =>
    cases fl with
    | ret u =>
      obtain ⟨v, H', I3, rv, ev, q3⟩ := I2.after hq'
      subst ev
      exact ⟨rv, ⟨V.ref (s.heap.objs.size + 1), H', I3, rfl, q3⟩⟩
    | next => exact False.elim hq'
    | brk => exact False.elim hq'
    | cont => exact False.elim hq'
/-- C(..), what __init__ promises known when the arguments are there -/
def tMakeD (X : Cx) (C : Addr) (E : L2.St → XK) (t : TA) : TE := fun σ H Q => t σ H fun vs H1 => ∀ x dx, H1 x = none → H1 dx = none → dx ≠ x → ∃ f fd ps sp k, Mk X.K C f ∧ FnOk X.prog X.w X.K X.mg X.base (L2.CX X.prog X.w) k f fd ps sp ∧ Room (k + 1) X.A ∧ Binds X.K fd ps [] ∧
  sp (.ref x :: vs) (L2.upd (L2.upd H1 dx (.own x)) x (.ins C dx [])) (fun v H2 => v = .non ∧ Q (.ref x) H2) (E σ)
theorem pe_makeD {C : Addr} {E : L2.St → XK} {x : Str} {p pos : Pos} {e : PySem.Expr} {es : List PySem.Expr} {t : TA} (hg : Gl X x) (hm : X.mg x = some (.ref C)) (hk : PySem.W.keepIn X.K (.ref C) = true)
    (hx : ∀ σ, PassesAt (L2.CX X.prog X.w) X σ (E σ)) (ha : PA X (e :: es) t) (hdb : (x == ("__debug__" : Str)) = false) (he : starEach (e :: es) X.env = (false, eval e X.env) :: starEach es X.env) (hpl : (backTo pos (starEach es X.env)).any (·.1) = false) :
    PE X (.Call (.Name x p) (e :: es) [] pos) (tMakeD X C E t) := by
  refine ⟨fun pins s σ H Q I h => ?_⟩
  refine wpAny_Call_Name_kw (ld_glob I hg hm ?_ hdb)
  refine PySem.W.callWith_K (h₀ := X.base) I.ok.mod.kin hk (thn (ha.run pos pins s σ H _ I h) fun us s1 ⟨vs, H1, I1, r, q⟩ => ⟨I1.kIn, ?_⟩) he hpl
  exact run_makeS (hx σ) I1 r q
theorem pe_makeD0 {C : Addr} {E : L2.St → XK} {x : Str} {p pos : Pos} (hg : Gl X x) (hm : X.mg x = some (.ref C)) (hk : PySem.W.keepIn X.K (.ref C) = true)
    (hx : ∀ σ, PassesAt (L2.CX X.prog X.w) X σ (E σ)) (hdb : (x == ("__debug__" : Str)) = false) : PE X (.Call (.Name x p) [] [] pos) (tMakeD X C E tNil) := by
  refine ⟨fun pins s σ H Q I q => ?_⟩
  refine wpAny_Call_Name_kw (ld_glob I hg hm ?_ hdb)
  exact PySem.W.callWith_K0 I.kIn hk (run_makeS (us := []) (hx σ) I .nil q)

/-! ### side facts by the form of an expression -/
def plainBaseX : PySem.Expr → Bool
  | .Call .. => false
  | _ => true
theorem attrBase_ok {e : PySem.Expr} {f : Str} {env : PySem.Env} {w : Sem Value} (h : plainBase0 e = true) : attributeBase e f env w = w := by
  cases e <;> first | rfl | cases h
theorem plainIx_ok {b : PySem.Expr} (h : plainIx b = true) : PlainIx b := by
  intro o i
  cases b <;> first | rfl | cases h
def noSet : PySem.Expr → Bool
  | .Set .. => false
  | _ => true
theorem trE_noSet {T : Tab} {N : List Str} {n : Nat} {sc : Scope} {e : PySem.Expr} {c : CE} (h : trE T N n sc e = some c) : noSet e = true := by
  cases n with
  | zero => simp [trE] at h
  | succ n => cases e <;> first | rfl | simp [trE] at h
theorem marks_ok {op : CmpOp} {b : PySem.Expr} (h : noSet b = true) : behindInMarks op b = false := by
  cases b <;> first | rfl | cases h
theorem lastMarks_ok {op op' : CmpOp} {b c : PySem.Expr} (h : noSet c = true) : lastMarks [op, op'] [b, c] = false := by
  show lastMarks [op'] [c] = false
  exact marks_ok h
theorem folded_ok {e : PySem.Expr} {env : PySem.Env} (h : noSet e = true) (x : Value) : foldedSetIterable e env x = pure x := by
  cases e <;> first | rfl | cases h
def plainTest : PySem.Expr → Bool
  | .UnaryOp .Not _ _ => false
  | .BoolOp .. => false
  | .IfExp .. => false
  | .Compare .. => false
  | _ => true
theorem isTrue_ok {e : PySem.Expr} {env : PySem.Env} (h : plainTest e = true) (whole : Sem Value) : isTrue e env whole = (do let v ← whole; standAt e.pos; holding [v] (truthy v)) := by
  cases e with
  | UnaryOp op a p => cases op <;> first | rfl | cases h
  | BoolOp => cases h
  | IfExp => cases h
  | Compare => cases h
  | _ => rfl
end
end Core
end
section
set_option maxRecDepth 100000
/-! Core8: expressions are sound. -/
namespace Core
open PySem L2 PySem.Spec PyProof.Rows
def OkT (B : Bs) (H : Hp) (Q0 : QP) (Q : Bool → Hp → Prop) : Prop := ∀ p S' H', Ext H H' → RelS B S' H' → Q0 p S' → ∃ b, truthS S' p = some b ∧ Q b H'
def tT (B : Bs) (G : Env) (W : WX) (c : CE) : TT := fun σ H Q => ∃ (ρ : Loc) (S : Store) (Q0 : QP) (E0 : QE), RelL B H σ ρ ∧ RelS B S H ∧ OkT B H Q0 Q ∧ OkX B H E0 (fun cls d H' => W cls d σ H') ∧ wpE G c ρ S Q0 E0

section
variable {B : Bs} {N : List Str} {G : Env} {k : Nat} {sc : Scope} {W : WX} {X : Cx}
/-- an operator's way -/
theorem via_op {r : R2} {t : P → P → Store → QP → Prop} {a b : CE} {σ : L2.St} {H : Hp} {Q : VK} {ρ : Loc} {S : Store} {Q0 : QP} {E0 : QE} (hr : Serves B r t) (hL : RelL B H σ ρ) (hS : RelS B S H) (kQ : OkQ B H Q0 Q) (kE : OkX B H E0 (fun cls d H' => W cls d σ H'))
    (h : wpE G a ρ S (fun x S1 => wpE G b ρ S1 (fun y S2 => t x y S2 Q0) E0) E0) : tOp r (tE B G W a) (tE B G W b) σ H Q := by
  refine ⟨ρ, S, _, E0, hL, hS, fun x S1 H1 vx e1 s1 r1 q1 => ?_, kE, h⟩
  refine ⟨ρ, S1, _, E0, hL.ext e1, s1, fun y S2 H2 vy e2 s2 r2 q2 => ?_, kE.at e1, q1⟩
  exact hr x y S2 vx vy H2 Q0 Q s2 (r1.ext e2) r2 ((kQ.at e1).at e2) q2
theorem or_ok {x y : CE} {a b : PySem.Expr} {rest : List PySem.Expr} {pos : Pos} (hK : X.K = B.K) (ha : PE X a (tE B G W x)) (hb : PE X (.BoolOp .Or (b :: rest) pos) (tE B G W y)) : PE X (.BoolOp .Or (a :: b :: rest) pos) (tE B G W (.or_ x y)) := by
  refine PE.imp (pe_orT ha hb) fun σ H Q ⟨ρ, S, Q0, E0, hL, hS, kQ, kE, h⟩ => ?_
  unfold wpE at h
  refine ⟨ρ, S, _, E0, hL, hS, fun p S1 H1 v e1 s1 r1 q1 => ?_, kE, h⟩
  rw [hK]
  split at q1
  · rename_i ht
    exact ⟨true, truth_ok s1 r1 ht, iteT (kQ _ _ _ _ e1 s1 r1 q1)⟩
  · rename_i ht
    refine ⟨false, truth_ok s1 r1 ht, ?_⟩
    refine iteF ?_
    exact ⟨ρ, S1, Q0, E0, hL.ext e1, s1, kQ.at e1, kE.at e1, q1⟩
  · exact q1.elim
theorem and_ok {x y : CE} {a b : PySem.Expr} {rest : List PySem.Expr} {pos : Pos} (hK : X.K = B.K) (ha : PE X a (tE B G W x)) (hb : PE X (.BoolOp .And (b :: rest) pos) (tE B G W y)) : PE X (.BoolOp .And (a :: b :: rest) pos) (tE B G W (.and_ x y)) := by
  refine PE.imp (pe_andT ha hb) fun σ H Q ⟨ρ, S, Q0, E0, hL, hS, kQ, kE, h⟩ => ?_
  unfold wpE at h
  refine ⟨ρ, S, _, E0, hL, hS, fun p S1 H1 v e1 s1 r1 q1 => ?_, kE, h⟩
  rw [hK]
  split at q1
  · rename_i ht
    refine ⟨true, truth_ok s1 r1 ht, ?_⟩
    refine iteT ?_
    exact ⟨ρ, S1, Q0, E0, hL.ext e1, s1, kQ.at e1, kE.at e1, q1⟩
  · rename_i ht
    exact ⟨false, truth_ok s1 r1 ht, iteF (kQ _ _ _ _ e1 s1 r1 q1)⟩
  · exact q1.elim
theorem bool_ok {f : PySem.Expr → Option CE} (hK : X.K = B.K) (IH : ∀ e c, f e = some c → PE X e (tE B G W c)) {b : BoolOp} {pos : Pos} : ∀ {es : List PySem.Expr} {xs : List CE} {c : CE}, es.mapM f = some xs → trBool b xs = some c → PE X (.BoolOp b es pos) (tE B G W c)
  | [], xs, c, h, h2 => by simp at h; subst h; simp [trBool] at h2
  | [e], xs, c, h, h2 => by
    rw [List.mapM_cons] at h
    cases h1 : f e with
    | none => rw [h1] at h; cases h
    | some d =>
      rw [h1] at h
      simp at h; subst h
      simp only [trBool, Option.some.injEq] at h2
      subst h2
      exact pe_one (IH e d h1)
  | e :: e' :: es, xs, c, h, h2 => by
    rw [List.mapM_cons] at h
    cases h1 : f e with
    | none => rw [h1] at h; cases h
    | some d =>
      cases h3 : (e' :: es).mapM f with
      | none => rw [h1, h3] at h; cases h
      | some ds =>
        rw [h1, h3] at h
        cases h
        have hl := mapM_len h3
        cases ds with
        | nil => simp at hl
        | cons d' ds =>
          simp only [trBool, Option.map_eq_some_iff] at h2
          obtain ⟨c', h4, h5⟩ := h2
          subst h5
          have ih := bool_ok hK IH (b := b) (pos := pos) h3 (show trBool b (d' :: ds) = some c' from h4)
          cases b with
          | And => exact and_ok hK (IH e d h1) ih
          | Or => exact or_ok hK (IH e d h1) ih
theorem boolT_ok {f : PySem.Expr → Option CE} (IH : ∀ e c, f e = some c → PT X e (tT B G W c)) {b : BoolOp} {pos : Pos} : ∀ {es : List PySem.Expr} {xs : List CE} {c : CE}, es.mapM f = some xs → trBool b xs = some c → PW X (.BoolOp b es pos) (tT B G W c)
  | [], xs, c, h, h2 => by simp at h; subst h; simp [trBool] at h2
  | [e], xs, c, h, h2 => by
    rw [List.mapM_cons] at h
    cases h1 : f e with
    | none => rw [h1] at h; cases h
    | some d =>
      rw [h1] at h
      simp at h; subst h
      simp only [trBool, Option.some.injEq] at h2
      subst h2
      cases b with
      | And => exact pw_and1 (IH e d h1)
      | Or => exact pw_or1 (IH e d h1)
  | e :: e' :: es, xs, c, h, h2 => by
    rw [List.mapM_cons] at h
    cases h1 : f e with
    | none => rw [h1] at h; cases h
    | some d =>
      cases h3 : (e' :: es).mapM f with
      | none => rw [h1, h3] at h; cases h
      | some ds =>
        rw [h1, h3] at h
        cases h
        have hl := mapM_len h3
        cases ds with
        | nil => simp at hl
        | cons d' ds =>
          simp only [trBool, Option.map_eq_some_iff] at h2
          obtain ⟨c', h4, h5⟩ := h2
          subst h5
          have ih := boolT_ok IH (b := b) (pos := pos) h3 (show trBool b (d' :: ds) = some c' from h4)
          cases b with
          | And =>
            refine ⟨fun wh pins s σ H Q I hw => (pw_and (IH e d h1) ih).run wh pins s σ H Q I ?_⟩
            obtain ⟨ρ, S, Q0, E0, hL, hS, kQ, kE, hw⟩ := hw
            simp only [trBo] at hw
            unfold wpE at hw
            refine ⟨ρ, S, _, E0, hL, hS, fun p S1 H1 e1 s1 q1 => ?_, kE, hw⟩
            split at q1
            · rename_i ht
              refine ⟨true, ht, ?_⟩
              refine iteT ?_
              exact ⟨ρ, S1, Q0, E0, hL.ext e1, s1, fun p S2 H2 e2 => kQ p S2 H2 (e1.trans e2), kE.at e1, q1⟩
            · rename_i ht
              refine ⟨false, ht, ?_⟩
              refine iteF ?_
              obtain ⟨b, hb, q⟩ := kQ _ _ _ e1 s1 q1
              rw [ht] at hb; cases hb
              exact q
            · exact q1.elim
          | Or =>
            refine ⟨fun wh pins s σ H Q I hw => (pw_or (IH e d h1) ih).run wh pins s σ H Q I ?_⟩
            obtain ⟨ρ, S, Q0, E0, hL, hS, kQ, kE, hw⟩ := hw
            simp only [trBo] at hw
            unfold wpE at hw
            refine ⟨ρ, S, _, E0, hL, hS, fun p S1 H1 e1 s1 q1 => ?_, kE, hw⟩
            split at q1
            · rename_i ht
              refine ⟨true, ht, ?_⟩
              refine iteT ?_
              obtain ⟨b, hb, q⟩ := kQ _ _ _ e1 s1 q1
              rw [ht] at hb; cases hb
              exact q
            · rename_i ht
              refine ⟨false, ht, ?_⟩
              refine iteF ?_
              exact ⟨ρ, S1, Q0, E0, hL.ext e1, s1, fun p S2 H2 e2 => kQ p S2 H2 (e1.trans e2), kE.at e1, q1⟩
            · exact q1.elim
/-- a test from its value's truth -/
theorem test_of {e : PySem.Expr} {c : CE} (hK : X.K = B.K) (h : PE X e (tE B G W c)) (hp : plainTest e = true) : PT X e (tT B G W c) := by
  refine PT.imp (pt_truth h (isTrue_ok hp)) fun σ H Q ⟨ρ, S, Q0, E0, hL, hS, kQ, kE, hw⟩ => ?_
  refine ⟨ρ, S, Q0, E0, hL, hS, fun p S1 H1 v e1 s1 r1 q1 => ?_, kE, hw⟩
  obtain ⟨b, hb, q⟩ := kQ _ _ _ e1 s1 q1
  rw [hK]
  exact ⟨b, truth_ok s1 r1 hb, q⟩
theorem RepF.look {H : Hp} {T : Tab} : ∀ {fs : List (Nat × P)} {gs : List (Str × V)} {f : Nat} {x : Str} {p : P}, B.T.att.Nodup → RepF B H fs gs → B.T.att[f]? = some x → fs.lookup f = some p → ∃ v, gs.lookup x = some v ∧ Rep B H p v
  | [], _, f, x, p, nd, h, hx, hl => by simp at hl
  | (g, q) :: r, _, f, x, p, nd, ⟨y, v, t, rfl, h2, h3, h4⟩, hx, hl => by
    by_cases e : f = g
    · subst e
      rw [hx] at h2; cases h2
      simp only [List.lookup_cons, beq_self_eq_true] at hl ⊢
      cases hl
      exact ⟨v, rfl, h3⟩
    · have ne : ¬ x = y := fun z => e (nodup_ix nd hx (z ▸ h2))
      have e1 : (f == g) = false := by simpa using e
      have e2 : (x == y) = false := by simpa using ne
      simp only [List.lookup_cons, e1, e2] at hl ⊢
      exact RepF.look (T := T) nd h4 hx hl
theorem RepF.none {H : Hp} : ∀ {fs : List (Nat × P)} {gs : List (Str × V)} {x : Str}, (∀ f : Nat, B.T.att[f]? ≠ some x) → RepF B H fs gs → gs.lookup x = none
  | [], _, x, hn, h => by rw [show _ = [] from h]; rfl
  | (g, q) :: r, _, x, hn, ⟨y, v, t, rfl, h2, h3, h4⟩ => by
    have ne : ¬ x = y := fun z => hn g (z ▸ h2)
    have e2 : (x == y) = false := by simpa using ne
    simp only [List.lookup_cons, e2]
    exact RepF.none hn h4
end
end Core
end
section
set_option maxRecDepth 100000
set_option maxHeartbeats 4000000
/-! Core9: what is walked, comprehensions, the theorem of expressions. -/
namespace Core
open PySem L2 PySem.Spec PyProof.Rows
theorem ikOf_range {x : Str} (h : ikOf x = some .range) : x = "range" := by
  unfold ikOf at h
  split at h
  · assumption
  · split at h
    · cases h
    · split at h
      · cases h
      · cases h
theorem ikOf_zip {x : Str} (h : ikOf x = some .zip) : x = "zip" := by
  unfold ikOf at h
  split at h
  · cases h
  · split at h
    · cases h
    · split at h
      · assumption
      · cases h
theorem iterS_zip {vs : List P} {S : Store} {K : List P → (Store → Prop) → Prop} (h : iterS .zip vs S K) :
    (∃ a b xs ys, vs = [.loc a, .loc b] ∧ S a = some (.lst xs) ∧ S b = some (.lst ys) ∧ (xs.length ≤ sizeLine → K (zipP xs ys) fun S' => S' a = some (.lst xs) ∧ S' b = some (.lst ys))) ∨
    (∃ xs ys, vs = [.tup xs, .tup ys] ∧ (xs.length ≤ sizeLine → K (zipP xs ys) fun _ => True)) ∨
    (∃ xs b ys, vs = [.tup xs, .loc b] ∧ S b = some (.lst ys) ∧ (xs.length ≤ sizeLine → K (zipP xs ys) fun S' => S' b = some (.lst ys))) ∨
    ∃ a xs ys, vs = [.loc a, .tup ys] ∧ S a = some (.lst xs) ∧ (xs.length ≤ sizeLine → K (zipP xs ys) fun S' => S' a = some (.lst xs)) := by
  unfold iterS at h
  split at h <;> first | contradiction | skip
  · exact .inr (.inl ⟨_, _, rfl, h⟩)
  · split at h
    · rename_i xs ys hx hy
      exact .inl ⟨_, _, xs, ys, rfl, hx, hy, h⟩
    · exact h.elim
  · split at h
    · rename_i ys hy
      exact .inr (.inr (.inl ⟨_, _, ys, rfl, hy, h⟩))
    · exact h.elim
  · split at h
    · rename_i xs hx
      exact .inr (.inr (.inr ⟨_, xs, _, rfl, hx, h⟩))
    · exact h.elim
theorem ikOf_enum {x : Str} (h : ikOf x = some .enum) : x = "enumerate" := by
  unfold ikOf at h
  split at h
  · cases h
  · split at h
    · assumption
    · split at h
      · cases h
      · cases h
/-- what a walk's reading needs of the clean one -/
def WI (B : Bs) (G : Env) (W : WX) (k : IK) (as : List CE) (wi : TI) : Prop :=
  ∀ σ H R ρ S E0 (Z : List P → (Store → Prop) → Store → Prop), RelL B H σ ρ → RelS B S H → OkX B H E0 (fun cls d H' => W cls d σ H') → wpEs G as ρ S (fun vs S1 => iterS k vs S1 fun items Gd => Z items Gd S1) E0 →
    (∀ items Gd S1 H1 J, Ext H H1 → RelS B S1 H1 → WalksI B J items Gd H1 → Z items Gd S1 → R J H1) → wi σ H R
theorem iterS_seq {vs : List P} {S : Store} {K : List P → (Store → Prop) → Prop} (h : iterS .seq vs S K) :
    (∃ xs, vs = [.tup xs] ∧ (xs.length ≤ sizeLine → K xs fun _ => True)) ∨ (∃ xs, vs = [.frl xs] ∧ (xs.length ≤ sizeLine → K xs fun _ => True)) ∨ ∃ a xs, vs = [.loc a] ∧ S a = some (.lst xs) ∧ (xs.length ≤ sizeLine → K xs fun S' => S' a = some (.lst xs)) := by
  cases vs with
  | nil => exact h.elim
  | cons v r =>
    cases r with
    | cons _ _ => cases v <;> exact h.elim
    | nil =>
      cases v with
      | tup xs => exact .inl ⟨xs, rfl, h⟩
      | frl xs => exact .inr (.inl ⟨xs, rfl, h⟩)
      | loc a =>
        unfold iterS at h
        simp only at h
        split at h
        · rename_i xs hx
          exact .inr (.inr ⟨a, xs, rfl, hx, h⟩)
        · exact h.elim
      | _ => exact h.elim
theorem iterS_range {vs : List P} {S : Store} {K : List P → (Store → Prop) → Prop} (h : iterS .range vs S K) :
    (∃ n : Int, vs = [.int n] ∧ (-(2 ^ 62) ≤ n ∧ n ≤ sizeLine) ∧ K ((List.range n.toNat).map fun (i : Nat) => P.int i) fun _ => True) ∨
    (∃ m n : Int, vs = [.int m, .int n] ∧ (-(2 ^ 62) ≤ m ∧ m < 2 ^ 62 ∧ -(2 ^ 62) ≤ n ∧ n < 2 ^ 62 ∧ n - m ≤ sizeLine) ∧ K ((List.range (n - m).toNat).map fun (i : Nat) => P.int (m + i)) fun _ => True) := by
  cases vs with
  | nil => exact h.elim
  | cons v r =>
    cases r with
    | nil => cases v <;> first | exact .inl ⟨_, rfl, h⟩ | exact h.elim
    | cons w r =>
      cases r with
      | nil => cases v <;> first | exact h.elim | (cases w <;> first | exact .inr ⟨_, _, rfl, h⟩ | exact h.elim)
      | cons _ _ => cases v <;> first | exact h.elim | (cases w <;> exact h.elim)
theorem iterS_range3 {vs : List P} {S : Store} {K : List P → (Store → Prop) → Prop} (h : iterS .range3 vs S K) :
    ∃ m n st : Int, vs = [.int m, .int n, .int st] ∧ (-(2 ^ 62) ≤ m ∧ m < 2 ^ 62 ∧ -(2 ^ 62) ≤ n ∧ n < 2 ^ 62 ∧ ((st = -1 ∧ m - n ≤ sizeLine) ∨ (0 < st ∧ st < 2 ^ 20 ∧ n - m ≤ sizeLine))) ∧ K (steps3 m n st) fun _ => True := by
  unfold iterS at h
  split at h <;> first | contradiction | skip
  exact ⟨_, _, _, rfl, h⟩
theorem iterS_enum {vs : List P} {S : Store} {K : List P → (Store → Prop) → Prop} (h : iterS .enum vs S K) :
    (∃ a xs, vs = [.loc a] ∧ S a = some (.lst xs) ∧ (xs.length ≤ sizeLine → K (xs.zipIdx.map fun p => P.tup [.int p.2, p.1]) fun S' => S' a = some (.lst xs))) ∨
    ∃ xs, vs = [.tup xs] ∧ (xs.length ≤ sizeLine → K (xs.zipIdx.map fun p => P.tup [.int p.2, p.1]) fun _ => True) := by
  cases vs with
  | nil => exact h.elim
  | cons v r =>
    cases r with
    | cons _ _ => cases v <;> exact h.elim
    | nil =>
      cases v with
      | loc a =>
        unfold iterS at h
        simp only at h
        split at h
        · rename_i xs hx
          exact .inl ⟨a, xs, rfl, hx, h⟩
        · exact h.elim
      | tup xs => exact .inr ⟨xs, rfl, h⟩
      | _ => exact h.elim
section
variable {B : Bs} {N : List Str} {G : Env} {k : Nat} {sc : Scope} {W : WX} {X : Cx}
theorem seq_wi {e : PySem.Expr} {c : CE} {tg : PySem.Expr} (hK : X.K = B.K) (h : PE X e (tE B G W c)) : PI X tg e (iSeq X.K (tE B G W c)) ∧ WI B G W .seq [c] (iSeq X.K (tE B G W c)) := by
  refine ⟨pi_seq h, fun σ H R ρ S E0 Z hL hS kE hw fin => ?_⟩
  unfold wpEs wpEs at hw
  refine ⟨ρ, S, _, E0, hL, hS, fun p S1 H1 v e1 s1 r1 q1 => ?_, kE, hw⟩
  rw [hK]
  rcases iterS_seq q1 with ⟨xs, heq, q2⟩ | ⟨xs, heq, q2⟩ | ⟨a, xs, heq, hx, q2⟩
  · cases heq
    obtain ⟨a, vs, rfl, t1, z1, rr⟩ := r1.tup_inv
    exact ⟨a, rfl, .inr ⟨⟨vs, t1⟩, fin xs _ S1 H1 _ e1 s1 (walks_tup t1 rr (by rw [← rr.length]; exact z1)) (q2 (by rw [← rr.length]; exact z1))⟩⟩
  · cases heq
    unfold Rep at r1
    obtain ⟨a, vs, rfl, t1, z1, rr⟩ := r1
    have t2 : ∀ H, Ext H1 H → SqL B.K H a vs := fun H e => by
      rcases t1 with ⟨o, t1⟩ | t1
      · exact .inl (.inr ⟨o, e.frz _ _ _ t1⟩)
      · exact .inr t1
    exact ⟨a, rfl, .inl ⟨⟨vs, t2 _ (.refl _)⟩, fin xs _ S1 H1 _ e1 s1 (walks_frl t2 rr (by rw [← rr.length]; exact z1)) (q2 (by rw [← rr.length]; exact z1))⟩⟩
  · cases heq
    obtain ⟨vs, t1, z1, rr⟩ := s1.lst hx
    exact ⟨a, r1.loc_inv, .inl ⟨⟨vs, SqL.of t1⟩, fin xs _ S1 H1 _ e1 s1 (walks_list (by rw [← rr.length]; exact z1)) (q2 (by rw [← rr.length]; exact z1))⟩⟩
theorem iter_ok (ok : XOk B N G k sc W X) {n : Nat} (IH : ∀ e c, trE B.T N n sc e = some c → PE X e (tE B G W c)) {tg iter : PySem.Expr} {ik : IK} {as : List CE} (h : trI (trE B.T N n sc) B.T sc tg iter = some (ik, as)) : ∃ wi, PI X tg iter wi ∧ WI B G W ik as wi := by
  have seqC : ∀ {e : PySem.Expr}, (trE B.T N n sc e).map (fun e => (IK.seq, [e])) = some (ik, as) → ∃ wi, PI X tg e wi ∧ WI B G W ik as wi := fun {e} h => by
    rw [Option.map_eq_some_iff] at h
    obtain ⟨c, h1, h2⟩ := h
    cases h2
    exact ⟨_, seq_wi ok.hK (IH _ c h1)⟩
  unfold trI at h
  split at h
  · rename_i f _ args pos
    split at h
    · rename_i hg
      split at h
      · exact seqC h
      · split at h
        · cases h
        · obtain ⟨hg1, hg2⟩ := isGl_ok ok hg
          split at h
          · rename_i a hk
            rw [Option.map_eq_some_iff] at h
            obtain ⟨x, h1, h2⟩ := h
            cases h2
            have hf := ikOf_range hk
            subst hf
            refine ⟨_, pi_range1 hg1 (by rw [ok.hM]; exact ok.pf.blt _ (by decide +kernel)) (pa_of IH (es := [a]) (cs := [x]) (by simp [h1])) (by rw [star_cons (trE_noStar h1)]; rfl), fun σ H R ρ S E0 Z hL hS kE hw fin => ?_⟩
            refine ⟨ρ, S, _, E0, hL, hS, fun ps S1 H1 vs e1 s1 r1 q1 => ?_, kE, wpEs_len ok.pf.gm hw⟩
            have hz := sizeLine_eq
            rcases iterS_range q1.2 with ⟨m, rfl, q2, q3⟩ | ⟨m, l, rfl, q2, q3⟩
            · obtain ⟨v, rfl, r2⟩ := r1.one
              exact ⟨m, by rw [r2.int_inv], q2.1, by omega, fin _ _ S1 H1 _ e1 s1 (walks_range (by simp) (by omega)) q3⟩
            · exact absurd q1.1 (by simp)
          · rename_i a b hk
            cases h1 : trE B.T N n sc a with
            | none => rw [h1] at h; cases h
            | some x =>
              cases h2 : trE B.T N n sc b with
              | none => rw [h1, h2] at h; cases h
              | some y =>
                rw [h1, h2] at h
                cases h
                have hf := ikOf_range hk
                subst hf
                refine ⟨_, pi_range2 hg1 (by rw [ok.hM]; exact ok.pf.blt _ (by decide +kernel)) (pa_of IH (es := [a, b]) (cs := [x, y]) (by simp [h1, h2])) (by rw [star_cons (trE_noStar h1), star_cons (trE_noStar h2)]; rfl) (by rw [star_cons (trE_noStar h2)]; rfl), fun σ H R ρ S E0 Z hL hS kE hw fin => ?_⟩
                refine ⟨ρ, S, _, E0, hL, hS, fun ps S1 H1 vs e1 s1 r1 q1 => ?_, kE, wpEs_len ok.pf.gm hw⟩
                rcases iterS_range q1.2 with ⟨m, rfl, q2, q3⟩ | ⟨m, l, rfl, q2, q3⟩
                · exact absurd q1.1 (by simp)
                · obtain ⟨v, u, rfl, r2, r3⟩ := r1.two
                  exact ⟨m, l, by rw [r2.int_inv, r3.int_inv], ⟨q2.1, q2.2.1, q2.2.2.1, q2.2.2.2.1⟩, fin _ _ S1 H1 _ e1 s1 (walks_range rfl (by omega)) q3⟩
          · rename_i a b c hk
            cases h1 : trE B.T N n sc a with
            | none => rw [h1] at h; cases h
            | some x =>
              cases h2 : trE B.T N n sc b with
              | none => rw [h1, h2] at h; cases h
              | some y =>
                cases h5 : trE B.T N n sc c with
                | none => rw [h1, h2, h5] at h; cases h
                | some z =>
                  rw [h1, h2, h5] at h
                  cases h
                  have hf := ikOf_range hk
                  subst hf
                  refine ⟨_, pi_range3 hg1 (by rw [ok.hM]; exact ok.pf.blt _ (by decide +kernel)) (pa_of IH (es := [a, b, c]) (cs := [x, y, z]) (by simp [h1, h2, h5])) (by rw [star_cons (trE_noStar h1), star_cons (trE_noStar h2)]) (by rw [star_cons (trE_noStar h2), star_cons (trE_noStar h5)]; rfl), fun σ H R ρ S E0 Z hL hS kE hw fin => ?_⟩
                  refine ⟨ρ, S, _, E0, hL, hS, fun ps S1 H1 vs e1 s1 r1 q1 => ?_, kE, hw⟩
                  obtain ⟨m, l, st, rfl, ⟨b1, b2, b3, b4, b5⟩, q3⟩ := iterS_range3 q1
                  obtain ⟨v, r, rfl, r2, r3⟩ := r1.cons_inv
                  obtain ⟨u, t, rfl, r4, r5⟩ := r3.two
                  have hz := sizeLine_eq
                  rw [r2.int_inv, r4.int_inv, r5.int_inv]
                  by_cases hst : st = -1
                  · subst hst
                    have b6 : m - l ≤ sizeLine := by rcases b5 with b5 | b5 <;> omega
                    exact ⟨m, l, -1, _, rfl, RgC.neg b1 b2 b3 b4, fin _ _ S1 H1 _ e1 s1 (walks_rangeC (by unfold steps3; rw [if_pos rfl]) (by omega)) q3⟩
                  · have b6 : 0 < st ∧ st < 2 ^ 20 ∧ l - m ≤ sizeLine := by
                      rcases b5 with b5 | b5
                      · exact absurd b5.1 hst
                      · exact b5
                    refine ⟨m, l, st, _, rfl, rgC_pos b6.1 b6.2.1 b1 b2 b3 b4, fin _ _ S1 H1 _ e1 s1 (walks_rangeC (by unfold steps3; rw [if_neg hst]) ?_) q3⟩
                    by_cases hml : m < l
                    · have d2 := Int.ediv_le_self st (show 0 ≤ l - m - 1 by omega)
                      rw [if_pos hml]; omega
                    · rw [if_neg hml]; exact Nat.zero_le _
          · rename_i a hk
            split at h
            · rename_i elts kk tpos
              rw [Option.map_eq_some_iff] at h
              obtain ⟨x, h1, h2⟩ := h
              cases h2
              have hf := ikOf_enum hk
              subst hf
              refine ⟨_, pi_enumB hg1 (by rw [ok.hM]; exact ok.pf.blt _ (by decide +kernel)) (pa_of IH (es := [a]) (cs := [x]) (by simp [h1])) (by rw [star_cons (trE_noStar h1)]; rfl), fun σ H R ρ S E0 Z hL hS kE hw fin => ?_⟩
              refine ⟨ρ, S, _, E0, hL, hS, fun ps S1 H1 vs e1 s1 r1 q1 => ?_, kE, hw⟩
              rw [ok.hK]
              rcases iterS_enum q1 with ⟨a, xs, rfl, hx, q1⟩ | ⟨xs, rfl, q1⟩
              · obtain ⟨v, rfl, r2⟩ := r1.one
                obtain ⟨us, t1, z1, rr⟩ := s1.lst hx
                exact ⟨a, by rw [r2.loc_inv], .inl ⟨us, SqL.of t1, fin _ _ S1 H1 _ e1 s1 (walks_enum (by rw [← rr.length]; exact z1)) (q1 (by rw [← rr.length]; exact z1))⟩⟩
              · obtain ⟨v, rfl, r2⟩ := r1.one
                obtain ⟨a, us, rfl, t1, z1, rr⟩ := r2.tup_inv
                exact ⟨a, rfl, .inr ⟨us, t1, fin _ _ S1 H1 _ e1 s1 (walks_enumT t1 rr (by rw [← rr.length]; exact z1)) (q1 (by rw [← rr.length]; exact z1))⟩⟩
            · cases h
          · rename_i a b hk
            split at h
            · rename_i elts kk tpos
              cases h1 : trE B.T N n sc a with
              | none => rw [h1] at h; cases h
              | some x =>
                cases h2 : trE B.T N n sc b with
                | none => rw [h1, h2] at h; cases h
                | some y =>
                  rw [h1, h2] at h
                  cases h
                  have hf := ikOf_zip hk
                  subst hf
                  refine ⟨_, CZ.pi_zipM hg1 (by rw [ok.hM]; exact ok.pf.blt _ (by decide +kernel)) (pa_of IH (es := [a, b]) (cs := [x, y]) (by simp [h1, h2])) (by rw [star_cons (trE_noStar h1)]) (by rw [star_cons (trE_noStar h2)]; rfl), fun σ H R ρ S E0 Z hL hS kE hw fin => ?_⟩
                  refine ⟨ρ, S, _, E0, hL, hS, fun ps S1 H1 vs e1 s1 r1 q1 => ?_, kE, hw⟩
                  rw [ok.hK]
                  rcases iterS_zip q1 with ⟨a, b, xs, ys, rfl, hx, hy, q1⟩ | ⟨xs, ys, rfl, q1⟩ | ⟨xs, b, ys, rfl, hy, q1⟩ | ⟨a, xs, ys, rfl, hx, q1⟩
                  · obtain ⟨v, u, rfl, r2, r3⟩ := r1.two
                    obtain ⟨us, t1, z1, rr⟩ := s1.lst hx
                    obtain ⟨ws, t2, z2, rr2⟩ := s1.lst hy
                    have hz : xs.length ≤ sizeLine := by rw [← rr.length]; exact z1
                    exact ⟨a, b, us, ws, by rw [r2.loc_inv, r3.loc_inv], .inl ⟨SqL.of t1, SqL.of t2, fin _ _ S1 H1 _ e1 s1 (walks_zip hz) (q1 hz)⟩⟩
                  · obtain ⟨v, u, rfl, r2, r3⟩ := r1.two
                    obtain ⟨a, us, rfl, t1, z1, rr⟩ := r2.tup_inv
                    obtain ⟨b, ws, rfl, t2, z2, rr2⟩ := r3.tup_inv
                    have hz : xs.length ≤ sizeLine := by rw [← rr.length]; exact z1
                    exact ⟨a, b, us, ws, rfl, .inr (.inl ⟨t1, t2, fin _ _ S1 H1 _ e1 s1 (walks_zipT t1 t2 rr rr2 hz) (q1 hz)⟩)⟩
                  · obtain ⟨v, u, rfl, r2, r3⟩ := r1.two
                    obtain ⟨a, us, rfl, t1, z1, rr⟩ := r2.tup_inv
                    obtain ⟨ws, t2, z2, rr2⟩ := s1.lst hy
                    have hz : xs.length ≤ sizeLine := by rw [← rr.length]; exact z1
                    exact ⟨a, b, us, ws, by rw [r3.loc_inv], .inr (.inr ⟨false, true, by decide, t1, SqL.of t2, fin _ _ S1 H1 _ e1 s1 (walks_zipTL t1 rr hz) (q1 hz)⟩)⟩
                  · obtain ⟨v, u, rfl, r2, r3⟩ := r1.two
                    obtain ⟨us, t1, z1, rr⟩ := s1.lst hx
                    obtain ⟨b, ws, rfl, t2, z2, rr2⟩ := r3.tup_inv
                    have hz : xs.length ≤ sizeLine := by rw [← rr.length]; exact z1
                    exact ⟨a, b, us, ws, by rw [r2.loc_inv], .inr (.inr ⟨true, false, by decide, SqL.of t1, t2, fin _ _ S1 H1 _ e1 s1 (walks_zipLT t2 rr2 hz) (q1 hz)⟩)⟩
            · cases h
          · cases h
          · exact seqC h
    · cases h
  · cases h
  · exact seqC h

/-! ### targets without expressions -/
mutual
theorem wpVT_no : ∀ (t : VT) {p : P} {ρ : Loc}, wpVT t p ρ (fun _ => False) → False
  | .nm i, p, ρ, h => by unfold wpVT at h; exact h
  | .tup ts, p, ρ, h => by
    cases p <;> unfold wpVT at h <;> try exact h
    exact wpVTs_no ts h
theorem wpVTs_no : ∀ (ts : List VT) {xs : List P} {ρ : Loc}, wpVTs ts xs ρ (fun _ => False) → False
  | [], xs, ρ, h => by cases xs <;> unfold wpVTs at h <;> exact h
  | t :: ts, xs, ρ, h => by
    cases xs <;> unfold wpVTs at h
    · exact h
    · exact wpVT_no t (wpVT_mono t (fun ρ' h => wpVTs_no ts h) h)
end
theorem trVT_local {c : Bool} {n : Nat} {e : PySem.Expr} {i : Nat} (h : trVT c N sc n e = some (.nm i)) : ∃ x p, e = .Name x p ∧ (sc.names.lookup x = some .local ∨ (c = true ∧ sc.names.lookup x = some .cell)) ∧ N[i]? = some x := by
  cases n with
  | zero => simp [trVT] at h
  | succ n =>
    cases e <;> try (simp [trVT] at h; done)
    simp only [trVT] at h
    split at h
    · rename_i hx
      rw [Option.map_eq_some_iff] at h
      obtain ⟨j, h1, h2⟩ := h
      cases h2
      exact ⟨_, _, rfl, .inl hx, idx_get h1⟩
    · rename_i hx
      split at h
      · rename_i hc
        rw [Option.map_eq_some_iff] at h
        obtain ⟨j, h1, h2⟩ := h
        cases h2
        exact ⟨_, _, rfl, .inr ⟨hc, hx⟩, idx_get h1⟩
      · cases h
    · cases h
/-- two rows of slots, alike but at some places -/
def SlB (is : List Nat) (σ σ' : L2.St) : Prop := σ'.length = σ.length ∧ ∀ j : Nat, j ∉ is → σ'[j]? = σ[j]?
theorem SlB.trans {is js : List Nat} {a b c : L2.St} (h : SlB is a b) (h' : SlB js b c) : SlB (is ++ js) a c := ⟨h'.1.trans h.1, fun j hj => by
  rw [List.mem_append, not_or] at hj
  exact (h'.2 j hj.2).trans (h.2 j hj.1)⟩
def gVT (B : Bs) (t : VT) : TG := fun v σ H Q => ∃ (p : P) (ρ : Loc) (Q0 : Loc → Prop), RelL B H σ ρ ∧ Rep B H p v ∧ (∀ σ' ρ', RelL B H σ' ρ' → SlB (vtSlots t) σ σ' → Q0 ρ' → Q σ' H) ∧ wpVT t p ρ Q0
def gVTs (B : Bs) (ts : List VT) : TGs := fun vs σ H Q => ∃ (ps : List P) (ρ : Loc) (Q0 : Loc → Prop), RelL B H σ ρ ∧ Reps B H ps vs ∧ (∀ σ' ρ', RelL B H σ' ρ' → SlB (vtSlotss ts) σ σ' → Q0 ρ' → Q σ' H) ∧ wpVTs ts ps ρ Q0
theorem PG.imp {X : Cx} {e : PySem.Expr} {t t' : TG} (h : PG X e t) (k : ∀ v σ H Q, t' v σ H Q → t v σ H Q) : PG X e t' := ⟨fun pins s σ H v u Q I r hw => h.run pins s σ H v u Q I r (k v σ H Q hw)⟩
theorem PGs.imp {X : Cx} {e : List PySem.Expr} {t t' : TGs} (h : PGs X e t) (k : ∀ v σ H Q, t' v σ H Q → t v σ H Q) : PGs X e t' := ⟨fun pins s σ H v u Q I r hw => h.run pins s σ H v u Q I r (k v σ H Q hw)⟩
theorem assign_star {e : PySem.Expr} {es : List PySem.Expr} {env : PySem.Env} (h : noStar e = true) : assignEach (e :: es) env = (false, assign e env) :: assignEach es env := by
  cases e <;> first | rfl | cases h
theorem trVT_star {c : Bool} {n : Nat} {e : PySem.Expr} {t : VT} (h : trVT c N sc n e = some t) : noStar e = true := by
  cases n with
  | zero => simp [trVT] at h
  | succ n => cases e <;> first | rfl | simp [trVT] at h
theorem assign_len {env : PySem.Env} : ∀ {es : List PySem.Expr}, (∀ e ∈ es, noStar e = true) → (assignEach es env).length = es.length ∧ (assignEach es env).findIdx? (·.1) = none
  | [], _ => ⟨rfl, rfl⟩
  | e :: es, h => by
    rw [assign_star (h e List.mem_cons_self)]
    obtain ⟨h1, h2⟩ := assign_len (env := env) (es := es) fun e he => h e (List.mem_cons_of_mem _ he)
    refine ⟨by simp [h1], ?_⟩
    rw [List.findIdx?_cons]
    simp [h2]
theorem vtM_star {cb : Bool} {n : Nat} : ∀ {es : List PySem.Expr} {ts : List VT}, es.mapM (trVT cb N sc n) = some ts → ∀ e ∈ es, noStar e = true
  | [], _, _, e, he => by simp at he
  | a :: es, cs, h, e, he => by
    rw [List.mapM_cons] at h
    cases h1 : trVT cb N sc n a with
    | none => rw [h1] at h; cases h
    | some c =>
      cases h2 : es.mapM (trVT cb N sc n) with
      | none => rw [h1, h2] at h; cases h
      | some ds =>
        rcases List.mem_cons.mp he with rfl | he
        · exact trVT_star h1
        · exact vtM_star h2 e he
theorem vt_ok {c : Bool} {X : Cx} {N : List Str} {sc : Scope} (hfn : c = true → ∀ x, X.fn x = true) (hK : X.K = B.K) (hN : X.N = N) (nd : X.N.Nodup) (hS : X.env.scope = sc) (hc : X.calm = true) : ∀ (n : Nat) (e : PySem.Expr) (t : VT), trVT c N sc n e = some t → PG X e (gVT B t)
  | 0, e, t, h => by simp [trVT] at h
  | n + 1, e, t, h => by
    cases e with
    | Name x pos =>
      cases t with
      | tup ts =>
        simp only [trVT] at h
        split at h
        · simp at h
        · split at h <;> simp at h
        · cases h
      | nm i =>
        obtain ⟨y, p, e, hx, hi⟩ := trVT_local h
        cases e
        have hl : L2.Loc X.env.scope x := by
          rw [hS]
          rcases hx with hx | hx
          · exact .inl hx
          · exact .inr hx.2
        have hf : X.fn x = true ∨ X.env.scope.names.lookup x = some .local := by
          rw [hS]
          rcases hx with hx | hx
          · exact .inr hx
          · exact .inl (hfn hx.1 x)
        refine PG.imp (pg_name (i := i) nd (by rw [hN]; exact hi) hl hf) fun v σ H Q ⟨p, ρ, Q0, hL, r, k, hw⟩ => ?_
        refine k _ _ (hL.set r) ⟨by simp, fun j hj => ?_⟩ hw
        unfold vtSlots at hj
        exact List.getElem?_set_ne (by simpa using fun e => hj (by simp [e]))
    | Tuple es kk pos =>
      simp only [trVT, Option.map_eq_some_iff] at h
      obtain ⟨ts, h1, h2⟩ := h
      subst h2
      have all : ∀ {es : List PySem.Expr} {ts : List VT}, es.mapM (trVT c N sc n) = some ts → PGs X es (gVTs B ts) := by
        intro es
        induction es with
        | nil =>
          intro ts h
          simp at h; subst h
          refine PGs.imp pgs_nil fun vs σ H Q ⟨ps, ρ, Q0, hL, r, k, hw⟩ => ?_
          cases ps with
          | nil => exact ⟨r.nil_inv, k σ ρ hL ⟨rfl, fun _ _ => rfl⟩ hw⟩
          | cons _ _ => exact hw.elim
        | cons a es ih =>
          intro ts h
          rw [List.mapM_cons] at h
          cases h1 : trVT c N sc n a with
          | none => rw [h1] at h; cases h
          | some t =>
            cases h2 : es.mapM (trVT c N sc n) with
            | none => rw [h1, h2] at h; cases h
            | some ts =>
              rw [h1, h2] at h
              cases h
              refine PGs.imp (pgs_cons (vt_ok hfn hK hN nd hS hc n a t h1) (ih h2) (by rw [assign_star (trVT_star h1)]; rfl)) fun vs σ H Q ⟨ps, ρ, Q0, hL, r, k, hw⟩ => ?_
              cases ps with
              | nil => exact hw.elim
              | cons p ps =>
                obtain ⟨v, rest, rfl, r1, r2⟩ := r.cons_inv
                refine ⟨v, rest, rfl, p, ρ, _, hL, r1, fun σ' ρ' hL' b1 q => ?_, hw⟩
                exact ⟨ps, ρ', Q0, hL', r2, fun σ2 ρ2 hL2 b2 q2 => k σ2 ρ2 hL2 (by unfold vtSlotss; exact b1.trans b2) q2, q⟩
      obtain ⟨hl, hi⟩ := assign_len (env := X.env) (vtM_star h1)
      refine PG.imp (pg_tup hc (all h1) hl hi) fun v σ H Q ⟨p, ρ, Q0, hL, r, k, hw⟩ => ?_
      cases p <;> try (exact hw.elim)
      rename_i ps
      obtain ⟨a, vs, rfl, s1, z1, r1⟩ := r.tup_inv
      rw [hK]
      have hlen : ps.length = ts.length := by
        have gen : ∀ (ts : List VT) (ps : List P) (ρ : Loc) (Q0 : Loc → Prop), wpVTs ts ps ρ Q0 → ps.length = ts.length := by
          intro ts
          induction ts with
          | nil => intro ps ρ Q0 h; cases ps with
            | nil => rfl
            | cons _ _ => exact h.elim
          | cons t ts ih =>
            intro ps ρ Q0 h
            cases ps with
            | nil => exact h.elim
            | cons p ps =>
              have h' : wpVT t p ρ fun ρ' => wpVTs ts ps ρ' Q0 := h
              by_cases e : ps.length = ts.length
              · simp [e]
              · exact absurd (wpVT_no t (wpVT_mono t (Q' := fun _ => False) (fun ρ' q => e (ih ps ρ' Q0 q)) h')) id
        exact gen ts ps ρ Q0 hw
      exact ⟨a, vs, rfl, s1, by rw [r1.length, hlen, mapM_len h1], ps, ρ, Q0, hL, r1, (fun σ' ρ' hL' b q => k σ' ρ' hL' (by unfold vtSlots; exact b) q), hw⟩
    | _ => simp [trVT] at h
end
end Core
end
section
set_option maxRecDepth 100000
/-! Core10: comprehensions, the theorem of expressions. -/
namespace Core
open PySem L2 PySem.Spec PyProof.Rows
abbrev noW : WX := fun _ _ _ _ => False
section
variable {B : Bs} {N : List Str} {G : Env} {k : Nat} {sc : Scope} {W : WX} {X : Cx}
theorem wipe_get {σ : L2.St} : ∀ (vs : List Nat) (j : Nat), (L2.wipe σ vs)[j]? = if j ∈ vs ∧ j < σ.length then some none else σ[j]?
  | [], j => by simp [L2.wipe]
  | v :: vs, j => by
    have ih := wipe_get (σ := σ) vs j
    unfold L2.wipe
    by_cases hj : v = j
    · subst hj
      by_cases hl : v < σ.length
      · rw [List.getElem?_set_self (by rw [wipe_length]; exact hl), if_pos ⟨List.mem_cons_self, hl⟩]
      · rw [List.getElem?_eq_none (by simpa [wipe_length] using hl), if_neg (fun z => hl z.2), List.getElem?_eq_none (by omega)]
    · rw [List.getElem?_set_ne hj, ih]
      have e : (j ∈ v :: vs) ↔ j ∈ vs := by simp [Ne.symm hj]
      simp only [e]
theorem wipe_eq {σ σ' : L2.St} {vs : List Nat} (h : SlB vs (L2.wipe σ vs) σ') : L2.wipe σ' vs = L2.wipe σ vs := by
  have hl : σ'.length = σ.length := by rw [h.1, wipe_length]
  refine List.ext_getElem? fun j => ?_
  rw [wipe_get, wipe_get, hl]
  by_cases c : j ∈ vs ∧ j < σ.length
  · rw [if_pos c, if_pos c]
  · rw [if_neg c, if_neg c]
    by_cases hj : j ∈ vs
    · have : ¬ j < σ.length := fun z => c ⟨hj, z⟩
      rw [List.getElem?_eq_none (by omega), List.getElem?_eq_none (by omega)]
    · rw [h.2 j hj, wipe_get, if_neg c]
theorem XOk.blk (ok : XOk B N G k sc W X) (s : Shared) (H : Hp) (scope : Scope) (C : Addr) (cl : List (Str × Addr)) (fp : List Addr) : XOk B N G k (relS scope sc) noW (X.blk s H scope (compEnvC scope cl C X.env) fp) :=
  ⟨ok.hK, ok.hM, ok.hN, ok.nd, by rw [← ok.hS]; rfl, ok.calm, ok.room, takes0, ok.pf⟩
def tCond (B : Bs) (G : Env) : Option CE → TT
  | none => tYes
  | some e => tT B G noW e
theorem comp_ok (ok : XOk B N G k sc W X) {tg iter elt : PySem.Expr} {ifs : List PySem.Expr} {scope : Scope} {pos : Pos} {own : List (Str × Nat)} {t : VT} {x : CE} {c : Option CE} {ik : IK} {as : List CE} {wi : TI}
    (hb : blkC N sc scope own = true) (hv : (vtSlots t).all (fun i => (own.map (·.2)).contains i) = true) (hi : PI X tg iter wi) (hw : WI B G W ik as wi) (hset : noSet iter = true)
    (hg : ∀ (s : Shared) (H : Hp) (C : Addr) (cl : List (Str × Addr)) (fp : List Addr), PG (X.blk s H scope (compEnvC scope cl C X.env) fp) tg (gVT B t)) (ht : ∀ (s : Shared) (H : Hp) (C : Addr) (cl : List (Str × Addr)) (fp : List Addr), PTs (X.blk s H scope (compEnvC scope cl C X.env) fp) ifs (tCond B G c))
    (he : ∀ (s : Shared) (H : Hp) (C : Addr) (cl : List (Str × Addr)) (fp : List Addr), PE (X.blk s H scope (compEnvC scope cl C X.env) fp) elt (tE B G noW x)) {σ : L2.St} {H : Hp} {Q : VK} (h : tE B G W (.cmpr (own.map (·.2)) ik as t x c) σ H Q) :
    tLc wi (gVT B t) (tCond B G c) (tE B G noW x) (own.map (·.2)) σ H Q := by
  obtain ⟨ρ, S, Q0, E0, hL, hS, kQ, kE, h⟩ := h
  unfold wpE at h
  refine hw σ H _ ρ S E0 _ hL hS kE h fun items Gd S1 H1 J e1 s1 wk hZ D hD => ?_
  obtain ⟨I, i0, hs, hd⟩ := hZ D (s1.free hD)
  refine ⟨fun i m H' => m = items.length - i ∧ i ≤ items.length ∧ ∃ acc S2, RelS B S2 H' ∧ Ext H1 H' ∧ I i acc S2 ∧ acc.length ≤ i ∧ items.length ≤ sizeLine, ⟨items.length, by simp, Nat.zero_le _, [], _, s1.newL hD (Nat.zero_le _) .nil, .fresh hD, i0, Nat.le_refl _, ?_⟩, ?_⟩
  · exact wk.big
  rintro i m H2 ⟨rfl, hil, acc, S2, r2, e2, hI, hacc, hbig⟩
  by_cases hlt : i < items.length
  · have hx : items[i]? = some items[i] := by simp [hlt]
    obtain ⟨g2, hstep⟩ := hs i items[i] acc S2 hx hI hacc
    refine .inr ⟨wk.go i H2 S2 r2 e2 g2 hlt, fun H' => (i + 1) ≤ items.length ∧ ∃ acc S2, RelS B S2 H' ∧ Ext H1 H' ∧ I (i + 1) acc S2 ∧ acc.length ≤ i + 1, fun H' ⟨q1, acc', S', q2, q3, q4, q5⟩ => ⟨items.length - (i + 1), by omega, rfl, q1, acc', S', q2, q3, q4, q5, hbig⟩, fun v H3 hy => ?_⟩
    obtain ⟨e3, r3, p, hp, rp⟩ := wk.yld i H2 S2 v H3 r2 e2 g2 hlt hy
    rw [hx] at hp; cases hp
    have e13 := e2.trans e3
    refine ⟨items[i], wipeP ρ (own.map (·.2)), _, ((hL.ext e1).ext e13).wipe _, rp, fun σ' ρ' hL' hb' q => ?_, hstep⟩
    have hsub : ∀ j ∈ vtSlots t, j ∈ own.map (·.2) := fun j hj => by
      have := List.all_eq_true.mp hv j hj
      simpa using this
    refine ⟨wipe_eq ⟨hb'.1, fun j hj => hb'.2 j fun z => hj (hsub j z)⟩, ?_⟩
    -- the tests, then the element
    have fin : ∀ (b : Bool) (S4 : Store) (H4 : Hp), Ext H3 H4 → RelS B S4 H4 → (if b = true then wpE G x ρ' S4 (fun p S5 => S5 D = some (.lst acc) ∧ I (i + 1) (acc ++ [p]) (S5.upd D (.lst (acc ++ [p])))) noE else I (i + 1) acc S4) →
        (if b = true then tE B G noW x σ' H4 (fun y H5 => ∃ ac, H5 D = some (.lst ac) ∧ ac.length < sizeLine ∧ ((i + 1) ≤ items.length ∧ ∃ acc S2, RelS B S2 (L2.upd H5 D (.lst (ac ++ [y]))) ∧ Ext H1 (L2.upd H5 D (.lst (ac ++ [y]))) ∧ I (i + 1) acc S2 ∧ acc.length ≤ i + 1))
          else ((i + 1) ≤ items.length ∧ ∃ acc S2, RelS B S2 H4 ∧ Ext H1 H4 ∧ I (i + 1) acc S2 ∧ acc.length ≤ i + 1)) := by
      intro b S4 H4 e4 r4 q4
      cases b with
      | false => exact iteF ⟨hlt, acc, S4, r4, e13.trans e4, by simpa using q4, by omega⟩
      | true =>
        refine iteT ?_
        rw [if_pos rfl] at q4
        refine ⟨ρ', S4, _, noE, hL'.ext e4, r4, fun p S5 H5 v e5 r5 rp5 q5 => ?_, .no, q4⟩
        obtain ⟨q5, q6⟩ := q5
        obtain ⟨us, d1, d2, d3⟩ := r5.lst q5
        have hl := d3.length
        have rn := d3.append (.cons rp5 .nil)
        have hz : (us ++ [v]).length ≤ sizeLine := by rw [List.length_append, hl, List.length_singleton]; omega
        exact ⟨us, d1, by omega, hlt, acc ++ [p], _, r5.setL d1 hz rn, ((e13.trans e4).trans e5).trans (.lst d1), q6, by rw [List.length_append, List.length_singleton]; omega⟩
    cases c with
    | none =>
      have q : (if true = true then wpE G x ρ' S2 (fun p S5 => S5 D = some (.lst acc) ∧ I (i + 1) (acc ++ [p]) (S5.upd D (.lst (acc ++ [p])))) noE else I (i + 1) acc S2) := by
        unfold wpC at q
        exact q
      exact fin true S2 H3 (.refl _) r3 q
    | some ce =>
      unfold wpC at q
      refine ⟨ρ', S2, _, noE, hL', r3, fun p S4 H4 e4 r4 q4 => ?_, .no, q⟩
      split at q4
      · rename_i b hb4
        exact ⟨b, hb4, fin b S4 H4 e4 r4 q4⟩
      · exact q4.elim
  · have e : i = items.length := by omega
    subst e
    obtain ⟨g2, q⟩ := hd acc S2 hI hacc
    exact .inl ⟨wk.stop H2 S2 r2 e2 g2, kQ _ _ _ _ (e1.trans e2) r2 rep_loc q⟩
end
end Core
end
section
set_option maxRecDepth 100000
set_option maxHeartbeats 4000000
/-! Core11: the theorem of expressions. -/
namespace Core
open PySem L2 PySem.Spec PyProof.Rows
section
variable {B : Bs} {N : List Str} {G : Env} {k : Nat} {sc : Scope} {W : WX} {X : Cx}
theorem relX {H : Hp} {E0 : QE} {W : WX} {σ : L2.St} (kE : OkX B H E0 (fun cls d H' => W cls d σ H')) : OkX B H E0 (WE W σ) := kE
theorem map2 {α β γ : Type} {x : Option α} {y : Option β} {f : α → β → Option γ} {c : γ} (h : (do let a ← x; let b ← y; f a b) = some c) : ∃ a b, x = some a ∧ y = some b ∧ f a b = some c := by
  cases x with
  | none => cases h
  | some a => cases y with
    | none => cases h
    | some b => exact ⟨a, b, rfl, rfl, h⟩
theorem map1 {α γ : Type} {x : Option α} {f : α → Option γ} {c : γ} (h : (do let a ← x; f a) = some c) : ∃ a, x = some a ∧ f a = some c := by
  cases x with
  | none => cases h
  | some a => exact ⟨a, rfl, h⟩
/-- a called def -/
theorem call_ok (ok : XOk B N G k sc W X) {f : Str} {fp pos : Pos} {args : List PySem.Expr} {i : Nat} {xs : List CE} (hg : isGl sc f = true) (hf : B.T.fns[i]? = some f) (ha : PA X args (tA B G W xs)) (hs : ∀ e ∈ args, noStar e = true) (hl : xs.length = args.length) :
    PE X (.Call (.Name f fp) args [] pos) (tE B G W (.call i xs)) := by
  obtain ⟨hg1, hg2⟩ := isGl_ok ok hg
  obtain ⟨fa, h1, h2⟩ := ok.pf.fnv i f hf
  have hm : X.mg f = some (.ref fa) := by rw [ok.hM]; exact h1
  have hkp : PySem.W.keepIn X.K (.ref fa) = true := by rw [ok.hK]; exact h2
  have end_ : ∀ {qs : List P} {S1 : Store} {Q0 : QP} {E0 : QE} {H1 : Hp} {vs : List V} {σ : L2.St} {Q : VK}, G.fn i qs S1 Q0 E0 → Reps B H1 qs vs → RelS B S1 H1 → OkQ B H1 Q0 Q → OkX B H1 E0 (WE W σ) →
      ∃ fd ps sp k, FnOk X.prog X.w X.K X.mg X.base (L2.CX X.prog X.w) k fa fd ps sp ∧ Room k X.A ∧ Binds X.K fd ps [] ∧ sp vs H1 Q (WE W σ) := fun {qs S1 Q0 E0 H1 vs σ Q} h r s kQ kE => by
    obtain ⟨fd, ps, b, F, l⟩ := ok.pf.fn i f fa qs S1 Q0 E0 hf h1 h
    rw [ok.hK, ok.hM]
    exact ⟨fd, ps, _, k, F, ok.room, b, by rw [r.length]; exact l, qs, S1, Q0, E0, r, s, kQ, kE, h⟩
  cases args with
  | nil =>
    have : xs = [] := List.eq_nil_of_length_eq_zero hl
    subst this
    refine PE.imp (pe_callD0 hg1 hm hkp (fun σ => passAt ok.tk σ) hg2) fun σ H Q ⟨ρ, S, Q0, E0, hL, hS, kQ, kE, h⟩ => ?_
    unfold wpE wpEs at h
    exact end_ h .nil hS kQ kE
  | cons e es =>
    refine PE.imp (pe_callD hg1 hm hkp (fun σ => passAt ok.tk σ) ha hg2 (star_cons (hs e List.mem_cons_self)) (star_all fun e he => hs e (List.mem_cons_of_mem _ he))) fun σ H Q ⟨ρ, S, Q0, E0, hL, hS, kQ, kE, h⟩ => ?_
    unfold wpE at h
    exact ⟨ρ, S, _, E0, hL, hS, fun qs S1 H1 vs e1 s1 r1 q1 => end_ q1 r1 s1 (kQ.at e1) (kE.at e1), kE, h⟩
/-- a name that holds a def, called -/
def tCallW (X : Cx) (i : Nat) (E : L2.St → XK) (t : TA) : TE := fun σ H Q => ∃ fa, σ[i]? = some (some (.ref fa)) ∧ PySem.W.keepIn X.K (.ref fa) = true ∧ t σ H fun vs H1 => ∃ fd ps sp k, FnOk X.prog X.w X.K X.mg X.base (L2.CX X.prog X.w) k fa fd ps sp ∧ Room k X.A ∧ Binds X.K fd ps [] ∧ sp vs H1 Q (E σ)
theorem pe_callW {i : Nat} {E : L2.St → XK} {x : Str} {p pos : Pos} {e : PySem.Expr} {es : List PySem.Expr} {t : TA} (h1 : X.N[i]? = some x) (h2 : Vis X.env.scope x) (hx : ∀ σ, PassesAt (L2.CX X.prog X.w) X σ (E σ)) (ha : PA X (e :: es) t) (d1 : (x == ("__debug__" : Str)) = false)
    (d2 : (x == ("__classdict__" : Str)) = false) (he : starEach (e :: es) X.env = (false, eval e X.env) :: starEach es X.env) (hpl : (backTo pos (starEach es X.env)).any (·.1) = false) : PE X (.Call (.Name x p) (e :: es) [] pos) (tCallW X i E t) := by
  refine ⟨fun pins s σ H Q I ⟨fa, hs, hk, h⟩ => ?_⟩
  refine wpAny_Call_Name_kw (thn ((pe_var (pos := p) h1 h2 d1 d2).run pins s σ H (fun v H1 => v = .ref fa ∧ H1 = H) I ⟨.ref fa, hs, rfl, rfl⟩) fun u s1 ⟨v, H1, I1, r1, e1, e2⟩ => ?_)
  subst e1 e2
  cases r1
  refine PySem.W.callWith_K (h₀ := X.base) I.ok.mod.kin hk (thn (ha.run pos pins s1 σ _ _ I1 h) fun us s2 ⟨vs, H2, I2, r, fd, ps, sp, k, F, hr, hb, q⟩ => ⟨I2.kIn, ?_⟩) he hpl
  exact run_fnS F hr hb (hx σ) I2 r q
theorem cvar_ok (ok : XOk B N G k sc W X) {f : Str} {fp pos : Pos} {args : List PySem.Expr} {i : Nat} {xs : List CE} (hi : slotOf N sc f = some i) (hne : args ≠ []) (ha : PA X args (tA B G W xs)) (hs : ∀ e ∈ args, noStar e = true) :
    PE X (.Call (.Name f fp) args [] pos) (tE B G W (.cvar i xs)) := by
  obtain ⟨g1, g2, g3, g4⟩ := slotOf_ok hi
  cases args with
  | nil => exact absurd rfl hne
  | cons e es =>
    refine PE.imp (pe_callW (i := i) (by rw [ok.hN]; exact g1) (by show Vis X.env.scope f; rw [ok.hS]; exact g2) (fun σ => passAt ok.tk σ) ha g3 g4 (star_cons (hs e List.mem_cons_self)) (star_all fun e he => hs e (List.mem_cons_of_mem _ he))) fun σ H Q ⟨ρ, S, Q0, E0, hL, hS, kQ, kE, h⟩ => ?_
    unfold wpE at h
    split at h
    · rename_i fi hf
      obtain ⟨v, e1, r1⟩ := hL.at_ i _ hf
      unfold Rep at r1
      obtain ⟨x, fa, n1, n2, rfl⟩ := r1
      obtain ⟨fa', m1, m2⟩ := ok.pf.fnv fi x n1
      rw [n2] at m1; cases m1
      refine ⟨fa, e1, by rw [ok.hK]; exact m2, ρ, S, _, E0, hL, hS, fun qs S1 H1 vs e2 s1 r2 q1 => ?_, kE, h⟩
      obtain ⟨fd, ps, b, F, l⟩ := ok.pf.fn fi x fa qs S1 Q0 E0 n1 n2 q1
      rw [ok.hK, ok.hM]
      exact ⟨fd, ps, _, k, F, ok.room, b, by rw [r2.length]; exact l, qs, S1, Q0, E0, r2, s1, kQ.at e2, kE.at e2, q1⟩
    · exact h.elim
/-- a class, called -/
theorem mk_ok (ok : XOk B N G k sc W X) {f : Str} {fp pos : Pos} {args : List PySem.Expr} {i : Nat} {xs : List CE} (hg : isGl sc f = true) (hf : B.T.cls[i]? = some f) (ha : PA X args (tA B G W xs)) (hs : ∀ e ∈ args, noStar e = true) (hl : xs.length = args.length) :
    PE X (.Call (.Name f fp) args [] pos) (tE B G W (.mk i xs)) := by
  obtain ⟨hg1, hg2⟩ := isGl_ok ok hg
  obtain ⟨C, h1, h2⟩ := ok.pf.clv i f hf
  have hm : X.mg f = some (.ref C) := by rw [ok.hM]; exact h1
  have hkp : PySem.W.keepIn X.K (.ref C) = true := by rw [ok.hK]; exact h2
  have end_ : ∀ {qs : List P} {S1 : Store} {Q0 : QP} {E0 : QE} {H1 : Hp} {vs : List V} {σ : L2.St} {Q : VK}, (∀ a, S1 a = none → G.ini i (.loc a :: qs) (S1.upd a (.ins i [])) (fun v S2 => v = .non ∧ Q0 (.loc a) S2) E0) → Reps B H1 qs vs → RelS B S1 H1 → OkQ B H1 Q0 Q → OkX B H1 E0 (WE W σ) →
      ∀ x dx, H1 x = none → H1 dx = none → dx ≠ x → ∃ f fd ps sp k, Mk X.K C f ∧ FnOk X.prog X.w X.K X.mg X.base (L2.CX X.prog X.w) k f fd ps sp ∧ Room (k + 1) X.A ∧ Binds X.K fd ps [] ∧
        sp (.ref x :: vs) (L2.upd (L2.upd H1 dx (.own x)) x (.ins C dx [])) (fun v H2 => v = .non ∧ Q (.ref x) H2) (WE W σ) := fun {qs S1 Q0 E0 H1 vs σ Q} h r s kQ kE x dx nx ndx ne => by
    have hx := h x (s.free nx)
    obtain ⟨g, fd, ps, k', ek, c, noA, M, b, F, l⟩ := ok.pf.ini i f C _ _ _ _ hf h1 hx
    rw [ok.hK, ok.hM]
    have n2 : (L2.upd H1 dx (.own x)) x = none := by rw [L2.upd_ne (Ne.symm ne)]; exact nx
    have e1 : Ext H1 (L2.upd (L2.upd H1 dx (.own x)) x (.ins C dx [])) := Ext.trans (.fresh ndx) (.fresh n2)
    refine ⟨g, fd, ps, _, k', M, F, by rw [← ek]; exact ok.room, b, by rw [List.length_cons, r.length]; exact l, .loc x :: qs, S1.upd x (.ins i []), _, E0, .cons rep_loc (r.ext e1), ?_, fun p S2 H2 v e2 s2 r2 q2 => ?_, kE.at e1, hx⟩
    · exact (s.ext ndx).upd (.fresh n2) ⟨f, C, dx, [], ⟨hf, h1, c, noA⟩, L2.upd_same, rfl⟩
    · obtain ⟨rfl, q2⟩ := q2
      exact ⟨r2.non_inv, kQ _ _ _ _ (e1.trans e2) s2 rep_loc q2⟩
  cases args with
  | nil =>
    have : xs = [] := List.eq_nil_of_length_eq_zero hl
    subst this
    refine PE.imp (pe_makeD0 hg1 hm hkp (fun σ => passAt ok.tk σ) hg2) fun σ H Q ⟨ρ, S, Q0, E0, hL, hS, kQ, kE, h⟩ => ?_
    unfold wpE wpEs at h
    exact end_ h .nil hS kQ kE
  | cons e es =>
    refine PE.imp (pe_makeD hg1 hm hkp (fun σ => passAt ok.tk σ) ha hg2 (star_cons (hs e List.mem_cons_self)) (star_all fun e he => hs e (List.mem_cons_of_mem _ he))) fun σ H Q ⟨ρ, S, Q0, E0, hL, hS, kQ, kE, h⟩ => ?_
    unfold wpE at h
    exact ⟨ρ, S, _, E0, hL, hS, fun qs S1 H1 vs e1 s1 r1 q1 => end_ q1 r1 s1 (kQ.at e1) (kE.at e1), kE, h⟩
theorem call_form {o : PySem.Expr} {m : Str} {apos pos : Pos} {args : List PySem.Expr} {env : PySem.Env} (h : plainBase0 o = true) (hs : ∀ e ∈ args, noStar e = true) (hl : args.length ≤ 20) (hline : (apos.endLine == pos.line) = true) : ∃ pl : Sem Bool, eval (.Call (.Attribute o m apos) args [] pos) env = (do
      let ov ← eval o env
      standAt apos.atName
      let (f, first) ← holding [ov] (getMethod ov m pl)
      callWith pos f first (backTo pos (starEach args env)) (backToKw pos (keywordEach [] env))) := by
  refine ⟨(do return (← importBound o env).getD true), ?_⟩
  show (do
    let ov ← attributeBase o m env (eval o env)
    standAt apos.atName
    methodCall o m apos pos env ov (args.length + 0) (backTo pos (starEach args env)) (backToKw pos (keywordEach [] env))) = _
  rw [attrBase_ok h]
  have f : methodCallForm (args.length + 0) (backTo pos (starEach args env)) (backToKw pos (keywordEach [] env)) = true := by
    unfold methodCallForm
    rw [star_all' hs]
    show (true && true && decide (args.length + 0 + 0 < 30)) = true
    rw [decide_eq_true (by omega)]
    rfl
  have p : methodCallPos true o env apos pos = pure pos := by
    unfold methodCallPos
    rw [if_pos (by rw [hline]; rfl)]
  unfold methodCall
  rw [f, p]
  rfl
/-- a method, called -/
theorem mth_ok (ok : XOk B N G k sc W X) {m : Str} {apos pos : Pos} {o : PySem.Expr} {args : List PySem.Expr} {j : Nat} {x : CE} {xs : List CE} (hm : B.T.mts[j]? = some m) (hb : plainBase0 o = true) (hline : (apos.endLine == pos.line) = true) (hfew : args.length ≤ 20) (ho : PE X o (tE B G W x)) (ha : PA X args (tA B G W xs)) (hs : ∀ e ∈ args, noStar e = true) (hl : xs.length = args.length) :
    PE X (.Call (.Attribute o m apos) args [] pos) (tE B G W (.mth x j xs)) := by
  have obj : ∀ {p : P} {S1 : Store} {H1 : Hp} {v : V} {R : Nat → Addr → Prop}, RelS B S1 H1 → Rep B H1 p v → (match p with
      | .loc l => match S1 l with
        | some (.ins c _) => G.has c j = true ∧ R c l
        | _ => False
      | _ => False) → ∃ a C dx gs f c y, p = .loc a ∧ v = .ref a ∧ H1 a = some (.ins C dx gs) ∧ gs.lookup m = none ∧ Cls X.K C ∧ Meth X.K C m f ∧ B.T.cls[c]? = some y ∧ B.mg y = some (.ref C) ∧ R c a := by
    intro p S1 H1 v R s r h
    cases p <;> try exact h.elim
    rename_i a
    simp only at h
    split at h
    · rename_i c fs hx
      obtain ⟨y, C, dx, gs, ⟨h1, h2, h3, _⟩, h5, h6⟩ := s a _ hx
      obtain ⟨f, hf⟩ := ok.pf.has c j y m C h1 h2 hm h.1
      rw [ok.hK]
      exact ⟨a, C, dx, gs, f, c, y, rfl, r.loc_inv, h5, RepF.none (fun g hg => ok.pf.dis g j m hg hm) h6, h3, hf, h1, h2, h.2⟩
    · exact h.elim
  have end_ : ∀ {c : Nat} {y : Str} {C f a : Addr} {qs : List P} {S1 : Store} {Q0 : QP} {E0 : QE} {H1 : Hp} {vs : List V} {σ : L2.St} {Q : VK}, B.T.cls[c]? = some y → B.mg y = some (.ref C) → Meth X.K C m f → G.mth c j (.loc a :: qs) S1 Q0 E0 → Reps B H1 qs vs → RelS B S1 H1 → OkQ B H1 Q0 Q → OkX B H1 E0 (WE W σ) →
      ∃ fd ps sp k, FnOk X.prog X.w X.K X.mg X.base (L2.CX X.prog X.w) k f fd ps sp ∧ Room k X.A ∧ Binds X.K fd ps [] ∧ sp (.ref a :: vs) H1 Q (WE W σ) := fun {c y C f a qs S1 Q0 E0 H1 vs σ Q} h1 h2 hf h r s kQ kE => by
    obtain ⟨fd, ps, b, F, l⟩ := ok.pf.mth c j y m C f _ _ _ _ h1 h2 hm (by rw [← ok.hK]; exact hf) h
    rw [ok.hK, ok.hM]
    exact ⟨fd, ps, _, k, F, ok.room, b, by rw [List.length_cons, r.length]; exact l, .loc a :: qs, S1, Q0, E0, .cons rep_loc r, s, kQ, kE, h⟩
  cases args with
  | nil =>
    have : xs = [] := List.eq_nil_of_length_eq_zero hl
    subst this
    obtain ⟨pl, hf⟩ := call_form (m := m) (apos := apos) (pos := pos) (args := []) (env := X.env) hb hs hfew hline
    refine PE.imp (pe_methD0 (E := WE W) ho (fun σ => passAt ok.tk σ) hf) fun σ H Q ⟨ρ, S, Q0, E0, hL, hS, kQ, kE, h⟩ => ?_
    unfold wpE wpEs at h
    refine ⟨ρ, S, _, E0, hL, hS, fun p S1 H1 v e1 s1 r1 q1 => ?_, kE, h⟩
    obtain ⟨a, C, dx, gs, f, c, y, rfl, rfl, h1, h2, h3, h4, h5, h6, q⟩ := obj s1 r1 q1
    exact ⟨a, C, dx, gs, f, rfl, h1, h2, h3, h4, end_ h5 h6 h4 q .nil s1 (kQ.at e1) (kE.at e1)⟩
  | cons e es =>
    obtain ⟨pl, hf⟩ := call_form (m := m) (apos := apos) (pos := pos) (args := e :: es) (env := X.env) hb hs hfew hline
    refine PE.imp (pe_methD (E := WE W) ho (fun σ => passAt ok.tk σ) ha (star_cons (hs e List.mem_cons_self)) (star_all fun e he => hs e (List.mem_cons_of_mem _ he)) hf) fun σ H Q ⟨ρ, S, Q0, E0, hL, hS, kQ, kE, h⟩ => ?_
    unfold wpE at h
    refine ⟨ρ, S, _, E0, hL, hS, fun p S1 H1 v e1 s1 r1 q1 => ?_, kE, h⟩
    obtain ⟨a, C, dx, gs, f, c, y, rfl, rfl, h1, h2, h3, h4, h5, h6, q⟩ := obj s1 r1 q1
    refine ⟨a, C, dx, gs, f, rfl, h1, h2, h3, h4, ρ, S1, _, E0, hL.ext e1, s1, fun qs S2 H2 vs e2 s2 r2 q2 => ?_, kE.at e1, q⟩
    exact end_ h5 h6 h4 q2 r2 s2 ((kQ.at e1).at e2) ((kE.at e1).at e2)
/-- a list's method, called -/
theorem bmt_ok (ok : XOk B N G k sc W X) {m : Str} {apos pos : Pos} {o : PySem.Expr} {args : List PySem.Expr} {b : Bm} {x : CE} {xs : List CE} (hm : bmOf m = some b) (hb : plainBase0 o = true) (hline : (apos.endLine == pos.line) = true) (hfew : args.length ≤ 3) (hne : b = .get → args ≠ [])
    (ho : PE X o (tE B G W x)) (ha : PA X args (tA B G W xs)) (hs : ∀ e ∈ args, noStar e = true) (hl : xs.length = args.length) :
    PE X (.Call (.Attribute o m apos) args [] pos) (tE B G W (.bmt x b xs)) := by
  have hn := bmOf_name hm
  by_cases hget : b = .get
  · subst hget
    subst hn
    have hw : X.w = B.w := ok.pf.wd
    have hu : X.A.units + 16 < cLine := by have := ok.room.un; omega
    cases args with
    | nil => exact absurd rfl (hne rfl)
    | cons e es =>
      refine PE.imp (pe_dM (B := B) PySem.F.slot_dict_get PySem.F.type_dict_get (mt_dN ok.hK hw hu) ho ha (attrBase_ok hb) ?_ hline (star_cons (hs e List.mem_cons_self)) (star_all fun e he => hs e (List.mem_cons_of_mem _ he))) fun σ H Q ⟨ρ, S, Q0, E0, hL, hS, kQ, kE, h⟩ => ?_
      · rw [star_all' hs, decide_eq_true (by simp at hfew ⊢; omega)]
        rfl
      · unfold wpE at h
        refine ⟨ρ, S, _, E0, hL, hS, fun p S1 H1 v e1 s1 r1 q1 => ?_, kE, h⟩
        obtain ⟨⟨a, kvs, rfl, hx⟩, q1⟩ := q1
        refine ⟨⟨a, r1.loc_inv, ?_⟩, ρ, S1, _, E0, hL.ext e1, s1, fun qs S2 H2 vs e2 s2 r2 q2 => ?_, kE.at e1, q1⟩
        · rcases s1.dct hx with ⟨ks, h1, _⟩ | ⟨_, ks, h1, _⟩
          · exact .inl ⟨ks, h1⟩
          · exact .inr ⟨ks, h1⟩
        · refine ⟨a, r1.loc_inv, ?_⟩
          unfold bmS at q2
          split at q2 <;> first | contradiction | skip
          · split at q2
            · rename_i a' kvs' hd
              obtain ⟨ea, hx2⟩ := dctS_inv hd
              cases ea
              obtain ⟨y, rfl, ry⟩ := r2.one
              rcases (s2.dct hx2).get q2.1 ry with ⟨p, v, g1, g2, g3⟩ | ⟨g1, g2⟩
              · exact .inl ⟨y, some v, rfl, g2, here ((kQ.at e1).at e2) s2 g3 (by have := q2.2; rw [g1] at this; exact this)⟩
              · exact .inl ⟨y, none, rfl, g2, here ((kQ.at e1).at e2) s2 rep_non (by have := q2.2; rw [g1] at this; exact this)⟩
            · exact q2.elim
          · split at q2
            · rename_i a' kvs' hd
              obtain ⟨ea, hx2⟩ := dctS_inv hd
              cases ea
              obtain ⟨y, z, rfl, ry, rz⟩ := r2.two
              rcases (s2.dct hx2).get q2.1 ry with ⟨p, v, g1, g2, g3⟩ | ⟨g1, g2⟩
              · exact .inr ⟨y, z, some v, rfl, g2, here ((kQ.at e1).at e2) s2 g3 (by have := q2.2; rw [g1] at this; exact this)⟩
              · exact .inr ⟨y, z, none, rfl, g2, here ((kQ.at e1).at e2) s2 rz (by have := q2.2; rw [g1] at this; exact this)⟩
            · exact q2.elim
  have hin : b = .append ∨ b = .pop ∨ b = .extend ∨ b = .reverse ∨ b = .index := by
    unfold bmOf at hm
    split at hm
    · cases hm; exact .inl rfl
    · split at hm
      · cases hm; exact .inr (.inl rfl)
      · split at hm
        · cases hm; exact .inr (.inr (.inl rfl))
        · split at hm
          · cases hm; exact .inr (.inr (.inr (.inl rfl)))
          · split at hm
            · cases hm; exact absurd rfl hget
            · split at hm
              · cases hm; exact .inr (.inr (.inr (.inr rfl)))
              · cases hm
  subst hn
  obtain ⟨r, hr, hv⟩ := bm_ok (X := X) (B := B) ok.hK (by have := ok.room.un; omega) b xs.length
  obtain ⟨id, slot, hty, hmt⟩ := hr hin
  have ty : ∀ {p : P} {S1 : Store} {H1 : Hp} {v : V}, RelS B S1 H1 → Rep B H1 p v → (∃ a ys, p = .loc a ∧ S1 a = some (.lst ys)) → tyV X.K "list" v H1 := fun {p S1 H1 v} s r ⟨a, ys, e, h⟩ => by
    subst e
    obtain ⟨us, h1, _⟩ := s.lst h
    rw [r.loc_inv]
    exact .inl ⟨rfl, us, SqL.of h1⟩
  cases args with
  | nil =>
    have : xs = [] := List.eq_nil_of_length_eq_zero hl
    subst this
    refine PE.imp (pe_bm0 PySem.F.plainAttrs_list slot hty hmt ho (attrBase_ok hb) hline) fun σ H Q ⟨ρ, S, Q0, E0, hL, hS, kQ, kE, h⟩ => ?_
    unfold wpE wpEs at h
    refine ⟨ρ, S, _, E0, hL, hS, fun p S1 H1 v e1 s1 r1 q1 => ?_, kE, h⟩
    have q11 : ∃ a ys, p = .loc a ∧ S1 a = some (.lst ys) := by cases b <;> first | exact absurd rfl hget | exact q1.1
    exact ⟨ty s1 r1 q11, hv p [] S1 v [] H1 Q0 Q s1 r1 .nil (kQ.at e1) ⟨rfl, q1.2⟩⟩
  | cons e es =>
    refine PE.imp (pe_bm PySem.F.plainAttrs_list slot hty hmt ho ha (attrBase_ok hb) ?_ hline (star_cons (hs e List.mem_cons_self)) (star_all fun e he => hs e (List.mem_cons_of_mem _ he))) fun σ H Q ⟨ρ, S, Q0, E0, hL, hS, kQ, kE, h⟩ => ?_
    · rw [star_all' hs, decide_eq_true (by simp at hfew ⊢; omega)]
      rfl
    · unfold wpE at h
      refine ⟨ρ, S, _, E0, hL, hS, fun p S1 H1 v e1 s1 r1 q1 => ?_, kE, h⟩
      have q11 : ∃ a ys, p = .loc a ∧ S1 a = some (.lst ys) := by cases b <;> first | exact absurd rfl hget | exact q1.1
      refine ⟨ty s1 r1 q11, ρ, S1, _, E0, hL.ext e1, s1, fun qs S2 H2 vs e2 s2 r2 q2 => ?_, kE.at e1, wpEs_len ok.pf.gm q1.2⟩
      exact hv p qs S2 v vs H2 Q0 Q s2 (r1.ext e2) r2 ((kQ.at e1).at e2) q2
end
end Core
end
section
set_option maxRecDepth 100000
set_option maxHeartbeats 4000000
/-! CoreA: slices with a step of 1 or -1, of lists and tuples. -/
namespace HT
open PySem PySem.Spec PyProof.Rows
section
variable {prog : Program} {w : World} {A : Around} {E : Value → Shared → Prop} {s : Shared}
theorem places_back (n : Nat) : Builtin.Slice.slicePlaces ((n : Int) - 1) (-1) (-1) = n := by
  unfold Builtin.Slice.slicePlaces
  simp only [show ¬ ((-1 : Int) > 0) from by decide, if_false, show (- -1 : Int) = 1 from by decide, Int.ediv_one]
  split <;> omega
theorem places_on (n : Nat) : Builtin.Slice.slicePlaces 0 (n : Int) 1 = n := by
  unfold Builtin.Slice.slicePlaces
  simp only [show ((1 : Int) > 0) from by decide, if_true, Int.ediv_one]
  split <;> omega
theorem sliceApplied_dir {sl : Addr} {vs : Value} {st : Int} {n : Nat} {Q : Int × Int × Nat → Shared → Prop} (hs : s.heap.IsSliceOf sl .none .none vs) (ps : IsPart vs (some st)) (h1 : st = 1 ∨ st = -1)
    (h : Q ((if st < 0 then (n : Int) - 1 else 0), st, n) s) : wpAny (model prog w) A (Builtin.Slice.sliceApplied (.ref sl) (pure (n : Int))) Q E s := by
  obtain ⟨os, hos, hcs, hds⟩ := id hs
  unfold Builtin.Slice.sliceApplied Builtin.Slice.sliceFields
  refine wpAny_bind (wpAny_bind (wpAny_field hos hds (x := .none) rfl (wpAny_bind (wpAny_field hos hds (x := .none) rfl (wpAny_bind (wpAny_field hos hds (x := vs) rfl (wpAny_pure ?_)))))))
  refine wpAny_bind (slicePart_ ps ?_)
  show wpAny _ _ (if (st == 0) = true then _ else _) _ _ s
  rw [if_neg (by rcases h1 with rfl | rfl <;> decide)]
  refine wpAny_bind (slicePart_none (wpAny_bind (slicePart_none (wpAny_bind (wpAny_pure ?_)))))
  rcases h1 with rfl | rfl
  · show wpAny _ _ (pure ((0 : Int), (1 : Int), Builtin.Slice.slicePlaces 0 (n : Int) 1)) _ _ s
    rw [places_on]
    exact wpAny_pure h
  · show wpAny _ _ (pure ((n : Int) - 1, (-1 : Int), Builtin.Slice.slicePlaces ((n : Int) - 1) (-1) (-1))) _ _ s
    rw [places_back]
    exact wpAny_pure h
theorem filterMap_same {α β : Type} {f g : α → Option β} : ∀ {l : List α}, (∀ m ∈ l, f m = g m) → l.filterMap f = l.filterMap g
  | [], _ => rfl
  | x :: l, h => by
    rw [List.filterMap_cons, List.filterMap_cons, h x List.mem_cons_self, filterMap_same fun m hm => h m (List.mem_cons_of_mem _ hm)]
theorem pick_back (xs : Array Value) : ((List.range xs.size).filterMap fun (m : Nat) => xs[((if (-1 : Int) < 0 then (xs.size : Int) - 1 else 0) + (m : Int) * (-1)).toNat]?).toArray = xs.toList.reverse.toArray := by
  have e : (List.range xs.size).filterMap (fun (m : Nat) => xs[((if (-1 : Int) < 0 then (xs.size : Int) - 1 else 0) + (m : Int) * (-1)).toNat]?) = ((List.range xs.size).map fun k => xs.size - 1 - k).filterMap (xs[·]?) := by
    rw [List.filterMap_map]
    apply filterMap_same
    intro m hm
    have := List.mem_range.mp hm
    show xs[((xs.size : Int) - 1 + (m : Int) * (-1)).toNat]? = xs[xs.size - 1 - m]?
    have z : ((xs.size : Int) - 1 + (m : Int) * (-1)).toNat = xs.size - 1 - m := by omega
    rw [z]
  rw [e, PySem.W.krv_range, List.filterMap_reverse, PySem.W.krv_all]
theorem getItem_tuple_back {t sl : Addr} {items : Array Value} {vs : Value} {Q : Value → Shared → Prop} (ht : IsTup s.heap t items) (hs : s.heap.IsSliceOf sl .none .none vs) (ps : IsPart vs (some (-1)))
    (h : Q (.ref s.heap.objs.size) { s with heap := s.heap.push { cls := .type "tuple", data := .seq items.toList.reverse.toArray } })
    (hsz : items.size ≤ sizeLine) : wpAny (model prog w) A (getItem (.ref t) (.ref sl)) Q E s := by
  have htake : sizeOk (.seq items.toList.reverse.toArray) := by
    show items.toList.reverse.toArray.size ≤ sizeLine
    rw [List.size_toArray, List.length_reverse, Array.length_toList]
    exact hsz
  obtain ⟨os, hos, hcs, hds⟩ := id hs
  have hTs : s.TypeIs (.ref sl) "slice" := ⟨os, hos, hcs⟩
  unfold getItem
  try with_reducible refine wpAny_holding ?_
  first | refine wpAny_bind (wpAny_pure ?_) | skip
  refine wpAny_bind (wpAny_sequenceKey ht.typeIs (by decide) ?_)
  refine wpAny_bind (wpAny_callSpecial?_slot (name := Str.ofString "__getitem__") ht.typeIs PyProof.Rows.slot_tuple_getitem
    (wpAny_call_entry PyProof.Rows.slot_tuple_getitem ht.typeIs entry_tuple_getitem ?_ (args_tuple_getitem _ _)))
  show wpAny _ _ (Builtin.Tuple.tupleItemsOf (.ref t) >>= _) _ _ s
  refine wpAny_bind (tupleItemsOf_ ht ?_)
  refine wpAny_bind (wpAny_typeOf hTs ?_)
  rw [if_pos (by decide)]
  refine wpAny_bind (sliceApplied_dir hs ps (.inr rfl) ?_)
  show wpAny _ _ (if (((items.size : Int) - 1) == 0 && (-1 : Int) == 1 && items.size == items.size) = true then _ else _) _ _ s
  rw [if_neg (by rw [show ((-1 : Int) == 1) = false from by decide, Bool.and_false, Bool.false_and]; decide), pick_back]
  first
    | exact wpAny_bind (m := Builtin.Tuple.tupleExact _) (wpAny_newObj_type (wpAny_pure ⟨_, rfl, wpAny_pure h⟩) htake)
    | exact wpAny_bind (m := Builtin.Tuple.tupleExact _) (wpAny_newObj_type (wpAny_bind (wpAny_pure (wpAny_pure ⟨_, rfl, wpAny_pure h⟩))) htake)
    | exact wpAny_bind (wpAny_bind (m := Builtin.Tuple.tupleExact _) (wpAny_newObj_type (wpAny_pure (wpAny_pure ⟨_, rfl, wpAny_pure h⟩)) htake))
    | exact wpAny_bind (wpAny_bind (m := Builtin.Tuple.tupleExact _) (wpAny_newObj_type (wpAny_pure ⟨_, rfl, wpAny_pure h⟩) htake))
theorem getItem_tuple_on {t sl : Addr} {items : Array Value} {vs : Value} {Q : Value → Shared → Prop} (ht : IsTup s.heap t items) (hs : s.heap.IsSliceOf sl .none .none vs) (ps : IsPart vs (some 1))
    (h : Q (.ref t) s) : wpAny (model prog w) A (getItem (.ref t) (.ref sl)) Q E s := by
  obtain ⟨os, hos, hcs, hds⟩ := id hs
  have hTs : s.TypeIs (.ref sl) "slice" := ⟨os, hos, hcs⟩
  unfold getItem
  try with_reducible refine wpAny_holding ?_
  first | refine wpAny_bind (wpAny_pure ?_) | skip
  refine wpAny_bind (wpAny_sequenceKey ht.typeIs (by decide) ?_)
  refine wpAny_bind (wpAny_callSpecial?_slot (name := Str.ofString "__getitem__") ht.typeIs PyProof.Rows.slot_tuple_getitem
    (wpAny_call_entry PyProof.Rows.slot_tuple_getitem ht.typeIs entry_tuple_getitem ?_ (args_tuple_getitem _ _)))
  show wpAny _ _ (Builtin.Tuple.tupleItemsOf (.ref t) >>= _) _ _ s
  refine wpAny_bind (tupleItemsOf_ ht ?_)
  refine wpAny_bind (wpAny_typeOf hTs ?_)
  rw [if_pos (by decide)]
  refine wpAny_bind (sliceApplied_dir hs ps (.inl rfl) ?_)
  show wpAny _ _ (if ((0 : Int) == 0 && (1 : Int) == 1 && items.size == items.size) = true then _ else _) _ _ s
  rw [if_pos (by simp)]
  refine wpAny_bind ?_
  show wpAny _ _ (typeOf (.ref t) >>= fun T => pure (T == .type "tuple")) _ _ s
  refine wpAny_bind (wpAny_typeOf ht.typeIs (wpAny_pure ?_))
  first
    | rw [if_pos (by decide)]
    | simp only [beq_self_eq_true, if_true]
  first
    | exact wpAny_bind (wpAny_rule (wpAny_pure ⟨_, rfl, wpAny_pure h⟩))
    | exact wpAny_bind (wpAny_rule (wpAny_bind (wpAny_pure (wpAny_pure ⟨_, rfl, wpAny_pure h⟩))))
end
end HT
namespace Core
open PySem PySem.Spec PyProof.Rows L2
def dirL {α : Type} (i : Int) (xs : List α) : List α := if i = 1 then xs else xs.reverse
theorem pick_dir (items : Array Value) {i : Int} (h : i = 1 ∨ i = -1) : slicePick items none none (some i) = (dirL i items.toList).toArray := by
  rcases h with rfl | rfl
  · unfold slicePick
    have e : sliceBounds none none (some 1) items.size = (0, (items.size : Int), 1) := by first | rfl | simp [sliceBounds]
    rw [e]
    show ((sliceRange 0 (items.size : Int) 1).filterMap (items[·]?)).toArray = items.toList.toArray
    have z : sliceRange 0 (items.size : Int) 1 = List.range items.size := by
      unfold sliceRange
      by_cases h : (0 : Int) < items.size
      · simp only [show ((1 : Int) > 0) from by decide, if_true, h, Int.ediv_one]
        have : ((items.size : Int) - 0 + 1 - 1).toNat = items.size := by omega
        simp [this]
      · have e : items.size = 0 := by omega
        rw [e]; simp
    rw [z, PySem.W.krv_all]
  · rw [PySem.W.krv_pick]; rfl
/-- x[::w] -/
def stpK (K : PySem.W.Frag) (x : V) (Q : VK) : Option Int → Hp → Prop := fun o H2 => ∃ i, o = some i ∧ (i = 1 ∨ i = -1) ∧
  ((∃ a xs, x = .ref a ∧ SqL K H2 a xs ∧ ∀ p, H2 p = none → Q (.ref p) (upd H2 p (.lst (dirL i xs)))) ∨
   (∃ a xs, x = .ref a ∧ SqT K H2 a xs ∧ (i = 1 → Q (.ref a) H2) ∧ (i = -1 → ∀ p, H2 p = none → Q (.ref p) (upd H2 p (.tup xs.reverse)))))
def tStp (K : PySem.W.Frag) (te tw : TE) : TE := fun σ H Q => te σ H fun x H1 => tPart tw σ H1 (stpK K x Q)
theorem vals_dir {i : Int} {xs : List V} {its : List Value} (r : Vals xs its) : Vals (dirL i xs) (dirL i its) := by
  unfold dirL
  split
  · exact r
  · exact r.reverse
theorem pe_stp {X : Cx} {e st : Expr} {te tw : TE} {p3 pos : Pos} (he : PE X e te) (hw : PE X st tw) : PE X (.Subscript e (.Slice none none (some st) p3) pos) (tStp X.K te tw) := by
  refine ⟨fun pins s σ H Q I h => ?_⟩
  refine Subscript_ (thn (he.run pins s σ H _ I h) fun v s1 ⟨x, H1, I1, r1, q1⟩ => ?_)
  have hst : PO X (some st) (tPart tw) := po_some hw
  refine wpAny_Slice (thn (po_none.run pins s1 σ H1 (fun o H2 => o = none ∧ H2 = H1) I1 ⟨rfl, rfl⟩) fun vl s2 ⟨l, H2, I2, pl, el, e2⟩ => ?_)
  subst el e2
  refine thn (po_none.run pins s2 σ H2 (fun o H3 => o = none ∧ H3 = H2) I2 ⟨rfl, rfl⟩) fun vu s3 ⟨u, H3, I3, pu, eu, e3⟩ => ?_
  subst eu e3
  refine thn (hst.run pins s3 σ H3 _ I3 q1) fun vs s4 ⟨o, H4, I4, ps, i, eo, hi, q4⟩ => ?_
  subst eo
  have I5 : Inv X pins σ H4 { s4 with heap := s4.heap.push { cls := .type "slice", data := .fields #[vl, vu, vs] } } := I4.kept (t' := s4.toks) fun b ob q => Heap.get?_push_of_some _ q
  rcases q4 with ⟨a, xs, ex, hx, q⟩ | ⟨a, xs, ex, hx, qw, qb⟩
  · subst ex
    cases r1
    obtain ⟨its, r, ht, hz⟩ := I5.list hx
    have hlen := r.length
    show wpAny (model X.prog X.w) X.A (subscriptTail e (.Slice none none (some st) p3) (.ref a) (.ref s4.heap.objs.size)) (EP X pins σ Q) X.xe { s4 with heap := s4.heap.push { cls := .type "slice", data := .fields #[vl, vu, vs] } }
    refine tail_any (ops := [.ref a, .ref s4.heap.objs.size]) ht.isList.typeIs (PySem.slot_list_getitem.lookup) ?_ (by with_unfolding_all rfl)
    refine wpAny_getItem_list_slice ht.isList (Heap.IsSliceOf.new _ vl vu vs) pl pu ps (by rcases hi with rfl | rfl <;> decide) ?_ (by rw [List.size_toArray]; omega)
    rw [pick_dir _ hi]
    refine ⟨.ref _, _, I5.laid (t' := s4.toks) (o := .lst (dirL i xs)) (fun b ob q => Heap.get?_push_of_some _ q) (Nat.le_refl _) ?_, rfl, q _ (I5.hok.fresh (Nat.le_refl _))⟩
    exact ⟨by unfold dirL; split <;> simpa using hz, _, 0, vals_dir r, Heap.get?_push_size _ rfl⟩
  · subst ex
    cases r1
    obtain ⟨its, r, ht, hz⟩ := I5.tuple hx
    have hlen := r.length
    show wpAny (model X.prog X.w) X.A (subscriptTail e (.Slice none none (some st) p3) (.ref a) (.ref s4.heap.objs.size)) (EP X pins σ Q) X.xe { s4 with heap := s4.heap.push { cls := .type "slice", data := .fields #[vl, vu, vs] } }
    cases pl
    cases pu
    refine tail_any (ops := [.ref a, .ref s4.heap.objs.size]) (show Shared.TypeIs _ (.ref a) "tuple" from (show IsTup _ a its.toArray from ht).typeIs) (PyProof.Rows.slot_tuple_getitem.lookup) ?_ (by with_unfolding_all rfl)
    rcases hi with rfl | rfl
    · exact HT.getItem_tuple_on ht (Heap.IsSliceOf.new _ .none .none vs) ps ⟨.ref a, _, I5, rfl, qw rfl⟩
    · refine HT.getItem_tuple_back ht (Heap.IsSliceOf.new _ .none .none vs) ps ?_ (by rw [List.size_toArray]; omega)
      refine ⟨.ref _, _, I5.laid (t' := s4.toks) (o := .tup xs.reverse) (fun b ob q => Heap.get?_push_of_some _ q) (Nat.le_refl _) ?_, rfl, qb rfl _ (I5.hok.fresh (Nat.le_refl _))⟩
      exact ⟨by rw [List.length_reverse]; exact hz, _, r.reverse, IsTup.new _ _⟩
end Core
end
section
set_option maxRecDepth 100000
set_option maxHeartbeats 4000000
/-! Core12: expressions are sound. -/
namespace Core
open PySem L2 PySem.Spec PyProof.Rows
section
variable {B : Bs} {N : List Str} {G : Env} {k : Nat}
theorem mapM_tup {T : Tab} {n : Nat} {sc : Scope} {es : List PySem.Expr} {c : CE} {f : List CE → CE} (h : (es.mapM (trE T N n sc)).map f = some c) : ∃ cs, es.mapM (trE T N n sc) = some cs ∧ f cs = c := by
  rw [Option.map_eq_some_iff] at h; exact h
theorem part_ok {X : Cx} {W : WX} {o : Option PySem.Expr} {n : Nat} {sc : Scope} {l : Option CE} (IH : ∀ e c, trE B.T N n sc e = some c → PE X e (tE B G W c)) (h : (match o with | none => some none | some e => (trE B.T N n sc e).map some) = some l) :
    PO X o (fun σ H Q => ∃ (ρ : Loc) (S : Store) (Q0 : Option P → Store → Prop) (E0 : QE), RelL B H σ ρ ∧ RelS B S H ∧ (∀ p S' H', Ext H H' → RelS B S' H' → Q0 p S' → ∃ u, partOf p = some u ∧ Q u H') ∧ OkX B H E0 (fun cls d H' => W cls d σ H') ∧ wpO G l ρ S Q0 E0) := by
  cases o with
  | none =>
    simp only [Option.some.injEq] at h
    subst h
    refine ⟨fun pins s σ H Q I ⟨ρ, S, Q0, E0, hL, hS, kQ, kE, h⟩ => po_none.run pins s σ H Q I ?_⟩
    unfold wpO at h
    obtain ⟨u, h1, h2⟩ := kQ _ _ _ (.refl H) hS h
    cases h1
    exact h2
  | some e =>
    simp only [Option.map_eq_some_iff] at h
    obtain ⟨c, h1, h2⟩ := h
    subst h2
    refine ⟨fun pins s σ H Q I ⟨ρ, S, Q0, E0, hL, hS, kQ, kE, h⟩ => (po_some (IH e c h1)).run pins s σ H Q I ?_⟩
    unfold wpO at h
    refine ⟨ρ, S, _, E0, hL, hS, fun p S1 H1 v e1 s1 r1 q1 => ?_, kE, h⟩
    obtain ⟨u, h1, h2⟩ := kQ _ _ _ e1 s1 q1
    cases p <;> first | (simp [partOf] at h1; done) | skip
    simp only [partOf, Option.some.injEq] at h1
    subst h1
    exact ⟨_, r1.int_inv, h2⟩
theorem tyName_ok {x : Str} {u : Ty} (h : tyName x = some u) : bootBuiltins x = some (.type (tyStr u)) ∧ (x ∈ bltNames) ∧ x ≠ "__name__" ∧ (x == ("__debug__" : Str)) = false := by
  unfold tyName at h
  split at h
  · rename_i e; cases h; subst e; exact ⟨boot_int, by decide +kernel, by decide, by decide⟩
  · split at h
    · rename_i e; cases h; subst e; exact ⟨boot_bool, by decide +kernel, by decide, by decide⟩
    · split at h
      · rename_i e; cases h; subst e; exact ⟨boot_str, by decide +kernel, by decide, by decide⟩
      · split at h
        · rename_i e; cases h; subst e; exact ⟨boot_tuple, by decide +kernel, by decide, by decide⟩
        · split at h
          · rename_i e; cases h; subst e; exact ⟨boot_list, by decide +kernel, by decide, by decide⟩
          · cases h
theorem bfOf_mem {x : Str} {f : Bf} (h : bfOf x = some f) : x ∈ bltNames ∧ x ≠ "__name__" ∧ (x == ("__debug__" : Str)) = false := by
  have e := bfOf_name h
  unfold bfOf at h
  split at h
  · rename_i e; subst e; exact ⟨by decide +kernel, by decide, by decide⟩
  unfold bfOf0 at h
  repeat' (split at h; (rename_i e; cases h; subst e; exact ⟨by decide +kernel, by decide, by decide⟩))
  cases h
theorem opCmp_bl {op : CmpOp} {x y : P} {S : Store} {Q : QP} : opCmp op x y S Q → opCmp op x y S (fun p S' => (∃ b, p = .bl b) ∧ Q p S') := by
  unfold opCmp
  split
  · exact eqS_mono fun b h => ⟨⟨b, rfl⟩, h⟩
  · exact eqS_mono fun b h => ⟨⟨_, rfl⟩, h⟩
  · split <;> first | exact fun h => ⟨⟨_, rfl⟩, h⟩ | exact id
  · split <;> first | exact fun h => ⟨⟨_, rfl⟩, h⟩ | exact id
  · split <;> first | exact fun h => ⟨⟨_, rfl⟩, h⟩ | exact id
  · split <;> first | exact fun h => ⟨⟨_, rfl⟩, h⟩ | exact id
  · split <;> first | exact fun h => ⟨⟨_, rfl⟩, h⟩ | exact id
  · split <;> first | exact fun h => ⟨⟨_, rfl⟩, h⟩ | exact id
  · split
    · exact inF_mono fun b h => ⟨⟨_, rfl⟩, h⟩
    · split
      · exact inS_mono fun b h => ⟨⟨_, rfl⟩, h⟩
      · exact fun h => ⟨h.1, ⟨_, rfl⟩, h.2⟩
      · exact id
    · exact id
  · split
    · exact inF_mono fun b h => ⟨⟨_, rfl⟩, h⟩
    · split
      · exact inS_mono fun b h => ⟨⟨_, rfl⟩, h⟩
      · exact fun h => ⟨h.1, ⟨_, rfl⟩, h.2⟩
      · exact id
    · exact id
theorem cmp_bl (gm : GMono G) {op : CmpOp} {a b : CE} {ρ : Loc} {S : Store} {Q : QP} {E : QE} (h : wpE G (.cmp op a b) ρ S Q E) : wpE G (.cmp op a b) ρ S (fun p S' => (∃ b, p = .bl b) ∧ Q p S') E := by
  unfold wpE at h ⊢
  exact wpE_mono gm a (fun x S1 h => wpE_mono gm b (fun y S2 h => opCmp_bl h) (fun _ _ h => h) h) (fun _ _ h => h) h
theorem chn_bl (gm : GMono G) {op op' : CmpOp} {a b c : CE} {ρ : Loc} {S : Store} {Q : QP} {E : QE} (h : wpE G (.chn op op' a b c) ρ S Q E) : wpE G (.chn op op' a b c) ρ S (fun p S' => (∃ b, p = .bl b) ∧ Q p S') E := by
  unfold wpE at h ⊢
  refine wpE_mono gm a (fun x S1 h => wpE_mono gm b (fun y S2 h => opCmp_mono (fun z S3 h => ?_) h) (fun _ _ h => h) h) (fun _ _ h => h) h
  split at h
  · exact wpE_mono gm c (fun u S4 h => opCmp_bl h) (fun _ _ h => h) h
  · exact ⟨⟨_, rfl⟩, h⟩
  · exact h
theorem pt_ifExp {X : Cx} {c a b : PySem.Expr} {tc ta tb : TT} {pos : Pos} (hc : PT X c tc) (ha : PT X a ta) (hb : PT X b tb) : PT X (.IfExp c a b pos) (fun σ H Q => tc σ H fun d H1 => if d = true then ta σ H1 Q else tb σ H1 Q) := by
  refine ⟨fun pins s σ H Q I h => ?_⟩
  show wpAny _ _ (do if ← isTrue c X.env (eval c X.env) then isTrue a X.env (eval a X.env) else isTrue b X.env (eval b X.env)) _ _ s
  refine wpAny_bind (thn (hc.run pins s σ H _ I h) fun d s1 ⟨H1, I1, q1⟩ => ?_)
  cases d with
  | true => exact ha.run pins s1 σ H1 Q I1 q1
  | false => exact hb.run pins s1 σ H1 Q I1 q1
theorem isi2_ok {X : Cx} {sc : Scope} {W : WX} (ok : XOk B N G k sc W X) {fp tp tp' pos tpos : Pos} {kk} {t t' : Str} {a : PySem.Expr} {x : CE} {u u' : Ty} (hg : isGl sc "isinstance" = true) (ht : isGl sc t = true) (ht' : isGl sc t' = true) (h2 : tyName t = some u) (h4 : tyName t' = some u')
    (he : PE X a (tE B G W x)) (hst : noStar a = true) : PE X (.Call (.Name "isinstance" fp) [a, .Tuple [.Name t tp, .Name t' tp'] kk tpos] [] pos) (tE B G W (.isi x [u, u'])) := by
  obtain ⟨t1, t2, t3, t4⟩ := tyName_ok h2
  obtain ⟨t1', t2', t3', t4'⟩ := tyName_ok h4
  obtain ⟨hg1, hg2⟩ := isGl_ok ok hg
  obtain ⟨ht1, ht2⟩ := isGl_ok ok ht
  obtain ⟨ht1', ht2'⟩ := isGl_ok ok ht'
  have hK := ok.hK
  have pt : PE X (.Name t tp) (tC (.ty (tyStr u))) := pe_bltn ht1 (by rw [ok.hM]; exact ok.pf.blt _ t2) t1 rfl t3 ht2
  have pt' : PE X (.Name t' tp') (tC (.ty (tyStr u'))) := pe_bltn ht1' (by rw [ok.hM]; exact ok.pf.blt _ t2') t1' rfl t3' ht2'
  have pp := pe_tup (x1 := kk) (pos := tpos) (pa_cons pt (pa_cons pt' pa_nil rfl) rfl)
  have pa : PA X [a, .Tuple [.Name t tp, .Name t' tp'] kk tpos] _ := pa_cons he (pa_cons pp pa_nil rfl) (star_cons hst)
  refine PE.imp (pe_callB call_isiT hg1 (by rw [ok.hM]; exact ok.pf.blt _ (by decide +kernel)) boot_isinstance pa (by decide) hg2 (star_cons hst) rfl) fun σ H Q ⟨ρ, S, Q0, E0, hL, hS, kQ, kE, h⟩ => ?_
  unfold wpE at h
  refine ⟨ρ, S, _, E0, hL, hS, fun p S1 H1 v e1 s1 r1 q1 => ?_, kE, h⟩
  split at q1
  · rename_i tt htt
    refine ⟨Nat.le_trans (show 2 ≤ 16777216 by decide) (Nat.le_of_eq sizeLine_eq.symm), fun q hq => ?_⟩
    have e2 := Ext.fresh (o := .tup [.ty (tyStr u), .ty (tyStr u')]) hq
    have s2 := s1.ext (u := .tup [.ty (tyStr u), .ty (tyStr u')]) hq
    obtain ⟨n, w1, w2⟩ := ty_ok hK s2 (r1.ext e2) htt
    rw [hK]
    refine ⟨v, q, _, _, [.type (tyStr u), .type (tyStr u')], isTy tt u || isTy tt u', rfl, L2.upd_same, .cons (.ty _) (.cons (.ty _) .nil), w1, kitAny_cons (kit_ty (w2 u)) (fun e => kitAny_cons (kit_ty (w2 u')) (fun e' => ?_) fun e' => ?_) fun e => ?_, ?_⟩
    · rw [e, e']; rfl
    · rw [e']; simp
    · rw [e]; rfl
    · refine here ((kQ.at e1).at e2) s2 rep_bl ?_
      simpa using q1
  · exact q1.elim
theorem pps_ok {X : Cx} {W : WX} {pos : Pos} {f : PySem.Expr → Option CE} (IH : ∀ e c, f e = some c → PE X e (tE B G W c)) : ∀ {ks : List (Option PySem.Expr)} {vs : List PySem.Expr} {xs ys : List CE}, ks.length = vs.length → ks.all (·.isSome) = true → (ks.filterMap id).mapM f = some xs → vs.mapM f = some ys →
    ∃ trs, PPs X pos ks vs trs ∧ ∀ (σ : L2.St) (H : Hp) (Q : List (V × V) → Hp → Prop) (ρ : Loc) (S : Store) (R : List P → Store → Prop) (E0 : QE), RelL B H σ ρ → RelS B S H → OkX B H E0 (WE W σ) → (∀ ps S' H' prs, Ext H H' → RelS B S' H' → DV B H' (pairsP ps) prs → R ps S' → Q prs H') → wpEs G (weave xs ys) ρ S R E0 → tPairs trs σ H Q
  | [], vs, xs, ys, hl, _, h1, h2 => by
    have : vs = [] := List.eq_nil_of_length_eq_zero hl.symm
    subst this
    simp at h1 h2
    subst h1 h2
    refine ⟨[], pps_nil, fun σ H Q ρ S R E0 hL hS kE k h => ?_⟩
    unfold weave wpEs at h
    exact k [] S H [] (.refl H) hS .nil h
  | none :: ks, vs, xs, ys, hl, ha, h1, h2 => by simp at ha
  | some k :: ks, [], xs, ys, hl, ha, h1, h2 => by simp at hl
  | some k :: ks, v :: vs, xs, ys, hl, ha, h1, h2 => by
    rw [List.filterMap_cons] at h1
    have h1 : (k :: ks.filterMap id).mapM f = some xs := h1
    rw [List.mapM_cons] at h1 h2
    have h1 : (do let b ← f k; let bs ← (ks.filterMap id).mapM f; pure (b :: bs)) = some xs := h1
    obtain ⟨x, e1, h1⟩ := map1 h1
    obtain ⟨xr, e2, h1⟩ := map1 h1
    obtain ⟨y, e3, h2⟩ := map1 h2
    obtain ⟨yr, e4, h2⟩ := map1 h2
    cases h1
    cases h2
    have ha' : ks.all (·.isSome) = true := by simpa using ha
    obtain ⟨trs, t1, t2⟩ := pps_ok (pos := pos) IH (by simpa using hl) ha' e2 e4
    refine ⟨_, pps_cons (IH k x e1) (IH v y e3) t1, fun σ H Q ρ S R E0 hL hS kE kk h => ?_⟩
    unfold weave wpEs wpEs at h
    refine ⟨ρ, S, _, E0, hL, hS, fun p S1 H1 u1 e1 s1 r1 q1 => ?_, kE, h⟩
    refine ⟨ρ, S1, _, E0, hL.ext e1, s1, fun q S2 H2 u2 e2 s2 r2 q2 => ?_, kE.at e1, q1⟩
    refine t2 σ H2 _ ρ S2 _ E0 ((hL.ext e1).ext e2) s2 ((kE.at e1).at e2) (fun ps S3 H3 prs e3 s3 d3 q3 => ?_) q2
    exact kk (p :: q :: ps) S3 H3 ((u1, u2) :: prs) ((e1.trans e2).trans e3) s3 (.cons ⟨(r1.ext e2).ext e3, r2.ext e3⟩ d3) q3
theorem weave_len {α : Type} : ∀ {xs ys : List α}, xs.length = ys.length → (weave xs ys).length = xs.length + ys.length
  | [], [], _ => rfl
  | [], _ :: _, h => by simp at h
  | _ :: _, [], h => by simp at h
  | x :: xs, y :: ys, h => by
    unfold weave
    simp only [List.length_cons, weave_len (xs := xs) (ys := ys) (by simpa using h)]
    omega
theorem filterMap_len {α : Type} : ∀ {ks : List (Option α)}, ks.all (·.isSome) = true → (ks.filterMap id).length = ks.length
  | [], _ => rfl
  | none :: ks, h => by simp at h
  | some k :: ks, h => by
    rw [List.filterMap_cons]
    show _ + 1 = _
    rw [filterMap_len (ks := ks) (by simpa using h)]
    simp
theorem pairsP_len : ∀ {n : Nat} {ps : List P}, ps.length = n + n → (pairsP ps).length = n
  | 0, [], _ => rfl
  | 0, _ :: _, h => by simp at h
  | n + 1, [], h => by simp at h
  | n + 1, [_], h => by simp at h; omega
  | n + 1, a :: b :: ps, h => by
    unfold pairsP
    rw [List.length_cons, pairsP_len (n := n) (by simp at h; omega)]
theorem reps_rg {H : Hp} {a b : Int} {ps : List P} (h : ps = (List.range (b - a).toNat).map fun (i : Nat) => P.int (a + i)) : Reps B H ps (rgV a b) := by
  subst h
  unfold rgV
  have : ∀ l : List Nat, Reps B H (l.map fun (i : Nat) => P.int (a + i)) (l.map fun i => V.int (a + (i : Nat))) := fun l => by
    induction l with
    | nil => exact .nil
    | cons x l ih => exact .cons rep_int ih
  exact this _
theorem sE_T : ∀ (n : Nat), (∀ (X : Cx) (sc : Scope) (W : WX), XOk B N G k sc W X → ∀ e c, trE B.T N n sc e = some c → PE X e (tE B G W c)) ∧ (∀ (X : Cx) (sc : Scope) (W : WX), XOk B N G k sc W X → ∀ e c, trE B.T N n sc e = some c → PT X e (tT B G W c)) := by
  intro n
  induction n with
  | zero => exact ⟨fun X sc W ok e c h => by simp [trE] at h, fun X sc W ok e c h => by simp [trE] at h⟩
  | succ n ih =>
    obtain ⟨ihE, ihT⟩ := ih
    have main : ∀ (X : Cx) (sc : Scope) (W : WX), XOk B N G k sc W X → ∀ e c, trE B.T N (n + 1) sc e = some c → PE X e (tE B G W c) := by
      intro X sc W ok e c h
      have IH := ihE X sc W ok
      have hK := ok.hK
      unfold trE at h
      split at h
      · cases h
        refine PE.imp pe_non fun σ H Q ⟨ρ, S, Q0, E0, hL, hS, kQ, kE, h⟩ => ?_
        unfold wpE at h
        exact here kQ hS rep_non h
      · cases h
        refine PE.imp pe_bl fun σ H Q ⟨ρ, S, Q0, E0, hL, hS, kQ, kE, h⟩ => ?_
        unfold wpE at h
        exact here kQ hS rep_bl h
      · cases h
        refine PE.imp pe_int fun σ H Q ⟨ρ, S, Q0, E0, hL, hS, kQ, kE, h⟩ => ?_
        unfold wpE at h
        exact here kQ hS rep_int h
      · cases h
        refine PE.imp pe_str fun σ H Q ⟨ρ, S, Q0, E0, hL, hS, kQ, kE, h⟩ => ?_
        unfold wpE at h
        exact here kQ hS rep_str h
      · -- a name
        rename_i x pos
        split at h
        · rename_i i hi
          cases h
          obtain ⟨h1, h2, h3, h4⟩ := slotOf_ok hi
          refine PE.imp (pe_var (i := i) (by rw [ok.hN]; exact h1) (by show Vis X.env.scope x; rw [ok.hS]; exact h2) h3 h4) fun σ H Q ⟨ρ, S, Q0, E0, hL, hS, kQ, kE, h⟩ => ?_
          unfold wpE at h
          split at h
          · rename_i p hp
            obtain ⟨v, e1, r1⟩ := hL.at_ i p hp
            exact ⟨v, e1, here kQ hS r1 h⟩
          · exact h.elim
        · split at h
          · rename_i hg
            obtain ⟨hg1, hg2⟩ := isGl_ok ok hg
            split at h
            · rename_i i hi
              cases h
              obtain ⟨v, u, h1, h2, h3⟩ := ok.pf.con i x (idx_get hi)
              refine PE.imp (pe_glob hg1 (by rw [ok.hM]; exact h1) h2 hg2) fun σ H Q ⟨ρ, S, Q0, E0, hL, hS, kQ, kE, h⟩ => ?_
              unfold wpE at h
              exact here kQ hS (h3 H) h
            · rw [Option.map_eq_some_iff] at h
              obtain ⟨i, hi, h⟩ := h
              subst h
              obtain ⟨a, h1, h2⟩ := ok.pf.fnv i x (idx_get hi)
              refine PE.imp (pe_glob (v := .ref a) hg1 (by rw [ok.hM]; exact h1) rfl hg2) fun σ H Q ⟨ρ, S, Q0, E0, hL, hS, kQ, kE, h⟩ => ?_
              unfold wpE at h
              exact here kQ hS (by unfold Rep; exact ⟨x, a, idx_get hi, h1, rfl⟩) h
          · cases h
      · -- a tuple
        split at h
        · rename_i hlen
          obtain ⟨cs, h1, h2⟩ := mapM_tup h
          subst h2
          refine PE.imp (pe_tup (pa_of IH h1)) fun σ H Q ⟨ρ, S, Q0, E0, hL, hS, kQ, kE, h⟩ => ?_
          unfold wpE at h
          refine ⟨ρ, S, _, E0, hL, hS, fun ps S1 H1 vs e1 s1 r1 q1 => ?_, kE, wpEs_len ok.pf.gm h⟩
          have hz : vs.length ≤ sizeLine := by
            rw [r1.length, q1.1, mapM_len h1]
            exact Nat.le_trans hlen (by rw [sizeLine_eq]; decide)
          exact ⟨hz, fun p hp => tup_new (kQ.at e1) s1 hp hz r1 q1.2⟩
        · cases h
      · -- a list
        split at h
        · rename_i hlen
          obtain ⟨cs, h1, h2⟩ := mapM_tup h
          subst h2
          refine PE.imp (pe_lst (pa_of IH h1)) fun σ H Q ⟨ρ, S, Q0, E0, hL, hS, kQ, kE, h⟩ => ?_
          unfold wpE at h
          refine ⟨ρ, S, _, E0, hL, hS, fun ps S1 H1 vs e1 s1 r1 q1 => ?_, kE, wpEs_len ok.pf.gm h⟩
          have hz : vs.length ≤ sizeLine := by
            rw [r1.length, q1.1, mapM_len h1]
            exact Nat.le_trans hlen (by rw [sizeLine_eq]; decide)
          exact ⟨hz, fun p hp => lst_new (kQ.at e1) s1 hp hz r1 q1.2⟩
        · cases h
      · -- an operator
        rename_i a op b pos
        obtain ⟨x, y, h1, h2, h3⟩ := map2 h
        cases h3
        obtain ⟨r, hr, hv⟩ := bin_ok (X := X) hK op
        refine PE.imp (pe_op hr (IH a x h1) (IH b y h2)) fun σ H Q ⟨ρ, S, Q0, E0, hL, hS, kQ, kE, h⟩ => ?_
        unfold wpE at h
        exact via_op hv hL hS kQ kE h
      · rename_i a pos
        rw [Option.map_eq_some_iff] at h
        obtain ⟨x, h1, h2⟩ := h
        subst h2
        refine PE.imp (pe_un un_neg (IH a x h1)) fun σ H Q ⟨ρ, S, Q0, E0, hL, hS, kQ, kE, h⟩ => ?_
        unfold wpE at h
        refine ⟨ρ, S, _, E0, hL, hS, fun p S1 H1 v e1 s1 r1 q1 => ?_, kE, h⟩
        cases p <;> try exact q1.elim
        exact ⟨_, r1.int_inv, here (kQ.at e1) s1 rep_int q1⟩
      · rename_i a pos
        rw [Option.map_eq_some_iff] at h
        obtain ⟨x, h1, h2⟩ := h
        subst h2
        refine PE.imp (pe_notT (IH a x h1)) fun σ H Q ⟨ρ, S, Q0, E0, hL, hS, kQ, kE, h⟩ => ?_
        unfold wpE at h
        refine ⟨ρ, S, _, E0, hL, hS, fun p S1 H1 v e1 s1 r1 q1 => ?_, kE, h⟩
        split at q1
        · rename_i b hb
          rw [hK]
          exact ⟨b, truth_ok s1 r1 hb, here (kQ.at e1) s1 rep_bl q1⟩
        · exact q1.elim
      · obtain ⟨xs, h1, h2⟩ := map1 h
        exact bool_ok hK IH h1 h2
      · -- a comparison
        rename_i a op b pos
        obtain ⟨x, y, h1, h2, h3⟩ := map2 h
        cases h3
        obtain ⟨r, hr, hv⟩ := cmp_ok (X := X) hK ok.pf.wd ok.room op
        refine PE.imp (pe_cmpR hr (IH a x h1) (IH b y h2) (marks_ok (trE_noSet h2))) fun σ H Q ⟨ρ, S, Q0, E0, hL, hS, kQ, kE, h⟩ => ?_
        unfold wpE at h
        exact via_op hv hL hS kQ kE h
      · rename_i a op op' b d pos
        obtain ⟨x, y, h1, h2, h3⟩ := map2 h
        obtain ⟨z, h5, h4⟩ := map1 h3
        cases h4
        obtain ⟨r, hr, hv⟩ := cmp_ok (X := X) hK ok.pf.wd ok.room op
        obtain ⟨r', hr', hv'⟩ := cmp_ok (X := X) hK ok.pf.wd ok.room op'
        refine PE.imp (pe_chain hr hr' (IH a x h1) (IH b y h2) (IH d z h5) (lastMarks_ok (trE_noSet h5))) fun σ H Q ⟨ρ, S, Q0, E0, hL, hS, kQ, kE, h⟩ => ?_
        unfold wpE at h
        refine ⟨ρ, S, _, E0, hL, hS, fun p S1 H1 v e1 s1 r1 q1 => ?_, kE, h⟩
        refine ⟨ρ, S1, _, E0, hL.ext e1, s1, fun q S2 H2 u e2 s2 r2 q2 => ?_, kE.at e1, q1⟩
        refine hv p q S2 v u H2 _ _ s2 (r1.ext e2) r2 (fun t S3 H3 w e3 s3 r3 q3 => ?_) q2
        split at q3
        · exact ⟨true, r3.bl_inv, iteT ⟨ρ, S3, _, E0, ((hL.ext e1).ext e2).ext e3, s3, fun t' S4 H4 w' e4 s4 r4 q4 => hv' q t' S4 u w' H4 Q0 Q s4 ((r2.ext e3).ext e4) r4 ((((kQ.at e1).at e2).at e3).at e4) q4, ((kE.at e1).at e2).at e3, q3⟩⟩
        · exact ⟨false, r3.bl_inv, iteF (here (((kQ.at e1).at e2).at e3) s3 rep_bl q3)⟩
        · exact q3.elim
      · -- a if c else b
        rename_i d a b pos
        obtain ⟨z, x, h1, h2, h3⟩ := map2 h
        obtain ⟨y, h5, h4⟩ := map1 h3
        cases h4
        refine PE.imp (pe_ifExp (ihT X sc W ok d z h1) (IH a x h2) (IH b y h5)) fun σ H Q ⟨ρ, S, Q0, E0, hL, hS, kQ, kE, h⟩ => ?_
        unfold wpE at h
        refine ⟨ρ, S, _, E0, hL, hS, fun p S1 H1 e1 s1 q1 => ?_, kE, h⟩
        split at q1
        · rename_i ht
          exact ⟨true, ht, iteT ⟨ρ, S1, Q0, E0, hL.ext e1, s1, kQ.at e1, kE.at e1, q1⟩⟩
        · rename_i ht
          exact ⟨false, ht, iteF ⟨ρ, S1, Q0, E0, hL.ext e1, s1, kQ.at e1, kE.at e1, q1⟩⟩
        · exact q1.elim
      · -- a slice
        rename_i a lo hi p1 p2
        obtain ⟨x, h1, h⟩ := map1 h
        obtain ⟨l, h2, h⟩ := map1 h
        obtain ⟨u, h3, h⟩ := map1 h
        cases h
        refine PE.imp (pe_slice (sl_tupA.or sl_list) (IH a x h1) (part_ok IH h2) (part_ok IH h3)) fun σ H Q ⟨ρ, S, Q0, E0, hL, hS, kQ, kE, h⟩ => ?_
        unfold wpE at h
        refine ⟨ρ, S, _, E0, hL, hS, fun p S1 H1 v e1 s1 r1 q1 => ?_, kE, h⟩
        refine ⟨ρ, S1, _, E0, hL.ext e1, s1, fun p2 S2 H2 e2 s2 q2 => ?_, kE.at e1, q1⟩
        split at q2
        · rename_i i2 hp2
          refine ⟨i2, hp2, ρ, S2, _, E0, (hL.ext e1).ext e2, s2, fun p3 S3 H3 e3 s3 q3 => ?_, (kE.at e1).at e2, q2⟩
          split at q3
          · rename_i i3 hp3
            refine ⟨i3, hp3, ?_⟩
            rw [hK]
            exact serves_slc s3 ((r1.ext e2).ext e3) (((kQ.at e1).at e2).at e3) q3
          · exact q3.elim
        · exact q2.elim
      · -- a row backwards
        rename_i a p1 p2 p3 p4 p5
        rw [Option.map_eq_some_iff] at h
        obtain ⟨x, h1, h2⟩ := h
        subst h2
        refine PE.imp (pe_stp (IH a x h1) (pe_un un_neg pe_int)) fun σ H Q ⟨ρ, S, Q0, E0, hL, hS, kQ, kE, h⟩ => ?_
        unfold wpE at h
        refine ⟨ρ, S, _, E0, hL, hS, fun p S1 H1 v e1 s1 r1 q1 => ?_, kE, h⟩
        refine ⟨1, rfl, -1, rfl, -1, rfl, .inr rfl, ?_⟩
        rw [hK]
        cases p <;> try exact q1.elim
        · obtain ⟨l, vs, rfl, t1, z1, rr⟩ := r1.tup_inv
          exact .inr ⟨l, vs, rfl, t1, fun z => (by cases z), fun _ q hq => tup_new (kQ.at e1) s1 hq (by simpa using z1) rr.reverse (q1 (by rw [← rr.length]; exact z1))⟩
        · obtain ⟨l, vs, rfl, t1, z1, rr⟩ := r1.frl_inv
          exact .inl ⟨l, vs, rfl, t1, fun q hq => lst_new (kQ.at e1) s1 hq (by simpa [dirL] using z1) rr.reverse (q1 (by rw [← rr.length]; exact z1))⟩
        · rename_i l
          simp only [seqOf] at q1
          split at q1
          · rename_i xs hs
            split at hs
            · rename_i ys hx
              cases hs
              obtain ⟨vs, t1, z1, rr⟩ := s1.lst hx
              exact .inl ⟨l, vs, r1.loc_inv, SqL.of t1, fun q hq => lst_new (kQ.at e1) s1 hq (by simpa [dirL] using z1) rr.reverse (q1 (by rw [← rr.length]; exact z1))⟩
            · cases hs
          · exact q1.elim
      · -- a row, one way or the other
        rename_i a w p1 p2 hno
        obtain ⟨x, y, h1, h2, h3⟩ := map2 h
        cases h3
        refine PE.imp (pe_stp (IH a x h1) (IH w y h2)) fun σ H Q ⟨ρ, S, Q0, E0, hL, hS, kQ, kE, h⟩ => ?_
        unfold wpE at h
        refine ⟨ρ, S, _, E0, hL, hS, fun p S1 H1 v e1 s1 r1 q1 => ?_, kE, h⟩
        refine ⟨ρ, S1, _, E0, hL.ext e1, s1, fun p2 S2 H2 u e2 s2 r2 q2 => ?_, kE.at e1, q1⟩
        cases p2 <;> try exact q2.elim
        rename_i i
        obtain ⟨hi, q2⟩ := q2
        refine ⟨i, r2.int_inv, i, rfl, hi, ?_⟩
        rw [hK]
        have r1' := r1.ext e2
        have kQ' := (kQ.at e1).at e2
        have dv : ∀ {ps : List P} {vs : List V}, Reps B H2 ps vs → Reps B H2 (if i = 1 then ps else ps.reverse) (dirL i vs) := fun {ps vs} rr => by
          unfold dirL
          split
          · exact rr
          · exact rr.reverse
        have dl : ∀ {vs : List V}, vs.length ≤ sizeLine → (dirL i vs).length ≤ sizeLine := fun {vs} z => by
          unfold dirL
          split
          · exact z
          · rw [List.length_reverse]; exact z
        cases p <;> try exact q2.elim
        · obtain ⟨l, vs, rfl, t1, z1, rr⟩ := r1'.tup_inv
          have q2 := q2 (by rw [← rr.length]; exact z1)
          refine .inr ⟨l, vs, rfl, t1, fun z => ?_, fun z q hq => ?_⟩
          · rw [if_pos z] at q2
            exact here kQ' s2 (rep_tup t1 z1 rr) q2
          · rw [if_neg (by omega)] at q2
            exact tup_new kQ' s2 hq (by simpa using z1) rr.reverse q2
        · obtain ⟨l, vs, rfl, t1, z1, rr⟩ := r1'.frl_inv
          exact .inl ⟨l, vs, rfl, t1, fun q hq => lst_new kQ' s2 hq (dl z1) (dv rr) (q2 (by rw [← rr.length]; exact z1))⟩
        · rename_i l
          simp only [seqOf] at q2
          split at q2
          · rename_i xs hs
            split at hs
            · rename_i ys hx
              cases hs
              obtain ⟨vs, t1, z1, rr⟩ := s2.lst hx
              exact .inl ⟨l, vs, r1'.loc_inv, SqL.of t1, fun q hq => lst_new kQ' s2 hq (dl z1) (dv rr) (q2 (by rw [← rr.length]; exact z1))⟩
            · cases hs
          · exact q2.elim
      · -- a dict
        rename_i ks vs pos
        split at h
        · rename_i hc
          simp only [Bool.and_eq_true, decide_eq_true_eq] at hc
          obtain ⟨⟨hl, ha⟩, h15⟩ := hc
          obtain ⟨xs, h1, h⟩ := map1 h
          obtain ⟨ys, h2, h⟩ := map1 h
          cases h
          by_cases h0 : ks = []
          · subst h0
            have : vs = [] := List.eq_nil_of_length_eq_zero hl.symm
            subst this
            simp at h1 h2
            subst h1 h2
            refine PE.imp pe_dnewK fun σ H Q ⟨ρ, S, Q0, E0, hL, hS, kQ, kE, h⟩ => ?_
            unfold wpE weave wpEs at h
            intro p hp
            have h := (h p (hS.free hp)).2.2
            rw [Store.upd_upd] at h
            exact kQ _ _ _ _ (.fresh hp) (hS.upd (o := .dct []) (.fresh hp) (show DRep B _ _ _ from .inl ⟨[], L2.upd_same, .nil, Nat.zero_le _⟩)) rep_loc h
          · obtain ⟨trs, t1, t2⟩ := pps_ok (pos := pos) IH hl ha h1 h2
            refine PE.imp (pe_dispA (B := B) hK ok.pf.wd (by have := ok.room.un; omega) t1 ha hl h0 h15) fun σ H Q ⟨ρ, S, Q0, E0, hL, hS, kQ, kE, h⟩ => ?_
            unfold wpE at h
            intro p hp
            have h := h p (hS.free hp)
            have e0 : Ext H (L2.upd H p (.dK [])) := .fresh hp
            refine t2 σ _ _ ρ _ _ E0 (hL.ext e0) (hS.upd (o := .dct []) e0 (show DRep B _ _ _ from .inl ⟨[], L2.upd_same, .nil, Nat.zero_le _⟩)) (kE.at e0) (fun ps S1 H1 prs e1 s1 d1 q1 => ?_) (wpEs_len ok.pf.gm h)
            obtain ⟨hlen, w1, w2, w3⟩ := q1
            have hp1 : H1 p = some (.dK []) := by
              rcases (show DRep B H1 p [] from s1 p _ w1) with ⟨kk, z1, z2, _⟩ | ⟨z1, _⟩
              · cases z2; exact z1
              · exact absurd rfl z1
            rcases w2 with w2 | ⟨wn, w2⟩
            · obtain ⟨kk, k1, k2⟩ := dv_flat d1 w2
              have n15 : kk.length ≤ 15 := by
                rw [← Paired.length k2, pairsP_len (n := ks.length)]
                · exact h15
                · rw [hlen, weave_len (by rw [mapM_len h1, mapM_len h2, filterMap_len ha]; exact hl), mapM_len h1, mapM_len h2, filterMap_len ha, ← hl]
              have hz := sizeLine_eq
              have e2 : Ext H1 (L2.upd H1 p (.dK (mergeK [] kk))) := .mut hp1 (fun _ z => by cases z) (fun _ _ z => by cases z)
              have fk := (dk_fold k2 (.nil : DK B H1 [] [])).ext e2
              refine ⟨hp1, .inl ⟨kk, k1, kQ _ _ _ _ ((e0.trans e1).trans e2) (s1.upd (o := .dct ((pairsP ps).foldl (fun m kv => putP m kv.1 kv.2) [])) e2 (show DRep B _ _ _ from .inl ⟨_, L2.upd_same, fk, ?_⟩)) rep_loc w3⟩⟩
              rw [Paired.length fk]
              have := length_mergeK kk []
              simp at this
              omega
            · obtain ⟨kk, k1, k2, k3⟩ := dv_tup d1 w2
              refine ⟨hp1, .inr ⟨kk, k1, k2, fun xs hx => ?_⟩⟩
              have e2 : Ext H1 (L2.upd H1 p (dN B.w p (storedAllH [] xs))) := .mut hp1 (fun _ z => by cases z) (fun _ _ z => by cases z)
              have fk := (dt_fold k3 hx (.nil : DT B H1 [] [])).ext e2
              exact kQ _ _ _ _ ((e0.trans e1).trans e2) (s1.upd (o := .dct ((pairsP ps).foldl (fun m kv => putP m kv.1 kv.2) [])) e2 (show DRep B _ _ _ from .inr ⟨foldl_put_ne (.inl wn), _, L2.upd_same, fk⟩)) rep_loc w3
        · cases h
      · -- an item
        rename_i a i pos hno hno2 hno3
        split at h
        · rename_i hp
          obtain ⟨x, y, h1, h2, h3⟩ := map2 h
          cases h3
          refine PE.imp (pe_ix (ix_seq.or (ix_dN (B := B) hK ok.pf.wd (by have := ok.room.un; omega))) (IH a x h1) (IH i y h2) (plainIx_ok hp)) fun σ H Q ⟨ρ, S, Q0, E0, hL, hS, kQ, kE, h⟩ => ?_
          unfold wpE at h
          rw [hK]
          exact via_op serves_idx hL hS kQ kE h
        · cases h
      · -- a field
        rename_i a f pos
        split at h
        · rename_i hb
          obtain ⟨x, i, h1, h2, h3⟩ := map2 h
          cases h3
          refine PE.imp (pe_fld (IH a x h1) (attrBase_ok hb)) fun σ H Q ⟨ρ, S, Q0, E0, hL, hS, kQ, kE, h⟩ => ?_
          unfold wpE at h
          refine ⟨ρ, S, _, E0, hL, hS, fun p S1 H1 v e1 s1 r1 q1 => ?_, kE, h⟩
          cases p <;> try exact q1.elim
          rename_i l
          simp only at q1
          split at q1
          · rename_i c fs hx
            split at q1
            · rename_i p hp
              obtain ⟨y, C, dx, gs, ⟨g1, g2, g3, g4⟩, g5, g6⟩ := s1 l _ hx
              obtain ⟨u, l1, l2⟩ := RepF.look (T := B.T) ok.pf.att g6 (idx_get h2) hp
              rw [hK]
              exact ⟨l, C, dx, gs, u, r1.loc_inv, g5, g3, g4 i f (idx_get h2), l1, here (kQ.at e1) s1 l2 q1⟩
            · exact q1.elim
          · exact q1.elim
        · cases h
      · -- a call by name
        rename_i f fp args pos
        split at h
        · rename_i hc
          obtain ⟨i, hi, h⟩ := map1 h
          obtain ⟨xs, h1, h2⟩ := map1 h
          cases h2
          simp only [Bool.and_eq_true, Bool.not_eq_true', List.isEmpty_eq_false_iff] at hc
          exact cvar_ok ok hi hc.1 (pa_of IH h1) (mapM_noStar h1)
        split at h
        · rename_i hg
          split at h
          · rename_i i hi
            obtain ⟨xs, h1, h2⟩ := map1 h
            cases h2
            exact call_ok ok hg (idx_get hi) (pa_of IH h1) (mapM_noStar h1) (mapM_len h1)
          · split at h
            · rename_i i hi
              obtain ⟨xs, h1, h2⟩ := map1 h
              cases h2
              exact mk_ok ok hg (idx_get hi) (pa_of IH h1) (mapM_noStar h1) (mapM_len h1)
            · split at h
              · rename_i hf
                subst hf
                split at h
                · rename_i a t tp _
                  split at h
                  · rename_i ht
                    obtain ⟨x, u, h1, h2, h3⟩ := map2 h
                    cases h3
                    obtain ⟨t1, t2, t3, t4⟩ := tyName_ok h2
                    obtain ⟨hg1, hg2⟩ := isGl_ok ok hg
                    obtain ⟨ht1, ht2⟩ := isGl_ok ok ht
                    have pt : PE X (.Name t tp) (tC (.ty (tyStr u))) :=
                      pe_bltn ht1 (by rw [ok.hM]; exact ok.pf.blt _ t2) t1 rfl t3 ht2
                    have pa : PA X [a, .Name t tp] _ := pa_cons (IH a x h1) (pa_cons pt pa_nil) (star_cons (trE_noStar h1))
                    refine PE.imp (pe_callB call_isi hg1 (by rw [ok.hM]; exact ok.pf.blt _ (by decide +kernel)) boot_isinstance pa (by decide) hg2 (star_cons (trE_noStar h1)) rfl) fun σ H Q ⟨ρ, S, Q0, E0, hL, hS, kQ, kE, h⟩ => ?_
                    unfold wpE at h
                    refine ⟨ρ, S, _, E0, hL, hS, fun p S1 H1 v e1 s1 r1 q1 => ?_, kE, h⟩
                    split at q1
                    · rename_i tt htt
                      obtain ⟨n, w1, w2⟩ := ty_ok hK s1 r1 htt
                      rw [hK]
                      exact ⟨v, _, _, _, _, rfl, .ty _, w1, kit_ty (w2 u), here (kQ.at e1) s1 rep_bl (by simpa using q1)⟩
                    · exact q1.elim
                  · cases h
                · rename_i a t tp t' tp' kk tpos _
                  split at h
                  · rename_i ht
                    simp only [Bool.and_eq_true] at ht
                    obtain ⟨x, u, h1, h2, h3⟩ := map2 h
                    obtain ⟨u', h4, h5⟩ := map1 h3
                    cases h5
                    exact isi2_ok ok hg ht.1 ht.2 h2 h4 (IH a x h1) (trE_noStar h1)
                  · cases h
                · cases h
              · split at h
                · rename_i b hb
                  split at h
                  rotate_left
                  · -- list(range(..))
                    split at h
                    · rename_i hf
                      subst hf
                      obtain ⟨hg1, hg2⟩ := isGl_ok ok hg
                      have hml : X.mg "list" = none := by rw [ok.hM]; exact ok.pf.blt _ (by decide +kernel)
                      have hmr : X.mg "range" = none := by rw [ok.hM]; exact ok.pf.blt _ (by decide +kernel)
                      split at h
                      · rename_i r _ a _ _ _
                        split at h
                        · rename_i hc
                          simp only [Bool.and_eq_true, beq_iff_eq, decide_eq_true_eq] at hc
                          obtain ⟨x, h1, h2⟩ := map1 h
                          cases h2
                          obtain ⟨er, hr⟩ := hc
                          subst er
                          obtain ⟨hr1, hr2⟩ := isGl_ok ok hr
                          refine PE.imp (pe_listRg ok.calm hg1 hml (prg_1 hr1 hmr (IH a x h1) (star_cons (trE_noStar h1)))) fun σ H Q ⟨ρ, S, Q0, E0, hL, hS, kQ, kE, h⟩ => ?_
                          unfold wpE wpEs wpEs at h
                          refine ⟨ρ, S, _, E0, hL, hS, fun p S1 H1 v e1 s1 r1 q1 => ?_, kE, h⟩
                          rcases iterS_range q1 with ⟨m, e2, q2, q3⟩ | ⟨m, l, e2, q2, q3⟩
                          · cases e2
                            have hz := sizeLine_eq
                            refine ⟨m, r1.int_inv, ⟨by omega, by omega, by omega, by omega, by omega⟩, fun q hq => ?_⟩
                            refine lst_new (kQ.at e1) s1 hq (by rw [rgV_length]; omega) ?_ q3
                            exact reps_rg (by simp)
                          · cases e2
                        · cases h
                      · rename_i r _ a b _ _ _
                        split at h
                        · rename_i hc
                          simp only [Bool.and_eq_true, beq_iff_eq, decide_eq_true_eq] at hc
                          obtain ⟨x, y, h1, h2, h3⟩ := map2 h
                          cases h3
                          obtain ⟨er, hr⟩ := hc
                          subst er
                          obtain ⟨hr1, hr2⟩ := isGl_ok ok hr
                          refine PE.imp (pe_listRg ok.calm hg1 hml (prg_2 hr1 hmr (IH a x h1) (IH b y h2) (star_cons (trE_noStar h1)) (star_cons (trE_noStar h2)) (by rw [star_cons (trE_noStar h2)]; rfl))) fun σ H Q ⟨ρ, S, Q0, E0, hL, hS, kQ, kE, h⟩ => ?_
                          unfold wpE wpEs wpEs wpEs at h
                          refine ⟨ρ, S, _, E0, hL, hS, fun p S1 H1 v e1 s1 r1 q1 => ?_, kE, h⟩
                          refine ⟨ρ, S1, _, E0, hL.ext e1, s1, fun p2 S2 H2 u e2 s2 r2 q2 => ?_, kE.at e1, q1⟩
                          rcases iterS_range q2 with ⟨m, e3, q3, q4⟩ | ⟨m, l, e3, q3, q4⟩
                          · cases e3
                          · cases e3
                            have hz := sizeLine_eq
                            refine ⟨m, l, (r1.ext e2).int_inv, r2.int_inv, ⟨by omega, by omega, by omega, by omega, by omega⟩, fun q hq => ?_⟩
                            refine lst_new ((kQ.at e1).at e2) s2 hq (by rw [rgV_length]; omega) ?_ q4
                            exact reps_rg (by rfl)
                        · cases h
                      · cases h
                    · cases h
                  rename_i xs h1
                  cases h
                  obtain ⟨r, hc, hv⟩ := bf_ok hK ok.calm b
                  obtain ⟨m1, m2, m3⟩ := bfOf_mem hb
                  have e := bfOf_name hb
                  subst e
                  obtain ⟨hg1, hg2⟩ := isGl_ok ok hg
                  have hmg : X.mg (bfName b) = none := by rw [ok.hM]; exact ok.pf.blt _ m1
                  have rd : ∀ {args' : List PySem.Expr} (σ : L2.St) (H : Hp) (Q : VK), tE B G W (.blt b xs) σ H Q → tCB r (tA B G W xs) σ H Q := fun {args'} σ H Q ⟨ρ, S, Q0, E0, hL, hS, kQ, kE, h⟩ => by
                    unfold wpE at h
                    exact ⟨ρ, S, _, E0, hL, hS, fun ps S1 H1 vs e1 s1 r1 q1 => hv ps S1 vs H1 Q0 Q s1 r1 (kQ.at e1) q1, kE, h⟩
                  have hs := mapM_noStar h1
                  have pa := pa_of IH h1
                  cases args with
                  | nil =>
                    refine ⟨fun pins s σ H Q I ⟨ρ, S, Q0, E0, hL, hS, kQ, kE, h⟩ => ?_⟩
                    have : xs = [] := List.eq_nil_of_length_eq_zero (mapM_len h1)
                    subst this
                    unfold wpE wpEs at h
                    exfalso
                    cases b <;> exact h
                  | cons a es =>
                    cases hc with
                    | fn id hbo c => exact PE.imp (pe_callB c hg1 hmg hbo pa m2 hg2 (star_cons (hs a List.mem_cons_self)) (star_all fun e he => hs e (List.mem_cons_of_mem _ he))) (rd (args' := []))
                    | ty TT hbo c => exact PE.imp (pe_callTy c hg1 hmg hbo pa m2 hg2 (star_cons (hs a List.mem_cons_self)) (star_all fun e he => hs e (List.mem_cons_of_mem _ he))) (rd (args' := []))
                · cases h
        · cases h
      · -- a method's call
        rename_i a m apos args pos
        split at h
        · cases h
        · rename_i hb
          have hb' : plainBase0 a = true := by simpa using hb
          split at h
          · rename_i i hi
            split at h
            · rename_i hc
              obtain ⟨x, xs, h1, h2, h3⟩ := map2 h
              cases h3
              simp only [Bool.and_eq_true, decide_eq_true_eq] at hc
              exact mth_ok ok (idx_get hi) hb' hc.1 hc.2 (IH a x h1) (pa_of IH h2) (mapM_noStar h2) (mapM_len h2)
            · cases h
          · split at h
            · rename_i b hbm
              split at h
              · rename_i hc
                obtain ⟨x, xs, h1, h2, h3⟩ := map2 h
                cases h3
                simp only [Bool.and_eq_true, decide_eq_true_eq] at hc
                exact bmt_ok ok hbm hb' hc.1.1 hc.1.2 (fun e => by have := hc.2; subst e; simpa using this) (IH a x h1) (pa_of IH h2) (mapM_noStar h2) (mapM_len h2)
              · cases h
            · cases h
      · -- a comprehension
        rename_i elt tg iter ifs scope pos
        simp only at h
        split at h
        · rename_i hblk
          obtain ⟨t, h1, h⟩ := map1 h
          obtain ⟨x, h2, h⟩ := map1 h
          obtain ⟨c', h3, h⟩ := map1 h
          obtain ⟨⟨ik, as⟩, h4, h⟩ := map1 h
          simp only at h
          split at h
          · rename_i hv
            cases h
            obtain ⟨wi, hi, hw⟩ := iter_ok ok IH h4
            have hset : noSet iter = true := by
              cases iter <;> first | rfl | simp [trI] at h4
            have hgv : ∀ (s : Shared) (H : Hp) (C : Addr) (cl : List (Str × Addr)) (fp : List Addr), PG (X.blk s H scope (compEnvC scope cl C X.env) fp) tg (gVT B t) := fun s H C cl fp =>
              let o := ok.blk s H scope C cl fp
              vt_ok (fun z => by cases z) o.hK o.hN o.nd o.hS o.calm 8 tg t h1
            have hel : ∀ (s : Shared) (H : Hp) (C : Addr) (cl : List (Str × Addr)) (fp : List Addr), PE (X.blk s H scope (compEnvC scope cl C X.env) fp) elt (tE B G noW x) := fun s H C cl fp => ihE _ _ _ (ok.blk s H scope C cl fp) elt x h2
            have hts : ∀ (s : Shared) (H : Hp) (C : Addr) (cl : List (Str × Addr)) (fp : List Addr), PTs (X.blk s H scope (compEnvC scope cl C X.env) fp) ifs (tCond B G c') := fun s H C cl fp => by
              cases ifs with
              | nil => cases h3; exact pts_nil
              | cons ef r =>
                cases r with
                | nil =>
                  simp only [Option.map_eq_some_iff] at h3
                  obtain ⟨ce, h5, h6⟩ := h3
                  subst h6
                  exact pts_one (ihT _ _ _ (ok.blk s H scope C cl fp) ef ce h5)
                | cons _ _ => cases h3
            refine PE.imp (pe_lc ok.calm ok.nd hi (blkOk_by (by rw [ok.hN, ok.hS]; exact hblk)) hgv hts hel (folded_ok hset)) fun σ H Q hw' => ?_
            exact comp_ok (pos := pos) ok hblk hv hi hw hset hgv hts hel hw'
          · cases h
        · cases h
      · cases h
    refine ⟨main, ?_⟩
    intro X sc W ok e c h
    have hPE := main X sc W ok e c h
    have IH := ihE X sc W ok
    have IHT := ihT X sc W ok
    by_cases hp : plainTest e = true
    · exact test_of ok.hK hPE hp
    · cases e <;> try (exact absurd rfl hp)
      · -- and, or
        rename_i b es pos
        unfold trE at h
        obtain ⟨xs, h1, h2⟩ := map1 h
        exact (boolT_ok IHT h1 h2).pt
      · -- not
        rename_i op a pos
        cases op <;> try (exact absurd rfl hp)
        unfold trE at h
        simp only [Option.map_eq_some_iff] at h
        obtain ⟨x, h1, h2⟩ := h
        subst h2
        refine PT.imp (pt_not (IHT a x h1)) fun σ H Q ⟨ρ, S, Q0, E0, hL, hS, kQ, kE, h⟩ => ?_
        unfold wpE at h
        refine ⟨ρ, S, _, E0, hL, hS, fun p S1 H1 e1 s1 q1 => ?_, kE, h⟩
        split at q1
        · rename_i b hb
          obtain ⟨b', h3, h4⟩ := kQ _ _ _ e1 s1 q1
          simp only [truthS, Option.some.injEq] at h3
          subst h3
          exact ⟨b, hb, h4⟩
        · exact q1.elim
      · -- a if c else b
        rename_i d a b pos
        unfold trE at h
        obtain ⟨z, x, h1, h2, h3⟩ := map2 h
        obtain ⟨y, h5, h4⟩ := map1 h3
        cases h4
        refine PT.imp (pt_ifExp (IHT d z h1) (IHT a x h2) (IHT b y h5)) fun σ H Q ⟨ρ, S, Q0, E0, hL, hS, kQ, kE, h⟩ => ?_
        unfold wpE at h
        refine ⟨ρ, S, _, E0, hL, hS, fun p S1 H1 e1 s1 q1 => ?_, kE, h⟩
        split at q1
        · rename_i ht
          exact ⟨true, ht, iteT ⟨ρ, S1, Q0, E0, hL.ext e1, s1, fun p S2 H2 e2 => kQ p S2 H2 (e1.trans e2), kE.at e1, q1⟩⟩
        · rename_i ht
          exact ⟨false, ht, iteF ⟨ρ, S1, Q0, E0, hL.ext e1, s1, fun p S2 H2 e2 => kQ p S2 H2 (e1.trans e2), kE.at e1, q1⟩⟩
        · exact q1.elim
      · -- a comparison
        rename_i a ops bs pos
        cases ops with
        | nil => simp [trE] at h
        | cons op ops =>
          cases ops with
          | nil =>
            cases bs with
            | nil => simp [trE] at h
            | cons b bs =>
              cases bs with
              | cons _ _ => simp [trE] at h
              | nil =>
                unfold trE at h
                simp only at h
                obtain ⟨x, y, h1, h2, h3⟩ := map2 h
                cases h3
                obtain ⟨r, hr, hv⟩ := cmp_ok (X := X) ok.hK ok.pf.wd ok.room op
                refine PT.imp (pt_cmpR hr (IH a x h1) (IH b y h2) (marks_ok (trE_noSet h2))) fun σ H Q ⟨ρ, S, Q0, E0, hL, hS, kQ, kE, h⟩ => ?_
                have h := cmp_bl ok.pf.gm h
                unfold wpE at h
                refine via_op hv hL hS (fun p S' H' v e s r ⟨⟨b, hb⟩, q⟩ => ?_) kE h
                subst hb
                obtain ⟨b', h3, h4⟩ := kQ _ _ _ e s q
                simp only [truthS, Option.some.injEq] at h3
                subst h3
                exact ⟨b, r.bl_inv, h4⟩
          | cons op' ops =>
            cases ops with
            | cons _ _ => simp [trE] at h
            | nil =>
              cases bs with
              | nil => simp [trE] at h
              | cons b bs =>
                cases bs with
                | nil => simp [trE] at h
                | cons d bs =>
                  cases bs with
                  | cons _ _ => simp [trE] at h
                  | nil =>
                    unfold trE at h
                    simp only at h
                    obtain ⟨x, y, h1, h2, h3⟩ := map2 h
                    obtain ⟨z, h5, h4⟩ := map1 h3
                    cases h4
                    obtain ⟨r, hr, hv⟩ := cmp_ok (X := X) ok.hK ok.pf.wd ok.room op
                    obtain ⟨r', hr', hv'⟩ := cmp_ok (X := X) ok.hK ok.pf.wd ok.room op'
                    refine PT.imp (pt_chain hr hr' (IH a x h1) (IH b y h2) (IH d z h5) (lastMarks_ok (trE_noSet h5))) fun σ H Q ⟨ρ, S, Q0, E0, hL, hS, kQ, kE, h⟩ => ?_
                    have h := chn_bl ok.pf.gm h
                    have kQ' : OkQ B H (fun p S' => (∃ b, p = .bl b) ∧ Q0 p S') (fun v H' => ∃ k, v = .bl k ∧ Q k H') := fun p S' H' v e s r ⟨⟨b, hb⟩, q⟩ => by
                      subst hb
                      obtain ⟨b', h3, h4⟩ := kQ _ _ _ e s q
                      simp only [truthS, Option.some.injEq] at h3
                      subst h3
                      exact ⟨b, r.bl_inv, h4⟩
                    unfold wpE at h
                    refine ⟨ρ, S, _, E0, hL, hS, fun p S1 H1 v e1 s1 r1 q1 => ?_, kE, h⟩
                    refine ⟨ρ, S1, _, E0, hL.ext e1, s1, fun q S2 H2 u e2 s2 r2 q2 => ?_, kE.at e1, q1⟩
                    refine hv p q S2 v u H2 _ _ s2 (r1.ext e2) r2 (fun t S3 H3 w e3 s3 r3 q3 => ?_) q2
                    split at q3
                    · exact ⟨true, r3.bl_inv, iteT ⟨ρ, S3, _, E0, ((hL.ext e1).ext e2).ext e3, s3, fun t' S4 H4 w' e4 s4 r4 q4 => hv' q t' S4 u w' H4 _ _ s4 ((r2.ext e3).ext e4) r4 ((((kQ'.at e1).at e2).at e3).at e4) q4, ((kE.at e1).at e2).at e3, q3⟩⟩
                    · exact ⟨false, r3.bl_inv, iteF (here (((kQ'.at e1).at e2).at e3) s3 rep_bl q3)⟩
                    · exact q3.elim
end
end Core
end
section
set_option maxRecDepth 100000
set_option maxHeartbeats 4000000
/-! Core13: targets with expressions, errors, except clauses. -/
namespace Core
open PySem L2 PySem.Spec PyProof.Rows
/-- where a statement stands: in a def's own body -/
structure SOk (B : Bs) (N : List Str) (G : Env) (k : Nat) (sc : Scope) (W : WX) (X : Cx) : Prop extends XOk B N G k sc W X where
  fnx : ∀ x, X.fn x = true
  stk : X.stack = X.env :: X.outer
  frm : X.env.frame = some X.env.locals
  pas : PassesOwn (model X.prog X.w) X.A X.env X.xe
  fun_ : sc.kind = .function
section
variable {B : Bs} {N : List Str} {G : Env} {k : Nat} {sc : Scope} {W : WX} {X : Cx}
def OkG (B : Bs) (H : Hp) (n : Nat) (Q0 : Loc → Store → Prop) (Q : L2.St → Hp → Prop) : Prop := ∀ ρ S H' σ, Ext H H' → RelS B S H' → RelL B H' σ ρ → σ.length = n → Q0 ρ S → Q σ H'
theorem OkG.at {H H1 : Hp} {n : Nat} {Q0 : Loc → Store → Prop} {Q : L2.St → Hp → Prop} (h : OkG B H n Q0 Q) (e : Ext H H1) : OkG B H1 n Q0 Q := fun ρ S H' σ e' => h ρ S H' σ (e.trans e')
/-- the wish about errors, whatever the slots -/
def OkW (B : Bs) (H : Hp) (n : Nat) (E0 : QE) (W : WX) : Prop := ∀ σ : L2.St, σ.length = n → OkX B H E0 (fun cls d H' => W cls d σ H')
theorem OkW.at {H H1 : Hp} {n : Nat} {E0 : QE} {W : WX} (h : OkW B H n E0 W) (e : Ext H H1) : OkW B H1 n E0 W := fun σ z => (h σ z).at e
def gTg (B : Bs) (G : Env) (W : WX) (t : Tgt) : TG := fun v σ H Q => ∃ (p : P) (ρ : Loc) (S : Store) (Q0 : Loc → Store → Prop) (E0 : QE), RelL B H σ ρ ∧ RelS B S H ∧ Rep B H p v ∧ OkG B H σ.length Q0 Q ∧ OkW B H σ.length E0 W ∧ wpT G t p ρ S Q0 E0
def gTgs (B : Bs) (G : Env) (W : WX) (ts : List Tgt) : TGs := fun vs σ H Q => ∃ (ps : List P) (ρ : Loc) (S : Store) (Q0 : Loc → Store → Prop) (E0 : QE), RelL B H σ ρ ∧ RelS B S H ∧ Reps B H ps vs ∧ OkG B H σ.length Q0 Q ∧ OkW B H σ.length E0 W ∧ wpTs G ts ps ρ S Q0 E0
/-- o.f = .. as a target -/
def gFld (K : PySem.W.Frag) (to : TE) (f : Str) : TG := fun v σ H Q => to σ H fun x H1 => ∃ a C dx fs, x = .ref a ∧ H1 a = some (.ins C dx fs) ∧ Cls K C ∧ NoAttr K C f ∧ fs.length < 1000 ∧ Q σ (L2.upd H1 a (.ins C dx (putF f v fs)))
theorem pg_fld {o : PySem.Expr} {to : TE} {f : Str} {pos : Pos} (ho : PE X o to) : PG X (.Attribute o f pos) (gFld X.K to f) := by
  constructor
  intro pins s σ H v u Q I r h
  show wpAny _ _ (do
    let ov ← holding [u] (eval o X.env)
    standAt pos.atName
    holding [u, ov] (setAttr ov f u)
    release [u, ov] []) _ _ _
  refine wpAny_bind (wpAny_holding (thn (ho.run pins s σ H _ I h) fun ov s1 ⟨x, H1, I1, r1, a, C, dx, fs, ex, ea, c, n, l, q⟩ => ?_))
  cases ex
  cases r1
  exact wpAny_bind (wpAny_standAt (wpAny_bind (wpAny_holding (setattr_ok I1 ea c n l r fun s2 I2 => wpAny_release ⟨σ, _, I2, q⟩))))
theorem RepF.put {H : Hp} {f : Nat} {x : Str} {p : P} {v : V} (nd : B.T.att.Nodup) (hx : B.T.att[f]? = some x) (r : Rep B H p v) : ∀ {fs : List (Nat × P)} {gs : List (Str × V)}, RepF B H fs gs → RepF B H (putN f p fs) (putF x v gs)
  | [], _, h => by
    rw [show _ = [] from h]
    exact ⟨x, v, [], rfl, hx, r, rfl⟩
  | (g, q) :: fs, _, ⟨y, u, t, rfl, h2, h3, h4⟩ => by
    by_cases e : g = f
    · subst e
      rw [hx] at h2; cases h2
      unfold putN putF
      rw [if_pos rfl, if_pos rfl]
      exact ⟨x, v, t, rfl, hx, r, h4⟩
    · have ne : ¬ y = x := fun z => e (nodup_ix nd (z ▸ h2) hx)
      unfold putN putF
      rw [if_neg e, if_neg ne]
      exact ⟨y, u, _, rfl, h2, h3, RepF.put nd hx r h4⟩
theorem tgtM_star {n : Nat} {T : Tab} {tr : PySem.Expr → Option CE} {e : PySem.Expr} {t : Tgt} (h : trT T N tr sc n e = some t) : noStar e = true := by
  cases n with
  | zero => simp [trT] at h
  | succ n => cases e <;> first | rfl | simp [trT] at h
theorem tgtMs_star {n : Nat} {T : Tab} {tr : PySem.Expr → Option CE} : ∀ {es : List PySem.Expr} {ts : List Tgt}, es.mapM (trT T N tr sc n) = some ts → ∀ e ∈ es, noStar e = true
  | [], _, _, e, he => by simp at he
  | a :: es, cs, h, e, he => by
    rw [List.mapM_cons] at h
    obtain ⟨c, h1, h⟩ := map1 h
    obtain ⟨ds, h2, h⟩ := map1 h
    cases he with
    | head => exact tgtM_star h1
    | tail _ he => exact tgtMs_star h2 e he
/-- x[y] = p -/
theorem putS_ok {H : Hp} {S : Store} {x y p : P} {vx vy vp : V} {R0 : Store → Prop} {R : Hp → Prop} (hS : RelS B S H) (rx : Rep B H x vx) (ry : Rep B H y vy) (rp : Rep B H p vp) (k : ∀ S' H', Ext H H' → RelS B S' H' → R0 S' → R H') (h : putS x y p S R0) :
    rSetL vx vy vp H R ∨ rDSet B vx vy vp H R := by
  unfold putS at h
  split at h
  · rename_i l kvs hd
    obtain ⟨rfl, hx⟩ := dctS_inv hd
    refine .inr ⟨l, rx.loc_inv, (hS.dct hx).put h.1 ry rp h.2.1 fun H' u e eH d => ?_⟩
    subst eH
    exact k _ _ e (hS.upd (o := .dct (putP kvs y p)) e d) h.2.2
  · split at h
    · rename_i l xs j hl
      obtain ⟨rfl, hx⟩ := lstS_inv hl
      obtain ⟨us, t1, z1, rr⟩ := hS.lst hx
      obtain ⟨m, m1, m2⟩ := h (by rw [← rr.length]; exact z1)
      exact .inl ⟨l, us, j, m, rx.loc_inv, ry.int_inv, t1, by rw [rr.length]; exact m1, k _ _ (.lst t1) (hS.setL t1 (by simpa using z1) (rr.set rp m)) m2⟩
    · exact h.elim
theorem wpT_no (gm : GMono G) : ∀ (ts : List Tgt) (ps : List P) (ρ : Loc) (S : Store) (Q : Loc → Store → Prop) (E : QE), wpTs G ts ps ρ S Q E → wpTs G ts ps ρ S (fun ρ S => True) E := fun ts ps ρ S Q E h => wpTs_mono gm ts (fun _ _ _ => trivial) (fun _ _ h => h) h
theorem tg_ok (ok : SOk B N G k sc W X) : ∀ (n : Nat) (e : PySem.Expr) (t : Tgt), trT B.T N (trE B.T N 40 sc) sc n e = some t → PG X e (gTg B G W t)
  | 0, e, t, h => by simp [trT] at h
  | n + 1, e, t, h => by
    have IH := (sE_T (B := B) (N := N) (G := G) (k := k) 40).1 X sc W ok.toXOk
    have pe : ∀ {a : PySem.Expr} {c : CE}, trE B.T N 40 sc a = some c → PE X a (tE B G W c) := fun {a c} h => IH a c h
    cases e with
    | Name x pos =>
      have nm : ∀ {i : Nat}, N[i]? = some x → L2.Loc X.env.scope x → t = .nm i → PG X (.Name x pos) (gTg B G W t) := fun {i} hi hl ht => by
        subst ht
        refine PG.imp (pg_name (i := i) ok.nd (by rw [ok.hN]; exact hi) hl (.inl (ok.fnx x))) fun v σ H Q ⟨p, ρ, S, Q0, E0, hL, hS, r, kQ, kE, hw⟩ => ?_
        unfold wpT at hw
        exact kQ _ _ _ _ (.refl H) hS (hL.set r) (by simp) hw
      simp only [trT] at h
      split at h
      · rename_i hx
        rw [Option.map_eq_some_iff] at h
        obtain ⟨i, h1, h2⟩ := h
        exact nm (idx_get h1) (.inl (by rw [ok.hS]; exact hx)) h2.symm
      · rename_i hx
        rw [Option.map_eq_some_iff] at h
        obtain ⟨i, h1, h2⟩ := h
        exact nm (idx_get h1) (.inr (by rw [ok.hS]; exact hx)) h2.symm
      · cases h
    | Tuple es kk pos =>
      simp only [trT, Option.map_eq_some_iff] at h
      obtain ⟨ts, h1, h2⟩ := h
      subst h2
      have all : ∀ {es : List PySem.Expr} {ts : List Tgt}, es.mapM (trT B.T N (trE B.T N 40 sc) sc n) = some ts → PGs X es (fun vs σ H Q => vs.length = ts.length ∧ gTgs B G W ts vs σ H Q) := by
        intro es
        induction es with
        | nil =>
          intro ts h
          simp at h; subst h
          refine PGs.imp pgs_nil fun vs σ H Q ⟨_, ps, ρ, S, Q0, E0, hL, hS, r, kQ, kE, hw⟩ => ?_
          cases ps with
          | nil => exact ⟨r.nil_inv, kQ _ _ _ _ (.refl H) hS hL rfl hw⟩
          | cons _ _ => exact hw.elim
        | cons a es ih =>
          intro ts h
          rw [List.mapM_cons] at h
          obtain ⟨t, h1, h⟩ := map1 h
          obtain ⟨ts, h2, h⟩ := map1 h
          cases h
          refine PGs.imp (pgs_cons (tg_ok ok n a t h1) (ih h2) (by rw [assign_star (tgtM_star h1)]; rfl)) fun vs σ H Q ⟨hlen, ps, ρ, S, Q0, E0, hL, hS, r, kQ, kE, hw⟩ => ?_
          cases ps with
          | nil => exact hw.elim
          | cons p ps =>
            obtain ⟨v, rest, rfl, r1, r2⟩ := r.cons_inv
            refine ⟨v, rest, rfl, p, ρ, S, _, E0, hL, hS, r1, fun ρ' S' H' σ' e' s' hL' hn q => ?_, kE, hw⟩
            exact ⟨by simpa using hlen, ps, ρ', S', Q0, E0, hL', s', r2.ext e', (hn ▸ kQ).at e', (hn ▸ kE).at e', q⟩
      obtain ⟨hl, hi⟩ := assign_len (env := X.env) (tgtMs_star h1)
      refine PG.imp (pg_tup ok.calm (all h1) hl hi) fun v σ H Q ⟨p, ρ, S, Q0, E0, hL, hS, r, kQ, kE, hw⟩ => ?_
      unfold wpT at hw
      cases p <;> try (exact hw.elim)
      rename_i ps
      obtain ⟨a, vs, rfl, s1, z1, r1⟩ := r.tup_inv
      rw [ok.hK]
      have hw' := hw.2
      exact ⟨a, vs, rfl, s1, by rw [r1.length, hw.1, mapM_len h1], by rw [r1.length, hw.1], ps, ρ, S, Q0, E0, hL, hS, r1, kQ, kE, hw'⟩
    | Subscript a i pos =>
      simp only [trT] at h
      split at h
      · obtain ⟨x, y, h1, h2, h3⟩ := map2 h
        cases h3
        rename_i hp
        have sl : PSet X (fun x y v H Q => rSetL x y v H Q ∨ rDSet B x y v H Q) := fun pins s σ H o i v ov iv u Q I ro ri rv h => by
          rcases h with h | h
          · exact set_list pins s σ H o i v ov iv u Q I ro ri rv h
          · exact set_dN ok.hK ok.pf.wd (by have := ok.room.un; omega) pins s σ H o i v ov iv u Q I ro ri rv h
        refine PG.imp (pg_sub (pe h1) (pe h2) sl (fun v => by cases i <;> first | rfl | cases hp)) fun v σ H Q ⟨p, ρ, S, Q0, E0, hL, hS, r, kQ, kE, hw⟩ => ?_
        unfold wpT at hw
        refine ⟨ρ, S, _, E0, hL, hS, fun q S1 H1 u e1 s1 r1 q1 => ?_, kE σ rfl, hw⟩
        refine ⟨ρ, S1, _, E0, hL.ext e1, s1, fun q' S2 H2 u' e2 s2 r2 q2 => ?_, (kE σ rfl).at e1, q1⟩
        exact putS_ok s2 (r1.ext e2) r2 ((r.ext e1).ext e2) (fun S3 H3 e3 s3 q3 => kQ _ _ _ _ ((e1.trans e2).trans e3) s3 (((hL.ext e1).ext e2).ext e3) rfl q3) q2
      · cases h
    | Attribute a f pos =>
      simp only [trT] at h
      split at h
      · obtain ⟨x, i, h1, h2, h3⟩ := map2 h
        cases h3
        refine PG.imp (pg_fld (pe h1)) fun v σ H Q ⟨p, ρ, S, Q0, E0, hL, hS, r, kQ, kE, hw⟩ => ?_
        unfold wpT at hw
        refine ⟨ρ, S, _, E0, hL, hS, fun q S1 H1 u e1 s1 r1 q1 => ?_, kE σ rfl, hw⟩
        cases q <;> try exact q1.elim
        rename_i l
        simp only at q1
        split at q1
        · rename_i c fs hx
          obtain ⟨y, C, dx, gs, ⟨g1, g2, g3, g4⟩, g5, g6⟩ := s1 l _ hx
          rw [ok.hK]
          have ex : Ext H1 (L2.upd H1 l (.ins C dx (putF f v gs))) := .ins g5
          refine ⟨l, C, dx, gs, r1.loc_inv, g5, g3, g4 i f (idx_get h2), by rw [g6.length]; exact q1.1, kQ _ _ _ _ (e1.trans ex) (s1.upd (o := .ins c (putN i p fs)) ex ⟨y, C, dx, _, ⟨g1, g2, g3, g4⟩, L2.upd_same, RepF.put ok.pf.att (idx_get h2) ((r.ext e1).ext ex) (g6.ext ex)⟩) ((hL.ext e1).ext ex) rfl q1.2⟩
        · exact q1.elim
      · cases h
    | _ => simp [trT] at h
end
end Core
end
section
set_option maxRecDepth 100000
set_option maxHeartbeats 4000000
/-! Core14: errors raised; except clauses with and without names, mixed. -/
namespace Core
open PySem L2 PySem.Spec PyProof.Rows
abbrev Suite := Addr → Value → Option Addr → TS
abbrev Clause := Value × Option Nat × Suite
/-- what is wanted behind a suite whose name goes at its end -/
def unName (D : Ends) : Option Nat → Ends
  | none => D
  | some i => { nx := fun σ' H' => D.nx (σ'.set i none) H', rt := D.rt, bk := fun σ' H' => D.bk (σ'.set i none) H', ct := fun σ' H' => D.ct (σ'.set i none) H' }
def inName (σ : L2.St) (a : Addr) : Option Nat → L2.St
  | none => σ
  | some i => σ.set i (some (.ref a))
/-- the clauses' wish about an error of the body -/
def wMix (K : PySem.W.Frag) (Wo : WX) (D : Ends) : List Clause → WX
  | [] => Wo
  | (c, oi, ts) :: r => fun cls d σ H => ∃ b, PySem.W.exmOne K cls c = some b ∧ (b = true → ∀ a, H a = none → ts a cls d (unName D oi) (inName σ a oi) H) ∧ (b = false → wMix K Wo D r cls d σ H)
/-- a clause's name and its slot -/
inductive NmOk (X : Cx) : Option Str → Option Nat → Prop
  | no : NmOk X none none
  | yes {n : Str} {i : Nat} (h : X.N[i]? = some n) (l : X.env.kindOf n = some .local) : NmOk X (some n) (some i)
inductive Clauses (X : Cx) : List ExceptHandler → List Clause → Prop
  | nil : Clauses X [] []
  | cons {x : Str} {c : Value} {ts : Suite} {b₀ : Stmt} {suite : List Stmt} {np p' : Pos} {nm : Option Str} {oi : Option Nat} {hds : List ExceptHandler} {l : List Clause} (hc : Names X x c) (hn : NmOk X nm oi)
      (hsu : ∀ (a : Addr) (oe : Obj) (cls : Value) (d : Option Addr) (pn : List (Addr × Obj)), Zc cls d oe → (∃ vs, oe.data = .fields vs) → PSs (X.suite a ((a, oe) :: pn)) (b₀ :: suite) (ts a cls d)) (r : Clauses X hds l) :
      Clauses X (.ExceptHandler (some (.Name x np)) nm (b₀ :: suite) p' :: hds) ((c, oi, ts) :: l)
section
variable {X : Cx}
/-- the clauses, from the error on the ground -/
theorem clauses_run {pins : List (Addr × Obj)} {σ : L2.St} {H : Hp} {sI s' : Shared} {B : Heap} {a : Addr} {cls : Value} {d : Option Addr} {D : Ends} {Wo : WX} {h3 : Heap} (hs : X.stack = X.env :: X.outer) (hf : X.env.frame = some X.env.locals) (hN : X.N.Nodup) (tk : Takes X Wo) (ok : X.Ok)
    (J : Inv X pins σ H sI) (nb : ∀ b o, sI.heap.get? b = some o → b ∉ frs X.stack → B.get? b = some o) (fl3 : HandSPX.FlyingZ B (X.env :: X.outer) a (Zc cls d) h3) (up3 : sI.heap.UpToSlots h3) (na : H a = none) (os : s'.os = sI.os) (ag : AllBare s'.gens) :
    ∀ {hds : List ExceptHandler} {l : List Clause}, Clauses X hds l → wMix X.K Wo D l cls d σ H → wpAny (model X.prog X.w) X.A (handleBy (.ref a) X.env hds) (SP X pins D) X.xe { s' with heap := h3 } := by
  have J3 : Inv X pins σ H { s' with heap := h3 } := J.landed nb fl3.1 up3 os ag
  obtain ⟨oe3, vs3, he3, hz3, hd3⟩ := fl3.there
  have nfr : a ∉ frs (X.env :: X.outer) := by
    intro hm
    obtain ⟨_, o', e', hnf⟩ := fl3.2.2.1.mem hm
    rw [he3] at e'
    cases e'
    exact hnf _ hd3
  have nL : a ≠ X.env.locals := by
    intro z
    exact nfr (List.mem_filterMap.mpr ⟨X.env, List.mem_cons_self, by rw [hf, z]⟩)
  have nF : a ∉ X.fs := by
    intro hm
    obtain ⟨e, he, q⟩ := List.mem_filterMap.mp hm
    exact nfr (List.mem_filterMap.mpr ⟨e, List.mem_cons_of_mem _ he, q⟩)
  intro hds l hcl
  induction hcl with
  | nil =>
    intro w
    refine wpAny_handleBy_nil ?_
    obtain ⟨_, _, _, oe, vs, T, oT, ts', he, hz, hd, h1, _⟩ := id fl3
    unfold PySem.passOn
    refine wpAny_bind (wpAny_field he hd h1 ?_)
    rw [if_neg (by simp : ¬ ((Value.ref T == Value.none) = true))]
    have goes : wpAny (model X.prog X.w) X.A (setFlight (.ref a) X.env.frame) (fun _ s4 => wpAny (model X.prog X.w) X.A (throw (.ref a) : Sem Flow) (SP X pins D) X.xe s4) X.xe { s' with heap := h3 } := by
      rw [hf]
      refine HandSPX.setFlight_upZ fl3 fun h4 hh4 up4 => ?_
      refine wpAny_throw (tk _ _ ⟨a, B, sI, pins, σ, H, cls, d, rfl, J, nb, up3.trans up4, .inr (.inr ?_), na, os, ag, w⟩)
      rw [hs]
      exact hh4
    first
      | exact wpAny_bind (wpAny_pure (wpAny_bind goes))
      | exact wpAny_bind goes
  | @cons x c ts b₀ suite np p' nm oi hds l hc hn hsu r ih =>
    rintro ⟨b, hb1, hyes, hno⟩
    refine wpAny_handleBy_cons (codeAny_handlers_test ?_) (by intro q; cases q)
    have S3 := J3.suite he3 hd3 na nL nF
    have LT : PySem.W.Looks (model X.prog X.w) h3 (typeOf (.ref a)) cls := fun A Q E s kk q => wpAny_typeOf_ref (kk _ _ he3) (by rw [hz3.1]; exact q)
    have LM := PySem.W.exm_one (M := model X.prog X.w) J3.kIn LT hb1
    have named : ∀ {Q E : Value → Shared → Prop}, Q c { s' with heap := h3 } → wpAny (model X.prog X.w) (X.A.mark (some (.ref a))) (eval (.Name x np) X.env) Q E { s' with heap := h3 } := by
      intro Q E q
      obtain ⟨hg, hdbg, hm | ⟨hm, hv, hnn⟩⟩ := hc
      · exact ld_glob (X := X.suite a ((a, oe3) :: (X.pn ++ pins))) S3 hg hm q hdbg
      · exact ld_blt (X := X.suite a ((a, oe3) :: (X.pn ++ pins))) S3 hg hm hv q hnn hdbg
    refine named (LM.here ?_)
    cases b with
    | false => exact ih (hno rfl)
    | true =>
      cases hn with
      | no =>
        refine codeAny_handlers_suite (HandSPX.lands_againZ fl3 fun h4 fl4 up4 => ?_)
        have J4 : Inv X pins σ H { s' with heap := h4 } := J.landed nb fl4.1 (up3.trans up4) os ag
        obtain ⟨oe4, vs4, he4, hz4, hd4⟩ := fl4.there
        have S4 := J4.suite he4 hd4 na nL nF
        refine wpAny_mono ((hsu a oe4 cls d (X.pn ++ pins) hz4 ⟨_, hd4⟩).run [] _ _ H _ S4 (hyes rfl a na)) ?_ (fun _ _ z => z.elim)
        intro f s6 hsp
        cases f with
        | ret u =>
          obtain ⟨v6, σ6, H6, S6, r6, q6⟩ := hsp
          exact ⟨_, _, _, S6.unsuite ok, r6, q6⟩
        | next => obtain ⟨σ6, H6, S6, q6⟩ := hsp; exact ⟨_, _, S6.unsuite ok, q6⟩
        | brk => obtain ⟨σ6, H6, S6, q6⟩ := hsp; exact ⟨_, _, S6.unsuite ok, q6⟩
        | cont => obtain ⟨σ6, H6, S6, q6⟩ := hsp; exact ⟨_, _, S6.unsuite ok, q6⟩
      | @yes n i hi hln =>
        refine codeAny_handlers_suite_as (HandSPX.lands_againZ fl3 fun h4 fl4 up4 => ?_)
        have J4 : Inv X pins σ H { s' with heap := h4 } := J.landed nb fl4.1 (up3.trans up4) os ag
        obtain ⟨oe4, vs4, he4, hz4, hd4⟩ := fl4.there
        have S4 := J4.suite he4 hd4 na nL nF
        refine store_ok (X := X.suite a ((a, oe4) :: (X.pn ++ pins))) (v := .ref a) S4 hN hi (.inl hln) rfl (fun s5 S5 => ?_) (.inr hln)
        refine wpAny_mono ((hsu a oe4 cls d (X.pn ++ pins) hz4 ⟨_, hd4⟩).run [] s5 _ H _ S5 (hyes rfl a na)) ?_ (fun _ _ z => z.elim)
        intro f s6 hsp
        have away : ∀ {σ6 : L2.St} {H6 : Hp} {Q : Shared → Prop}, Inv (X.suite a ((a, oe4) :: (X.pn ++ pins))) [] σ6 H6 s6 → (∀ s7, Inv X pins (σ6.set i none) H6 s7 → Q s7) →
            wpAny (model X.prog X.w) X.A (do bindName X.env n .none; unbindBehindTheSuite X.env n p') (fun _ s7 => Q s7) X.xe s6 := fun S6 hq => gone_ok (S6.unsuite ok) hN hi hln hq
        cases f with
        | ret u =>
          obtain ⟨v6, σ6, H6, S6, r6, q6⟩ := hsp
          exact away S6 fun s7 J7 => ⟨_, _, _, J7, r6, q6⟩
        | next => obtain ⟨σ6, H6, S6, q6⟩ := hsp; exact away S6 fun s7 J7 => ⟨_, _, J7, q6⟩
        | brk => obtain ⟨σ6, H6, S6, q6⟩ := hsp; exact away S6 fun s7 J7 => ⟨_, _, J7, q6⟩
        | cont => obtain ⟨σ6, H6, S6, q6⟩ := hsp; exact away S6 fun s7 J7 => ⟨_, _, J7, q6⟩
theorem ps_try_mix {body : List Stmt} {h₀ : ExceptHandler} {hds : List ExceptHandler} {l : List Clause} {pos : Pos} {tb : WX → TS} {Wo : WX} (hs : X.stack = X.env :: X.outer) (hf : X.env.frame = some X.env.locals) (hN : X.N.Nodup) (tk : Takes X Wo)
    (hb : ∀ (W : WX) (pn : List (Addr × Obj)) (xe : Value → Shared → Prop), Takes (X.tr pn xe) W → PassesOwn (model X.prog X.w) X.A X.env xe → PSs (X.tr pn xe) body (tb W))
    (hh : Clauses X (h₀ :: hds) l) : PS X (.Try body (h₀ :: hds) [] [] pos) (fun D σ H => tb (wMix X.K Wo D l) D σ H) := by
  constructor
  intro pins s σ H D I h
  have ok := I.ok
  have hfr : X.A.frames = some (X.env :: X.outer) := by rw [ok.frames, hs]
  refine wpAny_Try_except ?_
  have bodyRun := (hb (wMix X.K Wo D l) (X.pn ++ pins) (fun e s₁ => wpAny (model X.prog X.w) X.A (noteFrame e X.env) (fun _ s₂ => wpAny (model X.prog X.w) X.A (setFlight e none) (fun _ s₃ =>
    wpAny (model X.prog X.w) X.A (handleBy e X.env (h₀ :: hds)) (SP X pins D) X.xe s₃) X.xe s₂) X.xe s₁) (fun u s' xx => by
      obtain ⟨a, B, sI, pins', σ', H', cls, d, rfl, J', nb, up, sky, na, os, ag, w⟩ := xx
      have J : Inv X pins σ' H' sI := J'.ofTry ok
      have sky' : Sky B (X.env :: X.outer) a (Zc cls d) X.env.locals s'.heap := by rw [← hs]; exact sky
      show wpAny (model X.prog X.w) X.A (noteFrame (.ref a) X.env) _ _ _
      exact Sky.land Zc.steady hfr hf sky' fun h3 fl3 up3 => clauses_run hs hf hN tk ok J nb fl3 (up.trans up3) na os ag hh w) PassesOwn.looking).run [] s σ H D (I.toTry _) h
  refine wpAny_mono bodyRun (fun f s1 hsp => ?_) (fun e s1 he => he)
  cases f with
  | ret u =>
    obtain ⟨v, σ', H', J', r, q⟩ := hsp
    exact ⟨v, σ', H', J'.ofTry ok, r, q⟩
  | next => obtain ⟨σ', H', J', q⟩ := hsp; exact wpAny_execs_nil ⟨σ', H', J'.ofTry ok, q⟩
  | brk => obtain ⟨σ', H', J', q⟩ := hsp; exact ⟨σ', H', J'.ofTry ok, q⟩
  | cont => obtain ⟨σ', H', J', q⟩ := hsp; exact ⟨σ', H', J'.ofTry ok, q⟩

/-- X() of an error's class without a maker of its own -/
theorem pmk_bare {C : Addr} {x : Str} {p pos : Pos} (q : PySem.W.excIn X.K C PySem.HandSPX.veTail "ValueError.__new__" = true) (gC : X.mg x = some (.ref C)) (kC : PySem.W.keepIn X.K (.ref C) = true) (r : Raises X (.ref C)) (hg : Gl X x) (hdb : (x == ("__debug__" : Str)) = false) :
    PMk X (.Call (.Name x p) [] [] pos) (fun _ H Q => Q (.ref C) none H) := by
  intro pins s σ H Q I h
  refine wpAny_Call_Name_kw (ld_glob I hg gC (PySem.W.callWith_K0 I.kIn kC ?_) hdb)
  obtain ⟨bm, N, nm, qn, bs, hdct, sn, sub, ab, col, dd, k0, k1, k2, k3, k5, mN, hC, hN, hni, T⟩ := exc_obj I.kIn q
  exact wpAny_call_exc_subT PySem.F.excBase_ValueError T hC hN hni (fun h' e hm => mk_of I hm r h (I.hok.gone hm.new)) (Nat.zero_le _)
end

section
variable {B : Bs} {N : List Str} {G : Env} {k : Nat} {sc : Scope} {W : WX} {X : Cx}
theorem rse_ok (ok : SOk B N G k sc W X) {x : Str} {p pos pos' : Pos} {args : List PySem.Expr} {c : Nat} {xs : List CE} (hg : isGl sc x = true) (hc : B.T.cls[c]? = some x)
    (hk : (B.T.xc c = some none ∧ args = [] ∧ xs = []) ∨ ∃ f e y, B.T.xc c = some (some f) ∧ args = [e] ∧ xs = [y] ∧ PE X e (tE B G W y) ∧ noStar e = true) :
    PS X (.Raise (some (.Call (.Name x p) args [] pos)) none pos') (fun _ σ H => ∃ (ρ : Loc) (S : Store) (E0 : QE), RelL B H σ ρ ∧ RelS B S H ∧ OkX B H E0 (fun cls d H' => W cls d σ H') ∧ 2 ≤ G.lv ∧ wpEs G xs ρ S (fun ps S1 => match G.xc c, ps with
      | some none, [] => E0 ⟨c, []⟩ S1
      | some (some f), [v] => E0 ⟨c, [(f, v)]⟩ S1
      | _, _ => False) E0) := by
  obtain ⟨hg1, hg2⟩ := isGl_ok ok.toXOk hg
  obtain ⟨C, h1, h2⟩ := ok.pf.clv c x hc
  have hm : X.mg x = some (.ref C) := by rw [ok.hM]; exact h1
  have hkp : PySem.W.keepIn X.K (.ref C) = true := by rw [ok.hK]; exact h2
  rcases hk with ⟨hx, rfl, rfl⟩ | ⟨f, e, y, hx, rfl, rfl, pe, he⟩
  · obtain ⟨_, _, s1, s2⟩ := ok.pf.xfs c x C hc (by rw [hx]; rfl) h1
    have ra : Raises X (.ref C) := raises_own (by rw [ok.hK]; exact s1) (by rw [ok.hK]; exact s2)
    have ex := ok.pf.xc0 c x C hc hx h1
    refine ⟨fun pins s σ H D I ⟨ρ, S, E0, hL, hS, kE, _, h⟩ => (ps_raise ok.calm ok.tk (pmk_bare (by rw [ok.hK]; exact ex) hm hkp ra hg1 hg2)).run pins s σ H D I ?_⟩
    unfold wpEs at h
    rw [ok.pf.xc, hx] at h
    exact kE _ _ _ _ _ (.refl H) hS ⟨x, C, hc, by rw [hx]; rfl, h1, rfl, .inl rfl⟩ h
  · obtain ⟨fy, hfy⟩ := ok.pf.xcf c f hx
    obtain ⟨fI, fd, ps, T, iC, tI, bI, FI⟩ := ok.pf.xc1 c f x fy C hc hx hfy h1
    constructor
    intro pins s σ H D I ⟨ρ, S, E0, hL, hS, kE, hlv, h⟩
    have hl : 2 ≤ k := by rw [← ok.pf.lv]; exact hlv
    have rm : Room (1 + 1) X.A := ok.room.mono hl
    have pm := pmk_oex (X := X) (x := x) (p := p) (pos := pos) (by rw [ok.hK]; exact T) (by rw [ok.hK]; exact iC) (by rw [ok.hK]; exact tI) (by rw [ok.hK, ok.hM]; exact FI) rm (by rw [ok.hK]; exact bI) .nil pass0 hg1 hm (pa_cons pe pa_nil (star_cons he)) hg2 (star_cons he) rfl
    refine (ps_raise (pos := pos') ok.calm ok.tk pm).run pins s σ H D I ?_
    unfold wpEs wpEs at h
    refine ⟨ρ, S, _, E0, hL, hS, fun v S1 H1 u e1 s1 r1 q1 => ?_, kE, h⟩
    have q1 : (match G.xc c, [v] with
      | some none, [] => E0 ⟨c, []⟩ S1
      | some (some f), [v] => E0 ⟨c, [(f, v)]⟩ S1
      | _, _ => False) := q1
    rw [ok.pf.xc, hx] at q1
    refine ⟨by show 1 ≤ 1000; decide, fun a ha => ⟨a, u, rfl, L2.upd_same, fun dx n ne => ⟨rfl, dx, [(fy, u)], L2.upd_same, by rw [L2.upd_ne ne]; exact L2.upd_same, by rw [L2.upd_ne ne] at n; exact n, ?_⟩⟩⟩
    have n1 : H1 dx = none := by rw [L2.upd_ne ne] at n; exact n
    have eq : L2.upd (del (L2.upd (L2.upd H1 a (exo a C none)) dx (exd dx [(fy, u)])) a) dx (.xd [(fy, u)]) = L2.upd H1 dx (.xd [(fy, u)]) := by
      funext b
      by_cases hb : b = dx
      · subst hb; rw [L2.upd_same, L2.upd_same]
      · rw [L2.upd_ne hb, L2.upd_ne hb]
        by_cases hba : b = a
        · subst hba; rw [del_same, ha]
        · rw [del_ne hba, L2.upd_ne hb, L2.upd_ne hba]
    have eq2 : L2.upd (del (L2.upd (L2.upd (L2.upd H1 a (exo a C none)) dx (exd dx [(fy, u)])) a (exo a C (some dx))) a) dx (.xd [(fy, u)]) = L2.upd H1 dx (.xd [(fy, u)]) := by
      funext b
      by_cases hb : b = dx
      · subst hb; rw [L2.upd_same, L2.upd_same]
      · rw [L2.upd_ne hb, L2.upd_ne hb]
        by_cases hba : b = a
        · subst hba; rw [del_same, ha]
        · rw [del_ne hba, L2.upd_ne hba, L2.upd_ne hb, L2.upd_ne hba]
    rw [eq2]
    have rf : RepF B (L2.upd H1 dx (.xd [(fy, u)])) [(f, v)] [(fy, u)] := ⟨fy, u, [], rfl, hfy, r1.ext (.fresh n1), rfl⟩
    exact (kE.at e1) _ _ _ _ _ (.fresh n1) (s1.ext n1) ⟨x, C, hc, by rw [hx]; rfl, h1, rfl, .inr ⟨dx, _, rfl, L2.upd_same, rf⟩⟩ q1
end
end Core
end
section
set_option maxRecDepth 100000
set_option maxHeartbeats 4000000
/-! Core15: statements are sound. -/
namespace Core
open PySem L2 PySem.Spec PyProof.Rows
section
variable {B : Bs} {N : List Str} {G : Env} {k : Nat} {sc : Scope} {W : WX} {X : Cx}
structure OkD (B : Bs) (H : Hp) (n : Nat) (D0 : DE) (D : Ends) (W : WX) : Prop where
  nx : OkG B H n D0.nx D.nx
  rt : OkQ B H D0.rt D.rt
  bk : OkG B H n D0.bk D.bk
  ct : OkG B H n D0.ct D.ct
  ex : OkW B H n D0.ex W
theorem OkD.at {H H1 : Hp} {n : Nat} {D0 : DE} {D : Ends} (h : OkD B H n D0 D W) (e : Ext H H1) : OkD B H1 n D0 D W := ⟨h.nx.at e, h.rt.at e, h.bk.at e, h.ct.at e, h.ex.at e⟩
def tS (B : Bs) (G : Env) (W : WX) (s : CS) : TS := fun D σ H => ∃ (ρ : Loc) (S : Store) (D0 : DE), RelL B H σ ρ ∧ RelS B S H ∧ OkD B H σ.length D0 D W ∧ wpS G s ρ S D0
def tB (B : Bs) (G : Env) (W : WX) (b : List CS) : TS := fun D σ H => ∃ (ρ : Loc) (S : Store) (D0 : DE), RelL B H σ ρ ∧ RelS B S H ∧ OkD B H σ.length D0 D W ∧ wpB G b ρ S D0
theorem PS.imp {st : Stmt} {t t' : TS} (h : PS X st t) (k : ∀ D σ H, t' D σ H → t D σ H) : PS X st t' := ⟨fun pins s σ H D I hw => h.run pins s σ H D I (k D σ H hw)⟩
theorem PSs.imp {st : List Stmt} {t t' : TS} (h : PSs X st t) (k : ∀ D σ H, t' D σ H → t D σ H) : PSs X st t' := ⟨fun pins s σ H D I hw => h.run pins s σ H D I (k D σ H hw)⟩
theorem pss_of {f : Stmt → Option CS} (IH : ∀ st s, f st = some s → PS X st (tS B G W s)) : ∀ {b : List Stmt} {cs : List CS}, b.mapM f = some cs → PSs X b (tB B G W cs)
  | [], cs, h => by
    simp at h; subst h
    refine PSs.imp pss_nil fun D σ H ⟨ρ, S, D0, hL, hS, kD, h⟩ => ?_
    unfold wpB at h
    obtain ⟨S1, hS1, h⟩ := hS.wk h
    exact kD.nx _ _ _ _ (.refl H) hS1 hL rfl h
  | st :: b, cs, h => by
    rw [List.mapM_cons] at h
    obtain ⟨c, h1, h⟩ := map1 h
    obtain ⟨ds, h2, h⟩ := map1 h
    cases h
    refine PSs.imp (pss_cons (IH st c h1) (pss_of IH h2)) fun D σ H ⟨ρ, S, D0, hL, hS, kD, h⟩ => ?_
    unfold wpB at h
    obtain ⟨S1, hS1, h⟩ := hS.wk h
    refine ⟨ρ, S1, { D0 with nx := fun ρ' S' => wpB G ds ρ' S' D0 }, hL, hS1, ⟨fun ρ' S' H' σ' e s l n q => ?_, kD.rt, kD.bk, kD.ct, kD.ex⟩, h⟩
    exact ⟨ρ', S', D0, l, s, by rw [n]; exact kD.at e, q⟩
/-- the ends of a loop's body -/
theorem OkD.loop {H : Hp} {n : Nat} {D0 : DE} {D : Ends} (h : OkD B H n D0 D W) {I0 : Loc → Store → Prop} {I : L2.St → Hp → Prop} (k : OkG B H n I0 I) : OkD B H n { D0 with nx := I0, ct := I0, bk := D0.nx } { D with nx := I, ct := I, bk := D.nx } W := ⟨k, h.rt, h.nx, k, h.ex⟩
theorem swp_no {e t : PySem.Expr} {l : Nat} {env : PySem.Env} (h : isCompr e = false) : swapsWith e (some t) l env = pure false := by
  cases e <;> first | rfl | cases h
theorem swp_not {e t : PySem.Expr} {l : Nat} {env : PySem.Env} (h : ∀ x p, t ≠ .Name x p) : swapsWith e (some t) l env = pure false := by
  cases t <;> first | exact absurd rfl (h _ _) | (cases e <;> rfl)
theorem swst_no {e t : PySem.Expr} {env : PySem.Env} (h : (isTupleE t && isTupleE e) = false) (hl : ∀ es p, t ≠ .List es p) : swappedStores [t] e env = pure none := by
  cases t <;> first | rfl | exact absurd rfl (hl _ _) | (cases e <;> first | rfl | cases h)
theorem trT_form {n : Nat} {T : Tab} {tr : PySem.Expr → Option CE} {e : PySem.Expr} {t : Tgt} (h : trT T N tr sc n e = some t) : (∀ es p, e ≠ .List es p) ∧ (∀ e' p, e ≠ .Starred e' p) := by
  cases n with
  | zero => simp [trT] at h
  | succ n => cases e <;> first | (simp [trT] at h; done) | exact ⟨fun _ _ z => (by cases z), fun _ _ z => (by cases z)⟩
theorem swp_name {elt : PySem.Expr} {gs : List Comprehension} {scope : Scope} {pos py : Pos} {y : Str} {l : Nat} {env : PySem.Env} :
    swapsWith (.ListComp elt gs scope pos) (some (.Name y py)) l env = pure (env.blockKind == .function && env.kindOf y == some .local && py.line == (PySem.Expr.ListComp elt gs scope pos).pos.line && !(scope.names.any fun (n, k) => n == y && (k == .local || k == .cell))) := by
  rfl
/-- name = [..], the stores exchanged -/
theorem asgLc_ok (ok : SOk B N G k sc W X) {y : Str} {py pos spos : Pos} {elt tg iter : PySem.Expr} {ifs : List PySem.Expr} {scope : Scope} {i : Nat} {x : CE} (hi : N[i]? = some y) (hl : sc.names.lookup y = some .local)
    (hsw : swapsWith (.ListComp elt [⟨tg, iter, ifs, 0⟩] scope pos) (some (.Name y py)) spos.line X.env = pure true) (h : trE B.T N 40 sc (.ListComp elt [⟨tg, iter, ifs, 0⟩] scope pos) = some x) : PS X (.Assign [.Name y py] (.ListComp elt [⟨tg, iter, ifs, 0⟩] scope pos) spos) (tS B G W (.asg (.nm i) x)) := by
  obtain ⟨ihE, ihT⟩ := sE_T (B := B) (N := N) (G := G) (k := k) 39
  have IH := ihE X sc W ok.toXOk
  have h : (let own := ownOf N scope
      let sc' := relS scope sc
      if blkC N sc scope own then (do
        let t ← trVT false N sc' 8 tg
        let x ← trE B.T N 39 sc' elt
        let c ← (match ifs with | [] => some none | [e] => (trE B.T N 39 sc' e).map some | _ => none)
        let (k, as) ← trI (trE B.T N 39 sc) B.T sc tg iter
        if (vtSlots t).all (fun i => (own.map (·.2)).contains i) then some (CE.cmpr (own.map (·.2)) k as t x c) else none) else none) = some x := h
  simp only at h
  split at h
  · rename_i hblk
    obtain ⟨t, h1, h⟩ := map1 h
    obtain ⟨x', h2, h⟩ := map1 h
    obtain ⟨c', h3, h⟩ := map1 h
    obtain ⟨⟨ik, as⟩, h4, h⟩ := map1 h
    simp only at h
    split at h
    · rename_i hv
      cases h
      obtain ⟨wi, hi', hw⟩ := iter_ok ok.toXOk IH h4
      have hset : noSet iter = true := by
        cases iter <;> first | rfl | simp [trI] at h4
      have hgv : ∀ (s : Shared) (H : Hp) (C : Addr) (cl : List (Str × Addr)) (fp : List Addr), PG (X.blk s H scope (compEnvC scope cl C X.env) fp) tg (gVT B t) := fun s H C cl fp =>
        let o := ok.toXOk.blk s H scope C cl fp
        vt_ok (fun z => by cases z) o.hK o.hN o.nd o.hS o.calm 8 tg t h1
      have hel : ∀ (s : Shared) (H : Hp) (C : Addr) (cl : List (Str × Addr)) (fp : List Addr), PE (X.blk s H scope (compEnvC scope cl C X.env) fp) elt (tE B G noW x') := fun s H C cl fp => ihE _ _ _ (ok.toXOk.blk s H scope C cl fp) elt x' h2
      have hts : ∀ (s : Shared) (H : Hp) (C : Addr) (cl : List (Str × Addr)) (fp : List Addr), PTs (X.blk s H scope (compEnvC scope cl C X.env) fp) ifs (tCond B G c') := fun s H C cl fp => by
        cases ifs with
        | nil => cases h3; exact pts_nil
        | cons ef r =>
          cases r with
          | nil =>
            simp only [Option.map_eq_some_iff] at h3
            obtain ⟨ce, h5, h6⟩ := h3
            subst h6
            exact pts_one (ihT _ _ _ (ok.toXOk.blk s H scope C cl fp) ef ce h5)
          | cons _ _ => cases h3
      refine PS.imp (ps_setLc ok.calm ok.nd (by rw [ok.hN]; exact hi) (by rw [ok.hS]; exact hl) hsw hi' (blkOk_by (by rw [ok.hN, ok.hS]; exact hblk)) hgv hts hel (folded_ok hset)) fun D σ H ⟨ρ, S, D0, hL, hS, kD, hw'⟩ => ?_
      refine comp_ok (pos := pos) ok.toXOk hblk hv hi' hw hset hgv hts hel ?_
      unfold wpS at hw'
      refine ⟨ρ, S, _, _, hL, hS, fun p S1 H1 v e1 s1 r1 q1 => ?_, kD.ex σ rfl, hw'⟩
      unfold wpT at q1
      exact kD.nx _ _ _ _ e1 s1 ((hL.ext e1).set r1) (by simp) q1
    · cases h
  · cases h
theorem asg_ok (ok : SOk B N G k sc W X) {t e : PySem.Expr} {p : Pos} {g : Tgt} {x : CE} (hn : (isTupleE t && isTupleE e) = false) (hg : trT B.T N (trE B.T N 40 sc) sc 6 t = some g) (hx : trE B.T N 40 sc e = some x) : PS X (.Assign [t] e p) (tS B G W (.asg g x)) := by
  have pe := (sE_T (B := B) (N := N) (G := G) (k := k) 40).1 X sc W ok.toXOk e x hx
  have pg := tg_ok ok 6 t g hg
  obtain ⟨f1, f2⟩ := trT_form hg
  have plain : swapsWithSole [t] e p.line X.env = pure false → PS X (.Assign [t] e p) (tS B G W (.asg g x)) := fun hs => by
    refine PS.imp (ps_asg pe pg hs (swst_no hn f1) (by rw [assign_star (tgtM_star hg)]; rfl)) fun D σ H ⟨ρ, S, D0, hL, hS, kD, h⟩ => ?_
    unfold wpS at h
    refine ⟨ρ, S, _, _, hL, hS, fun p S1 H1 v e1 s1 r1 q1 => ?_, kD.ex σ rfl, h⟩
    exact ⟨p, ρ, S1, D0.nx, D0.ex, hL.ext e1, s1, r1, kD.nx.at e1, kD.ex.at e1, q1⟩
  by_cases hc : isCompr e = false
  · exact plain (swp_no hc)
  · by_cases ht : ∀ y q, t ≠ .Name y q
    · exact plain (swp_not ht)
    · have ht' : ∃ y q, t = .Name y q := by
        cases t <;> first | exact ⟨_, _, rfl⟩ | exact absurd (fun _ _ z => (by cases z)) ht
      obtain ⟨y, py, rfl⟩ := ht'
      cases e <;> try (exact absurd rfl hc)
      · rename_i elt gs scope pos
        cases hb : (X.env.blockKind == .function && X.env.kindOf y == some .local && py.line == (PySem.Expr.ListComp elt gs scope pos).pos.line && !(scope.names.any fun (n, k) => n == y && (k == .local || k == .cell))) with
        | false => exact plain ((swp_name (l := p.line)).trans (by rw [hb]))
        | true =>
          have hk : sc.names.lookup y = some .local := by
            simp only [Bool.and_eq_true, beq_iff_eq] at hb
            have := hb.1.1.2
            rw [← ok.hS]; exact this
          simp only [trT, hk] at hg
          rw [Option.map_eq_some_iff] at hg
          obtain ⟨i, h1, h2⟩ := hg
          subst h2
          have hsw : swapsWith (.ListComp elt gs scope pos) (some (.Name y py)) p.line X.env = pure true := swp_name.trans (by rw [hb])
          have h1' := idx_get h1
          clear hb plain pe hn hc h1
          cases gs with
          | nil => simp [trE] at hx
          | cons g r =>
            cases r with
            | cons _ _ => simp [trE] at hx
            | nil =>
              obtain ⟨tg, iter, ifs, a⟩ := g
              by_cases ha : a = 0
              · subst ha
                exact asgLc_ok ok h1' hk hsw hx
              · simp [trE, ha] at hx
      · simp [trE] at hx
      · simp [trE] at hx
end
end Core
end
section
set_option maxRecDepth 100000
set_option maxHeartbeats 4000000
/-! Core16: statements, the rest. -/
namespace Core
open PySem L2 PySem.Spec PyProof.Rows
section
variable {B : Bs} {N : List Str} {G : Env} {k : Nat} {sc : Scope} {W : WX} {X : Cx}
theorem SOk.blockKind (ok : SOk B N G k sc W X) : X.env.blockKind = .function := by
  unfold PySem.Env.blockKind
  rw [ok.hS, ok.fun_]
  rfl
/-- the names of exchanged stores -/
theorem par_names {ts : List PySem.Expr} {is : List Nat} (h : parNames N sc ts = some is) : ∃ xs : List (Str × Pos), ts = xs.map (fun x => PySem.Expr.Name x.1 x.2) ∧ is.length = xs.length ∧ (∀ x ∈ xs, sc.names.lookup x.1 = some .local) ∧ ∀ (j : Nat) (x : Str × Pos), xs[j]? = some x → ∃ i, is[j]? = some i ∧ N[i]? = some x.1 := by
  unfold parNames at h
  induction ts generalizing is with
  | nil => simp at h; subst h; exact ⟨[], rfl, rfl, by simp, by simp⟩
  | cons t ts ih =>
    rw [List.mapM_cons] at h
    obtain ⟨i, h1, h⟩ := map1 h
    obtain ⟨js, h2, h⟩ := map1 h
    cases h
    obtain ⟨xs, e1, e2, e3, e4⟩ := ih h2
    cases t <;> try (cases h1)
    rename_i x p
    simp only at h1
    split at h1
    · rename_i hx
      refine ⟨(x, p) :: xs, by simp [e1], by simp [e2], ?_, ?_⟩
      · intro y hy
        rcases List.mem_cons.mp hy with rfl | hy
        · exact hx
        · exact e3 y hy
      · intro j y hy
        cases j with
        | zero => simp at hy; subst hy; exact ⟨i, rfl, idx_get h1⟩
        | succ j => simpa using e4 j y (by simpa using hy)
    · cases h1
theorem swapped2 {env : PySem.Env} {x y : Str} {px py tp vp : Pos} {a b : PySem.Expr} {k1 k2} (hb : env.blockKind = .function) (hx : env.kindOf x = some .local) (hy : env.kindOf y = some .local) (ne : x ≠ y) (hl : (py.line == px.line) = true)
    (hf : (foldedForSure 8 a && foldedForSure 8 b) = false) (hc : (constantsAlone 8 a && constantsAlone 8 b) = false) (ha : noStar a = true) (hb' : noStar b = true) :
    swappedStores [.Tuple [.Name x px, .Name y py] k1 tp] (.Tuple [a, b] k2 vp) env = pure (some [x, y]) := by
  unfold swappedStores
  have hpl : (PySem.Expr.Name x px).pos = px := rfl
  have e1 : (y == x) = false := by simpa using fun z => ne z.symm
  have hl' : py.line = px.line := by simpa using hl
  simp [hb, hx, hy, hpl, hl', hf, hc, List.eraseDups_cons, e1]
  intro h
  rcases h with h | h
  · cases a <;> first | exact absurd h Bool.false_ne_true | exact absurd ha Bool.false_ne_true
  · cases b <;> first | exact absurd h Bool.false_ne_true | exact absurd hb' Bool.false_ne_true
theorem swapped3 {env : PySem.Env} {x y z : Str} {px py pz tp vp : Pos} {a b c : PySem.Expr} {k1 k2} (hb : env.blockKind = .function) (hx : env.kindOf x = some .local) (hy : env.kindOf y = some .local) (hz : env.kindOf z = some .local) (ne : x ≠ y) (ne2 : x ≠ z) (ne3 : y ≠ z) (hl : (py.line == px.line) = true) (hl2 : (pz.line == px.line) = true)
    (hf : (foldedForSure 8 a && (foldedForSure 8 b && foldedForSure 8 c)) = false) (hc : (constantsAlone 8 a && (constantsAlone 8 b && constantsAlone 8 c)) = false) (ha : noStar a = true) (hb' : noStar b = true) (hc' : noStar c = true) :
    swappedStores [.Tuple [.Name x px, .Name y py, .Name z pz] k1 tp] (.Tuple [a, b, c] k2 vp) env = pure (some [x, y, z]) := by
  unfold swappedStores
  have hpl : (PySem.Expr.Name x px).pos = px := rfl
  have e1 : (y == x) = false := by simpa using fun z => ne z.symm
  have e2 : (z == x) = false := by simpa using fun z => ne2 z.symm
  have e3 : (z == y) = false := by simpa using fun z => ne3 z.symm
  have hl' : py.line = px.line := by simpa using hl
  have hl2' : pz.line = px.line := by simpa using hl2
  simp [hb, hx, hy, hz, hpl, hl', hl2', hf, hc, List.eraseDups_cons, e1, e2, e3]
  intro h
  rcases h with h | h | h
  · cases a <;> first | exact absurd h Bool.false_ne_true | exact absurd ha Bool.false_ne_true
  · cases b <;> first | exact absurd h Bool.false_ne_true | exact absurd hb' Bool.false_ne_true
  · cases c <;> first | exact absurd h Bool.false_ne_true | exact absurd hc' Bool.false_ne_true
def setV (σ : L2.St) : List Nat → List V → L2.St
  | i :: is, v :: vs => setV (σ.set i (some v)) is vs
  | _, _ => σ
theorem setV_len : ∀ (is : List Nat) (vs : List V) (σ : L2.St), (setV σ is vs).length = σ.length
  | [], _, _ => rfl
  | _ :: _, [], _ => rfl
  | i :: is, v :: vs, σ => by
    show (setV (σ.set i (some v)) is vs).length = _
    rw [setV_len is vs]
    simp
theorem setV_ok {H : Hp} : ∀ (is : List Nat) (ps : List P) (vs : List V) {σ : L2.St} {ρ : Loc}, RelL B H σ ρ → Reps B H ps vs → RelL B H (setV σ is vs) (setAll ρ is ps)
  | [], _, _, _, _, h, _ => h
  | _ :: _, [], _, _, _, h, r => by rw [r.nil_inv]; exact h
  | i :: is, p :: ps, _, σ, ρ, h, r => by
    obtain ⟨v, vs, rfl, r1, r2⟩ := r.cons_inv
    exact setV_ok is ps vs (h.set r1) r2
theorem par_ok (ok : SOk B N G k sc W X) {ts vs : List PySem.Expr} {k1 k2} {tp vp p : Pos} {is : List Nat} {xs : List CE} (h1 : parNames N sc ts = some is) (hc : ((is.length == 2 || is.length == 3) && vs.length == is.length && decide is.Nodup && decide (ts.all fun t => t.pos.line == (ts.head?.map (·.pos.line)).getD 0) && !vs.all (foldedForSure 8) && !vs.all (constantsAlone 8)) = true)
    (h2 : vs.mapM (trE B.T N 40 sc) = some xs) : PS X (.Assign [.Tuple ts k1 tp] (.Tuple vs k2 vp) p) (tS B G W (.par is xs)) := by
  have IH := (sE_T (B := B) (N := N) (G := G) (k := k) 40).1 X sc W ok.toXOk
  have pa := pa_of (G := G) (W := W) IH h2
  have ns := mapM_noStar h2
  obtain ⟨ns', e1, e2, e3, e4⟩ := par_names h1
  simp only [Bool.and_eq_true, Bool.or_eq_true, beq_iff_eq, decide_eq_true_eq, Bool.not_eq_true'] at hc
  obtain ⟨⟨⟨⟨⟨l1, l2⟩, nd⟩, ln⟩, hf⟩, hcc⟩ := hc
  have loc : ∀ x, sc.names.lookup x = some .local → X.env.scope.names.lookup x = some .local := fun x h => by rw [ok.hS]; exact h
  have fin : ∀ {D : Ends} {σ : L2.St} {H : Hp}, tS B G W (.par is xs) D σ H → tA B G W xs σ H fun vs H1 => vs.length = xs.length ∧ D.nx (setV σ is vs) H1 := by
    intro D σ H ⟨ρ, S, D0, hL, hS, kD, h⟩
    unfold wpS at h
    refine ⟨ρ, S, _, _, hL, hS, fun ps S1 H1 vs e1 s1 r1 q1 => ?_, kD.ex σ rfl, wpEs_len ok.pf.gm h⟩
    exact ⟨by rw [r1.length]; exact q1.1, kD.nx _ _ _ _ e1 s1 (setV_ok is ps vs (hL.ext e1) r1) (setV_len _ _ _) q1.2⟩
  have lx := mapM_len h2
  rcases l1 with l1 | l1
  · have m1 : ns'.length = 2 := e2 ▸ l1
    have m3 : vs.length = 2 := l2.trans l1
    match ns', is, vs, m1, l1, m3 with
    | [(x, px), (y, py)], [i, j], [a, b], _, _, _ =>
      subst e1
      obtain ⟨i', a1, a2⟩ := e4 0 (x, px) rfl
      obtain ⟨j', b1, b2⟩ := e4 1 (y, py) rfl
      cases a1; cases b1
      have hij : i ≠ j := by simpa using nd
      have hx := e3 (x, px) (by simp)
      have hy := e3 (y, py) (by simp)
      have ne : x ≠ y := fun z => hij (nodup_ix (ok.hN ▸ ok.nd) a2 (z ▸ b2))
      simp only [List.all_cons, List.all_nil, Bool.and_true] at hf hcc
      have hl : (py.line == px.line) = true := by simp only [List.map_cons, List.map_nil, List.all_cons, List.all_nil, Bool.and_true, Bool.and_eq_true] at ln; exact ln.2
      refine PS.imp (ps_par (ta := tA B G W xs) ok.calm ok.nd (by rw [ok.hN]; exact a2) (by rw [ok.hN]; exact b2) hij (loc _ hx) (loc _ hy) pa (swapped2 ok.blockKind (loc _ hx) (loc _ hy) ne hl hf hcc (ns a (by simp)) (ns b (by simp))) rfl) fun D σ H h => ?_
      obtain ⟨ρ, S, Q0, E0, q1, q2, q3, q4, q5⟩ := fin h
      refine ⟨ρ, S, Q0, E0, q1, q2, fun ps S' H' vs e s r q => ?_, q4, q5⟩
      obtain ⟨q6, q7⟩ := q3 ps S' H' vs e s r q
      rw [lx] at q6
      match vs, q6, q7 with
      | [v, w], _, q7 => exact ⟨v, w, rfl, q7⟩
  · have m1 : ns'.length = 3 := e2 ▸ l1
    have m3 : vs.length = 3 := l2.trans l1
    match ns', is, vs, m1, l1, m3 with
    | [(x, px), (y, py), (z, pz)], [i, j, l], [a, b, c], _, _, _ =>
      subst e1
      obtain ⟨i', a1, a2⟩ := e4 0 (x, px) rfl
      obtain ⟨j', b1, b2⟩ := e4 1 (y, py) rfl
      obtain ⟨l', c1, c2⟩ := e4 2 (z, pz) rfl
      cases a1; cases b1; cases c1
      simp only [List.nodup_cons, List.mem_cons, List.not_mem_nil, or_false, not_or, not_false_eq_true, List.nodup_nil, and_true] at nd
      obtain ⟨⟨hij, hil⟩, hjl⟩ := nd
      have hx := e3 (x, px) (by simp)
      have hy := e3 (y, py) (by simp)
      have hz := e3 (z, pz) (by simp)
      have nn : N.Nodup := ok.hN ▸ ok.nd
      have ne : x ≠ y := fun q => hij (nodup_ix nn a2 (q ▸ b2))
      have ne2 : x ≠ z := fun q => hil (nodup_ix nn a2 (q ▸ c2))
      have ne3 : y ≠ z := fun q => hjl (nodup_ix nn b2 (q ▸ c2))
      simp only [List.all_cons, List.all_nil, Bool.and_true] at hf hcc
      simp only [List.map_cons, List.map_nil, List.all_cons, List.all_nil, Bool.and_true, Bool.and_eq_true] at ln
      refine PS.imp (ps_par3 (ta := tA B G W xs) ok.calm ok.nd (by rw [ok.hN]; exact a2) (by rw [ok.hN]; exact b2) (by rw [ok.hN]; exact c2) hij hil hjl (loc _ hx) (loc _ hy) (loc _ hz) pa (swapped3 ok.blockKind (loc _ hx) (loc _ hy) (loc _ hz) ne ne2 ne3 ln.2.1 ln.2.2 hf hcc (ns a (by simp)) (ns b (by simp)) (ns c (by simp))) rfl) fun D σ H h => ?_
      obtain ⟨ρ, S, Q0, E0, q1, q2, q3, q4, q5⟩ := fin h
      refine ⟨ρ, S, Q0, E0, q1, q2, fun ps S' H' vs e s r q => ?_, q4, q5⟩
      obtain ⟨q6, q7⟩ := q3 ps S' H' vs e s r q
      rw [lx] at q6
      match vs, q6, q7 with
      | [v, w, u], _, q7 => exact ⟨v, w, u, rfl, q7⟩
end
end Core
end
section
set_option maxRecDepth 100000
set_option maxHeartbeats 4000000
/-! Core17: the theorem of statements. -/
namespace Core
open PySem L2 PySem.Spec PyProof.Rows
section
variable {B : Bs} {N : List Str} {G : Env} {k : Nat} {sc : Scope} {W : WX} {X : Cx}
theorem aug_s (ok : SOk B N G k sc W X) {x : Str} {px p : Pos} {op : Operator} {e : PySem.Expr} {i : Nat} {y : CE} (hi : N[i]? = some x) (hl : L2.Loc sc x) (h : trE B.T N 40 sc e = some y) : PS X (.AugAssign (.Name x px) op e p) (tS B G W (.aug i op y)) := by
  have pe := (sE_T (B := B) (N := N) (G := G) (k := k) 40).1 X sc W ok.toXOk e y h
  obtain ⟨r, hr, hv⟩ := aug_ok (X := X) (B := B) op
  refine PS.imp (ps_aug ok.nd (by rw [ok.hN]; exact hi) (by rw [ok.hS]; exact hl) pe hr (.inl (ok.fnx x))) fun D σ H ⟨ρ, S, D0, hL, hS, kD, h⟩ => ?_
  unfold wpS at h
  split at h
  · rename_i q hq
    obtain ⟨v, e1, r1⟩ := hL.at_ i q hq
    refine ⟨v, e1, ρ, S, _, _, hL, hS, fun w S1 H1 u e1 s1 r2 q1 => ?_, kD.ex σ rfl, h⟩
    exact hv q w S1 v u H1 _ _ s1 (r1.ext e1) r2 (fun z S2 H2 t e2 s2 r3 q2 => kD.nx _ _ _ _ (e1.trans e2) s2 (((hL.ext e1).ext e2).set r3) (by simp) q2) q1
  · exact h.elim
theorem augF_s (ok : SOk B N G k sc W X) {o e : PySem.Expr} {f : Str} {p p2 : Pos} {op : Operator} {i : Nat} {x y : CE} (hx : trE B.T N 40 sc o = some x) (hi : B.T.att[i]? = some f) (h : trE B.T N 40 sc e = some y) : PS X (.AugAssign (.Attribute o f p2) op e p) (tS B G W (.augF x i op y)) := by
  have po := (sE_T (B := B) (N := N) (G := G) (k := k) 40).1 X sc W ok.toXOk o x hx
  have pe := (sE_T (B := B) (N := N) (G := G) (k := k) 40).1 X sc W ok.toXOk e y h
  obtain ⟨r, hr, hv⟩ := aug_ok (X := X) (B := B) op
  refine PS.imp (ps_fldaug po pe (rd := r) (fun pins s σ H x y u v Q I rx ry h => hr pins s σ H x y u v Q I rx ry h)) fun D σ H ⟨ρ, S, D0, hL, hS, kD, h⟩ => ?_
  unfold wpS at h
  refine ⟨ρ, S, _, _, hL, hS, fun p S1 H1 v e1 s1 r1 q1 => ?_, kD.ex σ rfl, h⟩
  cases p <;> try exact q1.elim
  rename_i l
  simp only at q1
  split at q1
  · rename_i c fs hx
    split at q1
    · rename_i p hp
      obtain ⟨z, C, dx, gs, ⟨g1, g2, g3, g4⟩, g5, g6⟩ := s1 l _ hx
      obtain ⟨u, l1, l2⟩ := RepF.look (T := B.T) ok.pf.att g6 hi hp
      rw [ok.hK]
      refine ⟨l, C, dx, gs, u, r1.loc_inv, g5, g3, g4 i f hi, l1, ρ, S1, _, _, hL.ext e1, s1, fun q S2 H2 w e2 s2 r2 q2 => ?_, (kD.ex σ rfl).at e1, q1⟩
      refine hv p q S2 u w H2 _ _ s2 (l2.ext e2) r2 (fun t S3 H3 t' e3 s3 r3 q3 => ?_) q2
      split at q3
      · rename_i c' fs' hx3
        obtain ⟨⟨ec, hl⟩, q3⟩ := q3
        subst ec
        obtain ⟨z', C', dx', gs', ⟨a1, a2, a3, a4⟩, a5, a6⟩ := s3 l _ hx3
        rw [g1] at a1; cases a1
        rw [g2] at a2; cases a2
        have ex : Ext H3 (L2.upd H3 l (.ins C dx' (putF f t' gs'))) := .ins a5
        exact ⟨dx', gs', a5, by rw [a6.length]; exact hl, kD.nx _ _ _ _ (((e1.trans e2).trans e3).trans ex) (s3.upd (o := .ins _ (putN i t fs')) ex ⟨z, C, dx', _, ⟨g1, g2, g3, g4⟩, L2.upd_same, RepF.put ok.pf.att hi (r3.ext ex) (a6.ext ex)⟩) ((((hL.ext e1).ext e2).ext e3).ext ex) rfl q3⟩
      · exact q3.elim
    · exact q1.elim
  · exact q1.elim
theorem get_list : PGet X (rIxL X.K) := by
  intro pins s σ H o i ov iv Q I ro ri h
  obtain ⟨p, xs, n, z, rfl, rfl, hq, he, q⟩ := h
  cases ro
  obtain ⟨t, rfl⟩ := ri
  obtain ⟨its, r, pl, hz⟩ := I.list hq
  obtain ⟨j, h1, h2, h3, h4, h5⟩ := atI_get he
  obtain ⟨w, ew, rw'⟩ := r.get h2
  have hl := r.length
  have hn := line63
  have fin : EP X pins σ Q w s := ⟨z, H, I, rw', q⟩
  by_cases h0 : 0 ≤ n
  · have hj : n.toNat = j := by
      rw [seqIndex_of h0 h5] at h1
      exact Option.some.inj h1
    exact wpAny_getItem_list pl.isList h0 (by omega) (by rw [hj]; simpa using ew) fin
  · have hj : (n + (its.toArray.size : Int)).toNat = j := by
      rw [seqIndex_neg (by omega) h4] at h1
      rw [List.size_toArray, ← hl]
      exact Option.some.inj h1
    exact wpAny_getItem_list_neg pl.isList (by omega) (by rw [List.size_toArray] <;> omega) (by omega) (by rw [hj]; simpa using ew) fin
theorem get_dN (hK : X.K = B.K) (hw : X.w = B.w) (hu : X.A.units + 16 < cLine) : PGet X (rDIx B) := by
  intro pins s σ H o i ov iv Q I ro ri h
  obtain ⟨a, z, rfl, g, q⟩ := h
  cases (show ov = Value.ref a from ro)
  exact n_getItem hK hw hu I g ri fun w' s' I' rw' => ⟨z, H, I', rw', q⟩
theorem getS_ok {S : Store} {H : Hp} {x y : P} {vx vy : V} {Q0 : QP} {Q : VK} (hS : RelS B S H) (rx : Rep B H x vx) (ry : Rep B H y vy) (k : OkQ B H Q0 Q) (h : getS x y S Q0) : rIxL B.K vx vy H Q ∨ rDIx B vx vy H Q := by
  unfold getS at h
  split at h
  · rename_i a kvs hd
    obtain ⟨rfl, hx⟩ := dctS_inv hd
    obtain ⟨ok, p, h1, h2⟩ := h
    rcases (hS.dct hx).get ok ry with ⟨p', v, q1, q2, q3⟩ | ⟨q1, _⟩
    · rw [h1] at q1; cases q1
      exact .inr ⟨a, v, rx.loc_inv, q2, here k hS q3 h2⟩
    · rw [h1] at q1; cases q1
  · split at h
    · rename_i l xs i hl
      obtain ⟨rfl, hx⟩ := lstS_inv hl
      obtain ⟨vs, t1, z1, rr⟩ := hS.lst hx
      obtain ⟨p, h1, h2⟩ := h (by rw [← rr.length]; exact z1)
      obtain ⟨v, e1, r1⟩ := rr.atI h1
      exact .inl ⟨l, vs, _, v, rx.loc_inv, ry.int_inv, SqL.of t1, e1, here k hS r1 h2⟩
    · exact h.elim
theorem augI_s (ok : SOk B N G k sc W X) {o i e : PySem.Expr} {p p2 : Pos} {op : Operator} {x y z : CE} (hx : trE B.T N 40 sc o = some x) (hy : trE B.T N 40 sc i = some y) (hp : plainIx i = true) (h : trE B.T N 40 sc e = some z) : PS X (.AugAssign (.Subscript o i p2) op e p) (tS B G W (.augI x y op z)) := by
  have IH := (sE_T (B := B) (N := N) (G := G) (k := k) 40).1 X sc W ok.toXOk
  obtain ⟨r, hr, hv⟩ := aug_ok (X := X) (B := B) op
  have gl : PGet X (fun x y H Q => rIxL X.K x y H Q ∨ rDIx B x y H Q) := fun pins s σ H o i ov iv Q I ro ri h => by
    rcases h with h | h
    · exact get_list pins s σ H o i ov iv Q I ro ri h
    · exact get_dN ok.hK ok.pf.wd (by have := ok.room.un; omega) pins s σ H o i ov iv Q I ro ri h
  have sl : PSet X (fun x y v H Q => rSetL x y v H Q ∨ rDSet B x y v H Q) := fun pins s σ H o i v ov iv u Q I ro ri rv h => by
    rcases h with h | h
    · exact set_list pins s σ H o i v ov iv u Q I ro ri rv h
    · exact set_dN ok.hK ok.pf.wd (by have := ok.room.un; omega) pins s σ H o i v ov iv u Q I ro ri rv h
  refine PS.imp (ps_augS (IH _ _ hx) (IH _ _ hy) gl (IH _ _ h) hr sl (fun ov iv new => by cases i <;> first | rfl | cases hp)) fun D σ H ⟨ρ, S, D0, hL, hS, kD, h⟩ => ?_
  unfold wpS at h
  refine ⟨ρ, S, _, _, hL, hS, fun p S1 H1 v e1 s1 r1 q1 => ?_, kD.ex σ rfl, h⟩
  refine ⟨ρ, S1, _, _, hL.ext e1, s1, fun q S2 H2 w e2 s2 r2 q2 => ?_, (kD.ex σ rfl).at e1, q1⟩
  rw [ok.hK]
  refine getS_ok s2 (r1.ext e2) r2 (fun t S3 H3 t' e3 s3 r3 q3 => ?_) q2
  refine ⟨ρ, S3, _, _, ((hL.ext e1).ext e2).ext e3, s3, fun u S4 H4 u' e4 s4 r4 q4 => ?_, (((kD.ex σ rfl).at e1).at e2).at e3, q3⟩
  refine hv t u S4 t' u' H4 _ _ s4 (r3.ext e4) r4 (fun l S5 H5 l' e5 s5 r5 q5 => ?_) q4
  exact putS_ok s5 ((((r1.ext e2).ext e3).ext e4).ext e5) (((r2.ext e3).ext e4).ext e5) r5 (fun S6 H6 e6 s6 q6 => kD.nx _ _ _ _ (((((e1.trans e2).trans e3).trans e4).trans e5).trans e6) s6 ((((((hL.ext e1).ext e2).ext e3).ext e4).ext e5).ext e6) rfl q6) q5
theorem rEnd {H : Hp} {v : V} {p : P} {S : Store} {D0 : DE} {D : Ends} {n : Nat} (kD : OkD B H n D0 D W) (hS : RelS B S H) (r : Rep B H p v) (q : D0.rt p S) : D.rt v H := kD.rt _ _ _ _ (.refl H) hS r q
/-- the clauses of a try -/
theorem hs_ok (ok : SOk B N G k sc W X) : ∀ {hds : List ExceptHandler} {hs : List (Nat × Option Nat × HS)}, trHs B.T N sc hds = some hs → ∃ cl, Clauses X hds cl ∧ ∀ (ρ : Loc) (D0 : DE) (D : Ends) (H : Hp), OkD B H N.length D0 D W →
    ∀ (σ : L2.St), σ.length = N.length → ∀ ex S' H' cls d, Ext H H' → RelS B S' H' → ExR B H' ex cls d → wpH hs D0 ρ ex S' → wMix X.K W D cl cls d σ H'
  | [], hs, h => by
    cases h
    exact ⟨[], .nil, fun ρ D0 D H kD σ hl ex S' H' cls d e s x q => kD.ex σ hl ex S' H' cls d e s x q⟩
  | .ExceptHandler none nm body pos :: r, hs, h => by simp [trHs] at h
  | .ExceptHandler (some t) nm body pos :: r, hs, h => by
    cases t <;> try (simp [trHs] at h; done)
    rename_i x np
    unfold trHs at h
    split at h
    · rename_i hg
      obtain ⟨c, h1, h⟩ := map1 h
      obtain ⟨xcc, h2, h⟩ := map1 h
      obtain ⟨hh, h3, h⟩ := map1 h
      obtain ⟨oi, h4, h⟩ := map1 h
      obtain ⟨hs', h5, h⟩ := map1 h
      cases h
      obtain ⟨cl, c1, c2⟩ := hs_ok ok h5
      obtain ⟨hg1, hg2⟩ := isGl_ok ok.toXOk hg
      obtain ⟨C, m1, m2⟩ := ok.pf.clv c x (idx_get h1)
      have hm : X.mg x = some (.ref C) := by rw [ok.hM]; exact m1
      have nm_ok : NmOk X nm oi := by
        cases nm with
        | none => cases h4; exact .no
        | some y =>
          simp only at h4
          split at h4
          · rename_i hy
            rw [Option.map_eq_some_iff] at h4
            obtain ⟨i, h6, h7⟩ := h4
            cases h7
            exact .yes (by rw [ok.hN]; exact idx_get h6) (by show X.env.scope.names.lookup y = _; rw [ok.hS]; exact hy)
          · cases h4
      have xsome : (B.T.xc c).isSome = true := by rw [h2]; rfl
      obtain ⟨xf, xn, _, _⟩ := ok.pf.xfs c x C (idx_get h1) xsome m1
      -- the clause's suite
      have suite : ∃ ts : Suite, (∃ b₀ suite, body = b₀ :: suite) ∧ (∀ (a : Addr) (oe : Obj) (cls : Value) (d : Option Addr) (pn : List (Addr × Obj)), Zc cls d oe → (∃ vs, oe.data = .fields vs) → PSs (X.suite a ((a, oe) :: pn)) body (ts a cls d)) ∧
          ∀ (ρ : Loc) (D0 : DE) (D : Ends) (H : Hp), OkD B H N.length D0 D W → ∀ (σ : L2.St), σ.length = N.length → ∀ ex S' H' cls d a, Ext H H' → RelS B S' H' → ExR B H' ex cls d → ex.cls = c → wpH ((c, oi, hh) :: hs') D0 ρ ex S' → ts a cls d (unName D oi) (inName σ a oi) H' := by
        have lit : ∀ (v : V) (p : P), (∀ H, Rep B H p v) → hh = .lit p → (∀ Y : Cx, PSs Y body (tRet (tC v))) → (∃ b₀ suite, body = b₀ :: suite) → ∃ ts : Suite, (∃ b₀ suite, body = b₀ :: suite) ∧ (∀ (a : Addr) (oe : Obj) (cls : Value) (d : Option Addr) (pn : List (Addr × Obj)), Zc cls d oe → (∃ vs, oe.data = .fields vs) → PSs (X.suite a ((a, oe) :: pn)) body (ts a cls d)) ∧
          ∀ (ρ : Loc) (D0 : DE) (D : Ends) (H : Hp), OkD B H N.length D0 D W → ∀ (σ : L2.St), σ.length = N.length → ∀ ex S' H' cls d a, Ext H H' → RelS B S' H' → ExR B H' ex cls d → ex.cls = c → wpH ((c, oi, hh) :: hs') D0 ρ ex S' → ts a cls d (unName D oi) (inName σ a oi) H' := by
          intro v p hr he hb hbb
          subst he
          refine ⟨fun _ _ _ => tRet (tC v), hbb, fun a oe cls d pn _ _ => hb _, fun ρ D0 D H kD σ hl ex S' H' cls d a e s x ec q => ?_⟩
          unfold wpH at q
          rw [if_pos ec] at q
          have q' := kD.rt _ _ _ _ e s (hr H') q
          cases oi <;> exact q'
        have readF : ∀ {y : Str} {yp fp : Pos} {f : Str} {i fi : Nat}, nm = some y → slotOf N sc y = some i → B.T.att.idxOf? f = some fi → (oi = some i) ∧ (∀ (a : Addr) (oe : Obj) (cls : Value) (d : Option Addr) (pn : List (Addr × Obj)), Zc cls d oe → (∃ vs, oe.data = .fields vs) →
            PE (X.suite a ((a, oe) :: pn)) (.Attribute (.Name y yp) f fp) (tXf a cls d C f (tVar i))) ∧
            ∀ (σ : L2.St), σ.length = N.length → ∀ ex S' H' cls d a p (Q : VK), RelS B S' H' → ExR B H' ex cls d → ex.cls = c → ex.fs.lookup fi = some p → (∀ v, Rep B H' p v → Q v H') → tXf a cls d C f (tVar i) (inName σ a oi) H' Q := by
          intro y yp fp f i fi hn hi hf
          subst hn
          obtain ⟨i1, i2, i3, i4⟩ := slotOf_ok hi
          have hoi : oi = some i := by
            cases nm_ok with
            | yes j1 j2 =>
              rw [ok.hN] at j1
              rw [nodup_ix (ok.hN ▸ ok.nd) j1 i1]
          refine ⟨hoi, fun a oe cls d pn hz hd => pe_xf (by rw [ok.hK]; exact xf) (by rw [ok.hK]; exact xn fi f (idx_get hf)) hz hd (pe_var (by show X.N[i]? = _; rw [ok.hN]; exact i1) (by show Vis X.env.scope y; rw [ok.hS]; exact i2) i3 i4) rfl, fun σ hl ex S' H' cls d a p Q s hx ec hp hQ => ?_⟩
          subst hoi
          have il : i < σ.length := by rw [hl]; exact (List.getElem?_eq_some_iff.mp i1).1
          obtain ⟨x', C', e1, e2, e3, e4, e5⟩ := hx
          have hC : C' = C := by
            rw [ec, idx_get h1] at e1
            cases e1
            rw [m1] at e3
            exact (Value.ref.inj (Option.some.inj e3)).symm
          subst hC
          rcases e5 with e5 | ⟨da, gs, e5, e6, e7⟩
          · rw [e5] at hp; cases hp
          · obtain ⟨v, v1, v2⟩ := RepF.look (T := B.T) ok.pf.att e7 (idx_get hf) hp
            exact ⟨.ref a, List.getElem?_set_self il, rfl, e4, da, gs, v, e5, e6, v1, hQ v v2⟩
        split at h3
        · rename_i s _ _ _ _ _
          cases h3
          exact lit (.str s) (.str s) (fun H => rep_str) rfl (fun Y => pss_one (ps_ret pe_str)) ⟨_, _, rfl⟩
        · cases h3
          exact lit .non .non (fun H => rep_non) rfl (fun Y => pss_one (ps_ret pe_non)) ⟨_, _, rfl⟩
        · rename_i b _ _ _ _ _
          cases h3
          exact lit (.bl b) (.bl b) (fun H => rep_bl) rfl (fun Y => pss_one (ps_ret pe_bl)) ⟨_, _, rfl⟩
        · rename_i b _ _ _ _ _
          cases h3
          exact lit (.int b) (.int b) (fun H => rep_int) rfl (fun Y => pss_one (ps_ret pe_int)) ⟨_, _, rfl⟩
        · rename_i y yp f fp rp _ _
          split at h3
          · rename_i hc
            simp only [Bool.and_eq_true, decide_eq_true_eq, Option.isSome_iff_exists] at hc
            obtain ⟨hn, i, hi⟩ := hc
            rw [Option.map_eq_some_iff] at h3
            obtain ⟨fi, f1, f2⟩ := h3
            subst f2
            obtain ⟨g1, g2, g3⟩ := readF (yp := yp) (fp := fp) hn hi f1
            refine ⟨fun a cls d => tRet (tXf a cls d C f (tVar i)), ⟨_, _, rfl⟩, fun a oe cls d pn hz hd => pss_one (ps_ret (g2 a oe cls d pn hz hd)), fun ρ D0 D H kD σ hl ex S' H' cls d a e s x ec q => ?_⟩
            unfold wpH at q
            rw [if_pos ec] at q
            simp only at q
            split at q
            · rename_i p hp
              refine g3 σ hl ex S' H' cls d a p _ s x ec hp fun v rv => ?_
              have q' := kD.rt _ _ _ _ e s rv q
              cases oi <;> exact q'
            · exact q.elim
          · cases h3
        · rename_i s _ sp y yp f fp bp rp _ _
          split at h3
          · rename_i hc
            simp only [Bool.and_eq_true, decide_eq_true_eq, Option.isSome_iff_exists] at hc
            obtain ⟨hn, i, hi⟩ := hc
            rw [Option.map_eq_some_iff] at h3
            obtain ⟨fi, f1, f2⟩ := h3
            subst f2
            obtain ⟨g1, g2, g3⟩ := readF (yp := yp) (fp := fp) hn hi f1
            refine ⟨fun a cls d => tRet (tOp (fun x y H Q => ∃ i j, x = .str i ∧ y = .str j ∧ i.length + j.length ≤ sizeLine ∧ Q (.str (i ++ j)) H) (tC (.str s)) (tXf a cls d C f (tVar i))), ⟨_, _, rfl⟩, fun a oe cls d pn hz hd => pss_one (ps_ret (pe_op op_add_str pe_str (g2 a oe cls d pn hz hd))), fun ρ D0 D H kD σ hl ex S' H' cls d a e sS x ec q => ?_⟩
            unfold wpH at q
            rw [if_pos ec] at q
            simp only at q
            split at q
            · rename_i p hp
              refine (g3 σ hl ex S' H' cls d a _ (fun y H2 => ∃ i j, V.str s = .str i ∧ y = .str j ∧ i.length + j.length ≤ sizeLine ∧ (unName D oi).rt (.str (i ++ j)) H2) sS x ec hp fun v rv => ?_)
              rw [rv.str_inv]
              refine ⟨_, _, rfl, rfl, q.1, ?_⟩
              have q' := kD.rt _ _ _ _ e sS rep_str q.2
              cases oi <;> exact q'
            · exact q.elim
          · cases h3
        · cases h3
      obtain ⟨ts, ⟨b₀, su, rfl⟩, t1, t2⟩ := suite
      refine ⟨(.ref C, oi, ts) :: cl, .cons ⟨hg1, hg2, .inl hm⟩ nm_ok t1 c1, fun ρ D0 D H kD σ hl ex S' H' cls d e s x q => ?_⟩
      obtain ⟨x', C', e1, e2, e3, e4, e5⟩ := id x
      refine ⟨decide (ex.cls = c), ?_, fun hb a na => t2 ρ D0 D H kD σ hl ex S' H' cls d a e s x (of_decide_eq_true hb) q, fun hb => ?_⟩
      · rw [ok.hK, e4]
        exact ok.pf.exm ex.cls c x' _ C' C e1 (idx_get h1) e2 xsome e3 m1
      · have ne := of_decide_eq_false hb
        unfold wpH at q
        rw [if_neg ne] at q
        exact c2 ρ D0 D H kD σ hl ex S' H' cls d e s x q
    · cases h
theorem SOk.tr (ok : SOk B N G k sc W X) {W' : WX} {pn : List (Addr × Obj)} {xe : Value → Shared → Prop} (tk : Takes (X.tr pn xe) W') (pa : PassesOwn (model X.prog X.w) X.A X.env xe) : SOk B N G k sc W' (X.tr pn xe) :=
  ⟨⟨ok.hK, ok.hM, ok.hN, ok.nd, ok.hS, ok.calm, ok.room, tk, ok.pf⟩, ok.fnx, ok.stk, ok.frm, pa, ok.fun_⟩
theorem try_ok (ok : SOk B N G k sc W X) {body : List Stmt} {h₀ : ExceptHandler} {hds : List ExceptHandler} {pos : Pos} {b : List CS} {hs : List (Nat × Option Nat × HS)}
    (hb : ∀ (X : Cx) (W : WX), SOk B N G k sc W X → PSs X body (tB B G W b)) (hh : trHs B.T N sc (h₀ :: hds) = some hs) : PS X (.Try body (h₀ :: hds) [] [] pos) (tS B G W (.try_ b hs)) := by
  obtain ⟨cl, c1, c2⟩ := hs_ok ok hh
  constructor
  intro pins s σ H D I ⟨ρ, S, D0, hL, hS, kD, h⟩
  have hlen : σ.length = N.length := by rw [← ok.hN]; exact I.len
  refine (ps_try_mix (tb := fun W' => tB B G W' b) ok.stk ok.frm ok.nd ok.tk (fun W' pn xe tk pa => hb _ _ (ok.tr tk pa)) c1).run pins s σ H D I ?_
  unfold wpS at h
  rw [hlen] at kD
  refine ⟨ρ, S, { D0 with ex := fun ex S' => wpH hs D0 ρ ex S' }, hL, hS, ⟨by rw [hlen]; exact kD.nx, kD.rt, by rw [hlen]; exact kD.bk, by rw [hlen]; exact kD.ct, fun σ' hl ex S' H' cls d e s x q => ?_⟩, h⟩
  exact c2 ρ D0 D H kD σ' (hl.trans hlen) ex S' H' cls d e s x q
theorem while_ok (ok : SOk B N G k sc W X) {c : PySem.Expr} {body : List Stmt} {pos : Pos} {x : CE} {b : List CS} (hc : PT X c (tT B G W x)) (hb : PSs X body (tB B G W b)) : PS X (.While c body [] pos) (tS B G W (.whl x b)) := by
  refine PS.imp (ps_while ok.pas hc hb) fun D σ H ⟨ρ, S, D0, hL, hS, kD, h⟩ => ?_
  unfold wpS at h
  obtain ⟨I, μ, i0, step⟩ := h
  refine ⟨fun m σ' H' => ∃ ρ' S', RelL B H' σ' ρ' ∧ RelS B S' H' ∧ Ext H H' ∧ σ'.length = σ.length ∧ I ρ' S' ∧ μ ρ' S' = m, ⟨_, ρ, S, hL, hS, .refl H, rfl, i0, rfl⟩, ?_⟩
  rintro m σ1 H1 ⟨ρ1, S1, hL1, hS1, e1, l1, i1, hm⟩
  have kD1 : OkD B H1 σ1.length D0 D W := by rw [l1]; exact kD.at e1
  refine ⟨ρ1, S1, _, _, hL1, hS1, fun p S2 H2 e2 s2 q2 => ?_, kD1.ex σ1 rfl, step ρ1 S1 i1⟩
  split at q2
  · rename_i ht
    refine ⟨true, ht, ?_⟩
    refine iteT ?_
    refine ⟨fun σ' H' => ∃ ρ' S', RelL B H' σ' ρ' ∧ RelS B S' H' ∧ Ext H H' ∧ σ'.length = σ.length ∧ I ρ' S' ∧ μ ρ' S' < μ ρ1 S1, fun σ' H' ⟨ρ', S', a1, a2, a3, a4, a5, a6⟩ => ⟨μ ρ' S', by omega, ρ', S', a1, a2, a3, a4, a5, rfl⟩, ?_⟩
    exact ⟨ρ1, S2, _, hL1.ext e2, s2, (kD1.at e2).loop fun ρ' S' H' σ' e s l n q => ⟨ρ', S', l, s, (e1.trans e2).trans e, n.trans l1, q.1, q.2⟩, q2⟩
  · rename_i ht
    refine ⟨false, ht, ?_⟩
    refine iteF ?_
    exact kD1.nx _ _ _ _ e2 s2 (hL1.ext e2) rfl q2
  · exact q2.elim
theorem for_ok (ok : SOk B N G k sc W X) {tg iter : PySem.Expr} {body : List Stmt} {pos : Pos} {ik : IK} {as : List CE} {t : VT} {b : List CS} (ht : trVT true N sc 8 tg = some t) (hi : trI (trE B.T N 40 sc) B.T sc tg iter = some (ik, as)) (hb : PSs X body (tB B G W b)) :
    PS X (.For tg iter body [] pos) (tS B G W (.for_ ik as t b)) := by
  have IH := (sE_T (B := B) (N := N) (G := G) (k := k) 40).1 X sc W ok.toXOk
  obtain ⟨wi, hwi, hw⟩ := iter_ok ok.toXOk IH hi
  have hset : noSet iter = true := by
    cases iter <;> first | rfl | simp [trI] at hi
  refine PS.imp (ps_for ok.pas ok.calm hwi (vt_ok (fun _ => ok.fnx) ok.hK ok.hN ok.nd ok.hS ok.calm 8 tg t ht) hb (folded_ok hset)) fun D σ H ⟨ρ, S, D0, hL, hS, kD, h⟩ => ?_
  unfold wpS at h
  refine hw σ H _ ρ S _ _ hL hS (kD.ex σ rfl) h fun items Gd S1 H1 J e1 s1 wk hZ => ?_
  obtain ⟨I, i0, step, fin⟩ := hZ
  refine ⟨fun i m σ' H' => m = items.length - i ∧ i ≤ items.length ∧ ∃ ρ' S', RelL B H' σ' ρ' ∧ RelS B S' H' ∧ Ext H1 H' ∧ σ'.length = σ.length ∧ I i ρ' S', ⟨items.length, by simp, Nat.zero_le _, ρ, S1, hL.ext e1, s1, .refl H1, rfl, i0⟩, ?_⟩
  rintro i m σ2 H2 ⟨rfl, hil, ρ2, S2, hL2, s2, e2, l2, hI⟩
  have kD2 : OkD B H2 σ2.length D0 D W := by rw [l2]; exact kD.at (e1.trans e2)
  by_cases hlt : i < items.length
  · have hx : items[i]? = some items[i] := by simp [hlt]
    obtain ⟨g2, hstep⟩ := step i items[i] ρ2 S2 hx hI
    refine .inr ⟨wk.go i H2 S2 s2 e2 g2 hlt, fun σ' H' => i + 1 ≤ items.length ∧ ∃ ρ' S', RelL B H' σ' ρ' ∧ RelS B S' H' ∧ Ext H1 H' ∧ σ'.length = σ.length ∧ I (i + 1) ρ' S', fun σ' H' ⟨q1, ρ', S', a1, a2, a3, a4, a5⟩ => ⟨items.length - (i + 1), by omega, rfl, q1, ρ', S', a1, a2, a3, a4, a5⟩, fun v H3 hy => ?_⟩
    obtain ⟨e3, s3, p, hp, rp⟩ := wk.yld i H2 S2 v H3 s2 e2 g2 hlt hy
    rw [hx] at hp; cases hp
    refine ⟨items[i], ρ2, _, hL2.ext e3, rp, fun σ' ρ' hL' hb' q => ?_, hstep⟩
    refine ⟨ρ', S2, _, hL', s3, ?_, q⟩
    have kD3 : OkD B H3 σ'.length D0 D W := by rw [hb'.1]; exact kD2.at e3
    exact kD3.loop fun ρ4 S4 H4 σ4 e4 s4 l4 n4 q4 => ⟨hlt, ρ4, S4, l4, s4, (e2.trans e3).trans e4, (n4.trans hb'.1).trans l2, q4⟩
  · have e : i = items.length := by omega
    subst e
    obtain ⟨g2, q⟩ := fin ρ2 S2 hI
    exact .inl ⟨wk.stop H2 S2 s2 e2 g2, kD2.nx _ _ _ _ (.refl H2) s2 hL2 rfl q⟩
theorem sS_T : ∀ (n : Nat) (X : Cx) (W : WX), SOk B N G k sc W X → ∀ st s, trS B.T N sc n st = some s → PS X st (tS B G W s) := by
  intro n
  induction n with
  | zero => intro X W ok st s h; simp [trS] at h
  | succ n ih =>
    intro X W ok st s h
    have IH := (sE_T (B := B) (N := N) (G := G) (k := k) 40).1 X sc W ok.toXOk
    have IHT := (sE_T (B := B) (N := N) (G := G) (k := k) 40).2 X sc W ok.toXOk
    have IB : ∀ {b : List Stmt} {cs : List CS}, b.mapM (trS B.T N sc n) = some cs → PSs X b (tB B G W cs) := fun h => pss_of (ih X W ok) h
    unfold trS at h
    split at h
    · -- exchanged stores
      obtain ⟨is, h1, h⟩ := map1 h
      split at h
      · rename_i hc
        obtain ⟨xs, h2, h⟩ := map1 h
        cases h
        exact par_ok ok h1 hc h2
      · cases h
    · split at h
      · cases h
      · rename_i hn
        obtain ⟨g, h1, h⟩ := map1 h
        obtain ⟨x, h2, h⟩ := map1 h
        cases h
        exact asg_ok ok (by simpa using hn) h1 h2
    · split at h
      · rename_i hl
        obtain ⟨i, h1, h⟩ := map1 h
        obtain ⟨y, h2, h⟩ := map1 h
        cases h
        exact aug_s ok (idx_get h1) (.inl hl) h2
      · rename_i hl
        obtain ⟨i, h1, h⟩ := map1 h
        obtain ⟨y, h2, h⟩ := map1 h
        cases h
        exact aug_s ok (idx_get h1) (.inr hl) h2
      · cases h
    · split at h
      · obtain ⟨x, h1, h⟩ := map1 h
        obtain ⟨i, h2, h⟩ := map1 h
        obtain ⟨y, h3, h⟩ := map1 h
        cases h
        exact augF_s ok h1 (idx_get h2) h3
      · cases h
    · split at h
      · rename_i hp
        obtain ⟨x, h1, h⟩ := map1 h
        obtain ⟨y, h2, h⟩ := map1 h
        obtain ⟨z, h3, h⟩ := map1 h
        cases h
        exact augI_s ok h1 h2 hp h3
      · cases h
    · obtain ⟨x, h1, h⟩ := map1 h
      obtain ⟨y, h2, h⟩ := map1 h
      obtain ⟨z, h3, h⟩ := map1 h
      cases h
      refine PS.imp (ps_if (IHT _ _ h1) (IB h2) (IB h3)) fun D σ H ⟨ρ, S, D0, hL, hS, kD, h⟩ => ?_
      unfold wpS at h
      refine ⟨ρ, S, _, _, hL, hS, fun p S1 H1 e1 s1 q1 => ?_, kD.ex σ rfl, h⟩
      split at q1
      · rename_i ht
        exact ⟨true, ht, iteT ⟨ρ, S1, D0, hL.ext e1, s1, kD.at e1, q1⟩⟩
      · rename_i ht
        exact ⟨false, ht, iteF ⟨ρ, S1, D0, hL.ext e1, s1, kD.at e1, q1⟩⟩
      · exact q1.elim
    · obtain ⟨x, h1, h⟩ := map1 h
      obtain ⟨y, h2, h⟩ := map1 h
      cases h
      exact while_ok ok (IHT _ _ h1) (IB h2)
    · obtain ⟨t, h1, h⟩ := map1 h
      obtain ⟨⟨ik, as⟩, h2, h⟩ := map1 h
      obtain ⟨y, h3, h⟩ := map1 h
      cases h
      exact for_ok ok h1 h2 (IB h3)
    · cases h
      refine PS.imp ps_retN fun D σ H ⟨ρ, S, D0, hL, hS, kD, h⟩ => ?_
      unfold wpS at h
      exact rEnd kD hS rep_non h
    · rw [Option.map_eq_some_iff] at h
      obtain ⟨x, h1, h2⟩ := h
      subst h2
      refine PS.imp (ps_ret (IH _ _ h1)) fun D σ H ⟨ρ, S, D0, hL, hS, kD, h⟩ => ?_
      unfold wpS at h
      exact ⟨ρ, S, _, _, hL, hS, kD.rt, kD.ex σ rfl, h⟩
    · -- raise
      rename_i x np args cp rp
      split at h
      · rename_i hg
        obtain ⟨c, h1, h⟩ := map1 h
        have end_ : ∀ {xs : List CE} {D : Ends} {σ : L2.St} {H : Hp}, tS B G W (.rse c xs) D σ H → ∃ (ρ : Loc) (S : Store) (E0 : QE), RelL B H σ ρ ∧ RelS B S H ∧ OkX B H E0 (fun cls d H' => W cls d σ H') ∧ 2 ≤ G.lv ∧ wpEs G xs ρ S (fun ps S1 => match G.xc c, ps with
            | some none, [] => E0 ⟨c, []⟩ S1
            | some (some f), [v] => E0 ⟨c, [(f, v)]⟩ S1
            | _, _ => False) E0 := fun {xs D σ H} ⟨ρ, S, D0, hL, hS, kD, h⟩ => by
          unfold wpS at h
          exact ⟨ρ, S, _, hL, hS, kD.ex σ rfl, h.1, h.2⟩
        split at h
        · rename_i hx _
          cases h
          exact PS.imp (rse_ok ok hg (idx_get h1) (.inl ⟨hx, rfl, rfl⟩)) fun D σ H h => end_ h
        · rename_i f e hx _
          rw [Option.map_eq_some_iff] at h
          obtain ⟨y, h2, h3⟩ := h
          subst h3
          exact PS.imp (rse_ok ok hg (idx_get h1) (.inr ⟨f, e, y, hx, rfl, rfl, IH _ _ h2, trE_noStar h2⟩)) fun D σ H h => end_ h
        · cases h
      · cases h
    · cases h
      refine PS.imp ps_doc fun D σ H ⟨ρ, S, D0, hL, hS, kD, h⟩ => ?_
      unfold wpS at h
      exact kD.nx _ _ _ _ (.refl H) hS hL rfl h
    · split at h
      · cases h
      · rename_i hc
        rw [Option.map_eq_some_iff] at h
        obtain ⟨x, h1, h2⟩ := h
        subst h2
        rename_i e pos _ 
        refine PS.imp (ps_expr (IH _ _ h1) (by cases e <;> first | rfl | exact absurd rfl hc)) fun D σ H ⟨ρ, S, D0, hL, hS, kD, h⟩ => ?_
        unfold wpS at h
        exact ⟨ρ, S, _, _, hL, hS, fun p S1 H1 v e1 s1 r1 q1 => kD.nx _ _ _ _ e1 s1 (hL.ext e1) rfl q1, kD.ex σ rfl, h⟩
    · cases h
      refine PS.imp ps_pass fun D σ H ⟨ρ, S, D0, hL, hS, kD, h⟩ => ?_
      unfold wpS at h
      exact kD.nx _ _ _ _ (.refl H) hS hL rfl h
    · cases h
      refine PS.imp ps_break fun D σ H ⟨ρ, S, D0, hL, hS, kD, h⟩ => ?_
      unfold wpS at h
      exact kD.bk _ _ _ _ (.refl H) hS hL rfl h
    · cases h
      refine PS.imp ps_continue fun D σ H ⟨ρ, S, D0, hL, hS, kD, h⟩ => ?_
      unfold wpS at h
      exact kD.ct _ _ _ _ (.refl H) hS hL rfl h
    · obtain ⟨y, h1, h⟩ := map1 h
      obtain ⟨z, h2, h⟩ := map1 h
      cases h
      exact try_ok ok (fun X' W' ok' => pss_of (ih X' W' ok') h1) h2
    · cases h
theorem sB_T {n : Nat} (ok : SOk B N G k sc W X) {b : List Stmt} {cs : List CS} (h : b.mapM (trS B.T N sc n) = some cs) : PSs X b (tB B G W cs) := pss_of (sS_T n X W ok) h
end
end Core
end
section
set_option maxRecDepth 100000
set_option maxHeartbeats 4000000
/-! Core18: the defs of a program, level by level. -/
namespace Core
open PySem L2 PySem.Spec PyProof.Rows
/-- a def, translated -/
structure FD where
  pars : Nat
  slots : Nat
  body : List CS
structure Defs where
  T : Tab
  con : Nat → P
  fns : List FD
  mth : Nat → Nat → Option FD
  ini : Nat → Option FD
def startP (n : Nat) (as : List P) : Loc := as.map some ++ List.replicate (n - as.length) none
/-- at a def's end what it leaves lying may be let go -/
def dropQ (Q : QP) : QP := fun p S => Wk S (Q p)
def dropE (E : QE) : QE := fun x S => Wk S (E x)
def DE.fn (Q : QP) (E : QE) : DE := ⟨fun _ S => dropQ Q .non S, dropQ Q, fun _ _ => False, fun _ _ => False, dropE E⟩
def runFD (G : Env) (d : FD) : PSpec := fun as S Q E => as.length = d.pars ∧ wpB G d.body (startP d.slots as) S (DE.fn Q E)
def mkEnv (D : Defs) (k : Nat) (a b : Option Env) : Env where
  con := D.con
  fn := fun i as S Q E => match a, D.fns[i]? with
    | some G, some d => runFD G d as S Q E
    | _, _ => False
  mth := fun c m as S Q E => match a, D.mth c m with
    | some G, some d => runFD G d as S Q E
    | _, _ => False
  has := fun c m => (D.mth c m).isSome
  ini := fun c as S Q E => match b, D.ini c with
    | some G, some d => runFD G d as S Q E
    | _, _ => False
  xc := D.T.xc
  lv := k
def envP (D : Defs) : Nat → Env × Option Env
  | 0 => (mkEnv D 0 none none, none)
  | k + 1 => (mkEnv D (k + 1) (some (envP D k).1) (envP D k).2, some (envP D k).1)
@[irreducible] def envAt (D : Defs) (k : Nat) : Env := (envP D k).1
theorem env_1 {D : Defs} {k : Nat} : envAt D (k + 1) = mkEnv D (k + 1) (some (envAt D k)) (envP D k).2 := by unfold envAt; rfl
theorem env_2 {D : Defs} {k : Nat} : envAt D (k + 2) = mkEnv D (k + 2) (some (envAt D (k + 1))) (some (envAt D k)) := by unfold envAt; rfl
theorem env_0 {D : Defs} : envAt D 0 = mkEnv D 0 none none := by unfold envAt; rfl
theorem env_01 {D : Defs} : envAt D 1 = mkEnv D 1 (some (envAt D 0)) none := by unfold envAt; rfl
theorem env_fn {D : Defs} {k i : Nat} {d : FD} (hd : D.fns[i]? = some d) : (envAt D (k + 1)).fn i = runFD (envAt D k) d := by
  funext as S Q E
  rw [env_1]
  simp only [mkEnv, hd]
theorem env_mth {D : Defs} {k c m : Nat} {d : FD} (hd : D.mth c m = some d) : (envAt D (k + 1)).mth c m = runFD (envAt D k) d := by
  funext as S Q E
  rw [env_1]
  simp only [mkEnv, hd]
theorem env_ini {D : Defs} {k c : Nat} {d : FD} (hd : D.ini c = some d) : (envAt D (k + 2)).ini c = runFD (envAt D k) d := by
  funext as S Q E
  rw [env_2]
  simp only [mkEnv, hd]
theorem env_con {D : Defs} : ∀ {k : Nat}, (envAt D k).con = D.con
  | 0 => by rw [env_0]; rfl
  | _ + 1 => by rw [env_1]; rfl
theorem env_has {D : Defs} : ∀ {k : Nat}, (envAt D k).has = fun c m => (D.mth c m).isSome
  | 0 => by rw [env_0]; rfl
  | _ + 1 => by rw [env_1]; rfl
theorem env_xc {D : Defs} : ∀ {k : Nat}, (envAt D k).xc = D.T.xc
  | 0 => by rw [env_0]; rfl
  | _ + 1 => by rw [env_1]; rfl
theorem env_lv {D : Defs} : ∀ {k : Nat}, (envAt D k).lv = k
  | 0 => by rw [env_0]; rfl
  | _ + 1 => by rw [env_1]; rfl
theorem DE.fn_le {Q Q' : QP} {E E' : QE} (hQ : ∀ p S, Q p S → Q' p S) (hE : ∀ x S, E x S → E' x S) : DE.Le (DE.fn Q E) (DE.fn Q' E') := ⟨fun _ S h => Wk.mono (hQ _) h, fun _ S h => Wk.mono (hQ _) h, fun _ _ h => h, fun _ _ h => h, fun _ S h => Wk.mono (hE _) h⟩
theorem runFD_mono {G : Env} (gm : GMono G) (d : FD) : SpMono (runFD G d) := fun as S Q Q' E E' hQ hE h => ⟨h.1, wpB_mono gm d.body (DE.fn_le hQ hE) h.2⟩
theorem spNo_mono : SpMono (fun _ _ _ _ => False) := fun _ _ _ _ _ _ _ _ h => h
theorem mkEnv_mono {D : Defs} {k : Nat} {a b : Option Env} (ha : ∀ G, a = some G → GMono G) (hb : ∀ G, b = some G → GMono G) : GMono (mkEnv D k a b) := by
  refine ⟨fun i as S Q Q' E E' hQ hE h => ?_, fun c m as S Q Q' E E' hQ hE h => ?_, fun c as S Q Q' E E' hQ hE h => ?_⟩
  all_goals
    simp only [mkEnv] at h ⊢
    split at h
    · exact runFD_mono (by first | exact ha _ rfl | exact hb _ rfl) _ as S Q Q' E E' hQ hE h
    · exact h.elim
theorem env_mono (D : Defs) : ∀ k, GMono (envAt D k)
  | 0 => env_0 ▸ (show GMono (mkEnv D 0 none none) from mkEnv_mono (fun _ h => by cases h) (fun _ h => by cases h))
  | 1 => env_01 ▸ (show GMono (mkEnv D 1 (some (envAt D 0)) none) from mkEnv_mono (fun _ h => by cases h; exact env_mono D 0) (fun _ h => by cases h))
  | k + 2 => env_2 ▸ (show GMono (mkEnv D (k + 2) (some (envAt D (k + 1))) (some (envAt D k))) from mkEnv_mono (fun _ h => by cases h; exact env_mono D (k + 1)) (fun _ h => by cases h; exact env_mono D k))
/-- a def as the text's top has left it -/
def FnFactP (K : PySem.W.Frag) (T : Tab) (x qual : Str) (f : Addr) (d : FD) (fd : FuncData) (ps : List Str) : Prop :=
  ∃ st N, Fun K x qual st f fd ∧ FnScope N ps (defScope st) ∧ N.length = d.slots ∧ ps.length = d.pars ∧ Binds K fd ps [] ∧ (defBody st).mapM (trS T N (defScope st) 30) = some d.body
def FnFact (K : PySem.W.Frag) (T : Tab) (x qual : Str) (f : Addr) (d : FD) : Prop := ∃ fd ps, FnFactP K T x qual f d fd ps
section
variable {pr : Program} {w : World} {base : Heap} {B : Bs}
theorem start_ok {N : List Str} {n : Nat} {H : Hp} {ps : List P} {vs : List V} (hn : N.length = n) (r : Reps B H ps vs) : RelL B H (L2.start N vs) (startP n ps) := by
  have hl := r.length
  refine ⟨by unfold L2.start startP; simp [hl, hn], fun i p e => ?_⟩
  unfold startP at e
  unfold L2.start
  by_cases hi : i < ps.length
  · rw [List.getElem?_append_left (by simpa using hi), List.getElem?_map] at e
    cases q : ps[i]? with
    | none => rw [q] at e; cases e
    | some p' =>
      rw [q] at e
      cases e
      obtain ⟨v, e1, r1⟩ := r.get q
      refine ⟨v, ?_, r1⟩
      rw [List.getElem?_append_left (by simpa [hl] using hi), List.getElem?_map, e1]
      rfl
  · rw [List.getElem?_append_right (by simpa using hi), List.getElem?_replicate] at e
    split at e <;> cases e
theorem fd_okP {G : Env} {k : Nat} {x qual : Str} {f : Addr} {d : FD} {fd : FuncData} {ps : List Str} (pf : PFact pr w base B G k) (F : FnFactP B.K B.T x qual f d fd ps) :
    FnOk pr w B.K B.mg base (L2.CX pr w) (k + 1) f fd ps (spOf B ps.length (runFD G d)) := by
  obtain ⟨st, N, F1, S, h1, h2, b, h3⟩ := F
  refine F1.okX S (fun vs H Q E h => h.1) (fun cdv A outer s H vs Q E hr hsp => ?_)
  obtain ⟨hl, qs, S0, Q0, E0, rr, rs, kQ, kE, hlen, hw⟩ := hsp
  refine ⟨tB B G (fun cls d _ H => E cls d H) d.body, sB_T (k := k) (n := 30) (N := N) ?_ h3, ?_⟩
  · exact ⟨⟨rfl, rfl, rfl, S.nd, rfl, rfl, hr, takes_of rfl rfl rfl rfl, pf⟩, fun _ => rfl, rfl, rfl, passes_of rfl, S.kind⟩
  · refine ⟨startP d.slots qs, S0, DE.fn Q0 E0, start_ok h1 rr, rs, ⟨?_, ?_, ?_, ?_, ?_⟩, hw⟩
    · intro ρ S' H' σ' e s l n q
      obtain ⟨S2, s2, q⟩ := s.wk q
      exact kQ _ _ _ _ e s2 rep_non q
    · intro p S' H' v e s r q
      obtain ⟨S2, s2, q⟩ := s.wk q
      exact kQ _ _ _ _ e s2 r q
    · intro ρ S' H' σ' e s l n q
      exact q.elim
    · intro ρ S' H' σ' e s l n q
      exact q.elim
    · intro σ' _ ex S' H' cls d e s x q
      obtain ⟨S2, s2, q⟩ := s.wk q
      exact kE ex S2 H' cls d e s2 x q
theorem fd_ok {G : Env} {k : Nat} {x qual : Str} {f : Addr} {d : FD} (pf : PFact pr w base B G k) (F : FnFact B.K B.T x qual f d) :
    ∃ fd ps, Binds B.K fd ps [] ∧ FnOk pr w B.K B.mg base (L2.CX pr w) (k + 1) f fd ps (spOf B ps.length (runFD G d)) ∧ ps.length = d.pars := by
  obtain ⟨fd, ps, F⟩ := F
  have ok := fd_okP pf F
  obtain ⟨st, N, F1, S, h1, h2, b, h3⟩ := F
  exact ⟨fd, ps, b, ok, h2⟩
/-- an error's own __init__ -/
def isXi (st : Stmt) (self arg f : Str) : Prop := ∃ p1 p2 p3 p4, defBody st = [.Assign [.Attribute (.Name self p1) f p2] (.Name arg p3) p4]
theorem xi_ok {x qual : Str} {fI C : Addr} {fd : FuncData} {st : Stmt} {self arg f : Str} (F : Fun B.K x qual st fI fd) (T : OexC B.K C) (hno : PySem.W.findIn B.K (.ref C) f = some none) (hb : isXi st self arg f) (S : FnScope [self, arg] [self, arg] (defScope st))
    (d1 : (self == ("__debug__" : Str)) = false) (d2 : (self == ("__classdict__" : Str)) = false) (d3 : (arg == ("__debug__" : Str)) = false) (d4 : (arg == ("__classdict__" : Str)) = false) :
    FnOk pr w B.K B.mg base L2.CX0 1 fI fd [self, arg] (spXi C f) := by
  obtain ⟨p1, p2, p3, p4, hb⟩ := hb
  refine F.ok S (fun vs H Q E h => ?_) (fun cdv A outer s H vs Q E hr h => ⟨tOst B.K f (tVar 0) (tVar 1), ?_, ?_⟩)
  · obtain ⟨a, v, rfl, _⟩ := h
    rfl
  · rw [hb]
    have vis : ∀ y ∈ ([self, arg] : List Str), Vis (defScope st) y := fun y hy => by
      rcases S.par y hy with h | h
      · exact .inl h
      · exact .inr (.inl h)
    exact pss_one (ps_ost (pe_var (i := 0) rfl (vis _ (by simp)) d1 d2) (pe_var (i := 1) rfl (vis _ (by simp)) d3 d4))
  · obtain ⟨a, v, rfl, ha, k⟩ := h
    exact ⟨v, rfl, .ref a, rfl, a, C, rfl, T, hno, .inl ⟨ha, fun dx n ne => k dx n ne⟩⟩
end
/-- what stands behind the top, of the program -/
structure PStat (K : PySem.W.Frag) (mg : Str → Option Value) (D : Defs) : Prop where
  con : ∀ (i : Nat) (x : Str), D.T.cns[i]? = some x → ∃ v u, mg x = some u ∧ RelV v u ∧ ∀ w H, Rep ⟨K, mg, D.T, w⟩ H (D.con i) v
  fnv : ∀ (i : Nat) (x : Str), D.T.fns[i]? = some x → ∃ a, mg x = some (.ref a) ∧ PySem.W.keepIn K (.ref a) = true ∧ ∀ d, D.fns[i]? = some d → ∃ q, FnFact K D.T q q a d
  clv : ∀ (i : Nat) (x : Str), D.T.cls[i]? = some x → ∃ a, mg x = some (.ref a) ∧ PySem.W.keepIn K (.ref a) = true
  mth : ∀ (i j : Nat) (d : FD), D.mth i j = some d → ∃ x m q C f, D.T.cls[i]? = some x ∧ D.T.mts[j]? = some m ∧ mg x = some (.ref C) ∧ Meth K C m f ∧ FnFact K D.T m q f d
  ini : ∀ (i : Nat) (d : FD), D.ini i = some d → ∃ x q C f, D.T.cls[i]? = some x ∧ mg x = some (.ref C) ∧ Cls K C ∧ (∀ (f : Nat) (y : Str), D.T.att[f]? = some y → NoAttr K C y) ∧ Mk K C f ∧ FnFact K D.T "__init__" q f d
  blt : ∀ x ∈ bltNames, mg x = none
  att : D.T.att.Nodup
  exm : ∀ (i j : Nat) (x y : Str) (C E : Addr), D.T.cls[i]? = some x → D.T.cls[j]? = some y → (D.T.xc i).isSome = true → (D.T.xc j).isSome = true → mg x = some (.ref C) → mg y = some (.ref E) → PySem.W.exmOne K (.ref C) (.ref E) = some (decide (i = j))
  xfs : ∀ (i : Nat) (x : Str) (C : Addr), D.T.cls[i]? = some x → (D.T.xc i).isSome = true → mg x = some (.ref C) → XfC K C ∧ (∀ (f : Nat) (y : Str), D.T.att[f]? = some y → PySem.W.findIn K (.ref C) y = some none) ∧
    PySem.W.subIn K (.ref C) (.type "BaseException") = some true ∧ PySem.W.typeIn K (.ref C) = some (.type "type")
  xc0 : ∀ (i : Nat) (x : Str) (C : Addr), D.T.cls[i]? = some x → D.T.xc i = some none → mg x = some (.ref C) → PySem.W.excIn K C PySem.HandSPX.veTail "ValueError.__new__" = true
  xc1 : ∀ (i f : Nat) (x y : Str) (C : Addr), D.T.cls[i]? = some x → D.T.xc i = some (some f) → D.T.att[f]? = some y → mg x = some (.ref C) → ∃ fI q st fd self arg, OexC K C ∧ PySem.W.findIn K (.ref C) "__init__" = some (some (.ref fI)) ∧ PySem.W.typeIn K (.ref fI) = some (.type "function") ∧
    Fun K "__init__" q st fI fd ∧ FnScope [self, arg] [self, arg] (defScope st) ∧ isXi st self arg y ∧ Binds K fd [self, arg] [] ∧ ((self == ("__debug__" : Str)) = false ∧ (self == ("__classdict__" : Str)) = false ∧ (arg == ("__debug__" : Str)) = false ∧ (arg == ("__classdict__" : Str)) = false)
  xcf : ∀ (i f : Nat), D.T.xc i = some (some f) → ∃ y, D.T.att[f]? = some y
  dis : ∀ (i j : Nat) (x : Str), D.T.att[i]? = some x → D.T.mts[j]? = some x → False
section
variable {pr : Program} {w : World} {base : Heap} {K : PySem.W.Frag} {mg : Str → Option Value} {D : Defs}
theorem pfact_of (st : PStat K mg D) {k : Nat} {a b : Option Env} (gm : GMono (mkEnv D k a b)) (ha : ∀ G, a = some G → ∃ j, k = j + 1 ∧ PFact pr w base ⟨K, mg, D.T, w⟩ G j) (hb : ∀ G, b = some G → ∃ j, k = j + 2 ∧ PFact pr w base ⟨K, mg, D.T, w⟩ G j) :
    PFact pr w base ⟨K, mg, D.T, w⟩ (mkEnv D k a b) k where
  wd := rfl
  con := fun i x h => let ⟨v, u, h1, h2, h3⟩ := st.con i x h; ⟨v, u, h1, h2, h3 w⟩
  fnv := fun i x h => let ⟨f, h1, h2, _⟩ := st.fnv i x h; ⟨f, h1, h2⟩
  clv := st.clv
  fn := fun i x f as S Q E hx hm h => by
    obtain ⟨f', h1, h2, h3⟩ := st.fnv i x hx
    have h1 : mg x = some (.ref f') := h1
    have hm : mg x = some (.ref f) := hm
    rw [h1] at hm; cases hm
    have q : ∀ {as : List P} {S : Store} {Q : QP} {E : QE}, (mkEnv D k a b).fn i as S Q E → ∃ G d, a = some G ∧ D.fns[i]? = some d ∧ runFD G d as S Q E := fun {as S Q E} h => by
      simp only [mkEnv] at h
      split at h
      · rename_i G d ea e1
        exact ⟨G, d, rfl, ea, h⟩
      · exact h.elim
    obtain ⟨G, d, e1, e2, e3⟩ := q h
    obtain ⟨j, rfl, pf⟩ := ha G e1
    obtain ⟨q', h3⟩ := h3 d e2
    obtain ⟨fd, ps, g1, g2, g3⟩ := fd_ok pf h3
    refine ⟨fd, ps, g1, g2.imp fun vs H Q E ⟨l, qs, S0, Q0, E0, a1, a2, a3, a4, a5⟩ => ⟨l, qs, S0, Q0, E0, a1, a2, a3, a4, ?_⟩, e3.1.trans g3.symm⟩
    obtain ⟨G', d', b1, b2, b3⟩ := q a5
    rw [e1] at b1; cases b1
    rw [e2] at b2; cases b2
    exact b3
  has := fun i j x m C hx hC hj h => by
    obtain ⟨d, hd⟩ := Option.isSome_iff_exists.mp (show (D.mth i j).isSome = true from h)
    obtain ⟨x', m', q, C', f, a1, a2, a3, a4, a5⟩ := st.mth i j d hd
    have hx : D.T.cls[i]? = some x := hx
    have hj : D.T.mts[j]? = some m := hj
    have hC : mg x = some (.ref C) := hC
    rw [hx] at a1; cases a1
    rw [hj] at a2; cases a2
    rw [hC] at a3; cases a3
    exact ⟨f, a4⟩
  mth := fun i j x m C f as S Q E hx hC hj hf h => by
    have q : ∀ {as : List P} {S : Store} {Q : QP} {E : QE}, (mkEnv D k a b).mth i j as S Q E → ∃ G d, a = some G ∧ D.mth i j = some d ∧ runFD G d as S Q E := fun {as S Q E} h => by
      simp only [mkEnv] at h
      split at h
      · rename_i G d ea e1
        exact ⟨G, d, rfl, ea, h⟩
      · exact h.elim
    obtain ⟨G, d, e1, e2, e3⟩ := q h
    obtain ⟨x', m', qn, C', f', a1, a2, a3, a4, a5⟩ := st.mth i j d e2
    have hx : D.T.cls[i]? = some x := hx
    have hj : D.T.mts[j]? = some m := hj
    have hC : mg x = some (.ref C) := hC
    rw [hx] at a1; cases a1
    rw [hj] at a2; cases a2
    rw [hC] at a3; cases a3
    have ef : f = f' := by
      have z := hf.at_.symm.trans a4.at_
      simpa using z
    subst ef
    obtain ⟨j', rfl, pf⟩ := ha G e1
    obtain ⟨fd, ps, g1, g2, g3⟩ := fd_ok pf a5
    refine ⟨fd, ps, g1, g2.imp fun vs H Q E ⟨l, qs, S0, Q0, E0, a1, a2, a3, a4, a5⟩ => ⟨l, qs, S0, Q0, E0, a1, a2, a3, a4, ?_⟩, e3.1.trans g3.symm⟩
    obtain ⟨G', d', b1, b2, b3⟩ := q a5
    rw [e1] at b1; cases b1
    rw [e2] at b2; cases b2
    exact b3
  ini := fun i x C as S Q E hx hC h => by
    have q : ∀ {as : List P} {S : Store} {Q : QP} {E : QE}, (mkEnv D k a b).ini i as S Q E → ∃ G d, b = some G ∧ D.ini i = some d ∧ runFD G d as S Q E := fun {as S Q E} h => by
      simp only [mkEnv] at h
      split at h
      · rename_i G d ea e1
        exact ⟨G, d, rfl, ea, h⟩
      · exact h.elim
    obtain ⟨G, d, e1, e2, e3⟩ := q h
    obtain ⟨x', qn, C', f, a1, a2, a3, a4, a5, a6⟩ := st.ini i d e2
    have hx : D.T.cls[i]? = some x := hx
    have hC : mg x = some (.ref C) := hC
    rw [hx] at a1; cases a1
    rw [hC] at a2; cases a2
    obtain ⟨j, rfl, pf⟩ := hb G e1
    obtain ⟨fd, ps, g1, g2, g3⟩ := fd_ok pf a6
    refine ⟨f, fd, ps, j + 1, rfl, a3, a4, a5, g1, g2.imp fun vs H Q E ⟨l, qs, S0, Q0, E0, a1, a2, a3, a4, a5⟩ => ⟨l, qs, S0, Q0, E0, a1, a2, a3, a4, ?_⟩, e3.1.trans g3.symm⟩
    obtain ⟨G', d', b1, b2, b3⟩ := q a5
    rw [e1] at b1; cases b1
    rw [e2] at b2; cases b2
    exact b3
  blt := st.blt
  att := st.att
  gm := gm
  xc := rfl
  lv := rfl
  exm := st.exm
  xfs := st.xfs
  xc0 := st.xc0
  xc1 := fun i f x y C h1 h2 h3 h4 => by
    obtain ⟨fI, q, s, fd, self, arg, a1, a2, a3, a4, a5, a6, a7, d1, d2, d3, d4⟩ := st.xc1 i f x y C h1 h2 h3 h4
    exact ⟨fI, fd, [self, arg], a1, a2, a3, a7, xi_ok (B := ⟨K, mg, D.T, w⟩) a4 a1 ((st.xfs i x C h1 (by rw [h2]; rfl) h4).2.1 f y h3) a6 a5 d1 d2 d3 d4⟩
  xcf := st.xcf
  dis := st.dis
theorem pfact (st : PStat K mg D) : ∀ k, PFact pr w base ⟨K, mg, D.T, w⟩ (envAt D k) k
  | 0 => by rw [env_0]; exact (show PFact pr w base ⟨K, mg, D.T, w⟩ (mkEnv D 0 none none) 0 from pfact_of st (env_0 ▸ env_mono D 0) (fun _ h => by cases h) (fun _ h => by cases h))
  | 1 => by rw [env_01]; exact (show PFact pr w base ⟨K, mg, D.T, w⟩ (mkEnv D 1 (some (envAt D 0)) none) 1 from pfact_of st (env_01 ▸ env_mono D 1) (fun _ h => by cases h; exact ⟨0, rfl, pfact st 0⟩) (fun _ h => by cases h))
  | k + 2 => by rw [env_2]; exact (show PFact pr w base ⟨K, mg, D.T, w⟩ (mkEnv D (k + 2) (some (envAt D (k + 1))) (some (envAt D k))) (k + 2) from
    pfact_of st (env_2 ▸ env_mono D (k + 2)) (fun _ h => by cases h; exact ⟨k + 1, rfl, pfact st (k + 1)⟩) (fun _ h => by cases h; exact ⟨k, rfl, pfact st k⟩))
/-- the law, from its clean promise -/
def lawSp (K : PySem.W.Frag) (mg : Str → Option Value) (D : Defs) (w : World) (k i : Nat) : Sp := spOf ⟨K, mg, D.T, w⟩ 1 ((envAt D k).fn i)
theorem law_at (st : PStat K mg D) {k i : Nat} {d : FD} {x y : Str} {fa : Addr} {fd : FuncData} (F : FnFactP K D.T x x fa d fd [y]) (hd : D.fns[i]? = some d) :
    FnOk pr w K mg base (L2.CX pr w) (k + 1) fa fd [y] (lawSp K mg D w (k + 1) i) := by
  have g := fd_okP (pr := pr) (w := w) (base := base) (pfact st k) F
  unfold lawSp
  rw [env_fn hd]
  exact g
theorem law_read {k i : Nat} {H : Hp} {a : Addr} {ns : List Int} (hO : Only H) (hS : SqL K H a (ns.map V.int)) (hl : ns.length ≤ 63) (h : (envAt D k).fn i [.frl (ns.map P.int)] (fun _ => none) (fun p _ => p = .bl true) noE) :
    lawSp K mg D w k i [.ref a] H (fun v _ => v = .bl true) fun _ _ _ => False := by
  have rr : ∀ l : List Int, Reps ⟨K, mg, D.T, w⟩ H (l.map P.int) (l.map V.int) := by
    intro l
    induction l with
    | nil => exact .nil
    | cons n l ih => exact .cons rep_int ih
  refine ⟨rfl, [.frl (ns.map P.int)], fun _ => none, _, noE, .cons ?_ .nil, fun a o e => (by cases e), ?_, .no, h⟩
  · unfold Rep
    refine ⟨a, ns.map V.int, rfl, ?_, by rw [List.length_map, sizeLine_eq]; omega, rr ns⟩
    rcases hS with (h | ⟨o, h⟩) | h
    · rcases hO a with z | ⟨o, xs, z⟩
      · rw [z] at h; cases h
      · rw [z] at h; cases h
    · exact .inl ⟨o, h⟩
    · exact .inr h
  · intro p S' H' v e s r q
    subst q
    exact r.bl_inv
end
/-- the law's end -/
theorem law_walk {D : Defs} {i k : Nat} {l : PySem.W.OpenLaw} {q : Program} {loose : List Str} {XP : (Str → Option Value) → Heap → Prop} {YP : World → Heap → Prop} {d : DefRec} {K : Params → PySem.W.Frag} (hn : l.most = some 63) (hdf : d.params.defaults = []) (hr : Room k callerA)
    (hY : ∀ (w : World) (h : Heap), YP w h → (K w.params).In h)
    (F : ∀ (w : World) (mg : Str → Option Value) (fa : Addr) (h : Heap), (K w.params).In h → h.Ns mainGlobals mg → mg d.name = some (.ref fa) →
      ∃ fd : FuncData, (∀ (s : Shared) (u : Value), BindsTo s fd ⟨[u], []⟩ [("script", u)]) ∧ ∀ base : Heap, FnOk l.prog w (K w.params) mg base (L2.CX l.prog w) k fa fd ["script"] (lawSp (K w.params) mg D w k i))
    (clean : ∀ ns : List Int, ns.length ≤ 63 → (envAt D k).fn i [.frl (ns.map P.int)] (fun _ => none) (fun p _ => p = .bl true) noE) : PySem.W.WalkO q loose XP YP l.row.toRowW d [] (fun f vs => PySem.call f vs) := by
  refine L2.walk_of (n := 63) (k := k) (x := "script") (CX := fun w => L2.CX l.prog w) (sp := fun w => fun vs H Q E => ∀ mg, lawSp (K w.params) mg D w k i vs H Q E) hn (by decide) hdf hr hY (fun w mg fa h KX G hmg => ?_)
    (fun w H a ns hl hO hS mg => law_read hO hS hl (clean ns hl)) fun w H s e s' z => ?_
  · obtain ⟨fd, h1, h2⟩ := F w mg fa h KX G hmg
    exact ⟨fd, h1, fun base _ _ => (h2 base).imp fun vs H Q E h => h mg⟩
  · obtain ⟨_, _, _, _, _, _, _, _, _, _, _, _, z⟩ := z
    exact z
end Core
end
section
set_option maxRecDepth 100000
set_option maxHeartbeats 4000000
/-! Core19: rules for reading the transformer. -/
namespace Core
open PySem L2
local macro_rules | `(tactic| walk_at "wps") => `(tactic| simp only [wpB, wpS, wpE, wpEs, wpO, wpC, wpT, wpTs, wpVT, wpVTs, wipeP, opCmp, opBin, opAdd, opMul, opAug, tyOf, truthS, isTy, partOf, setAll, lstS, seqOf, bfS, bmS, DE.fn, List.getElem?_cons_zero, List.getElem?_cons_succ, List.set_cons_zero, List.set_cons_succ, List.any_cons, List.any_nil, Bool.or_false, Bool.or_true, Bool.not_true, Bool.not_false, Bool.false_and, Bool.and_false, Bool.true_and, Bool.and_true, beq_self_eq_true, Ty.reduceBEq, reduceCtorEq, if_true, if_false, Bool.false_eq_true])
theorem keep {Q : QP} {p : P} {S : Store} (h : Q p S) : dropQ Q p S := .here h
theorem keepE {Q : QE} {p : Exc} {S : Store} (h : Q p S) : dropE Q p S := .here h
theorem drop {Q : QP} {p : P} {S S' : Store} (d : SubS S' S) (h : Q p S') : dropQ Q p S := .drop d (.here h)
theorem SubS.upd {S : Store} {a : Addr} {o : MO} (h : S a = none) : SubS S (S.upd a o) := fun b x e => by
  by_cases z : b = a
  · subst z; rw [h] at e; cases e
  · rw [Store.upd_ne z]; exact e
theorem SubS.updr {S S' : Store} {a : Addr} {o : MO} (d : SubS S S') (h : S a = none) : SubS S (S'.upd a o) := fun b x e => by
  by_cases z : b = a
  · subst z; rw [h] at e; cases e
  · rw [Store.upd_ne z]; exact d b x e
theorem SubS.free {S S' : Store} (d : SubS S S') {a : Addr} (h : S' a = none) : S a = none := by
  cases e : S a with
  | none => rfl
  | some o => rw [d a o e] at h; cases h
theorem SubS.both {S S' : Store} (d : SubS S S') (a : Addr) (o : MO) : SubS (S.upd a o) (S'.upd a o) := fun b x e => by
  by_cases z : b = a
  · subst z; rw [Store.upd_same] at e ⊢; exact e
  · rw [Store.upd_ne z] at e ⊢; exact d b x e
theorem Store.swap {S : Store} {a b : Addr} {o u : MO} (h : a ≠ b) : (S.upd a o).upd b u = (S.upd b u).upd a o := by
  funext c
  by_cases h1 : c = b
  · subst h1; rw [Store.upd_same, Store.upd_ne (Ne.symm h), Store.upd_same]
  · rw [Store.upd_ne h1]
    by_cases h2 : c = a
    · subst h2; rw [Store.upd_same, Store.upd_same]
    · rw [Store.upd_ne h2, Store.upd_ne h2, Store.upd_ne h1]
theorem Store.ne_of {S : Store} {a b : Addr} {o : MO} (h1 : S a = some o) (h2 : S b = none) : a ≠ b := fun z => by rw [z, h2] at h1; cases h1

/-- what is walked: these items, whatever is laid beside -/
def Walked (k : IK) (vs : List P) (S : Store) (items : List P) : Prop := ∀ K : List P → (Store → Prop) → Prop, (∀ Gd : Store → Prop, (∀ S', SubS S S' → Gd S') → items.length ≤ sizeLine → K items Gd) → iterS k vs S K
theorem walked_tup {xs : List P} {S : Store} : Walked .seq [.tup xs] S xs := fun K h z => h _ (fun _ _ => trivial) z
theorem walked_frl {xs : List P} {S : Store} : Walked .seq [.frl xs] S xs := fun K h z => h _ (fun _ _ => trivial) z
theorem walked_loc {xs : List P} {S : Store} {a : Addr} (e : S a = some (.lst xs)) : Walked .seq [.loc a] S xs := fun K h => by
  simp only [iterS, e]
  exact fun z => h _ (fun S' d => d _ _ e) z
theorem walked_range {n : Int} {S : Store} (h1 : -(2 ^ 62) ≤ n) (h2 : n ≤ sizeLine) : Walked .range [.int n] S ((List.range n.toNat).map fun (i : Nat) => P.int i) := fun K h => by
  simp only [iterS]
  exact ⟨⟨h1, h2⟩, h _ (fun _ _ => trivial) (by rw [List.length_map, List.length_range]; omega)⟩
theorem walked_enumT {xs : List P} {S : Store} : Walked .enum [.tup xs] S (xs.zipIdx.map fun p => P.tup [.int p.2, p.1]) := fun K h => by
  simp only [iterS]
  exact fun z => h _ (fun _ _ => trivial) (by simpa using z)
theorem walked_enumL {xs : List P} {S : Store} {a : Addr} (e : S a = some (.lst xs)) : Walked .enum [.loc a] S (xs.zipIdx.map fun p => P.tup [.int p.2, p.1]) := fun K h => by
  simp only [iterS, e]
  exact fun z => h _ (fun S' d => d _ _ e) (by simpa using z)
theorem filterMap_take {α β : Type} {f : α → Option β} {l : List α} {i : Nat} {x : α} (h : l[i]? = some x) : (l.take (i + 1)).filterMap f = (l.take i).filterMap f ++ (match f x with | some y => [y] | none => []) := by
  have hi := (List.getElem?_eq_some_iff.mp h).1
  have e : l.take (i + 1) = l.take i ++ [x] := by rw [List.take_add_one, h]; rfl
  rw [e, List.filterMap_append]
  congr 1
  cases q : f x with
  | none => simp [q]
  | some y => simp [q]
section
variable {G : Env} {own : List Nat} {k : IK} {args : List CE} {tg : VT} {elt : CE} {cond : Option CE} {ρ : Loc} {S : Store} {Q : QP} {E : QE} {vs items : List P}
/-- [elt for .. in .. if ..]: nothing else is changed -/
theorem wp_comp (g : P → Option P) (ha : ∀ R : List P → Store → Prop, R vs S → wpEs G args ρ S R E) (hw : Walked k vs S items)
    (hb : ∀ (i : Nat) (x : P), items[i]? = some x → ∀ S', SubS S S' → ∀ (Q1 : QP) (Q2 : Store → Prop), (∀ y, g x = some y → Q1 y S') → (g x = none → Q2 S') → wpVT tg x (wipeP ρ own) fun ρ2 => wpC G cond ρ2 S' fun b S3 => if b = true then wpE G elt ρ2 S3 Q1 noE else Q2 S3)
    (hq : ∀ D, S D = none → Q (.loc D) (S.upd D (.lst (items.filterMap g)))) : wpE G (.cmpr own k args tg elt cond) ρ S Q E := by
  unfold wpE
  refine ha _ (hw _ fun Gd gd _ D hD => ?_)
  refine ⟨fun i acc S2 => S2 = S.upd D (.lst acc) ∧ acc = (items.take i).filterMap g, ⟨rfl, by simp⟩, ?_, ?_⟩
  · rintro i x acc S2 hx ⟨rfl, rfl⟩ _
    refine ⟨gd _ (.upd hD), hb i x hx _ (.upd hD) _ _ (fun y hy => ⟨Store.upd_same, Store.upd_upd, ?_⟩) (fun hy => ⟨rfl, ?_⟩)⟩
    · rw [filterMap_take hx, hy]
    · rw [filterMap_take hx, hy]; simp
  · rintro acc S2 ⟨rfl, rfl⟩ _
    refine ⟨gd _ (.upd hD), ?_⟩
    rw [List.take_length]
    exact hq D hD
theorem wp_map (f : P → P) (ha : ∀ R : List P → Store → Prop, R vs S → wpEs G args ρ S R E) (hw : Walked k vs S items)
    (hb : ∀ (i : Nat) (x : P), items[i]? = some x → ∀ S', SubS S S' → ∀ Q1 : QP, Q1 (f x) S' → wpVT tg x (wipeP ρ own) fun ρ2 => wpE G elt ρ2 S' Q1 noE)
    (hq : ∀ D, S D = none → Q (.loc D) (S.upd D (.lst (items.map f)))) : wpE G (.cmpr own k args tg elt none) ρ S Q E := by
  refine wp_comp (fun x => some (f x)) ha hw (fun i x hx S' d Q1 Q2 h1 _ => ?_) (fun D hD => ?_)
  · refine wpVT_mono tg (fun ρ2 h => ?_) (hb i x hx S' d Q1 (h1 _ rfl))
    simp only [wpC, if_true]
    exact h
  · have e : items.filterMap (fun x => some (f x)) = items.map f := by
      induction items with
      | nil => rfl
      | cons a l ih => simp
    rw [e]
    exact hq D hD
/-- [elt for ..]: the element changes what J tells of -/
theorem wp_compJ (J : Nat → List P → Store → Prop) (ha : ∀ R : List P → Store → Prop, R vs S → wpEs G args ρ S R E) (hw : ∀ K : List P → (Store → Prop) → Prop, (∀ Gd : Store → Prop, (∀ i acc S', J i acc S' → ∀ D, S' D = none → ∀ o, Gd (S'.upd D o)) → items.length ≤ sizeLine → K items Gd) → iterS k vs S K) (h0 : J 0 [] S)
    (hb : ∀ (i : Nat) (x : P) (acc : List P) (S0 : Store) (D : Addr), items[i]? = some x → J i acc S0 → acc.length ≤ i → S0 D = none → ∀ Q1 : QP, (∀ p S1, J (i + 1) (acc ++ [p]) S1 → S1 D = none → Q1 p (S1.upd D (.lst acc))) → wpVT tg x (wipeP ρ own) fun ρ2 => wpE G elt ρ2 (S0.upd D (.lst acc)) Q1 noE)
    (hq : ∀ acc S0 D, J items.length acc S0 → S0 D = none → Q (.loc D) (S0.upd D (.lst acc))) : wpE G (.cmpr own k args tg elt none) ρ S Q E := by
  unfold wpE
  refine ha _ (hw _ fun Gd gd _ D hD => ?_)
  refine ⟨fun i acc S2 => ∃ S0, S2 = S0.upd D (.lst acc) ∧ J i acc S0 ∧ S0 D = none, ⟨S, rfl, h0, hD⟩, ?_, ?_⟩
  · rintro i x acc S2 hx ⟨S0, rfl, hJ, hn⟩ hl
    refine ⟨gd _ _ _ hJ D hn _, ?_⟩
    refine wpVT_mono tg (fun ρ2 h => ?_) (hb i x acc S0 D hx hJ hl hn (fun p S4 => S4 D = some (.lst acc) ∧ ∃ S0, S4.upd D (.lst (acc ++ [p])) = S0.upd D (.lst (acc ++ [p])) ∧ J (i + 1) (acc ++ [p]) S0 ∧ S0 D = none) (fun p S1 hJ1 hn1 => ⟨Store.upd_same, S1, Store.upd_upd, hJ1, hn1⟩))
    simp only [wpC, if_true]
    exact h
  · rintro acc S2 ⟨S0, rfl, hJ, hn⟩ _
    exact ⟨gd _ _ _ hJ D hn _, hq acc S0 D hJ hn⟩
end
end Core
end
section
set_option maxRecDepth 100000
set_option maxHeartbeats 4000000
/-! Core20: equality of plain data, by plain equality. -/
namespace Core
open PySem L2
mutual
/-- without bools (a bool is equal to an int) and dicts -/
def noB : PyData → Bool
  | .none => true
  | .bool _ => false
  | .int _ => true
  | .str _ => true
  | .list xs => noBs xs
  | .tuple xs => noBs xs
  | .dict _ => false
def noBs : List PyData → Bool
  | [] => true
  | x :: xs => noB x && noBs xs
end
mutual
theorem eqv_iff : ∀ (d e : PyData), noB d = true → noB e = true → (PyData.eqv d e = true ↔ d = e)
  | .none, e, h, h' => by cases e <;> simp [PyData.eqv]
  | .bool _, e, h, h' => by simp [noB] at h
  | .int i, e, h, h' => by
    cases e with
    | bool _ => simp [noB] at h'
    | _ => simp [PyData.eqv]
  | .str s, e, h, h' => by cases e <;> simp [PyData.eqv]
  | .list xs, e, h, h' => by
    cases e with
    | list ys =>
      simp only [noB] at h h'
      simp only [PyData.eqv, PyData.list.injEq]
      exact eqvs_iff xs ys h h'
    | _ => simp [PyData.eqv]
  | .tuple xs, e, h, h' => by
    cases e with
    | tuple ys =>
      simp only [noB] at h h'
      simp only [PyData.eqv, PyData.tuple.injEq]
      exact eqvs_iff xs ys h h'
    | _ => simp [PyData.eqv]
  | .dict _, e, h, h' => by simp [noB] at h
theorem eqvs_iff : ∀ (ds es : List PyData), noBs ds = true → noBs es = true → (PyData.eqvAll ds es = true ↔ ds = es)
  | [], es, h, h' => by cases es <;> simp [PyData.eqvAll]
  | d :: ds, es, h, h' => by
    cases es with
    | nil => simp [PyData.eqvAll]
    | cons e es =>
      simp only [noBs, Bool.and_eq_true] at h h'
      simp only [PyData.eqvAll, Bool.and_eq_true, List.cons.injEq]
      rw [eqv_iff d e h.1 h'.1, eqvs_iff ds es h.2 h'.2]
end
/-- values that stand for plain data -/
class Dat (α : Type) where
  toP : α → P
  toD : α → PyData
  dep : Nat
  den : ∀ (S : Store) (n : Nat) (x : α), dep ≤ n → dataS S n (toP x) = some (toD x)
  nb : ∀ x, noB (toD x) = true
  inj : ∀ x y, toD x = toD y → x = y
class DatN (α : Type) extends Dat α where
  nn : ∀ x, toD x ≠ .none
open Dat (toP toD)
instance : DatN Int where
  toP := .int
  toD := .int
  dep := 1
  den := fun S n x h => by
    cases n with
    | zero => omega
    | succ n => rfl
  nb := fun _ => rfl
  inj := fun x y h => by cases h; rfl
  nn := fun _ h => by cases h
theorem mapM_den {α : Type} [Dat α] (S : Store) (n : Nat) (h : Dat.dep α ≤ n) : ∀ xs : List α, (xs.map Dat.toP).mapM (dataS S n) = some (xs.map Dat.toD)
  | [] => rfl
  | x :: xs => by
    rw [List.map_cons, List.mapM_cons, Dat.den S n x h, mapM_den S n h xs]
    rfl
theorem noBs_map {α : Type} [Dat α] : ∀ xs : List α, noBs (xs.map Dat.toD) = true
  | [] => rfl
  | x :: xs => by rw [List.map_cons, noBs, Dat.nb x, noBs_map xs]; rfl
theorem map_inj {α : Type} [Dat α] : ∀ xs ys : List α, xs.map (Dat.toD) = ys.map Dat.toD → xs = ys
  | [], ys, h => by cases ys with
    | nil => rfl
    | cons _ _ => cases h
  | x :: xs, ys, h => by
    cases ys with
    | nil => cases h
    | cons y ys =>
      simp only [List.map_cons, List.cons.injEq] at h
      rw [Dat.inj x y h.1, map_inj xs ys h.2]
/-- a row, as a tuple -/
instance {α : Type} [Dat α] : DatN (List α) where
  toP := fun xs => .tup (xs.map Dat.toP)
  toD := fun xs => .tuple (xs.map Dat.toD)
  dep := Dat.dep α + 1
  den := fun S n xs h => by
    cases n with
    | zero => omega
    | succ n =>
      simp only [dataS]
      rw [mapM_den S n (by omega)]
      rfl
  nb := fun xs => noBs_map xs
  inj := fun xs ys h => map_inj xs ys (by simpa using h)
  nn := fun _ h => by cases h
/-- a pair -/
instance {α β : Type} [Dat α] [Dat β] : DatN (α × β) where
  toP := fun x => .tup [Dat.toP x.1, Dat.toP x.2]
  toD := fun x => .tuple [Dat.toD x.1, Dat.toD x.2]
  dep := max (Dat.dep α) (Dat.dep β) + 1
  den := fun S n x h => by
    cases n with
    | zero => omega
    | succ n =>
      simp only [dataS, List.mapM_cons, List.mapM_nil]
      rw [Dat.den S n x.1 (by omega), Dat.den S n x.2 (by omega)]
      rfl
  nb := fun x => by simp [noB, noBs, Dat.nb]
  inj := fun x y h => by
    simp only [PyData.tuple.injEq, List.cons.injEq, and_true] at h
    exact Prod.ext (Dat.inj _ _ h.1) (Dat.inj _ _ h.2)
  nn := fun _ h => by cases h
/-- a value or None -/
instance {α : Type} [DatN α] : Dat (Option α) where
  toP := fun x => match x with
    | none => .non
    | some x => Dat.toP x
  toD := fun x => match x with
    | none => .none
    | some x => Dat.toD x
  dep := Dat.dep α + 1
  den := fun S n x h => by
    cases n with
    | zero => omega
    | succ n =>
      cases x with
      | none => rfl
      | some x => exact Dat.den S _ x (by omega)
  nb := fun x => by
    cases x with
    | none => rfl
    | some x => exact Dat.nb x
  inj := fun x y h => by
    cases x with
    | none =>
      cases y with
      | none => rfl
      | some y => exact absurd h.symm (DatN.nn y)
    | some x =>
      cases y with
      | none => exact absurd h (DatN.nn x)
      | some y => rw [Dat.inj x y h]
section
variable {α : Type} [Dat α] [DecidableEq α] {S : Store} {k : Bool → Prop}
theorem eqv_dat (x y : α) : PyData.eqv (toD x) (toD y) = decide (x = y) := by
  have h := eqv_iff (toD x) (toD y) (Dat.nb x) (Dat.nb y)
  by_cases e : x = y
  · subst e; rw [decide_eq_true rfl]; exact h.mpr rfl
  · rw [decide_eq_false e]
    cases q : PyData.eqv (toD x) (toD y) with
    | false => rfl
    | true => exact absurd (Dat.inj x y (h.mp q)) e
theorem eq_dat (x y : α) (hd : Dat.dep α ≤ 62) (h : k (decide (x = y))) : eqS S (toP x) (toP y) k := by
  refine ⟨toD x, toD y, Dat.den S 62 x hd, Dat.den S 62 y hd, ?_⟩
  rw [eqv_dat]
  exact h
/-- two lists -/
theorem eq_lst {a b : Addr} (xs ys : List α) (hd : Dat.dep α ≤ 61) (h1 : S a = some (.lst (xs.map toP))) (h2 : S b = some (.lst (ys.map toP))) (h : k (decide (xs = ys))) : eqS S (.loc a) (.loc b) k := by
  refine ⟨.list (xs.map toD), .list (ys.map toD), ?_, ?_, ?_⟩
  · simp only [dataS, h1]
    rw [mapM_den S 61 hd]; rfl
  · simp only [dataS, h2]
    rw [mapM_den S 61 hd]; rfl
  · have e := eqv_iff (.list (xs.map toD)) (.list (ys.map toD)) (noBs_map xs) (noBs_map ys)
    have z : PyData.eqv (.list (xs.map toD)) (.list (ys.map toD)) = decide (xs = ys) := by
      by_cases q : xs = ys
      · subst q; rw [decide_eq_true rfl]; exact e.mpr rfl
      · rw [decide_eq_false q]
        cases w : PyData.eqv (.list (xs.map toD)) (.list (ys.map toD)) with
        | false => rfl
        | true => exact absurd (map_inj xs ys (by simpa using e.mp w)) q
    rw [z]
    exact h
theorem any_dat (x : α) : ∀ xs : List α, (xs.map toD).any (fun e => PyData.eqv e (toD x)) = decide (x ∈ xs)
  | [] => by simp
  | y :: ys => by
    rw [List.map_cons, List.any_cons, any_dat x ys, eqv_dat]
    by_cases e : y = x
    · subst e; simp
    · simp [e, Ne.symm e]
theorem in_lst (x : α) (xs : List α) (hd : Dat.dep α ≤ 62) (h : k (decide (x ∈ xs))) : inS S (toP x) (xs.map toP) k := by
  refine ⟨toD x, xs.map toD, Dat.den S 62 x hd, mapM_den S 62 hd xs, ?_⟩
  rw [any_dat]
  exact h
end
theorem eqS_int {S : Store} {i j : Int} {k : Bool → Prop} (h : k (decide (i = j))) : eqS S (.int i) (.int j) k := eq_dat (α := Int) i j (by decide) h
theorem eqS_str {S : Store} {s t : Str} {k : Bool → Prop} (h1 : PyData.strOk s = true) (h2 : PyData.strOk t = true) (h : k (decide (s = t))) : eqS S (.str s) (.str t) k := by
  refine ⟨.str s, .str t, by simp [dataS, h1], by simp [dataS, h2], ?_⟩
  have e : PyData.eqv (.str s) (.str t) = decide (s = t) := by
    show (s == t) = _
    by_cases q : s = t
    · subst q; simp
    · simp [q]
  rw [e]
  exact h
end Core
end
section
set_option maxRecDepth 100000
set_option maxHeartbeats 4000000
/-! CoreT: what expressions are worth, whatever is laid beside; blocks. -/
namespace Core
open PySem L2
open Dat (toP toD)
/-- a value, whatever is laid beside -/
structure Ev (G : Env) (c : CE) (ρ : Loc) (S : Store) (p : P) : Prop where
  run : ∀ (E : QE) (S' : Store), SubS S S' → ∀ Q : QP, (∀ S2, SubS S' S2 → Q p S2) → wpE G c ρ S' Q E
instance {G : Env} {c : CE} {ρ : Loc} {S : Store} {p : P} : CoeFun (Ev G c ρ S p) (fun _ => ∀ (E : QE) (S' : Store), SubS S S' → ∀ Q : QP, (∀ S2, SubS S' S2 → Q p S2) → wpE G c ρ S' Q E) := ⟨Ev.run⟩
structure Evs (G : Env) (cs : List CE) (ρ : Loc) (S : Store) (ps : List P) : Prop where
  run : ∀ (E : QE) (S' : Store), SubS S S' → ∀ Q : List P → Store → Prop, (∀ S2, SubS S' S2 → Q ps S2) → wpEs G cs ρ S' Q E
instance {G : Env} {cs : List CE} {ρ : Loc} {S : Store} {ps : List P} : CoeFun (Evs G cs ρ S ps) (fun _ => ∀ (E : QE) (S' : Store), SubS S S' → ∀ Q : List P → Store → Prop, (∀ S2, SubS S' S2 → Q ps S2) → wpEs G cs ρ S' Q E) := ⟨Evs.run⟩
/-- a list of these items, somewhere -/
structure EvL (G : Env) (c : CE) (ρ : Loc) (S : Store) (xs : List P) : Prop where
  run : ∀ (E : QE) (S' : Store), SubS S S' → ∀ Q : QP, (∀ a S2, SubS S' S2 → S2 a = some (.lst xs) → Q (.loc a) S2) → wpE G c ρ S' Q E
instance {G : Env} {c : CE} {ρ : Loc} {S : Store} {xs : List P} : CoeFun (EvL G c ρ S xs) (fun _ => ∀ (E : QE) (S' : Store), SubS S S' → ∀ Q : QP, (∀ a S2, SubS S' S2 → S2 a = some (.lst xs) → Q (.loc a) S2) → wpE G c ρ S' Q E) := ⟨EvL.run⟩
/-- a new list of these items -/
structure EvF (G : Env) (c : CE) (ρ : Loc) (S : Store) (xs : List P) : Prop where
  run : ∀ (E : QE) (S' : Store), SubS S S' → ∀ Q : QP, (∀ a S2, SubS S' S2 → S' a = none → S2 a = some (.lst xs) → Q (.loc a) S2) → wpE G c ρ S' Q E
instance {G : Env} {c : CE} {ρ : Loc} {S : Store} {xs : List P} : CoeFun (EvF G c ρ S xs) (fun _ => ∀ (E : QE) (S' : Store), SubS S S' → ∀ Q : QP, (∀ a S2, SubS S' S2 → S' a = none → S2 a = some (.lst xs) → Q (.loc a) S2) → wpE G c ρ S' Q E) := ⟨EvF.run⟩
/-- bounds of a part -/
def EvO (G : Env) (o : Option CE) (ρ : Loc) (S : Store) (u : Option Int) : Prop := match o, u with
  | none, none => True
  | some c, some i => Ev G c ρ S (.int i)
  | _, _ => False
/-- what a call gives: a value or an error; the store stays -/
abbrev Res := Except Exc P
def fin (r : Res) (Q : QP) (E : QE) (S : Store) : Prop := match r with
  | .ok v => Q v S
  | .error x => E x S
structure FnR (sp : PSpec) (ps : List P) (S : Store) (r : Res) : Prop where
  run : ∀ S', SubS S S' → ∀ (Q : QP) (E : QE), fin r Q E S' → sp ps S' Q E
instance {sp : PSpec} {ps : List P} {S : Store} {r : Res} : CoeFun (FnR sp ps S r) (fun _ => ∀ S', SubS S S' → ∀ (Q : QP) (E : QE), fin r Q E S' → sp ps S' Q E) := ⟨FnR.run⟩
abbrev FnV (sp : PSpec) (ps : List P) (S : Store) (v : P) : Prop := FnR sp ps S (.ok v)
/-- a call that gives a new list -/
structure FnL (sp : PSpec) (ps : List P) (S : Store) (xs : List P) : Prop where
  run : ∀ S', SubS S S' → ∀ (Q : QP) (E : QE), (∀ a, S' a = none → Q (.loc a) (S'.upd a (.lst xs))) → sp ps S' Q E
instance {sp : PSpec} {ps : List P} {S : Store} {xs : List P} : CoeFun (FnL sp ps S xs) (fun _ => ∀ S', SubS S S' → ∀ (Q : QP) (E : QE), (∀ a, S' a = none → Q (.loc a) (S'.upd a (.lst xs))) → sp ps S' Q E) := ⟨FnL.run⟩
structure EvR (G : Env) (c : CE) (ρ : Loc) (S : Store) (r : Res) : Prop where
  run : ∀ (S' : Store), SubS S S' → ∀ (Q : QP) (E : QE), (∀ S2, SubS S' S2 → fin r Q E S2) → wpE G c ρ S' Q E
instance {G : Env} {c : CE} {ρ : Loc} {S : Store} {r : Res} : CoeFun (EvR G c ρ S r) (fun _ => ∀ (S' : Store), SubS S S' → ∀ (Q : QP) (E : QE), (∀ S2, SubS S' S2 → fin r Q E S2) → wpE G c ρ S' Q E) := ⟨EvR.run⟩
structure OpV (op : Operator) (p q : P) (S : Store) (v : P) : Prop where
  run : ∀ S', SubS S S' → ∀ Q : QP, (∀ S2, SubS S' S2 → Q v S2) → opBin op p q S' Q
instance {op : Operator} {p q : P} {S : Store} {v : P} : CoeFun (OpV op p q S v) (fun _ => ∀ S', SubS S S' → ∀ Q : QP, (∀ S2, SubS S' S2 → Q v S2) → opBin op p q S' Q) := ⟨OpV.run⟩
structure CmpV (op : CmpOp) (p q : P) (S : Store) (b : Bool) : Prop where
  run : ∀ S', SubS S S' → ∀ Q : QP, Q (.bl b) S' → opCmp op p q S' Q
instance {op : CmpOp} {p q : P} {S : Store} {b : Bool} : CoeFun (CmpV op p q S b) (fun _ => ∀ S', SubS S S' → ∀ Q : QP, Q (.bl b) S' → opCmp op p q S' Q) := ⟨CmpV.run⟩
structure IdxV (p q : P) (S : Store) (v : P) : Prop where
  run : ∀ S', SubS S S' → ∀ Q : QP, Q v S' → opIdx p q S' Q
instance {p q : P} {S : Store} {v : P} : CoeFun (IdxV p q S v) (fun _ => ∀ S', SubS S S' → ∀ Q : QP, Q v S' → opIdx p q S' Q) := ⟨IdxV.run⟩
section
variable {G : Env} {ρ : Loc} {S S1 : Store}
theorem Ev.at {c : CE} {p : P} (h : Ev G c ρ S p) (d : SubS S S1) : Ev G c ρ S1 p := .mk fun E S' d' => h E S' (d.trans d')
theorem EvF.l {c : CE} {xs : List P} (h : EvF G c ρ S xs) : EvL G c ρ S xs := .mk fun E S' d Q q => h E S' d Q fun a S2 d2 _ e => q a S2 d2 e
theorem EvL.at {c : CE} {xs : List P} (h : EvL G c ρ S xs) (d : SubS S S1) : EvL G c ρ S1 xs := .mk fun E S' d' => h E S' (d.trans d')
theorem FnR.at {sp : PSpec} {ps : List P} {r : Res} (h : FnR sp ps S r) (d : SubS S S1) : FnR sp ps S1 r := .mk fun S' d' => h S' (d.trans d')
theorem Ev.r {c : CE} {p : P} (h : Ev G c ρ S p) : EvR G c ρ S (.ok p) := .mk fun S' d Q E q => h E S' d Q q
theorem EvR.v {c : CE} {p : P} (h : EvR G c ρ S (.ok p)) : Ev G c ρ S p := .mk fun E S' d Q q => h S' d Q E q
theorem ev_var {i : Nat} {p : P} (h : ρ[i]? = some (some p)) : Ev G (.var i) ρ S p := .mk fun E S' d Q q => by unfold wpE; rw [h]; exact q S' (.refl S')
theorem ev_lit {p : P} : Ev G (.lit p) ρ S p := .mk fun E S' d Q q => by unfold wpE; exact q S' (.refl S')
theorem ev_con {i : Nat} {p : P} (h : G.con i = p) : Ev G (.con i) ρ S p := .mk fun E S' d Q q => by unfold wpE; rw [h]; exact q S' (.refl S')
theorem ev_fnv {i : Nat} : Ev G (.fnv i) ρ S (.fn i) := .mk fun E S' d Q q => by unfold wpE; exact q S' (.refl S')
theorem evs_nil : Evs G [] ρ S [] := .mk fun E S' d Q q => by unfold wpEs; exact q S' (.refl S')
theorem evs_cons {c : CE} {cs : List CE} {p : P} {ps : List P} (h : Ev G c ρ S p) (t : Evs G cs ρ S ps) : Evs G (c :: cs) ρ S (p :: ps) := .mk fun E S' d Q q => by
  unfold wpEs
  exact h E S' d _ fun S1 d1 => t E S1 (d.trans d1) _ fun S2 d2 => q S2 (d1.trans d2)
theorem ev_tup {cs : List CE} {ps : List P} (h : Evs G cs ρ S ps) : Ev G (.tup cs) ρ S (.tup ps) := .mk fun E S' d Q q => by unfold wpE; exact h E S' d _ q
theorem ev_bin {op : Operator} {a b : CE} {p q v : P} (h1 : Ev G a ρ S p) (h2 : Ev G b ρ S q) (h : OpV op p q S v) : Ev G (.bin op a b) ρ S v := .mk fun E S' d Q k => by
  unfold wpE
  exact h1 E S' d _ fun S1 d1 => h2 E S1 (d.trans d1) _ fun S2 d2 => h S2 ((d.trans d1).trans d2) _ fun S3 d3 => k S3 ((d1.trans d2).trans d3)
theorem ev_neg {a : CE} {i : Int} (h1 : Ev G a ρ S (.int i)) : Ev G (.neg a) ρ S (.int (-i)) := .mk fun E S' d Q q => by
  unfold wpE
  exact h1 E S' d _ q
theorem ev_cmp {op : CmpOp} {a b : CE} {p q : P} {v : Bool} (h1 : Ev G a ρ S p) (h2 : Ev G b ρ S q) (h : CmpV op p q S v) : Ev G (.cmp op a b) ρ S (.bl v) := .mk fun E S' d Q k => by
  unfold wpE
  exact h1 E S' d _ fun S1 d1 => h2 E S1 (d.trans d1) _ fun S2 d2 => h S2 ((d.trans d1).trans d2) _ (k S2 (d1.trans d2))
theorem ev_chn {op op' : CmpOp} {a b c : CE} {p q r : P} {x y : Bool} (h1 : Ev G a ρ S p) (h2 : Ev G b ρ S q) (h3 : Ev G c ρ S r) (h : CmpV op p q S x) (h' : CmpV op' q r S y) : Ev G (.chn op op' a b c) ρ S (.bl (x && y)) := .mk fun E S' d Q k => by
  unfold wpE
  refine h1 E S' d _ fun S1 d1 => h2 E S1 (d.trans d1) _ fun S2 d2 => h S2 ((d.trans d1).trans d2) _ ?_
  cases x with
  | true => exact h3 E S2 ((d.trans d1).trans d2) _ fun S3 d3 => h' S3 (((d.trans d1).trans d2).trans d3) _ (k S3 ((d1.trans d2).trans d3))
  | false => exact k S2 (d1.trans d2)
theorem ev_and {a b : CE} {x y : Bool} (h1 : Ev G a ρ S (.bl x)) (h2 : x = true → Ev G b ρ S (.bl y)) : Ev G (.and_ a b) ρ S (.bl (x && y)) := .mk fun E S' d Q q => by
  unfold wpE
  refine h1 E S' d _ fun S1 d1 => ?_
  cases x with
  | true => exact h2 rfl E S1 (d.trans d1) _ fun S2 d2 => q S2 (d1.trans d2)
  | false => exact q S1 d1
theorem ev_or {a b : CE} {x y : Bool} (h1 : Ev G a ρ S (.bl x)) (h2 : x = false → Ev G b ρ S (.bl y)) : Ev G (.or_ a b) ρ S (.bl (x || y)) := .mk fun E S' d Q q => by
  unfold wpE
  refine h1 E S' d _ fun S1 d1 => ?_
  cases x with
  | false => exact h2 rfl E S1 (d.trans d1) _ fun S2 d2 => q S2 (d1.trans d2)
  | true => exact q S1 d1
theorem ev_not {a : CE} {x : Bool} (h1 : Ev G a ρ S (.bl x)) : Ev G (.not_ a) ρ S (.bl (!x)) := .mk fun E S' d Q q => by
  unfold wpE
  exact h1 E S' d _ q
/-- the truth of a value that is no bool -/
theorem ev_notT {a : CE} {p : P} {x : Bool} (h1 : Ev G a ρ S p) (ht : ∀ S', truthS S' p = some x) : Ev G (.not_ a) ρ S (.bl (!x)) := .mk fun E S' d Q q => by
  unfold wpE
  refine h1 E S' d _ fun S1 d1 => ?_
  rw [ht]
  exact q S1 d1
theorem ev_ife {c a b : CE} {x : Bool} {p q : P} (h : Ev G c ρ S (.bl x)) (h1 : x = true → Ev G a ρ S p) (h2 : x = false → Ev G b ρ S q) : Ev G (.ife c a b) ρ S (if x then p else q) := .mk fun E S' d Q k => by
  unfold wpE
  refine h E S' d _ fun S1 d1 => ?_
  cases x with
  | true => exact h1 rfl E S1 (d.trans d1) _ fun S2 d2 => k S2 (d1.trans d2)
  | false => exact h2 rfl E S1 (d.trans d1) _ fun S2 d2 => k S2 (d1.trans d2)
theorem ev_idx {a b : CE} {p q v : P} (h1 : Ev G a ρ S p) (h2 : Ev G b ρ S q) (h : IdxV p q S v) : Ev G (.idx a b) ρ S v := .mk fun E S' d Q k => by
  unfold wpE
  exact h1 E S' d _ fun S1 d1 => h2 E S1 (d.trans d1) _ fun S2 d2 => h S2 ((d.trans d1).trans d2) _ (k S2 (d1.trans d2))
/-- an item of a list -/
theorem ev_idxL {a b : CE} {xs : List P} {i : Int} {v : P} (h1 : EvL G a ρ S xs) (h2 : Ev G b ρ S (.int i)) (h : atI xs i = some v) : Ev G (.idx a b) ρ S v := .mk fun E S' d Q k => by
  unfold wpE
  refine h1 E S' d _ fun l S1 d1 hl => h2 E S1 (d.trans d1) _ fun S2 d2 => ?_
  simp only [opIdx, dctS, seqOf, d2 _ _ hl]
  exact fun _ => ⟨v, h, k S2 (d1.trans d2)⟩
theorem evo_go {o : Option CE} {u : Option Int} (ho : EvO G o ρ S u) (E : QE) (S' : Store) (d : SubS S S') (R : Option P → Store → Prop) (hR : ∀ p S2, SubS S' S2 → partOf p = some u → R p S2) : wpO G o ρ S' R E := by
  cases o with
  | none => cases u with
    | none => unfold wpO; exact hR none S' (.refl S') rfl
    | some _ => exact ho.elim
  | some c => cases u with
    | none => exact ho.elim
    | some i => unfold wpO; exact (show Ev G c ρ S (.int i) from ho) E S' d _ fun S2 d2 => hR (some (.int i)) S2 d2 rfl
theorem ev_slc {a : CE} {lo hi : Option CE} {xs : List P} {l h : Option Int} (h1 : Ev G a ρ S (.tup xs)) (hl : EvO G lo ρ S l) (hh : EvO G hi ρ S h) : Ev G (.slc a lo hi) ρ S (.tup (cutP xs l h)) := .mk fun E S' d Q k => by
  unfold wpE
  refine h1 E S' d _ fun S1 d1 => evo_go hl E S1 (d.trans d1) _ fun p S2 d2 hp => ?_
  rw [hp]
  refine evo_go hh E S2 ((d.trans d1).trans d2) _ fun p2 S3 d3 hp2 => ?_
  rw [hp2]
  exact fun _ => k S3 ((d1.trans d2).trans d3)
theorem SubS.re {S S' : Store} {a : Addr} {o u : MO} (d : SubS (S.upd a o) S') : SubS (S.upd a u) (S'.upd a u) := fun b x e => by
  by_cases z : b = a
  · subst z; rw [Store.upd_same] at e ⊢; exact e
  · rw [Store.upd_ne z] at e ⊢
    exact d b x (by rw [Store.upd_ne z]; exact e)
/-- what is beside a place -/
theorem SubS.into {S S' : Store} {a : Addr} {o : MO} (d : SubS S S') (h : S' a = some o) (n : S a = none) : SubS (S.upd a o) S' := fun b x e => by
  by_cases z : b = a
  · subst z; rw [Store.upd_same] at e; cases e; exact h
  · rw [Store.upd_ne z] at e; exact d b x e
theorem sub_none {S S' : Store} (d : SubS S S') {a : Addr} (h : S' a = none) : S a = none := by
  cases e : S a with
  | none => rfl
  | some o => rw [d a o e] at h; cases h
theorem evf_slc {a : CE} {lo hi : Option CE} {xs : List P} {l h : Option Int} (h1 : EvL G a ρ S xs) (hl : EvO G lo ρ S l) (hh : EvO G hi ρ S h) : EvF G (.slc a lo hi) ρ S (cutP xs l h) := .mk fun E S' d Q k => by
  unfold wpE
  refine h1 E S' d _ fun c S1 d1 hc => evo_go hl E S1 (d.trans d1) _ fun p S2 d2 hp => ?_
  rw [hp]
  refine evo_go hh E S2 ((d.trans d1).trans d2) _ fun p2 S3 d3 hp2 => ?_
  rw [hp2]
  simp only [opSlc, d3 _ _ (d2 _ _ hc)]
  exact fun _ b hb => k b _ (((d1.trans d2).trans d3).trans (.upd hb)) (sub_none ((d1.trans d2).trans d3) hb) Store.upd_same
theorem ev_fld {a : CE} {l : Addr} {c f : Nat} {fs : List (Nat × P)} {p : P} (h : Ev G a ρ S (.loc l)) (hs : S l = some (.ins c fs)) (hf : fs.lookup f = some p) : Ev G (.fld a f) ρ S p := .mk fun E S' d Q q => by
  unfold wpE
  refine h E S' d _ fun S1 d1 => ?_
  simp only [d1 _ _ (d _ _ hs), hf]
  exact q S1 d1
theorem ev_call {f : Nat} {es : List CE} {ps : List P} {v : P} (h : Evs G es ρ S ps) (hf : FnV (G.fn f) ps S v) : Ev G (.call f es) ρ S v := .mk fun E S' d Q q => by
  unfold wpE
  exact h E S' d _ fun S1 d1 => hf S1 (d.trans d1) _ _ (q S1 d1)
theorem evr_call {f : Nat} {es : List CE} {ps : List P} {r : Res} (h : Evs G es ρ S ps) (hf : FnR (G.fn f) ps S r) : EvR G (.call f es) ρ S r := .mk fun S' d Q E q => by
  unfold wpE
  exact h E S' d _ fun S1 d1 => hf S1 (d.trans d1) _ _ (q S1 d1)
theorem evf_call {f : Nat} {es : List CE} {ps : List P} {xs : List P} (h : Evs G es ρ S ps) (hf : FnL (G.fn f) ps S xs) : EvF G (.call f es) ρ S xs := .mk fun E S' d Q q => by
  unfold wpE
  exact h E S' d _ fun S1 d1 => hf S1 (d.trans d1) _ _ fun a ha => q a _ (d1.trans (.upd ha)) (sub_none d1 ha) Store.upd_same
theorem ev_cvar {i f : Nat} {es : List CE} {ps : List P} {v : P} (hi : ρ[i]? = some (some (.fn f))) (h : Evs G es ρ S ps) (hf : FnV (G.fn f) ps S v) : Ev G (.cvar i es) ρ S v := .mk fun E S' d Q q => by
  unfold wpE
  rw [hi]
  exact h E S' d _ fun S1 d1 => hf S1 (d.trans d1) _ _ (q S1 d1)
theorem evr_cvar {i f : Nat} {es : List CE} {ps : List P} {r : Res} (hi : ρ[i]? = some (some (.fn f))) (h : Evs G es ρ S ps) (hf : FnR (G.fn f) ps S r) : EvR G (.cvar i es) ρ S r := .mk fun S' d Q E q => by
  unfold wpE
  rw [hi]
  exact h E S' d _ fun S1 d1 => hf S1 (d.trans d1) _ _ (q S1 d1)
theorem tyOf_at {S S' : Store} (d : SubS S S') {v : P} {t : Option Ty} (h : tyOf S v = some t) : tyOf S' v = some t := by
  cases v with
  | loc a =>
    simp only [tyOf] at h ⊢
    split at h
    · rename_i xs e
      rw [d _ _ e]
      exact h
    · cases h
  | _ => exact h
theorem ev_isi {a : CE} {p : P} {t : Option Ty} {ts : List Ty} (h1 : Ev G a ρ S p) (ht : tyOf S p = some t) : Ev G (.isi a ts) ρ S (.bl (ts.any fun u => isTy t u)) := .mk fun E S' d Q q => by
  unfold wpE
  refine h1 E S' d _ fun S1 d1 => ?_
  rw [tyOf_at (d.trans d1) ht]
  exact q S1 d1
/-! built-in functions -/
theorem ev_len {a : CE} {p : P} {xs : List P} (h1 : Ev G a ρ S p) (hp : ∀ S', dctS p S' = none) (hs : ∀ S', seqOf S' p = some xs) : Ev G (.blt .len [a]) ρ S (.int xs.length) := .mk fun E S' d Q q => by
  unfold wpE wpEs wpEs
  refine h1 E S' d _ fun S1 d1 => ?_
  simp only [bfS, hp, hs]
  exact fun _ => q S1 d1
theorem ev_lenL {a : CE} {xs : List P} (h1 : EvL G a ρ S xs) : Ev G (.blt .len [a]) ρ S (.int xs.length) := .mk fun E S' d Q q => by
  unfold wpE wpEs wpEs
  refine h1 E S' d _ fun l S1 d1 hl => ?_
  simp only [bfS, dctS, seqOf, hl]
  exact fun _ => q S1 d1
theorem ev_int {a : CE} {i : Int} (h1 : Ev G a ρ S (.int i)) : Ev G (.blt .int [a]) ρ S (.int i) := .mk fun E S' d Q q => by
  unfold wpE wpEs wpEs
  exact h1 E S' d _ q
theorem ev_intB {a : CE} {i : Bool} (h1 : Ev G a ρ S (.bl i)) : Ev G (.blt .int [a]) ρ S (.int (if i then 1 else 0)) := .mk fun E S' d Q q => by
  unfold wpE wpEs wpEs
  exact h1 E S' d _ q
theorem ev_tuple {a : CE} {p : P} {xs : List P} (h1 : Ev G a ρ S p) (hs : ∀ S', seqOf S' p = some xs) : Ev G (.blt .tuple [a]) ρ S (.tup xs) := .mk fun E S' d Q q => by
  unfold wpE wpEs wpEs
  refine h1 E S' d _ fun S1 d1 => ?_
  simp only [bfS, hs]
  exact fun _ => q S1 d1
theorem ev_tupleL {a : CE} {xs : List P} (h1 : EvL G a ρ S xs) : Ev G (.blt .tuple [a]) ρ S (.tup xs) := .mk fun E S' d Q q => by
  unfold wpE wpEs wpEs
  refine h1 E S' d _ fun l S1 d1 hl => ?_
  simp only [bfS, seqOf, hl]
  exact fun _ => q S1 d1
theorem boolsP_map' : ∀ bs : List Bool, boolsP (bs.map P.bl) = some bs
  | [] => rfl
  | b :: bs => by rw [List.map_cons]; unfold boolsP; rw [boolsP_map' bs]; rfl
theorem intsP_map : ∀ bs : List Int, intsP (bs.map P.int) = some bs
  | [] => rfl
  | b :: bs => by rw [List.map_cons]; unfold intsP; rw [intsP_map bs]; rfl
theorem ev_allL {a : CE} {bs : List Bool} (h1 : EvL G a ρ S (bs.map P.bl)) : Ev G (.blt .all [a]) ρ S (.bl (bs.all id)) := .mk fun E S' d Q q => by
  unfold wpE wpEs wpEs
  refine h1 E S' d _ fun l S1 d1 hl => ?_
  simp only [bfS, hl]
  exact ⟨bs, boolsP_map' bs, q S1 d1⟩
theorem ev_anyL {a : CE} {bs : List Bool} (h1 : EvL G a ρ S (bs.map P.bl)) : Ev G (.blt .any [a]) ρ S (.bl (bs.any id)) := .mk fun E S' d Q q => by
  unfold wpE wpEs wpEs
  refine h1 E S' d _ fun l S1 d1 hl => ?_
  simp only [bfS, hl]
  exact ⟨bs, boolsP_map' bs, q S1 d1⟩
theorem ev_sumL {a : CE} {bs : List Int} (h1 : EvL G a ρ S (bs.map P.int)) : Ev G (.blt .sum [a]) ρ S (.int bs.sum) := .mk fun E S' d Q q => by
  unfold wpE wpEs wpEs
  refine h1 E S' d _ fun l S1 d1 hl => ?_
  simp only [bfS, hl]
  exact ⟨bs, intsP_map bs, q S1 d1⟩
theorem ev_maxL {a : CE} {ns : List Int} {m : Int} (h1 : EvL G a ρ S (ns.map P.int)) (hm : m ∈ ns) (hx : ∀ y ∈ ns, y ≤ m) : Ev G (.blt .max [a]) ρ S (.int m) := .mk fun E S' d Q q => by
  unfold wpE wpEs wpEs
  refine h1 E S' d _ fun l S1 d1 hl => ?_
  simp only [bfS, hl]
  refine ⟨ns, intsP_map ns, List.length_pos_of_mem hm, fun m' hm' hx' => ?_⟩
  have : m' = m := Int.le_antisymm (hx m' hm') (hx' m hm)
  rw [this]
  exact q S1 d1
theorem ev_minL {a : CE} {ns : List Int} {m : Int} (h1 : EvL G a ρ S (ns.map P.int)) (hm : m ∈ ns) (hx : ∀ y ∈ ns, m ≤ y) : Ev G (.blt .min [a]) ρ S (.int m) := .mk fun E S' d Q q => by
  unfold wpE wpEs wpEs
  refine h1 E S' d _ fun l S1 d1 hl => ?_
  simp only [bfS, hl]
  refine ⟨ns, intsP_map ns, List.length_pos_of_mem hm, fun m' hm' hx' => ?_⟩
  have : m' = m := Int.le_antisymm (hx' m hm) (hx m' hm')
  rw [this]
  exact q S1 d1
theorem ev_min2 {a b : CE} {i j : Int} (h1 : Ev G a ρ S (.int i)) (h2 : Ev G b ρ S (.int j)) : Ev G (.blt .min [a, b]) ρ S (.int (min i j)) := .mk fun E S' d Q q => by
  unfold wpE
  refine evs_cons h1 (evs_cons h2 evs_nil) E S' d _ fun S1 d1 => ?_
  simp only [bfS]
  have e : (if j < i then j else i) = min i j := by split <;> omega
  rw [e]
  exact q S1 d1
theorem ev_max2 {a b : CE} {i j : Int} (h1 : Ev G a ρ S (.int i)) (h2 : Ev G b ρ S (.int j)) : Ev G (.blt .max [a, b]) ρ S (.int (max i j)) := .mk fun E S' d Q q => by
  unfold wpE
  refine evs_cons h1 (evs_cons h2 evs_nil) E S' d _ fun S1 d1 => ?_
  simp only [bfS]
  have e : (if j > i then j else i) = max i j := by split <;> omega
  rw [e]
  exact q S1 d1
theorem ev_abs {a : CE} {i : Int} (h1 : Ev G a ρ S (.int i)) : Ev G (.blt .abs [a]) ρ S (.int (if i < 0 then -i else i)) := .mk fun E S' d Q q => by
  unfold wpE wpEs wpEs
  exact h1 E S' d _ q
/-! lists -/
theorem evl_var {i : Nat} {a : Addr} {xs : List P} (h : ρ[i]? = some (some (.loc a))) (hs : S a = some (.lst xs)) : EvL G (.var i) ρ S xs := .mk fun E S' d Q q => by
  unfold wpE; rw [h]; exact q a S' (.refl S') (d _ _ hs)
theorem evl_of {c : CE} {a : Addr} {xs : List P} (h : Ev G c ρ S (.loc a)) (hs : S a = some (.lst xs)) : EvL G c ρ S xs := .mk fun E S' d Q q => h E S' d _ fun S2 d2 => q a S2 d2 (d2 _ _ (d _ _ hs))
theorem evf_lst {cs : List CE} {ps : List P} (h : Evs G cs ρ S ps) : EvF G (.lst cs) ρ S ps := .mk fun E S' d Q q => by
  unfold wpE
  exact h E S' d _ fun S1 d1 a ha => q a _ (d1.trans (.upd ha)) (sub_none d1 ha) Store.upd_same
theorem evf_list {a : CE} {p : P} {xs : List P} (h1 : Ev G a ρ S p) (hp : ∀ S', dctS p S' = none) (hs : ∀ S', seqOf S' p = some xs) : EvF G (.blt .list [a]) ρ S xs := .mk fun E S' d Q q => by
  unfold wpE wpEs wpEs
  refine h1 E S' d _ fun S1 d1 => ?_
  simp only [bfS, hp, hs]
  exact fun _ c hc => q c _ (d1.trans (.upd hc)) (sub_none d1 hc) Store.upd_same
theorem evf_listL {a : CE} {xs : List P} (h1 : EvL G a ρ S xs) : EvF G (.blt .list [a]) ρ S xs := .mk fun E S' d Q q => by
  unfold wpE wpEs wpEs
  refine h1 E S' d _ fun l S1 d1 hl => ?_
  simp only [bfS, dctS, seqOf, hl]
  exact fun _ c hc => q c _ (d1.trans (.upd hc)) (sub_none d1 hc) Store.upd_same
theorem evf_rev {a : CE} {xs : List P} (h1 : EvL G a ρ S xs) : EvF G (.rev a) ρ S xs.reverse := .mk fun E S' d Q q => by
  unfold wpE
  refine h1 E S' d _ fun l S1 d1 hl => ?_
  simp only [seqOf, hl]
  exact fun _ c hc => q c _ (d1.trans (.upd hc)) (sub_none d1 hc) Store.upd_same
theorem evf_add {a b : CE} {xs ys : List P} (h1 : EvL G a ρ S xs) (h2 : EvL G b ρ S ys) (hl : xs.length + ys.length ≤ sizeLine) : EvF G (.bin .Add a b) ρ S (xs ++ ys) := .mk fun E S' d Q q => by
  unfold wpE
  refine h1 E S' d _ fun l S1 d1 e1 => h2 E S1 (d.trans d1) _ fun m S2 d2 e2 => ?_
  simp only [opBin, opAdd]
  exact ⟨xs, ys, d2 _ _ e1, e2, hl, fun c hc => q c _ ((d1.trans d2).trans (.upd hc)) (sub_none (d1.trans d2) hc) Store.upd_same⟩
theorem evf_mul {a b : CE} {xs : List P} {k : Int} (h1 : EvL G a ρ S xs) (h2 : Ev G b ρ S (.int k)) (l : -(2 ^ 63) ≤ k) (u : k < 2 ^ 63) (hl : xs.length * k.toNat ≤ sizeLine) : EvF G (.bin .Mult a b) ρ S (List.replicate k.toNat xs).flatten := .mk fun E S' d Q q => by
  unfold wpE
  refine h1 E S' d _ fun c S1 d1 e1 => h2 E S1 (d.trans d1) _ fun S2 d2 => ?_
  simp only [opBin, opMul]
  exact ⟨xs, d2 _ _ e1, l, u, hl, fun c hc => q c _ ((d1.trans d2).trans (.upd hc)) (sub_none (d1.trans d2) hc) Store.upd_same⟩
/-- t[::-1] -/
theorem ev_rev {a : CE} {xs : List P} (h1 : Ev G a ρ S (.tup xs)) : Ev G (.rev a) ρ S (.tup xs.reverse) := .mk fun E S' d Q q => by
  unfold wpE
  exact h1 E S' d _ fun S1 d1 _ => q S1 d1
/-- t[::w] -/
theorem ev_stp {a w : CE} {xs : List P} {i : Int} (h1 : Ev G a ρ S (.tup xs)) (h2 : Ev G w ρ S (.int i)) (hi : i = 1 ∨ i = -1) : Ev G (.slw a w) ρ S (.tup (if i = 1 then xs else xs.reverse)) := .mk fun E S' d Q q => by
  unfold wpE
  exact h1 E S' d _ fun S1 d1 => h2 E S1 (d.trans d1) _ fun S2 d2 => ⟨hi, fun _ => q S2 (d1.trans d2)⟩
theorem evf_stp {a w : CE} {xs : List P} {i : Int} (h1 : EvL G a ρ S xs) (h2 : Ev G w ρ S (.int i)) (hi : i = 1 ∨ i = -1) : EvF G (.slw a w) ρ S (if i = 1 then xs else xs.reverse) := .mk fun E S' d Q q => by
  unfold wpE
  refine h1 E S' d _ fun l S1 d1 hl => h2 E S1 (d.trans d1) _ fun S2 d2 => ⟨hi, ?_⟩
  simp only [seqOf, d2 _ _ hl]
  exact fun _ c hc => q c _ ((d1.trans d2).trans (.upd hc)) (sub_none (d1.trans d2) hc) Store.upd_same
/-- list(range(n)) -/
theorem evf_lrg {a : CE} {n : Nat} (h1 : Ev G a ρ S (.int n)) (hn : n ≤ sizeLine) : EvF G (.lrg [a]) ρ S ((List.range n).map fun (i : Nat) => P.int i) := .mk fun E S' d Q q => by
  have big := PySem.sizeLine_eq
  unfold wpE wpEs wpEs
  refine h1 E S' d _ fun S1 d1 => ?_
  simp only [iterS]
  refine ⟨⟨by omega, by omega⟩, fun c hc => ?_⟩
  rw [Int.toNat_natCast]
  exact q c _ (d1.trans (.upd hc)) (sub_none d1 hc) Store.upd_same
/-- list(range(m, n)) -/
theorem evf_lrg2 {a b : CE} {m n : Int} (h1 : Ev G a ρ S (.int m)) (h2 : Ev G b ρ S (.int n)) (b1 : -(2 ^ 62) ≤ m) (b2 : m < 2 ^ 62) (b3 : -(2 ^ 62) ≤ n) (b4 : n < 2 ^ 62) (b5 : n - m ≤ sizeLine) : EvF G (.lrg [a, b]) ρ S ((List.range (n - m).toNat).map fun (i : Nat) => P.int (m + i)) := .mk fun E S' d Q q => by
  unfold wpE
  refine evs_cons h1 (evs_cons h2 evs_nil) E S' d _ fun S1 d1 => ?_
  simp only [iterS]
  exact ⟨⟨b1, b2, b3, b4, b5⟩, fun c hc => q c _ (d1.trans (.upd hc)) (sub_none d1 hc) Store.upd_same⟩
/-! operators -/
theorem opv_add {i j : Int} : OpV .Add (.int i) (.int j) S (.int (i + j)) := .mk fun S' d Q q => q S' (.refl S')
theorem opv_sub {i j : Int} : OpV .Sub (.int i) (.int j) S (.int (i - j)) := .mk fun S' d Q q => q S' (.refl S')
theorem opv_cat {xs ys : List P} (hl : xs.length + ys.length ≤ sizeLine) : OpV .Add (.tup xs) (.tup ys) S (.tup (xs ++ ys)) := .mk fun S' d Q q => ⟨hl, q S' (.refl S')⟩
theorem opv_catS {x y : Str} (hl : x.length + y.length ≤ sizeLine) : OpV .Add (.str x) (.str y) S (.str (x ++ y)) := .mk fun S' d Q q => ⟨hl, q S' (.refl S')⟩
theorem opv_mulR {i j : Int} (l : -(2 ^ 64) < j) (u : j < 2 ^ 64) : OpV .Mult (.int i) (.int j) S (.int (i * j)) := .mk fun S' d Q q => ⟨.inl (.inr ⟨l, u⟩), q S' (.refl S')⟩
theorem opv_mulL {i j : Int} (l : -(2 ^ 64) < i) (u : i < 2 ^ 64) : OpV .Mult (.int i) (.int j) S (.int (i * j)) := .mk fun S' d Q q => ⟨.inl (.inl ⟨l, u⟩), q S' (.refl S')⟩
theorem opv_mod {i j : Int} (l : 0 < j) : OpV .Mod (.int i) (.int j) S (.int (i % j)) := .mk fun S' d Q q => ⟨l, q S' (.refl S')⟩
theorem opv_div {i j : Int} (l : 0 < j) (u : j < 2 ^ 64) : OpV .FloorDiv (.int i) (.int j) S (.int (i / j)) := .mk fun S' d Q q => ⟨⟨l, by
  have h : j.natAbs < 2 ^ 64 := by omega
  have := (Nat.log2_lt (n := j.natAbs) (k := 64) (by omega)).mpr h
  omega⟩, q S' (.refl S')⟩
theorem opv_rep {xs : List P} {k : Int} (l : -(2 ^ 63) ≤ k) (u : k < 2 ^ 63) (hl : xs.length * k.toNat ≤ sizeLine) : OpV .Mult (.tup xs) (.int k) S (.tup (List.replicate k.toNat xs).flatten) := .mk fun S' d Q q => ⟨l, u, hl, q S' (.refl S')⟩
theorem opv_pow {i j : Int} (h : CPow i j) : OpV .Pow (.int i) (.int j) S (.int (i ^ j.toNat)) := .mk fun S' d Q q => ⟨h, q S' (.refl S')⟩
theorem Store.upd_self {a : Addr} {o : MO} (h : S a = some o) : S.upd a o = S := by
  funext b
  by_cases z : b = a
  · subst z; rw [Store.upd_same, h]
  · rw [Store.upd_ne z]
theorem cmpv_eqI {i j : Int} : CmpV .Eq (.int i) (.int j) S (decide (i = j)) := .mk fun S' d Q q => eqS_int (k := fun b => Q (.bl b) S') q
theorem cmpv_neI {i j : Int} : CmpV .NotEq (.int i) (.int j) S (!decide (i = j)) := .mk fun S' d Q q => eqS_int (k := fun b => Q (.bl (!b)) S') q
theorem cmpv_lt {i j : Int} : CmpV .Lt (.int i) (.int j) S (decide (i < j)) := .mk fun S' d Q q => q
theorem cmpv_le {i j : Int} : CmpV .LtE (.int i) (.int j) S (decide (i ≤ j)) := .mk fun S' d Q q => q
theorem cmpv_gt {i j : Int} : CmpV .Gt (.int i) (.int j) S (decide (j < i)) := .mk fun S' d Q q => q
theorem cmpv_ge {i j : Int} : CmpV .GtE (.int i) (.int j) S (decide (j ≤ i)) := .mk fun S' d Q q => q
theorem cmpv_eqS {s t : Str} (h1 : PyData.strOk s = true) (h2 : PyData.strOk t = true) : CmpV .Eq (.str s) (.str t) S (decide (s = t)) := .mk fun S' d Q q => eqS_str (k := fun b => Q (.bl b) S') h1 h2 q
theorem cmpv_neS {s t : Str} (h1 : PyData.strOk s = true) (h2 : PyData.strOk t = true) : CmpV .NotEq (.str s) (.str t) S (!decide (s = t)) := .mk fun S' d Q q => eqS_str (k := fun b => Q (.bl (!b)) S') h1 h2 q
theorem cmpv_eqD {α : Type} [Dat α] [DecidableEq α] (x y : α) (hd : Dat.dep α ≤ 62) : CmpV .Eq (toP x) (toP y) S (decide (x = y)) := .mk fun S' d Q q => eq_dat (k := fun b => Q (.bl b) S') x y hd q
theorem cmpv_neD {α : Type} [Dat α] [DecidableEq α] (x y : α) (hd : Dat.dep α ≤ 62) : CmpV .NotEq (toP x) (toP y) S (!decide (x = y)) := .mk fun S' d Q q => eq_dat (k := fun b => Q (.bl (!b)) S') x y hd q
def isNon : P → Bool
  | .non => true
  | _ => false
theorem cmpv_isN {p : P} : CmpV .Is p .non S (isNon p) := .mk fun S' d Q q => by cases p <;> exact q
theorem cmpv_isNN {p : P} : CmpV .IsNot p .non S (!isNon p) := .mk fun S' d Q q => by cases p <;> exact q
theorem cmpv_isB {a b : Bool} : CmpV .Is (.bl a) (.bl b) S (decide (a = b)) := .mk fun S' d Q q => q
theorem cmpv_isNB {a b : Bool} : CmpV .IsNot (.bl a) (.bl b) S (!decide (a = b)) := .mk fun S' d Q q => q
theorem idxv_tup {xs : List P} {i : Int} {v : P} (h : atI xs i = some v) : IdxV (.tup xs) (.int i) S v := .mk fun S' d Q q => by
  simp only [opIdx, dctS, seqOf]
  exact fun _ => ⟨v, h, q⟩
theorem idxv_frl {xs : List P} {i : Int} {v : P} (h : atI xs i = some v) : IdxV (.frl xs) (.int i) S v := .mk fun S' d Q q => by
  simp only [opIdx, dctS, seqOf]
  exact fun _ => ⟨v, h, q⟩
theorem idxv_lst {a : Addr} {xs : List P} {i : Int} {v : P} (hs : S a = some (.lst xs)) (h : atI xs i = some v) : IdxV (.loc a) (.int i) S v := .mk fun S' d Q q => by
  simp only [opIdx, dctS, seqOf, d _ _ hs]
  exact fun _ => ⟨v, h, q⟩
theorem idxv_dct {a : Addr} {kvs : List (P × P)} {k v : P} (hs : S a = some (.dct kvs)) (ok : okK kvs k = true) (h : valP kvs k = some v) : IdxV (.loc a) k S v := .mk fun S' d Q q => by
  simp only [opIdx, dctS, d _ _ hs]
  exact ⟨ok, v, h, q⟩
theorem atI_at {α : Type} {xs : List α} {k : Nat} {v : α} (h : xs[k]? = some v) : atI xs (k : Int) = some v := by
  unfold atI ixN
  have := (List.getElem?_eq_some_iff.mp h).1
  rw [if_pos (by omega), if_pos (by omega)]
  simpa using h
theorem cmpv_inD {a : Addr} {kvs : List (P × P)} {k : P} (hs : S a = some (.dct kvs)) (ok : okK kvs k = true) : CmpV .In k (.loc a) S (valP kvs k).isSome := .mk fun S' d Q q => by
  simp only [opCmp, d _ _ hs]
  exact ⟨ok, q⟩
theorem cmpv_ninD {a : Addr} {kvs : List (P × P)} {k : P} (hs : S a = some (.dct kvs)) (ok : okK kvs k = true) : CmpV .NotIn k (.loc a) S (!(valP kvs k).isSome) := .mk fun S' d Q q => by
  simp only [opCmp, d _ _ hs]
  exact ⟨ok, q⟩
theorem cmpv_inL {α : Type} [Dat α] [DecidableEq α] {a : Addr} (x : α) (xs : List α) (hd : Dat.dep α ≤ 62) (hs : S a = some (.lst (xs.map toP))) : CmpV .In (toP x) (.loc a) S (decide (x ∈ xs)) := .mk fun S' d Q q => by
  simp only [opCmp, d _ _ hs]
  exact in_lst x xs hd q
theorem cmpv_ninL {α : Type} [Dat α] [DecidableEq α] {a : Addr} (x : α) (xs : List α) (hd : Dat.dep α ≤ 62) (hs : S a = some (.lst (xs.map toP))) : CmpV .NotIn (toP x) (.loc a) S (!decide (x ∈ xs)) := .mk fun S' d Q q => by
  simp only [opCmp, d _ _ hs]
  exact in_lst (k := fun b => Q (.bl (!b)) S') x xs hd q
theorem ev_get1 {a k : CE} {l : Addr} {kvs : List (P × P)} {p : P} (h1 : Ev G a ρ S (.loc l)) (h2 : Ev G k ρ S p) (hs : S l = some (.dct kvs)) (ok : okK kvs p = true) : Ev G (.bmt a .get [k]) ρ S ((valP kvs p).getD .non) := .mk fun E S' d Q q => by
  unfold wpE
  refine h1 E S' d _ fun S1 d1 => ⟨⟨l, kvs, rfl, d1 _ _ (d _ _ hs)⟩, ?_⟩
  refine evs_cons h2 evs_nil E S1 (d.trans d1) _ fun S2 d2 => ?_
  simp only [bmS, dctS, d2 _ _ (d1 _ _ (d _ _ hs))]
  exact ⟨ok, q S2 (d1.trans d2)⟩
theorem ev_get2 {a k c : CE} {l : Addr} {kvs : List (P × P)} {p y : P} (h1 : Ev G a ρ S (.loc l)) (h2 : Ev G k ρ S p) (h3 : Ev G c ρ S y) (hs : S l = some (.dct kvs)) (ok : okK kvs p = true) : Ev G (.bmt a .get [k, c]) ρ S ((valP kvs p).getD y) := .mk fun E S' d Q q => by
  unfold wpE
  refine h1 E S' d _ fun S1 d1 => ⟨⟨l, kvs, rfl, d1 _ _ (d _ _ hs)⟩, ?_⟩
  refine evs_cons h2 (evs_cons h3 evs_nil) E S1 (d.trans d1) _ fun S2 d2 => ?_
  simp only [bmS, dctS, d2 _ _ (d1 _ _ (d _ _ hs))]
  exact ⟨ok, q S2 (d1.trans d2)⟩
end
end Core
end
section
set_option maxRecDepth 100000
set_option maxHeartbeats 4000000
/-! CoreU: walks, comprehensions, blocks. -/
namespace Core
open PySem L2
open Dat (toP toD)
/-- what is walked: these items; the walk looks at Good again and again -/
structure Iter (k : IK) (vs : List P) (S : Store) (items : List P) (Good : Store → Prop) : Prop where
  run : ∀ S', SubS S S' → ∀ K : List P → (Store → Prop) → Prop, (∀ Gd : Store → Prop, (∀ S2, Good S2 → Gd S2) → items.length ≤ sizeLine → K items Gd) → iterS k vs S' K
instance {k : IK} {vs : List P} {S : Store} {items : List P} {Good : Store → Prop} : CoeFun (Iter k vs S items Good) (fun _ => ∀ S', SubS S S' → ∀ K : List P → (Store → Prop) → Prop, (∀ Gd : Store → Prop, (∀ S2, Good S2 → Gd S2) → items.length ≤ sizeLine → K items Gd) → iterS k vs S' K) := ⟨Iter.run⟩
def Any (_ : Store) : Prop := True
section
variable {G : Env} {ρ : Loc} {S S1 : Store} {E : QE} {Q : QP} {D : DE}
theorem it_tup {xs : List P} : Iter .seq [.tup xs] S xs Any := .mk fun S' d K h z => h _ (fun _ _ => trivial) z
theorem it_frl {xs : List P} : Iter .seq [.frl xs] S xs Any := .mk fun S' d K h z => h _ (fun _ _ => trivial) z
theorem it_lst {xs : List P} {a : Addr} (e : S a = some (.lst xs)) : Iter .seq [.loc a] S xs (fun S' => S' a = some (.lst xs)) := .mk fun S' d K h => by
  simp only [iterS, d _ _ e]
  exact fun z => h _ (fun S2 g => g) z
theorem it_zipT {xs ys : List P} : Iter .zip [.tup xs, .tup ys] S (zipP xs ys) Any := .mk fun S' d K h z => h _ (fun _ _ => trivial) (by unfold zipP; rw [List.length_map, List.length_zip]; omega)
theorem it_zipL {xs ys : List P} {a b : Addr} (e1 : S a = some (.lst xs)) (e2 : S b = some (.lst ys)) : Iter .zip [.loc a, .loc b] S (zipP xs ys) (fun S' => S' a = some (.lst xs) ∧ S' b = some (.lst ys)) := .mk fun S' d K h => by
  simp only [iterS, d _ _ e1, d _ _ e2]
  exact fun z => h _ (fun S2 g => g) (by unfold zipP; rw [List.length_map, List.length_zip]; omega)
theorem it_zipTL {xs ys : List P} {b : Addr} (e2 : S b = some (.lst ys)) : Iter .zip [.tup xs, .loc b] S (zipP xs ys) (fun S' => S' b = some (.lst ys)) := .mk fun S' d K h => by
  simp only [iterS, d _ _ e2]
  exact fun z => h _ (fun S2 g => g) (by unfold zipP; rw [List.length_map, List.length_zip]; omega)
theorem it_zipLT {xs ys : List P} {a : Addr} (e1 : S a = some (.lst xs)) : Iter .zip [.loc a, .tup ys] S (zipP xs ys) (fun S' => S' a = some (.lst xs)) := .mk fun S' d K h => by
  simp only [iterS, d _ _ e1]
  exact fun z => h _ (fun S2 g => g) (by unfold zipP; rw [List.length_map, List.length_zip]; omega)
theorem it_range {n : Nat} (hn : n ≤ sizeLine) : Iter .range [.int n] S ((List.range n).map fun (i : Nat) => P.int i) Any := .mk fun S' d K h => by
  simp only [iterS]
  have big := PySem.sizeLine_eq
  refine ⟨⟨by omega, by omega⟩, ?_⟩
  rw [Int.toNat_natCast]
  exact h _ (fun _ _ => trivial) (by rw [List.length_map, List.length_range]; exact hn)
theorem it_range2 {m n : Int} (h1 : -(2 ^ 62) ≤ m) (h2 : m < 2 ^ 62) (h3 : -(2 ^ 62) ≤ n) (h4 : n < 2 ^ 62) (h5 : n - m ≤ sizeLine) : Iter .range [.int m, .int n] S ((List.range (n - m).toNat).map fun (i : Nat) => P.int (m + i)) Any := .mk fun S' d K h => by
  simp only [iterS]
  exact ⟨⟨h1, h2, h3, h4, h5⟩, h _ (fun _ _ => trivial) (by rw [List.length_map, List.length_range]; omega)⟩
theorem it_down {m n : Int} (h1 : -(2 ^ 62) ≤ m) (h2 : m < 2 ^ 62) (h3 : -(2 ^ 62) ≤ n) (h4 : n < 2 ^ 62) (h5 : m - n ≤ sizeLine) : Iter .range3 [.int m, .int n, .int (-1)] S ((List.range (m - n).toNat).map fun (i : Nat) => P.int (m + (i : Nat) * (-1))) Any := .mk fun S' d K h => by
  unfold iterS
  refine ⟨⟨h1, h2, h3, h4, .inl ⟨rfl, h5⟩⟩, ?_⟩
  unfold steps3
  rw [if_pos rfl]
  exact h _ (fun _ _ => trivial) (by rw [List.length_map, List.length_range]; omega)
theorem it_enumT {xs : List P} : Iter .enum [.tup xs] S (xs.zipIdx.map fun p => P.tup [.int p.2, p.1]) Any := .mk fun S' d K h => by
  simp only [iterS]
  exact fun z => h _ (fun _ _ => trivial) (by simpa using z)
theorem it_enumL {xs : List P} {a : Addr} (e : S a = some (.lst xs)) : Iter .enum [.loc a] S (xs.zipIdx.map fun p => P.tup [.int p.2, p.1]) (fun S' => S' a = some (.lst xs)) := .mk fun S' d K h => by
  simp only [iterS, d _ _ e]
  exact fun z => h _ (fun S2 g => g) (by simpa using z)
/-- [elt for .. in ..]: typed items; the elements change nothing -/
theorem evf_cmpr {β : Type} {own : List Nat} {k : IK} {args : List CE} {tg : VT} {elt : CE} {vs : List P} {Good : Store → Prop} (xs : List β) (t : β → P) (f : β → P) (ha : Evs G args ρ S vs) (hw : Iter k vs S (xs.map t) Good) (hg : ∀ S', SubS S S' → Good S')
    (hb : ∀ x ∈ xs, wpVT tg (t x) (wipeP ρ own) fun ρ2 => Ev G elt ρ2 S (f x)) : EvF G (.cmpr own k args tg elt none) ρ S (xs.map f) := .mk fun E S' d Q q => by
  unfold wpE
  refine ha E S' d _ fun S1 d1 => hw S1 (d.trans d1) _ fun Gd gd _ a ha' => ?_
  have dS : ∀ {S2 : Store} {acc : List P}, SubS (S1.upd a (.lst acc)) S2 → SubS S S2 := fun h => (d.trans d1).trans ((SubS.upd ha').trans h)
  refine ⟨fun i acc S2 => acc = (xs.take i).map f ∧ SubS S1 S2 ∧ S2 a = some (.lst acc), ⟨by simp, .upd ha', Store.upd_same⟩, ?_, ?_⟩
  · rintro i x acc S2 hx ⟨rfl, d2, h2⟩ _
    rw [List.getElem?_map, Option.map_eq_some_iff] at hx
    obtain ⟨y, hy, rfl⟩ := hx
    refine ⟨gd _ (hg _ ((d.trans d1).trans d2)), wpVT_mono tg (fun ρ2 h => ?_) (hb y (List.mem_of_getElem? hy))⟩
    simp only [wpC, if_true]
    refine h noE S2 ((d.trans d1).trans d2) _ fun S3 d3 => ⟨d3 _ _ h2, ?_, ?_, Store.upd_same⟩
    · rw [List.take_add_one, hy]; simp
    · exact (d2.trans d3).updr ha'
  · rintro acc S2 ⟨rfl, d2, h2⟩ _
    refine ⟨gd _ (hg _ ((d.trans d1).trans d2)), q a S2 (d1.trans d2) (sub_none d1 ha') ?_⟩
    rw [h2, List.length_map, List.take_length]
/-- [elt for .. in .. if cond] -/
theorem evf_cmprIf {β : Type} {own : List Nat} {k : IK} {args : List CE} {tg : VT} {elt cond : CE} {vs : List P} {Good : Store → Prop} (xs : List β) (t : β → P) (c : β → Bool) (f : β → P) (ha : Evs G args ρ S vs) (hw : Iter k vs S (xs.map t) Good) (hg : ∀ S', SubS S S' → Good S')
    (hb : ∀ x ∈ xs, wpVT tg (t x) (wipeP ρ own) fun ρ2 => Ev G cond ρ2 S (.bl (c x)) ∧ (c x = true → Ev G elt ρ2 S (f x))) : EvF G (.cmpr own k args tg elt (some cond)) ρ S ((xs.filter c).map f) := .mk fun E S' d Q q => by
  unfold wpE
  refine ha E S' d _ fun S1 d1 => hw S1 (d.trans d1) _ fun Gd gd _ a ha' => ?_
  refine ⟨fun i acc S2 => acc = ((xs.take i).filter c).map f ∧ SubS S1 S2 ∧ S2 a = some (.lst acc), ⟨by simp, .upd ha', Store.upd_same⟩, ?_, ?_⟩
  · rintro i x acc S2 hx ⟨rfl, d2, h2⟩ _
    rw [List.getElem?_map, Option.map_eq_some_iff] at hx
    obtain ⟨y, hy, rfl⟩ := hx
    refine ⟨gd _ (hg _ ((d.trans d1).trans d2)), wpVT_mono tg (fun ρ2 h => ?_) (hb y (List.mem_of_getElem? hy))⟩
    obtain ⟨h1, h3⟩ := h
    unfold wpC
    refine h1 noE S2 ((d.trans d1).trans d2) _ fun S3 d3 => ?_
    show (if c y = true then _ else _)
    cases hc : c y with
    | true =>
      rw [if_pos rfl]
      refine h3 hc noE S3 (((d.trans d1).trans d2).trans d3) _ fun S4 d4 => ⟨d4 _ _ (d3 _ _ h2), ?_, ?_, Store.upd_same⟩
      · rw [List.take_add_one, hy]; simp [hc]
      · exact ((d2.trans d3).trans d4).updr ha'
    | false =>
      rw [if_neg (by simp)]
      refine ⟨?_, d2.trans d3, d3 _ _ h2⟩
      rw [List.take_add_one, hy]; simp [hc]
  · rintro acc S2 ⟨rfl, d2, h2⟩ _
    refine ⟨gd _ (hg _ ((d.trans d1).trans d2)), q a S2 (d1.trans d2) (sub_none d1 ha') ?_⟩
    rw [h2, List.length_map, List.take_length]
theorem ev_allC {β : Type} {own : List Nat} {k : IK} {args : List CE} {tg : VT} {elt : CE} {vs : List P} {Good : Store → Prop} (xs : List β) (t : β → P) (f : β → Bool) (ha : Evs G args ρ S vs) (hw : Iter k vs S (xs.map t) Good) (hg : ∀ S', SubS S S' → Good S')
    (hb : ∀ x ∈ xs, wpVT tg (t x) (wipeP ρ own) fun ρ2 => Ev G elt ρ2 S (.bl (f x))) : Ev G (.blt .all [.cmpr own k args tg elt none]) ρ S (.bl (xs.all f)) := by
  have h := evf_cmpr xs t (fun x => .bl (f x)) ha hw hg hb
  have e : xs.map (fun x => P.bl (f x)) = (xs.map f).map P.bl := by rw [List.map_map]; rfl
  rw [e] at h
  have h2 := ev_allL h.l
  have e2 : (xs.map f).all id = xs.all f := by rw [List.all_map]; rfl
  rw [e2] at h2
  exact h2
theorem ev_anyC {β : Type} {own : List Nat} {k : IK} {args : List CE} {tg : VT} {elt : CE} {vs : List P} {Good : Store → Prop} (xs : List β) (t : β → P) (f : β → Bool) (ha : Evs G args ρ S vs) (hw : Iter k vs S (xs.map t) Good) (hg : ∀ S', SubS S S' → Good S')
    (hb : ∀ x ∈ xs, wpVT tg (t x) (wipeP ρ own) fun ρ2 => Ev G elt ρ2 S (.bl (f x))) : Ev G (.blt .any [.cmpr own k args tg elt none]) ρ S (.bl (xs.any f)) := by
  have h := evf_cmpr xs t (fun x => .bl (f x)) ha hw hg hb
  have e : xs.map (fun x => P.bl (f x)) = (xs.map f).map P.bl := by rw [List.map_map]; rfl
  rw [e] at h
  have h2 := ev_anyL h.l
  have e2 : (xs.map f).any id = xs.any f := by rw [List.any_map]; rfl
  rw [e2] at h2
  exact h2
/-- False is not among bools -/
theorem ev_ninB {c : CE} {bs : List Bool} (h : EvL G c ρ S (bs.map P.bl)) : Ev G (.cmp .NotIn (.lit (.bl false)) c) ρ S (.bl (bs.all id)) := .mk fun E S' d Q q => by
  unfold wpE
  refine ev_lit (S := S) E S' d _ fun S1 d1 => h E S1 (d.trans d1) _ fun a S2 d2 h2 => ?_
  simp only [opCmp, h2]
  have den : ∀ l : List Bool, (l.map P.bl).mapM (dataS S2 62) = some (l.map PyData.bool) := fun l => by
    induction l with
    | nil => rfl
    | cons b l ih => rw [List.map_cons, List.mapM_cons, ih]; rfl
  refine ⟨.bool false, bs.map .bool, rfl, den bs, ?_⟩
  have e : ∀ bs : List Bool, (!(bs.map PyData.bool).any fun e => PyData.eqv e (.bool false)) = bs.all id := fun bs => by
    induction bs with
    | nil => rfl
    | cons b l ih =>
      rw [List.map_cons, List.any_cons, Bool.not_or, List.all_cons, ih]
      cases b <;> rfl
  show Q (.bl (!(bs.map PyData.bool).any fun e => PyData.eqv e (.bool false))) S2
  rw [e]
  exact q S2 (d1.trans d2)
theorem it_tupI {xs : List P} : Iter .seq [.tup xs] S (xs.map id) Any := by rw [List.map_id]; exact it_tup
theorem it_lstI {xs : List P} {a : Addr} (e : S a = some (.lst xs)) : Iter .seq [.loc a] S (xs.map id) (fun S' => S' a = some (.lst xs)) := by rw [List.map_id]; exact it_lst e
theorem good_any : ∀ S', SubS S S' → Any S' := fun _ _ => trivial
theorem good_lst {a : Addr} {xs : List P} (e : S a = some (.lst xs)) : ∀ S', SubS S S' → S' a = some (.lst xs) := fun S' d => d _ _ e
/-! ### blocks -/
variable {ss : List CS}
theorem bk_drop {b : List CS} (d : SubS S1 S) (h : wpB G b ρ S1 D) : wpB G b ρ S D := by
  cases b with
  | nil => unfold wpB at h ⊢; exact .drop d h
  | cons s ss => unfold wpB at h ⊢; exact .drop d h
theorem bk_opn {b : List CS} {a : Addr} {p : List P → Prop} (e : S a = some (.any p)) (h : ∀ xs, p xs → wpB G b ρ (S.upd a (.lst xs)) D) : wpB G b ρ S D := by
  cases b with
  | nil => unfold wpB at h ⊢; exact .opn e h
  | cons s ss => unfold wpB at h ⊢; exact .opn e h
theorem bk_cls {b : List CS} {a : Addr} {xs : List P} (p : List P → Prop) (e : S a = some (.lst xs)) (hp : p xs) (h : wpB G b ρ (S.upd a (.any p)) D) : wpB G b ρ S D := by
  cases b with
  | nil => unfold wpB at h ⊢; exact .cls p e hp h
  | cons s ss => unfold wpB at h ⊢; exact .cls p e hp h
theorem bk_nil (h : D.nx ρ S) : wpB G [] ρ S D := by unfold wpB; exact .here h
theorem bk_cons {s : CS} (h : wpS G s ρ S { D with nx := fun ρ' S' => wpB G ss ρ' S' D }) : wpB G (s :: ss) ρ S D := by unfold wpB; exact .here h
theorem bk_set {i : Nat} {c : CE} {p : P} (h : Ev G c ρ S p) (q : wpB G ss (ρ.set i (some p)) S D) : wpB G (.asg (.nm i) c :: ss) ρ S D := by
  refine bk_cons ?_
  unfold wpS
  refine h _ S (.refl S) _ fun S2 d2 => ?_
  unfold wpT
  exact bk_drop d2 q
/-- x = a new list -/
theorem bk_setF {i : Nat} {c : CE} {xs : List P} (h : EvF G c ρ S xs) (q : ∀ a, S a = none → wpB G ss (ρ.set i (some (.loc a))) (S.upd a (.lst xs)) D) : wpB G (.asg (.nm i) c :: ss) ρ S D := by
  refine bk_cons ?_
  unfold wpS
  refine h _ S (.refl S) _ fun a S2 d2 ha h2 => ?_
  unfold wpT
  exact bk_drop (d2.into h2 ha) (q a ha)
/-- x = {..} -/
theorem bk_setD {i : Nat} {cs : List CE} {ps : List P} (h : Evs G cs ρ S ps) (hf : ((pairsP ps).all fun kv => flK kv.1) = true) (q : ∀ a, S a = none → wpB G ss (ρ.set i (some (.loc a))) (S.upd a (.dct ((pairsP ps).foldl (fun m kv => putP m kv.1 kv.2) []))) D) : wpB G (.asg (.nm i) (.dct cs) :: ss) ρ S D := by
  refine bk_cons ?_
  unfold wpS wpE
  intro a ha
  refine h _ _ (.upd ha) _ fun S2 d2 => ⟨d2 _ _ Store.upd_same, .inl hf, ?_⟩
  unfold wpT
  refine bk_drop (S1 := S.upd a _) ?_ (q a ha)
  exact d2.re
/-- x = {t: v, ..}, the keys being tuples -/
theorem bk_setDT {i : Nat} {cs : List CE} {ps : List P} (h : Evs G cs ρ S ps) (hn : pairsP ps ≠ []) (hf : ((pairsP ps).all fun kv => tuK kv.1) = true) (q : ∀ a, S a = none → wpB G ss (ρ.set i (some (.loc a))) (S.upd a (.dct ((pairsP ps).foldl (fun m kv => putP m kv.1 kv.2) []))) D) : wpB G (.asg (.nm i) (.dct cs) :: ss) ρ S D := by
  refine bk_cons ?_
  unfold wpS wpE
  intro a ha
  refine h _ _ (.upd ha) _ fun S2 d2 => ⟨d2 _ _ Store.upd_same, .inr ⟨hn, hf⟩, ?_⟩
  unfold wpT
  refine bk_drop (S1 := S.upd a _) ?_ (q a ha)
  exact d2.re
theorem bk_exp {c : CE} {p : P} (h : Ev G c ρ S p) (q : wpB G ss ρ S D) : wpB G (.exp c :: ss) ρ S D := by
  refine bk_cons ?_
  unfold wpS
  exact h _ S (.refl S) _ fun S2 d2 => bk_drop d2 q
theorem bk_pass (q : wpB G ss ρ S D) : wpB G (.pass :: ss) ρ S D := bk_cons (by unfold wpS; exact q)
/-- a value or an error -/
theorem bk_setR {i : Nat} {c : CE} {r : Res} (h : EvR G c ρ S r) (q : ∀ p, r = .ok p → wpB G ss (ρ.set i (some p)) S D) (e : ∀ x, r = .error x → ∀ S2, SubS S S2 → D.ex x S2) : wpB G (.asg (.nm i) c :: ss) ρ S D := by
  refine bk_cons ?_
  unfold wpS
  refine h S (.refl S) _ _ fun S2 d2 => ?_
  cases r with
  | ok p => show wpT G _ p ρ S2 _ _; unfold wpT; exact bk_drop d2 (q p rfl)
  | error x => exact e x rfl S2 d2
theorem bk_expR {c : CE} {r : Res} (h : EvR G c ρ S r) (q : ∀ p, r = .ok p → wpB G ss ρ S D) (e : ∀ x, r = .error x → ∀ S2, SubS S S2 → D.ex x S2) : wpB G (.exp c :: ss) ρ S D := by
  refine bk_cons ?_
  unfold wpS
  refine h S (.refl S) _ _ fun S2 d2 => ?_
  cases r with
  | ok p => exact bk_drop d2 (q p rfl)
  | error x => exact e x rfl S2 d2
theorem bk_retR {c : CE} {r : Res} (h : EvR G c ρ S r) (q : ∀ S2, SubS S S2 → fin r D.rt D.ex S2) : wpB G (.ret c :: ss) ρ S D := by
  refine bk_cons ?_
  unfold wpS
  exact h S (.refl S) _ _ q
theorem bk_ret {c : CE} {p : P} (h : Ev G c ρ S p) (q : ∀ S2, SubS S S2 → D.rt p S2) : wpB G (.ret c :: ss) ρ S D := by
  refine bk_cons ?_
  unfold wpS
  exact h _ S (.refl S) _ q
theorem bk_retF {c : CE} {xs : List P} (h : EvF G c ρ S xs) (q : ∀ a, S a = none → ∀ S2, SubS (S.upd a (.lst xs)) S2 → D.rt (.loc a) S2) : wpB G (.ret c :: ss) ρ S D := by
  refine bk_cons ?_
  unfold wpS
  exact h _ S (.refl S) _ fun a S2 d2 ha h2 => q a ha S2 (d2.into h2 ha)
theorem bk_if {c : CE} {a b : List CS} {x : Bool} (h : Ev G c ρ S (.bl x)) (h1 : x = true → wpB G a ρ S { D with nx := fun ρ' S' => wpB G ss ρ' S' D }) (h2 : x = false → wpB G b ρ S { D with nx := fun ρ' S' => wpB G ss ρ' S' D }) : wpB G (.if_ c a b :: ss) ρ S D := by
  refine bk_cons ?_
  unfold wpS
  refine h _ S (.refl S) _ fun S2 d2 => ?_
  cases x with
  | true => exact bk_drop d2 (h1 rfl)
  | false => exact bk_drop d2 (h2 rfl)
/-- if c: .. without else -/
theorem bk_if1 {c : CE} {a : List CS} {x : Bool} (h : Ev G c ρ S (.bl x)) (h1 : x = true → wpB G a ρ S { D with nx := fun ρ' S' => wpB G ss ρ' S' D }) (h2 : x = false → wpB G ss ρ S D) : wpB G (.if_ c a [] :: ss) ρ S D :=
  bk_if h h1 fun e => bk_nil (h2 e)
/-- the test is known to fail -/
theorem bk_no {c : CE} {a : List CS} (h : Ev G c ρ S (.bl false)) (h2 : wpB G ss ρ S D) : wpB G (.if_ c a [] :: ss) ρ S D :=
  bk_if h (fun e => by cases e) fun _ => bk_nil h2
theorem bk_noX {c : CE} {a : List CS} {x : Bool} (h : Ev G c ρ S (.bl x)) (hx : x = false) (h2 : wpB G ss ρ S D) : wpB G (.if_ c a [] :: ss) ρ S D := by subst hx; exact bk_no h h2
theorem bk_yesX {c : CE} {a b : List CS} {x : Bool} (h : Ev G c ρ S (.bl x)) (hx : x = true) (h2 : wpB G a ρ S { D with nx := fun ρ' S' => wpB G ss ρ' S' D }) : wpB G (.if_ c a b :: ss) ρ S D := by subst hx; exact bk_if h (fun _ => h2) fun e => by cases e
/-- the truth of a value that is no bool -/
theorem bk_ifT {c : CE} {a b : List CS} {p : P} {x : Bool} (h : Ev G c ρ S p) (ht : ∀ S', SubS S S' → truthS S' p = some x) (h1 : x = true → wpB G a ρ S { D with nx := fun ρ' S' => wpB G ss ρ' S' D }) (h2 : x = false → wpB G b ρ S { D with nx := fun ρ' S' => wpB G ss ρ' S' D }) : wpB G (.if_ c a b :: ss) ρ S D := by
  refine bk_cons ?_
  unfold wpS
  refine h _ S (.refl S) _ fun S2 d2 => ?_
  rw [ht S2 d2]
  cases x with
  | true => exact bk_drop d2 (h1 rfl)
  | false => exact bk_drop d2 (h2 rfl)
theorem bk_unpack {ts : List Tgt} {c : CE} {ps : List P} (h : Ev G c ρ S (.tup ps)) (hl : ps.length = ts.length) (q : ∀ S2, SubS S S2 → wpTs G ts ps ρ S2 (fun ρ' S' => wpB G ss ρ' S' D) D.ex) : wpB G (.asg (.tup ts) c :: ss) ρ S D := by
  refine bk_cons ?_
  unfold wpS
  refine h _ S (.refl S) _ fun S2 d2 => ?_
  unfold wpT
  exact ⟨hl, q S2 d2⟩
/-- names alone -/
def tgN : List Tgt → Option (List Nat)
  | [] => some []
  | .nm i :: r => (tgN r).map (i :: ·)
  | _ :: _ => none
theorem wpTs_names : ∀ {ts : List Tgt} {is : List Nat} {ps : List P} {ρ : Loc} {S : Store} {Q : Loc → Store → Prop} {E : QE}, tgN ts = some is → ps.length = ts.length → Q (setAll ρ is ps) S → wpTs G ts ps ρ S Q E
  | [], is, ps, ρ, S, Q, E, h, hl, q => by
    cases h
    have : ps = [] := List.eq_nil_of_length_eq_zero hl
    subst this
    unfold wpTs
    exact q
  | .nm i :: r, is, ps, ρ, S, Q, E, h, hl, q => by
    simp only [tgN, Option.map_eq_some_iff] at h
    obtain ⟨js, h1, rfl⟩ := h
    cases ps with
    | nil => simp at hl
    | cons p ps =>
      unfold wpTs wpT
      exact wpTs_names h1 (by simpa using hl) q
  | .tup _ :: _, is, ps, ρ, S, Q, E, h, hl, q => by simp [tgN] at h
  | .sub _ _ :: _, is, ps, ρ, S, Q, E, h, hl, q => by simp [tgN] at h
  | .fld _ _ :: _, is, ps, ρ, S, Q, E, h, hl, q => by simp [tgN] at h
theorem bk_unpackN {ts : List Tgt} {is : List Nat} {c : CE} {ps : List P} (h : Ev G c ρ S (.tup ps)) (hn : tgN ts = some is) (hl : ps.length = ts.length) (q : wpB G ss (setAll ρ is ps) S D) : wpB G (.asg (.tup ts) c :: ss) ρ S D :=
  bk_unpack h hl fun S2 d2 => wpTs_names hn hl (bk_drop d2 q)
theorem bk_par {is : List Nat} {es : List CE} {ps : List P} (h : Evs G es ρ S ps) (q : wpB G ss (setAll ρ is ps) S D) : wpB G (.par is es :: ss) ρ S D := by
  refine bk_cons ?_
  unfold wpS
  exact h _ S (.refl S) _ fun S2 d2 => bk_drop d2 q
theorem bk_aug {i : Nat} {op : Operator} {e : CE} {x y : Int} {z : P} (hi : ρ[i]? = some (some (.int x))) (h : Ev G e ρ S (.int y)) (ho : ∀ S' (Q : QP), Q z S' → opAug op (.int x) (.int y) S' Q) (q : wpB G ss (ρ.set i (some z)) S D) : wpB G (.aug i op e :: ss) ρ S D := by
  refine bk_cons ?_
  unfold wpS
  rw [hi]
  exact h _ S (.refl S) _ fun S2 d2 => ho _ _ (bk_drop d2 q)
/-- list.append(e) -/
theorem bk_append {c e : CE} {a : Addr} {xs : List P} {p : P} (h1 : Ev G c ρ S (.loc a)) (h2 : Ev G e ρ S p) (hs : S a = some (.lst xs)) (hl : xs.length < sizeLine) (q : wpB G ss ρ (S.upd a (.lst (xs ++ [p]))) D) : wpB G (.exp (.bmt c .append [e]) :: ss) ρ S D := by
  refine bk_cons ?_
  unfold wpS wpE
  refine h1 _ S (.refl S) _ fun S1 d1 => ⟨⟨a, xs, rfl, d1 _ _ hs⟩, ?_⟩
  refine evs_cons h2 evs_nil _ S1 d1 _ fun S2 d2 => ?_
  simp only [bmS, lstS, d2 _ _ (d1 _ _ hs)]
  exact ⟨hl, bk_drop ((d1.trans d2).both a _) q⟩

/-- a[i] = e, in a list -/
theorem bk_put {a c e : CE} {l : Addr} {xs : List P} {n : Int} {j : Nat} {p : P} (h0 : Ev G e ρ S p) (h1 : Ev G a ρ S (.loc l)) (h2 : Ev G c ρ S (.int n)) (hs : S l = some (.lst xs)) (hj : ixN xs.length n = some j) (q : wpB G ss ρ (S.upd l (.lst (xs.set j p))) D) : wpB G (.asg (.sub a c) e :: ss) ρ S D := by
  refine bk_cons ?_
  unfold wpS
  refine h0 _ S (.refl S) _ fun S1 d1 => ?_
  unfold wpT
  refine h1 _ S1 d1 _ fun S2 d2 => h2 _ S2 (d1.trans d2) _ fun S3 d3 => ?_
  simp only [putS, dctS, lstS, d3 _ _ (d2 _ _ (d1 _ _ hs))]
  exact fun _ => ⟨j, hj, bk_drop (((d1.trans d2).trans d3).both l _) q⟩
/-- d[k] = e, in a dict -/
theorem bk_putD {a c e : CE} {l : Addr} {kvs : List (P × P)} {k p : P} (h0 : Ev G e ρ S p) (h1 : Ev G a ρ S (.loc l)) (h2 : Ev G c ρ S k) (hs : S l = some (.dct kvs)) (ok : okK kvs k = true) (hl : kvs.length < sizeLine) (q : wpB G ss ρ (S.upd l (.dct (putP kvs k p))) D) : wpB G (.asg (.sub a c) e :: ss) ρ S D := by
  refine bk_cons ?_
  unfold wpS
  refine h0 _ S (.refl S) _ fun S1 d1 => ?_
  unfold wpT
  refine h1 _ S1 d1 _ fun S2 d2 => h2 _ S2 (d1.trans d2) _ fun S3 d3 => ?_
  simp only [putS, dctS, d3 _ _ (d2 _ _ (d1 _ _ hs))]
  exact ⟨ok, hl, bk_drop (((d1.trans d2).trans d3).both l _) q⟩
/-- d[k] = a new list -/
theorem bk_putDF {a c e : CE} {l : Addr} {kvs : List (P × P)} {k : P} {xs : List P} (h0 : EvF G e ρ S xs) (h1 : Ev G a ρ S (.loc l)) (h2 : Ev G c ρ S k) (hs : S l = some (.dct kvs)) (ok : okK kvs k = true) (hl : kvs.length < sizeLine) (q : ∀ b, S b = none → wpB G ss ρ ((S.upd b (.lst xs)).upd l (.dct (putP kvs k (.loc b)))) D) : wpB G (.asg (.sub a c) e :: ss) ρ S D := by
  refine bk_cons ?_
  unfold wpS
  refine h0 _ S (.refl S) _ fun b S1 d1 hb e1 => ?_
  unfold wpT
  refine h1 _ S1 d1 _ fun S2 d2 => h2 _ S2 (d1.trans d2) _ fun S3 d3 => ?_
  simp only [putS, dctS, d3 _ _ (d2 _ _ (d1 _ _ hs))]
  exact ⟨ok, hl, bk_drop ((((d1.into e1 hb).trans d2).trans d3).both l _) (q b hb)⟩
/-- o.f = e -/
theorem bk_fld {a e : CE} {l : Addr} {c f : Nat} {fs : List (Nat × P)} {p : P} (h0 : Ev G e ρ S p) (h1 : Ev G a ρ S (.loc l)) (hs : S l = some (.ins c fs)) (hl : fs.length < 1000) (q : wpB G ss ρ (S.upd l (.ins c (putN f p fs))) D) : wpB G (.asg (.fld a f) e :: ss) ρ S D := by
  refine bk_cons ?_
  unfold wpS
  refine h0 _ S (.refl S) _ fun S1 d1 => ?_
  unfold wpT
  refine h1 _ S1 d1 _ fun S2 d2 => ?_
  simp only [d2 _ _ (d1 _ _ hs)]
  exact ⟨hl, bk_drop ((d1.trans d2).both l _) q⟩
/-- o.f = a new list -/
theorem bk_fldF {a e : CE} {l : Addr} {c f : Nat} {fs : List (Nat × P)} {xs : List P} (h0 : EvF G e ρ S xs) (h1 : Ev G a ρ S (.loc l)) (hs : S l = some (.ins c fs)) (hl : fs.length < 1000) (q : ∀ b, S b = none → wpB G ss ρ ((S.upd b (.lst xs)).upd l (.ins c (putN f (.loc b) fs))) D) : wpB G (.asg (.fld a f) e :: ss) ρ S D := by
  refine bk_cons ?_
  unfold wpS
  refine h0 _ S (.refl S) _ fun b S1 d1 hb e1 => ?_
  unfold wpT
  refine h1 _ S1 d1 _ fun S2 d2 => ?_
  simp only [d2 _ _ (d1 _ _ hs)]
  exact ⟨hl, bk_drop (((d1.into e1 hb).trans d2).both l _) (q b hb)⟩
theorem bk_augF {a e : CE} {l : Addr} {op : Operator} {c f : Nat} {fs : List (Nat × P)} {x y : Int} {z : P} (h1 : Ev G a ρ S (.loc l)) (hs : S l = some (.ins c fs)) (hf : fs.lookup f = some (.int x)) (h2 : Ev G e ρ S (.int y)) (ho : ∀ S' (Q : QP), Q z S' → opAug op (.int x) (.int y) S' Q) (hl : fs.length < 1000) (q : wpB G ss ρ (S.upd l (.ins c (putN f z fs))) D) : wpB G (.augF a f op e :: ss) ρ S D := by
  refine bk_cons ?_
  unfold wpS
  refine h1 _ S (.refl S) _ fun S1 d1 => ?_
  simp only [d1 _ _ hs, hf]
  refine h2 _ S1 d1 _ fun S2 d2 => ho _ _ ?_
  simp only [d2 _ _ (d1 _ _ hs)]
  exact ⟨⟨trivial, hl⟩, bk_drop ((d1.trans d2).both l _) q⟩
/-- a[i] op= e, in a list of ints -/
theorem bk_augI {a i e : CE} {l : Addr} {op : Operator} {xs : List P} {n x y : Int} {j : Nat} {z : P} (h1 : Ev G a ρ S (.loc l)) (h2 : Ev G i ρ S (.int n)) (hs : S l = some (.lst xs)) (hx : atI xs n = some (.int x)) (hj : ixN xs.length n = some j) (h3 : Ev G e ρ S (.int y)) (ho : ∀ S' (Q : QP), Q z S' → opAug op (.int x) (.int y) S' Q) (q : wpB G ss ρ (S.upd l (.lst (xs.set j z))) D) : wpB G (.augI a i op e :: ss) ρ S D := by
  refine bk_cons ?_
  unfold wpS
  refine h1 _ S (.refl S) _ fun S1 d1 => h2 _ S1 d1 _ fun S2 d2 => ?_
  simp only [getS, dctS, lstS, d2 _ _ (d1 _ _ hs)]
  intro _
  refine ⟨_, hx, h3 _ S2 (d1.trans d2) _ fun S3 d3 => ho _ _ ?_⟩
  simp only [putS, dctS, lstS, d3 _ _ (d2 _ _ (d1 _ _ hs))]
  exact fun _ => ⟨j, hj, bk_drop (((d1.trans d2).trans d3).both l _) q⟩
/-- l.pop() -/
theorem bk_pop {c : CE} {a : Addr} {xs : List P} {p : P} (h1 : Ev G c ρ S (.loc a)) (hs : S a = some (.lst (xs ++ [p]))) (q : wpB G ss ρ (S.upd a (.lst xs)) D) : wpB G (.exp (.bmt c .pop []) :: ss) ρ S D := by
  refine bk_cons ?_
  unfold wpS wpE
  refine h1 _ S (.refl S) _ fun S1 d1 => ⟨⟨a, _, rfl, d1 _ _ hs⟩, ?_⟩
  unfold wpEs
  simp only [bmS, lstS, d1 _ _ hs]
  refine ⟨p, by simp, ?_⟩
  rw [List.dropLast_concat]
  exact bk_drop (d1.both a _) q
theorem bk_setPop {i : Nat} {c : CE} {a : Addr} {xs : List P} {p : P} (h1 : Ev G c ρ S (.loc a)) (hs : S a = some (.lst (xs ++ [p]))) (q : wpB G ss (ρ.set i (some p)) (S.upd a (.lst xs)) D) : wpB G (.asg (.nm i) (.bmt c .pop []) :: ss) ρ S D := by
  refine bk_cons ?_
  unfold wpS wpE
  refine h1 _ S (.refl S) _ fun S1 d1 => ⟨⟨a, _, rfl, d1 _ _ hs⟩, ?_⟩
  unfold wpEs
  simp only [bmS, lstS, d1 _ _ hs]
  refine ⟨p, by simp, ?_⟩
  rw [List.dropLast_concat]
  unfold wpT
  exact bk_drop (d1.both a _) q
theorem bk_extend {c e : CE} {a : Addr} {xs ys : List P} (h1 : Ev G c ρ S (.loc a)) (h2 : EvL G e ρ S ys) (hs : S a = some (.lst xs)) (hl : xs.length + ys.length ≤ sizeLine) (q : wpB G ss ρ (S.upd a (.lst (xs ++ ys))) D) : wpB G (.exp (.bmt c .extend [e]) :: ss) ρ S D := by
  refine bk_cons ?_
  unfold wpS wpE
  refine h1 _ S (.refl S) _ fun S1 d1 => ⟨⟨a, xs, rfl, d1 _ _ hs⟩, ?_⟩
  unfold wpEs
  refine h2 _ S1 d1 _ fun b S2 d2 hb => ?_
  unfold wpEs
  simp only [bmS, lstS, d2 _ _ (d1 _ _ hs), hb]
  exact ⟨hl, bk_drop ((d1.trans d2).both a _) q⟩
theorem bk_rse0 {c : Nat} (hx : G.xc c = some none) (hl : 2 ≤ G.lv) (q : D.ex ⟨c, []⟩ S) : wpB G (.rse c [] :: ss) ρ S D := by
  refine bk_cons ?_
  unfold wpS wpEs
  refine ⟨hl, ?_⟩
  rw [hx]
  exact q
theorem bk_rse1 {c f : Nat} {e : CE} {v : P} (hx : G.xc c = some (some f)) (hl : 2 ≤ G.lv) (h : Ev G e ρ S v) (q : ∀ S2, SubS S S2 → D.ex ⟨c, [(f, v)]⟩ S2) : wpB G (.rse c [e] :: ss) ρ S D := by
  refine bk_cons ?_
  unfold wpS wpEs wpEs
  refine ⟨hl, h _ S (.refl S) _ fun S2 d2 => ?_⟩
  rw [hx]
  exact q S2 d2
theorem bk_try {b : List CS} {hs : List (Nat × Option Nat × HS)} (h : wpB G b ρ S { D with nx := fun ρ' S' => wpB G ss ρ' S' D, ex := fun ex S' => wpH hs { D with nx := fun ρ' S' => wpB G ss ρ' S' D } ρ ex S' }) : wpB G (.try_ b hs :: ss) ρ S D := by
  refine bk_cons ?_
  unfold wpS
  exact h
theorem bk_brk (h : D.bk ρ S) : wpB G (.brk :: ss) ρ S D := bk_cons (by unfold wpS; exact h)
theorem bk_cnt (h : D.ct ρ S) : wpB G (.cnt :: ss) ρ S D := bk_cons (by unfold wpS; exact h)
theorem bk_retN (h : D.rt .non S) : wpB G (.retN :: ss) ρ S D := bk_cons (by unfold wpS; exact h)
/-- what is looked at again and again stays true where more is told -/
def Up (Good : Store → Prop) : Prop := ∀ S S', SubS S S' → Good S → Good S'
theorem up_any : Up Any := fun _ _ _ _ => trivial
theorem up_lst {a : Addr} {o : MO} : Up (fun S => S a = some o) := fun _ _ d h => d _ _ h
/-- a walk: what stays true, turn by turn -/
theorem bk_for {β : Type} {k : IK} {args : List CE} {tg : VT} {b : List CS} {vs : List P} {Good : Store → Prop} (xs : List β) (t : β → P) (I : Nat → Loc → Store → Prop) (ha : Evs G args ρ S vs) (hw : Iter k vs S (xs.map t) Good) (up : Up Good) (hg : ∀ i ρ' S', I i ρ' S' → Good S') (h0 : I 0 ρ S)
    (step : ∀ i x ρ' S', xs[i]? = some x → I i ρ' S' → wpVT tg (t x) ρ' fun ρ2 => wpB G b ρ2 S' { D with nx := I (i + 1), ct := I (i + 1), bk := fun ρ' S' => wpB G ss ρ' S' D }) (fin : ∀ ρ' S', I xs.length ρ' S' → wpB G ss ρ' S' D) (gm : GMono G) : wpB G (.for_ k args tg b :: ss) ρ S D := by
  refine bk_cons ?_
  unfold wpS
  refine ha _ S (.refl S) _ fun S1 d1 => hw S1 d1 _ fun Gd gd _ => ?_
  refine ⟨fun i ρ' S' => ∃ S0, SubS S0 S' ∧ I i ρ' S0, ⟨S, d1, h0⟩, ?_, ?_⟩
  · rintro i x ρ' S' hx ⟨S0, d0, hI⟩
    rw [List.getElem?_map, Option.map_eq_some_iff] at hx
    obtain ⟨y, hy, rfl⟩ := hx
    refine ⟨gd _ (up _ _ d0 (hg _ _ _ hI)), wpVT_mono tg (fun ρ2 h => ?_) (step i y ρ' S0 hy hI)⟩
    refine bk_drop d0 (wpB_mono gm b ?_ h)
    exact ⟨fun _ S2 h => ⟨S2, .refl _, h⟩, fun _ _ h => h, fun _ _ h => h, fun _ S2 h => ⟨S2, .refl _, h⟩, fun _ _ h => h⟩
  · rintro ρ' S' ⟨S0, d0, hI⟩
    rw [List.length_map] at hI
    exact ⟨gd _ (up _ _ d0 (hg _ _ _ hI)), bk_drop d0 (fin ρ' S0 hI)⟩
/-- a walk over a new list -/
theorem bk_forF {β : Type} {arg : CE} {tg : VT} {b : List CS} (xs : List β) (t : β → P) (I : Addr → Nat → Loc → Store → Prop) (ha : EvF G arg ρ S (xs.map t)) (hg : ∀ a i ρ' S', I a i ρ' S' → S' a = some (.lst (xs.map t))) (h0 : ∀ a, S a = none → I a 0 ρ (S.upd a (.lst (xs.map t))))
    (step : ∀ a i x ρ' S', S a = none → xs[i]? = some x → I a i ρ' S' → wpVT tg (t x) ρ' fun ρ2 => wpB G b ρ2 S' { D with nx := I a (i + 1), ct := I a (i + 1), bk := fun ρ' S' => wpB G ss ρ' S' D }) (fin : ∀ a ρ' S', S a = none → I a xs.length ρ' S' → wpB G ss ρ' S' D) (gm : GMono G) : wpB G (.for_ .seq [arg] tg b :: ss) ρ S D := by
  refine bk_cons ?_
  unfold wpS wpEs
  refine ha _ S (.refl S) _ fun a S1 d1 hn h1 => ?_
  unfold wpEs
  refine it_lst h1 S1 (.refl S1) _ fun Gd gd _ => ?_
  refine ⟨fun i ρ' S' => ∃ S0, SubS S0 S' ∧ I a i ρ' S0, ⟨_, d1.into h1 hn, h0 a hn⟩, ?_, ?_⟩
  · rintro i x ρ' S' hx ⟨S0, d0, hI⟩
    rw [List.getElem?_map, Option.map_eq_some_iff] at hx
    obtain ⟨y, hy, rfl⟩ := hx
    refine ⟨gd _ (d0 _ _ (hg _ _ _ _ hI)), wpVT_mono tg (fun ρ2 h => ?_) (step a i y ρ' S0 hn hy hI)⟩
    refine bk_drop d0 (wpB_mono gm b ?_ h)
    exact ⟨fun _ S2 h => ⟨S2, .refl _, h⟩, fun _ _ h => h, fun _ _ h => h, fun _ S2 h => ⟨S2, .refl _, h⟩, fun _ _ h => h⟩
  · rintro ρ' S' ⟨S0, d0, hI⟩
    rw [List.length_map] at hI
    exact ⟨gd _ (d0 _ _ (hg _ _ _ _ hI)), bk_drop d0 (fin a ρ' S0 hn hI)⟩
theorem bk_while {c : CE} {b : List CS} (I : Loc → Store → Prop) (μ : Loc → Store → Nat) (h0 : I ρ S) (step : ∀ ρ' S', I ρ' S' → wpE G c ρ' S' (fun p S1 => ∃ x, p = .bl x ∧ (x = true → wpB G b ρ' S1 { D with nx := fun ρ2 S2 => I ρ2 S2 ∧ μ ρ2 S2 < μ ρ' S', ct := fun ρ2 S2 => I ρ2 S2 ∧ μ ρ2 S2 < μ ρ' S', bk := fun ρ' S' => wpB G ss ρ' S' D }) ∧ (x = false → wpB G ss ρ' S1 D)) D.ex) (gm : GMono G) : wpB G (.whl c b :: ss) ρ S D := by
  refine bk_cons ?_
  unfold wpS
  refine ⟨I, μ, h0, fun ρ' S' hi => wpE_mono gm c (fun x S1 h => ?_) (fun _ _ h => h) (step ρ' S' hi)⟩
  obtain ⟨t, rfl, h1, h2⟩ := h
  cases t with
  | true => exact h1 rfl
  | false => exact h2 rfl
/-- a test that changes nothing -/
theorem while_ev {c : CE} {b : List CS} {x : Bool} {D1 D2 : DE} (h : Ev G c ρ S (.bl x)) (h1 : x = true → wpB G b ρ S D1) (h2 : x = false → wpB G ss ρ S D2) : wpE G c ρ S (fun p S1 => ∃ x, p = .bl x ∧ (x = true → wpB G b ρ S1 D1) ∧ (x = false → wpB G ss ρ S1 D2)) E :=
  h E S (.refl S) _ fun S2 d2 => ⟨x, rfl, fun e => bk_drop d2 (h1 e), fun e => bk_drop d2 (h2 e)⟩
end
/-! ### defs -/
section
variable {Df : Defs} {S S1 : Store} {Q : QP} {E : QE} {D : DE}
/-- a def, from its body -/
theorem fn_start {k i : Nat} {d : FD} {ps : List P} (hd : Df.fns[i]? = some d) (hl : ps.length = d.pars) (h : wpB (envAt Df k) d.body (startP d.slots ps) S (DE.fn Q E)) : (envAt Df (k + 1)).fn i ps S Q E := by
  rw [env_fn hd]
  exact ⟨hl, h⟩
theorem runFD_drop {G : Env} {d : FD} {ps : List P} (dd : SubS S1 S) (h : runFD G d ps S1 Q E) : runFD G d ps S Q E := ⟨h.1, bk_drop dd h.2⟩
theorem fn_drop {k i : Nat} {ps : List P} (dd : SubS S1 S) (h : (envAt Df k).fn i ps S1 Q E) : (envAt Df k).fn i ps S Q E := by
  cases k with
  | zero => rw [env_0] at h; exact h.elim
  | succ k =>
    rw [env_1] at h ⊢
    simp only [mkEnv] at h ⊢
    split at h
    · exact runFD_drop dd h
    · exact h.elim
theorem mth_drop {k c m : Nat} {ps : List P} (dd : SubS S1 S) (h : (envAt Df k).mth c m ps S1 Q E) : (envAt Df k).mth c m ps S Q E := by
  cases k with
  | zero => rw [env_0] at h; exact h.elim
  | succ k =>
    rw [env_1] at h ⊢
    simp only [mkEnv] at h ⊢
    split at h
    · exact runFD_drop dd h
    · exact h.elim
theorem mth_start {k c m : Nat} {d : FD} {ps : List P} (hd : Df.mth c m = some d) (hl : ps.length = d.pars) (h : wpB (envAt Df k) d.body (startP d.slots ps) S (DE.fn Q E)) : (envAt Df (k + 1)).mth c m ps S Q E := by
  rw [env_mth hd]
  exact ⟨hl, h⟩
variable {k : Nat} {ρ : Loc} {ss : List CS}
/-- x = f(..), whatever f does -/
theorem bk_setC {i f : Nat} {es : List CE} {ps : List P} (h : Evs (envAt Df k) es ρ S ps) (q : (envAt Df k).fn f ps S (fun p S' => wpB (envAt Df k) ss (ρ.set i (some p)) S' D) D.ex) : wpB (envAt Df k) (.asg (.nm i) (.call f es) :: ss) ρ S D := by
  refine bk_cons ?_
  unfold wpS wpE
  refine h _ S (.refl S) _ fun S2 d2 => fn_drop d2 ?_
  refine (env_mono Df k).fn f _ _ _ _ _ _ (fun p S' h => ?_) (fun _ _ h => h) q
  unfold wpT
  exact h
theorem bk_expC {f : Nat} {es : List CE} {ps : List P} (h : Evs (envAt Df k) es ρ S ps) (q : (envAt Df k).fn f ps S (fun _ S' => wpB (envAt Df k) ss ρ S' D) D.ex) : wpB (envAt Df k) (.exp (.call f es) :: ss) ρ S D := by
  refine bk_cons ?_
  unfold wpS wpE
  exact h _ S (.refl S) _ fun S2 d2 => fn_drop d2 q
theorem bk_retC {f : Nat} {es : List CE} {ps : List P} (h : Evs (envAt Df k) es ρ S ps) (q : (envAt Df k).fn f ps S D.rt D.ex) : wpB (envAt Df k) (.ret (.call f es) :: ss) ρ S D := by
  refine bk_cons ?_
  unfold wpS wpE
  exact h _ S (.refl S) _ fun S2 d2 => fn_drop d2 q
/-- a call as a part of an expression -/
theorem cps_call {f : Nat} {es : List CE} {ps : List P} (h : Evs (envAt Df k) es ρ S ps) (q : (envAt Df k).fn f ps S Q E) : wpE (envAt Df k) (.call f es) ρ S Q E := by
  unfold wpE
  exact h _ S (.refl S) _ fun S2 d2 => fn_drop d2 q
theorem cps_cvar {i f : Nat} {es : List CE} {ps : List P} (hi : ρ[i]? = some (some (.fn f))) (h : Evs (envAt Df k) es ρ S ps) (q : (envAt Df k).fn f ps S Q E) : wpE (envAt Df k) (.cvar i es) ρ S Q E := by
  unfold wpE
  rw [hi]
  exact h _ S (.refl S) _ fun S2 d2 => fn_drop d2 q
/-- a method's call -/
theorem cps_mth {a : CE} {m : Nat} {es : List CE} {ps : List P} {l : Addr} {c : Nat} {fs : List (Nat × P)} (h0 : Ev (envAt Df k) a ρ S (.loc l)) (hs : S l = some (.ins c fs)) (hm : (Df.mth c m).isSome = true) (h : Evs (envAt Df k) es ρ S ps) (q : (envAt Df k).mth c m (.loc l :: ps) S Q E) : wpE (envAt Df k) (.mth a m es) ρ S Q E := by
  unfold wpE
  refine h0 _ S (.refl S) _ fun S1 d1 => ?_
  simp only [d1 _ _ hs]
  refine ⟨by rw [env_has]; exact hm, h _ S1 d1 _ fun S2 d2 => mth_drop (d1.trans d2) q⟩
theorem bk_expE {c : CE} (q : wpE (envAt Df k) c ρ S (fun _ S' => wpB (envAt Df k) ss ρ S' D) D.ex) : wpB (envAt Df k) (.exp c :: ss) ρ S D := by
  refine bk_cons ?_
  unfold wpS
  exact q
theorem bk_setE {i : Nat} {c : CE} (q : wpE (envAt Df k) c ρ S (fun p S' => wpB (envAt Df k) ss (ρ.set i (some p)) S' D) D.ex) : wpB (envAt Df k) (.asg (.nm i) c :: ss) ρ S D := by
  refine bk_cons ?_
  unfold wpS
  refine wpE_mono (env_mono Df k) c (fun p S' h => ?_) (fun _ _ h => h) q
  unfold wpT
  exact h
theorem bk_retE {c : CE} (q : wpE (envAt Df k) c ρ S D.rt D.ex) : wpB (envAt Df k) (.ret c :: ss) ρ S D := by
  refine bk_cons ?_
  unfold wpS
  exact q
theorem bk_ifE {c : CE} {a b : List CS} (q : wpE (envAt Df k) c ρ S (fun p S' => ∃ x, p = .bl x ∧ (x = true → wpB (envAt Df k) a ρ S' { D with nx := fun ρ' S' => wpB (envAt Df k) ss ρ' S' D }) ∧ (x = false → wpB (envAt Df k) b ρ S' { D with nx := fun ρ' S' => wpB (envAt Df k) ss ρ' S' D })) D.ex) : wpB (envAt Df k) (.if_ c a b :: ss) ρ S D := by
  refine bk_cons ?_
  unfold wpS
  refine wpE_mono (env_mono Df k) c (fun p S' h => ?_) (fun _ _ h => h) q
  obtain ⟨x, rfl, h1, h2⟩ := h
  cases x with
  | true => exact h1 rfl
  | false => exact h2 rfl
/-- C(..) -/
theorem cps_mk {c : Nat} {es : List CE} {ps : List P} {d : FD} (hd : Df.ini c = some d) (hl : ps.length + 1 = d.pars) (h : Evs (envAt Df (k + 2)) es ρ S ps) (q : ∀ a, S a = none → wpB (envAt Df k) d.body (startP d.slots (.loc a :: ps)) (S.upd a (.ins c [])) (DE.fn (fun v S2 => v = .non ∧ Q (.loc a) S2) E)) : wpE (envAt Df (k + 2)) (.mk c es) ρ S Q E := by
  unfold wpE
  refine h _ S (.refl S) _ fun S2 d2 a ha => ?_
  rw [env_ini hd]
  refine ⟨by simpa using hl, bk_drop (d2.both a _) (q a (sub_none d2 ha))⟩

/-! ### step by step within an expression -/
variable {G : Env}
theorem cps_run {c : CE} {p : P} (h : Ev G c ρ S p) (q : ∀ S2, SubS S S2 → Q p S2) : wpE G c ρ S Q E := h E S (.refl S) Q q
theorem cps_bin {op : Operator} {a b : CE} (h : wpE G a ρ S (fun x S1 => wpE G b ρ S1 (fun y S2 => opBin op x y S2 Q) E) E) : wpE G (.bin op a b) ρ S Q E := by unfold wpE; exact h
theorem cps_cmp {op : CmpOp} {a b : CE} (h : wpE G a ρ S (fun x S1 => wpE G b ρ S1 (fun y S2 => opCmp op x y S2 Q) E) E) : wpE G (.cmp op a b) ρ S Q E := by unfold wpE; exact h
theorem cps_idx {a b : CE} (h : wpE G a ρ S (fun x S1 => wpE G b ρ S1 (fun y S2 => opIdx x y S2 Q) E) E) : wpE G (.idx a b) ρ S Q E := by unfold wpE; exact h
theorem cps_tup {es : List CE} (h : wpEs G es ρ S (fun ps S' => Q (.tup ps) S') E) : wpE G (.tup es) ρ S Q E := by unfold wpE; exact h
theorem cps_blt {f : Bf} {es : List CE} (h : wpEs G es ρ S (fun ps S1 => bfS f ps S1 Q) E) : wpE G (.blt f es) ρ S Q E := by unfold wpE; exact h
theorem cps_cons {c : CE} {cs : List CE} {R : List P → Store → Prop} (h : wpE G c ρ S (fun p S1 => wpEs G cs ρ S1 (fun ps S2 => R (p :: ps) S2) E) E) : wpEs G (c :: cs) ρ S R E := by unfold wpEs; exact h
theorem cps_nil {R : List P → Store → Prop} (h : R [] S) : wpEs G [] ρ S R E := by unfold wpEs; exact h
theorem cps_ife {c a b : CE} (h : wpE G c ρ S (fun x S1 => ∃ t, truthS S1 x = some t ∧ (t = true → wpE G a ρ S1 Q E) ∧ (t = false → wpE G b ρ S1 Q E)) E) (gm : GMono G) : wpE G (.ife c a b) ρ S Q E := by
  unfold wpE
  refine wpE_mono gm c (fun x S1 h => ?_) (fun _ _ h => h) h
  obtain ⟨t, e, h1, h2⟩ := h
  rw [e]
  cases t with
  | true => exact h1 rfl
  | false => exact h2 rfl
theorem cps_callU {k f : Nat} {es : List CE} (h : wpEs (envAt Df k) es ρ S (fun ps S1 => (envAt Df k).fn f ps S1 Q E) E) : wpE (envAt Df k) (.call f es) ρ S Q E := by unfold wpE; exact h
end
/-! ### tuples that the program's top leaves -/
theorem reps_nil {B : Bs} {H : Hp} : Reps B H [] [] := by unfold Reps; rfl
theorem rep_ktup {B : Bs} {H : Hp} {a : Addr} {od : Option Addr} {its : Array Value} {n : Nat} {sl : Array (Option Value)} {vs : List V} {ps : List P} (h : B.K.lookup a = some ⟨.type "tuple", od, .seq its n, sl⟩) (hs : its.size ≤ sizeLine) (hv : Vals vs its.toList) (hr : Reps B H ps vs) : Rep B H (.tup ps) (.ref a) := by
  unfold Rep
  refine ⟨a, vs, rfl, .inr ⟨_, its, n, h, rfl, rfl, hs, hv⟩, ?_, hr⟩
  have e := hv.length
  simp only [Array.length_toList] at e
  omega
end Core
end
section
set_option maxRecDepth 100000
set_option maxHeartbeats 4000000
/-! the program of law_k66_whole_two_counters_are_enough: its tables, its bodies, what its top leaves. -/
namespace Z
open PySem PySem.Spec PyProof.Rows L2 Core
def top (i : Nat) : Stmt := PySem.Challenge.pw_neverstops_k66_whole_two_counters_are_en.main.body.getD i (.Pass ⟨0, 0, 0, 0⟩)
abbrev nf_is_integer : Nat := 0
abbrev nf_is_row : Nat := 1
abbrev nf_is_counters : Nat := 2
abbrev nf_are_values : Nat := 3
abbrev nf_look_at_counters : Nat := 4
abbrev nf_changed : Nat := 5
abbrev nf_step_by : Nat := 6
abbrev nf_next_counters : Nat := 7
abbrev nf_power_of : Nat := 8
abbrev nf_values_of : Nat := 9
abbrev nf_size_of : Nat := 10
abbrev nf_rows_for_up : Nat := 11
abbrev nf_rows_for_down : Nat := 12
abbrev nf_two_of : Nat := 13
abbrev nf__law_bag : Nat := 14
abbrev nf__law_draw : Nat := 15
abbrev nf__law_counters : Nat := 16
abbrev nf__law_step : Nat := 17
abbrev nf__law_power : Nat := 18
abbrev nf__law_size : Nat := 19
abbrev nf__law_told : Nat := 20
abbrev nf__law_goes : Nat := 21
abbrev nf__law_case : Nat := 22
abbrev nf_law : Nat := 23
abbrev nc_MOST_ROWS : Nat := 0
abbrev nc_MOST_COUNTERS : Nat := 1
abbrev nc_PRIMES : Nat := 2
abbrev nk_HeadError : Nat := 0
abbrev nk_BadPaper : Nat := 1
abbrev nk_TooFar : Nat := 2
abbrev nk_NoSuch : Nat := 3
abbrev na_word : Nat := 0
def nF : List Str := [("is_integer" : Str), ("is_row" : Str), ("is_counters" : Str), ("are_values" : Str), ("look_at_counters" : Str), ("changed" : Str), ("step_by" : Str), ("next_counters" : Str), ("power_of" : Str), ("values_of" : Str), ("size_of" : Str), ("rows_for_up" : Str), ("rows_for_down" : Str), ("two_of" : Str), ("_law_bag" : Str), ("_law_draw" : Str), ("_law_counters" : Str), ("_law_step" : Str), ("_law_power" : Str), ("_law_size" : Str), ("_law_told" : Str), ("_law_goes" : Str), ("_law_case" : Str), ("law" : Str)]
def nC : List Str := [("MOST_ROWS" : Str), ("MOST_COUNTERS" : Str), ("PRIMES" : Str)]
def nK : List Str := [("HeadError" : Str), ("BadPaper" : Str), ("TooFar" : Str), ("NoSuch" : Str)]
def nA : List Str := [("word" : Str)]
def nM : List Str := []
def xc : Nat → Option (Option Nat)
  | 1 => some (some 0)
  | 2 => some none
  | 3 => some none
  | _ => none
def TT : Tab := ⟨nF, nC, nK, nA, nM, xc⟩
def con : Nat → P
  | 0 => .int 2000
  | 1 => .int 5
  | 2 => .tup [.int 2, .int 3, .int 5, .int 7, .int 11]
  | _ => .non
abbrev s_is_integer : Stmt := top 6
def b_is_integer : List CS := [
  (.ret (.and_ (.isi (.var 0) [.int]) (.and_ (.not_ (.isi (.var 0) [.bool])) (.chn .LtE .LtE (.var 1) (.var 0) (.var 2)))))]
theorem t_is_integer : (defBody s_is_integer).mapM (trS TT ["value", "low", "high"] (defScope s_is_integer) 30) = some b_is_integer := by kernel_rfl
theorem c_is_integer : FnScope ["value", "low", "high"] (["value", "low", "high"] : List Str) (defScope s_is_integer) := ⟨rfl, rfl, rfl, by decide +kernel, rfl, by decide +kernel, by decide +kernel⟩
abbrev s_is_row : Stmt := top 10
def b_is_row : List CS := [
  (.if_ (.cmp .Is (.var 0) (.lit .non)) [(.ret (.lit (.bl true)))] []),
  (.if_ (.or_ (.not_ (.isi (.var 0) [.tuple])) (.or_ (.cmp .Lt (.blt .len [(.var 0)]) (.lit (.int 3))) (.not_ (.isi (.idx (.var 0) (.lit (.int 0))) [.str])))) [(.ret (.lit (.bl false)))] []),
  (.if_ (.or_ (.not_ (.call nf_is_integer [(.idx (.var 0) (.lit (.int 1))), (.lit (.int 0)), (.bin .Sub (.var 1) (.lit (.int 1)))])) (.not_ (.blt .all [(.cmpr [3] .seq [(.slc (.var 0) (some (.lit (.int 2))) none)] (.nm 3) (.call nf_is_integer [(.var 3), (.lit (.int 0)), (.bin .Sub (.var 2) (.lit (.int 1)))]) none)]))) [(.ret (.lit (.bl false)))] []),
  (.ret (.or_ (.and_ (.cmp .Eq (.idx (.var 0) (.lit (.int 0))) (.lit (.str "up"))) (.cmp .Eq (.blt .len [(.var 0)]) (.lit (.int 3)))) (.and_ (.cmp .Eq (.idx (.var 0) (.lit (.int 0))) (.lit (.str "down"))) (.cmp .Eq (.blt .len [(.var 0)]) (.lit (.int 4))))))]
theorem t_is_row : (defBody s_is_row).mapM (trS TT ["value", "k", "many", "one"] (defScope s_is_row) 30) = some b_is_row := by kernel_rfl
theorem c_is_row : FnScope ["value", "k", "many", "one"] (["value", "k", "many"] : List Str) (defScope s_is_row) := ⟨rfl, rfl, rfl, by decide +kernel, rfl, by decide +kernel, by decide +kernel⟩
abbrev s_is_counters : Stmt := top 11
def b_is_counters : List CS := [
  (.if_ (.or_ (.not_ (.isi (.var 0) [.tuple])) (.or_ (.cmp .NotEq (.blt .len [(.var 0)]) (.lit (.int 3))) (.or_ (.not_ (.isi (.idx (.var 0) (.lit (.int 0))) [.str])) (.cmp .NotEq (.idx (.var 0) (.lit (.int 0))) (.lit (.str "counters")))))) [(.ret (.lit (.bl false)))] []),
  (.asg (.tup [(.nm 1), (.nm 2), (.nm 3)]) (.var 0)),
  (.if_ (.or_ (.not_ (.call nf_is_integer [(.var 2), (.lit (.int 1)), (.con nc_MOST_COUNTERS)])) (.or_ (.not_ (.isi (.var 3) [.tuple])) (.not_ (.chn .LtE .LtE (.lit (.int 1)) (.blt .len [(.var 3)]) (.con nc_MOST_ROWS))))) [(.ret (.lit (.bl false)))] []),
  (.ret (.blt .all [(.cmpr [4] .seq [(.var 3)] (.nm 4) (.call nf_is_row [(.var 4), (.var 2), (.blt .len [(.var 3)])]) none)]))]
theorem t_is_counters : (defBody s_is_counters).mapM (trS TT ["value", "_", "k", "rows", "row"] (defScope s_is_counters) 30) = some b_is_counters := by kernel_rfl
theorem c_is_counters : FnScope ["value", "_", "k", "rows", "row"] (["value"] : List Str) (defScope s_is_counters) := ⟨rfl, rfl, rfl, by decide +kernel, rfl, by decide +kernel, by decide +kernel⟩
abbrev s_are_values : Stmt := top 12
def b_are_values : List CS := [
  (.if_ (.or_ (.not_ (.isi (.var 0) [.tuple])) (.cmp .NotEq (.blt .len [(.var 0)]) (.var 1))) [(.ret (.lit (.bl false)))] []),
  (.ret (.blt .all [(.cmpr [2] .seq [(.var 0)] (.nm 2) (.and_ (.isi (.var 2) [.int]) (.and_ (.not_ (.isi (.var 2) [.bool])) (.cmp .GtE (.var 2) (.lit (.int 0))))) none)]))]
theorem t_are_values : (defBody s_are_values).mapM (trS TT ["value", "k", "one"] (defScope s_are_values) 30) = some b_are_values := by kernel_rfl
theorem c_are_values : FnScope ["value", "k", "one"] (["value", "k"] : List Str) (defScope s_are_values) := ⟨rfl, rfl, rfl, by decide +kernel, rfl, by decide +kernel, by decide +kernel⟩
abbrev s_look_at_counters : Stmt := top 13
def b_look_at_counters : List CS := [
  (.if_ (.not_ (.call nf_is_counters [(.var 0)])) [(.rse nk_BadPaper [(.lit (.str "counters"))])] []),
  (.if_ (.or_ (.not_ (.call nf_is_integer [(.var 1), (.lit (.int 0)), (.bin .Sub (.blt .len [(.idx (.var 0) (.lit (.int 2)))]) (.lit (.int 1)))])) (.not_ (.call nf_are_values [(.var 2), (.idx (.var 0) (.lit (.int 1)))]))) [(.rse nk_BadPaper [(.lit (.str "values"))])] [])]
theorem t_look_at_counters : (defBody s_look_at_counters).mapM (trS TT ["counters", "row", "values"] (defScope s_look_at_counters) 30) = some b_look_at_counters := by kernel_rfl
theorem c_look_at_counters : FnScope ["counters", "row", "values"] (["counters", "row", "values"] : List Str) (defScope s_look_at_counters) := ⟨rfl, rfl, rfl, by decide +kernel, rfl, by decide +kernel, by decide +kernel⟩
abbrev s_changed : Stmt := top 14
def b_changed : List CS := [
  (.ret (.bin .Add (.bin .Add (.slc (.var 0) none (some (.var 1))) (.tup [(.bin .Add (.idx (.var 0) (.var 1)) (.var 2))])) (.slc (.var 0) (some (.bin .Add (.var 1) (.lit (.int 1)))) none)))]
theorem t_changed : (defBody s_changed).mapM (trS TT ["values", "c", "by"] (defScope s_changed) 30) = some b_changed := by kernel_rfl
theorem c_changed : FnScope ["values", "c", "by"] (["values", "c", "by"] : List Str) (defScope s_changed) := ⟨rfl, rfl, rfl, by decide +kernel, rfl, by decide +kernel, by decide +kernel⟩
abbrev s_step_by : Stmt := top 15
def b_step_by : List CS := [
  (.asg (.nm 3) (.idx (.idx (.var 0) (.lit (.int 2))) (.var 1))),
  (.if_ (.cmp .Is (.var 3) (.lit .non)) [(.ret (.lit .non))] []),
  (.if_ (.cmp .Eq (.idx (.var 3) (.lit (.int 0))) (.lit (.str "up"))) [(.ret (.tup [(.idx (.var 3) (.lit (.int 2))), (.call nf_changed [(.var 2), (.idx (.var 3) (.lit (.int 1))), (.lit (.int 1))])]))] []),
  (.if_ (.cmp .Eq (.idx (.var 2) (.idx (.var 3) (.lit (.int 1)))) (.lit (.int 0))) [(.ret (.tup [(.idx (.var 3) (.lit (.int 3))), (.var 2)]))] []),
  (.ret (.tup [(.idx (.var 3) (.lit (.int 2))), (.call nf_changed [(.var 2), (.idx (.var 3) (.lit (.int 1))), (.neg (.lit (.int 1)))])]))]
theorem t_step_by : (defBody s_step_by).mapM (trS TT ["counters", "row", "values", "order"] (defScope s_step_by) 30) = some b_step_by := by kernel_rfl
theorem c_step_by : FnScope ["counters", "row", "values", "order"] (["counters", "row", "values"] : List Str) (defScope s_step_by) := ⟨rfl, rfl, rfl, by decide +kernel, rfl, by decide +kernel, by decide +kernel⟩
abbrev s_next_counters : Stmt := top 16
def b_next_counters : List CS := [
  (.exp (.call nf_look_at_counters [(.var 0), (.var 1), (.var 2)])),
  (.ret (.call nf_step_by [(.var 0), (.var 1), (.var 2)]))]
theorem t_next_counters : (defBody s_next_counters).mapM (trS TT ["counters", "row", "values"] (defScope s_next_counters) 30) = some b_next_counters := by kernel_rfl
theorem c_next_counters : FnScope ["counters", "row", "values"] (["counters", "row", "values"] : List Str) (defScope s_next_counters) := ⟨rfl, rfl, rfl, by decide +kernel, rfl, by decide +kernel, by decide +kernel⟩
abbrev s_power_of : Stmt := top 19
def b_power_of : List CS := [
  (.if_ (.or_ (.not_ (.isi (.var 0) [.tuple])) (.or_ (.not_ (.chn .LtE .LtE (.lit (.int 1)) (.blt .len [(.var 0)]) (.con nc_MOST_COUNTERS))) (.not_ (.call nf_are_values [(.var 0), (.blt .len [(.var 0)])])))) [(.rse nk_BadPaper [(.lit (.str "values"))])] []),
  (.asg (.nm 1) (.lit (.int 1))),
  (.for_ .zip [(.con nc_PRIMES), (.var 0)] (.tup [(.nm 2), (.nm 3)]) [(.for_ .range [(.var 3)] (.nm 4) [(.aug 1 .Mult (.var 2))])]),
  (.ret (.var 1))]
theorem t_power_of : (defBody s_power_of).mapM (trS TT ["values", "found", "prime", "value", "_"] (defScope s_power_of) 30) = some b_power_of := by kernel_rfl
theorem c_power_of : FnScope ["values", "found", "prime", "value", "_"] (["values"] : List Str) (defScope s_power_of) := ⟨rfl, rfl, rfl, by decide +kernel, rfl, by decide +kernel, by decide +kernel⟩
abbrev s_values_of : Stmt := top 20
def b_values_of : List CS := [
  (.if_ (.or_ (.not_ (.call nf_is_integer [(.var 1), (.lit (.int 1)), (.con nc_MOST_COUNTERS)])) (.or_ (.not_ (.isi (.var 0) [.int])) (.or_ (.isi (.var 0) [.bool]) (.cmp .Lt (.var 0) (.lit (.int 1)))))) [(.rse nk_NoSuch [])] []),
  (.asg (.nm 2) (.lst [])),
  (.for_ .seq [(.slc (.con nc_PRIMES) none (some (.var 1)))] (.nm 3) [(.asg (.nm 4) (.lit (.int 0))), (.whl (.cmp .Eq (.bin .Mod (.var 0) (.var 3)) (.lit (.int 0))) [(.aug 0 .FloorDiv (.var 3)), (.aug 4 .Add (.lit (.int 1)))]), (.exp (.bmt (.var 2) .append [(.var 4)]))]),
  (.if_ (.cmp .NotEq (.var 0) (.lit (.int 1))) [(.rse nk_NoSuch [])] []),
  (.ret (.blt .tuple [(.var 2)]))]
theorem t_values_of : (defBody s_values_of).mapM (trS TT ["product", "k", "found", "prime", "many"] (defScope s_values_of) 30) = some b_values_of := by kernel_rfl
theorem c_values_of : FnScope ["product", "k", "found", "prime", "many"] (["product", "k"] : List Str) (defScope s_values_of) := ⟨rfl, rfl, rfl, by decide +kernel, rfl, by decide +kernel, by decide +kernel⟩
abbrev s_size_of : Stmt := top 21
def b_size_of : List CS := [
  (.if_ (.cmp .Is (.var 0) (.lit .non)) [(.ret (.lit (.int 1)))] []),
  (.asg (.nm 1) (.idx (.con nc_PRIMES) (.idx (.var 0) (.lit (.int 1))))),
  (.if_ (.cmp .Eq (.idx (.var 0) (.lit (.int 0))) (.lit (.str "up"))) [(.ret (.bin .Add (.var 1) (.lit (.int 3))))] []),
  (.ret (.bin .Add (.bin .Add (.var 1) (.lit (.int 3))) (.blt .sum [(.cmpr [2] .range [(.lit (.int 1)), (.var 1)] (.nm 2) (.bin .Add (.bin .Add (.lit (.int 1)) (.var 1)) (.var 2)) none)])))]
theorem t_size_of : (defBody s_size_of).mapM (trS TT ["order", "p", "r"] (defScope s_size_of) 30) = some b_size_of := by kernel_rfl
theorem c_size_of : FnScope ["order", "p", "r"] (["order"] : List Str) (defScope s_size_of) := ⟨rfl, rfl, rfl, by decide +kernel, rfl, by decide +kernel, by decide +kernel⟩
abbrev s_rows_for_up : Stmt := top 22
def b_rows_for_up : List CS := [
  (.asg (.nm 3) (.lst [(.tup [(.lit (.str "down")), (.lit (.int 0)), (.bin .Add (.var 1) (.lit (.int 1))), (.bin .Add (.bin .Add (.var 1) (.lit (.int 1))) (.var 0))])])),
  (.for_ .range [(.var 0)] (.nm 4) [(.asg (.nm 5) (.bin .Add (.bin .Add (.var 1) (.lit (.int 2))) (.var 4))), (.if_ (.cmp .Eq (.var 4) (.bin .Sub (.var 0) (.lit (.int 1)))) [(.asg (.nm 5) (.var 1))] []), (.exp (.bmt (.var 3) .append [(.tup [(.lit (.str "up")), (.lit (.int 1)), (.var 5)])]))]),
  (.exp (.bmt (.var 3) .append [(.tup [(.lit (.str "down")), (.lit (.int 1)), (.bin .Add (.bin .Add (.var 1) (.var 0)) (.lit (.int 2))), (.var 2)])])),
  (.exp (.bmt (.var 3) .append [(.tup [(.lit (.str "up")), (.lit (.int 0)), (.bin .Add (.bin .Add (.var 1) (.var 0)) (.lit (.int 1)))])])),
  (.ret (.var 3))]
theorem t_rows_for_up : (defBody s_rows_for_up).mapM (trS TT ["p", "at", "after", "rows", "i", "back"] (defScope s_rows_for_up) 30) = some b_rows_for_up := by kernel_rfl
theorem c_rows_for_up : FnScope ["p", "at", "after", "rows", "i", "back"] (["p", "at", "after"] : List Str) (defScope s_rows_for_up) := ⟨rfl, rfl, rfl, by decide +kernel, rfl, by decide +kernel, by decide +kernel⟩
abbrev s_rows_for_down : Stmt := top 23
def b_rows_for_down : List CS := [
  (.asg (.nm 4) (.lst [(.bin .Add (.bin .Add (.var 1) (.var 0)) (.lit (.int 1)))])),
  (.for_ .range [(.lit (.int 1)), (.var 0)] (.nm 5) [(.exp (.bmt (.var 4) .append [(.bin .Add (.idx (.var 4) (.neg (.lit (.int 1)))) (.lit (.int 2)))])), (.if_ (.cmp .Gt (.var 5) (.lit (.int 1))) [(.augI (.var 4) (.neg (.lit (.int 1))) .Add (.bin .Sub (.bin .Add (.var 0) (.var 5)) (.lit (.int 2))))] [])]),
  (.asg (.nm 6) (.cmpr [8] .range [(.var 0)] (.nm 8) (.tup [(.lit (.str "down")), (.lit (.int 0)), (.bin .Add (.bin .Add (.var 1) (.var 8)) (.lit (.int 1))), (.idx (.var 4) (.var 8))]) none)),
  (.exp (.bmt (.var 6) .append [(.tup [(.lit (.str "up")), (.lit (.int 1)), (.var 1)])])),
  (.exp (.bmt (.var 6) .append [(.tup [(.lit (.str "down")), (.lit (.int 1)), (.bin .Add (.idx (.var 4) (.lit (.int 0))) (.lit (.int 1))), (.var 2)])])),
  (.exp (.bmt (.var 6) .append [(.tup [(.lit (.str "up")), (.lit (.int 0)), (.idx (.var 4) (.lit (.int 0)))])])),
  (.for_ .range [(.lit (.int 1)), (.var 0)] (.nm 5) [(.asg (.nm 7) (.idx (.var 4) (.var 5))), (.exp (.bmt (.var 6) .append [(.tup [(.lit (.str "down")), (.lit (.int 1)), (.bin .Add (.var 7) (.lit (.int 1))), (.bin .Add (.bin .Add (.var 7) (.lit (.int 1))) (.var 0))])])), (.exp (.bmt (.var 6) .extend [(.cmpr [8] .range [(.bin .Sub (.var 0) (.lit (.int 1)))] (.nm 8) (.tup [(.lit (.str "up")), (.lit (.int 0)), (.bin .Add (.bin .Add (.var 7) (.lit (.int 2))) (.var 8))]) none)])), (.exp (.bmt (.var 6) .append [(.tup [(.lit (.str "up")), (.lit (.int 0)), (.var 7)])])), (.exp (.bmt (.var 6) .extend [(.cmpr [8] .range [(.bin .Sub (.var 5) (.lit (.int 1)))] (.nm 8) (.tup [(.lit (.str "up")), (.lit (.int 0)), (.bin .Add (.bin .Add (.bin .Add (.var 7) (.var 0)) (.lit (.int 2))) (.var 8))]) none)])), (.exp (.bmt (.var 6) .append [(.tup [(.lit (.str "up")), (.lit (.int 0)), (.var 3)])]))]),
  (.ret (.var 6))]
theorem t_rows_for_down : (defBody s_rows_for_down).mapM (trS TT ["p", "at", "after", "other", "rests", "r", "rows", "here", "i"] (defScope s_rows_for_down) 30) = some b_rows_for_down := by kernel_rfl
theorem c_rows_for_down : FnScope ["p", "at", "after", "other", "rests", "r", "rows", "here", "i"] (["p", "at", "after", "other"] : List Str) (defScope s_rows_for_down) := ⟨rfl, rfl, rfl, by decide +kernel, rfl, by decide +kernel, by decide +kernel⟩
abbrev s_two_of : Stmt := top 24
def b_two_of : List CS := [
  (.if_ (.not_ (.call nf_is_counters [(.var 0)])) [(.rse nk_BadPaper [(.lit (.str "counters"))])] []),
  (.asg (.nm 1) (.lst [])),
  (.asg (.nm 2) (.lit (.int 0))),
  (.for_ .seq [(.idx (.var 0) (.lit (.int 2)))] (.nm 3) [(.exp (.bmt (.var 1) .append [(.var 2)])), (.aug 2 .Add (.call nf_size_of [(.var 3)]))]),
  (.if_ (.cmp .Gt (.var 2) (.con nc_MOST_ROWS)) [(.rse nk_TooFar [])] []),
  (.asg (.nm 4) (.lst [])),
  (.for_ .zip [(.var 1), (.idx (.var 0) (.lit (.int 2)))] (.tup [(.nm 5), (.nm 3)]) [(.if_ (.cmp .Is (.var 3) (.lit .non)) [(.exp (.bmt (.var 4) .append [(.lit .non)]))] [(.if_ (.cmp .Eq (.idx (.var 3) (.lit (.int 0))) (.lit (.str "up"))) [(.exp (.bmt (.var 4) .extend [(.call nf_rows_for_up [(.idx (.con nc_PRIMES) (.idx (.var 3) (.lit (.int 1)))), (.var 5), (.idx (.var 1) (.idx (.var 3) (.lit (.int 2))))])]))] [(.exp (.bmt (.var 4) .extend [(.call nf_rows_for_down [(.idx (.con nc_PRIMES) (.idx (.var 3) (.lit (.int 1)))), (.var 5), (.idx (.var 1) (.idx (.var 3) (.lit (.int 2)))), (.idx (.var 1) (.idx (.var 3) (.lit (.int 3))))])]))])])]),
  (.ret (.tup [(.lit (.str "two")), (.tup [(.lit (.str "counters")), (.lit (.int 2)), (.blt .tuple [(.var 4)])]), (.blt .tuple [(.var 1)])]))]
theorem t_two_of : (defBody s_two_of).mapM (trS TT ["counters", "entries", "at", "order", "rows", "here"] (defScope s_two_of) 30) = some b_two_of := by kernel_rfl
theorem c_two_of : FnScope ["counters", "entries", "at", "order", "rows", "here"] (["counters"] : List Str) (defScope s_two_of) := ⟨rfl, rfl, rfl, by decide +kernel, rfl, by decide +kernel, by decide +kernel⟩
abbrev s__law_bag : Stmt := top 26
def b__law_bag : List CS := [
  (.asg (.nm 2) (.lit (.int 0))),
  (.if_ (.cmp .Lt (.var 1) (.blt .len [(.var 0)])) [(.asg (.nm 2) (.blt .int [(.idx (.var 0) (.var 1))]))] []),
  (.if_ (.cmp .GtE (.var 2) (.bin .Pow (.lit (.int 10)) (.lit (.int 18)))) [(.ret (.lst [(.var 2), (.var 2), (.var 1)]))] []),
  (.ret (.lst [(.lit (.int 0)), (.var 2), (.var 1)]))]
theorem t__law_bag : (defBody s__law_bag).mapM (trS TT ["script", "k", "cell"] (defScope s__law_bag) 30) = some b__law_bag := by kernel_rfl
theorem c__law_bag : FnScope ["script", "k", "cell"] (["script", "k"] : List Str) (defScope s__law_bag) := ⟨rfl, rfl, rfl, by decide +kernel, rfl, by decide +kernel, by decide +kernel⟩
abbrev s__law_draw : Stmt := top 27
def b__law_draw : List CS := [
  (.if_ (.cmp .Eq (.idx (.var 0) (.lit (.int 0))) (.lit (.int 0))) [(.asg (.nm 2) (.bin .Mod (.blt .int [(.bin .Add (.bin .Add (.bin .Mult (.idx (.var 0) (.lit (.int 1))) (.lit (.int 48271))) (.bin .Mult (.idx (.var 0) (.lit (.int 2))) (.lit (.int 69621)))) (.lit (.int 11)))]) (.lit (.int 2147483647)))), (.asg (.sub (.var 0) (.lit (.int 0))) (.bin .Add (.bin .Mult (.var 2) (.lit (.int 2147483629))) (.bin .Mod (.blt .int [(.bin .Add (.bin .Mult (.var 2) (.var 2)) (.bin .Mult (.idx (.var 0) (.lit (.int 2))) (.lit (.int 16807))))]) (.lit (.int 2147483629))))), (.asg (.sub (.var 0) (.lit (.int 1))) (.var 2))] []),
  (.asg (.nm 3) (.idx (.var 0) (.lit (.int 0)))),
  (.asg (.sub (.var 0) (.lit (.int 0))) (.bin .FloorDiv (.var 3) (.var 1))),
  (.ret (.bin .Mod (.blt .int [(.var 3)]) (.var 1)))]
theorem t__law_draw : (defBody s__law_draw).mapM (trS TT ["bag", "many", "seed", "rest"] (defScope s__law_draw) 30) = some b__law_draw := by kernel_rfl
theorem c__law_draw : FnScope ["bag", "many", "seed", "rest"] (["bag", "many"] : List Str) (defScope s__law_draw) := ⟨rfl, rfl, rfl, by decide +kernel, rfl, by decide +kernel, by decide +kernel⟩
abbrev s__law_counters : Stmt := top 28
def b__law_counters : List CS := [
  (.asg (.nm 1) (.bin .Add (.lit (.int 1)) (.call nf__law_draw [(.var 0), (.lit (.int 3))]))),
  (.asg (.nm 2) (.bin .Add (.lit (.int 1)) (.call nf__law_draw [(.var 0), (.lit (.int 4))]))),
  (.asg (.nm 3) (.lst [])),
  (.for_ .range [(.var 2)] (.nm 4) [(.asg (.nm 5) (.call nf__law_draw [(.var 0), (.lit (.int 9))])), (.if_ (.cmp .Eq (.var 5) (.lit (.int 0))) [(.exp (.bmt (.var 3) .append [(.lit .non)]))] [(.if_ (.cmp .Lt (.var 5) (.lit (.int 4))) [(.exp (.bmt (.var 3) .append [(.tup [(.lit (.str "up")), (.call nf__law_draw [(.var 0), (.var 1)]), (.call nf__law_draw [(.var 0), (.var 2)])])]))] [(.exp (.bmt (.var 3) .append [(.tup [(.lit (.str "down")), (.call nf__law_draw [(.var 0), (.var 1)]), (.call nf__law_draw [(.var 0), (.var 2)]), (.call nf__law_draw [(.var 0), (.var 2)])])]))])])]),
  (.ret (.tup [(.lit (.str "counters")), (.var 1), (.blt .tuple [(.var 3)])]))]
theorem t__law_counters : (defBody s__law_counters).mapM (trS TT ["bag", "k", "many", "rows", "n", "pick"] (defScope s__law_counters) 30) = some b__law_counters := by kernel_rfl
theorem c__law_counters : FnScope ["bag", "k", "many", "rows", "n", "pick"] (["bag"] : List Str) (defScope s__law_counters) := ⟨rfl, rfl, rfl, by decide +kernel, rfl, by decide +kernel, by decide +kernel⟩
abbrev s__law_step : Stmt := top 29
def b__law_step : List CS := [
  (.asg (.nm 3) (.idx (.idx (.var 0) (.lit (.int 2))) (.var 1))),
  (.if_ (.cmp .Is (.var 3) (.lit .non)) [(.ret (.lit .non))] []),
  (.asg (.nm 4) (.idx (.var 3) (.lit (.int 1)))),
  (.if_ (.cmp .Eq (.idx (.var 3) (.lit (.int 0))) (.lit (.str "up"))) [(.ret (.tup [(.idx (.var 3) (.lit (.int 2))), (.bin .Add (.bin .Add (.slc (.var 2) none (some (.var 4))) (.tup [(.bin .Add (.idx (.var 2) (.var 4)) (.lit (.int 1)))])) (.slc (.var 2) (some (.bin .Add (.var 4) (.lit (.int 1)))) none))]))] []),
  (.if_ (.cmp .Eq (.idx (.var 2) (.var 4)) (.lit (.int 0))) [(.ret (.tup [(.idx (.var 3) (.lit (.int 3))), (.var 2)]))] []),
  (.ret (.tup [(.idx (.var 3) (.lit (.int 2))), (.bin .Add (.bin .Add (.slc (.var 2) none (some (.var 4))) (.tup [(.bin .Sub (.idx (.var 2) (.var 4)) (.lit (.int 1)))])) (.slc (.var 2) (some (.bin .Add (.var 4) (.lit (.int 1)))) none))]))]
theorem t__law_step : (defBody s__law_step).mapM (trS TT ["counters", "row", "values", "order", "c"] (defScope s__law_step) 30) = some b__law_step := by kernel_rfl
theorem c__law_step : FnScope ["counters", "row", "values", "order", "c"] (["counters", "row", "values"] : List Str) (defScope s__law_step) := ⟨rfl, rfl, rfl, by decide +kernel, rfl, by decide +kernel, by decide +kernel⟩
abbrev s__law_power : Stmt := top 30
def b__law_power : List CS := [
  (.asg (.nm 1) (.lit (.int 1))),
  (.for_ .range [(.blt .len [(.var 0)])] (.nm 2) [(.for_ .range [(.idx (.var 0) (.var 2))] (.nm 3) [(.asg (.nm 1) (.bin .Mult (.var 1) (.idx (.lst [(.lit (.int 2)), (.lit (.int 3)), (.lit (.int 5)), (.lit (.int 7)), (.lit (.int 11))]) (.var 2))))])]),
  (.ret (.var 1))]
theorem t__law_power : (defBody s__law_power).mapM (trS TT ["values", "found", "c", "k"] (defScope s__law_power) 30) = some b__law_power := by kernel_rfl
theorem c__law_power : FnScope ["values", "found", "c", "k"] (["values"] : List Str) (defScope s__law_power) := ⟨rfl, rfl, rfl, by decide +kernel, rfl, by decide +kernel, by decide +kernel⟩
abbrev s__law_size : Stmt := top 31
def b__law_size : List CS := [
  (.if_ (.cmp .Is (.var 0) (.lit .non)) [(.ret (.lit (.int 1)))] []),
  (.asg (.nm 1) (.idx (.lst [(.lit (.int 2)), (.lit (.int 3)), (.lit (.int 5)), (.lit (.int 7)), (.lit (.int 11))]) (.idx (.var 0) (.lit (.int 1))))),
  (.if_ (.cmp .Eq (.idx (.var 0) (.lit (.int 0))) (.lit (.str "up"))) [(.ret (.bin .Add (.bin .Add (.lit (.int 1)) (.var 1)) (.lit (.int 2))))] []),
  (.ret (.bin .Add (.bin .Add (.bin .Add (.var 1) (.lit (.int 1))) (.lit (.int 2))) (.blt .sum [(.cmpr [2] .range [(.lit (.int 1)), (.var 1)] (.nm 2) (.bin .Add (.bin .Add (.lit (.int 1)) (.var 1)) (.var 2)) none)])))]
theorem t__law_size : (defBody s__law_size).mapM (trS TT ["order", "p", "r"] (defScope s__law_size) 30) = some b__law_size := by kernel_rfl
theorem c__law_size : FnScope ["order", "p", "r"] (["order"] : List Str) (defScope s__law_size) := ⟨rfl, rfl, rfl, by decide +kernel, rfl, by decide +kernel, by decide +kernel⟩
abbrev s__law_told : Stmt := top 32
def b__law_told : List CS := [
  (.try_ [(.if_ (.cmp .Is (.var 2) (.lit .non)) [(.ret (.cvar 0 [(.var 1)]))] []), (.ret (.cvar 0 [(.var 1), (.idx (.var 2) (.lit (.int 0)))]))] [(nk_NoSuch, none, (.lit (.str "none"))), (nk_TooFar, none, (.lit (.str "far"))), (nk_BadPaper, (some 3), (.pre "bad " na_word))])]
theorem t__law_told : (defBody s__law_told).mapM (trS TT ["call", "one", "other", "e"] (defScope s__law_told) 30) = some b__law_told := by kernel_rfl
theorem c__law_told : FnScope ["call", "one", "other", "e"] (["call", "one", "other"] : List Str) (defScope s__law_told) := ⟨rfl, rfl, rfl, by decide +kernel, rfl, by decide +kernel, by decide +kernel⟩
abbrev s__law_goes : Stmt := top 33
def b__law_goes : List CS := [
  (.asg (.nm 5) (.tup [(.var 2), (.tup [(.var 3), (.lit (.int 0))])])),
  (.for_ .range [(.lit (.int 6000))] (.nm 6) [(.asg (.nm 7) (.call nf__law_step [(.var 0), (.idx (.var 5) (.lit (.int 0))), (.idx (.var 5) (.lit (.int 1)))])), (.if_ (.cmp .Is (.var 7) (.lit .non)) [(.ret (.and_ (.cmp .Is (.var 4) (.lit .non)) (.cmp .Eq (.var 6) (.lit (.int 0)))))] []), (.asg (.nm 5) (.var 7)), (.if_ (.and_ (.cmp .In (.idx (.var 5) (.lit (.int 0))) (.var 1)) (.cmp .Eq (.idx (.idx (.var 5) (.lit (.int 1))) (.lit (.int 1))) (.lit (.int 0)))) [(.ret (.and_ (.cmp .IsNot (.var 4) (.lit .non)) (.cmp .Eq (.var 5) (.tup [(.idx (.var 4) (.lit (.int 0))), (.tup [(.idx (.var 4) (.lit (.int 1))), (.lit (.int 0))])]))))] [])]),
  (.ret (.lit (.bl false)))]
theorem t__law_goes : (defBody s__law_goes).mapM (trS TT ["made", "entries", "row", "product", "due", "here", "step", "after"] (defScope s__law_goes) 30) = some b__law_goes := by kernel_rfl
theorem c__law_goes : FnScope ["made", "entries", "row", "product", "due", "here", "step", "after"] (["made", "entries", "row", "product", "due"] : List Str) (defScope s__law_goes) := ⟨rfl, rfl, rfl, by decide +kernel, rfl, by decide +kernel, by decide +kernel⟩
abbrev s__law_case : Stmt := top 34
def b__law_case : List CS := [
  (.asg (.nm 1) (.call nf__law_counters [(.var 0)])),
  (.asg (.tup [(.nm 2), (.nm 3), (.nm 4)]) (.call nf_two_of [(.var 1)])),
  (.asg (.nm 5) (.lst [])),
  (.asg (.nm 6) (.lit (.int 0))),
  (.for_ .seq [(.idx (.var 1) (.lit (.int 2)))] (.nm 7) [(.exp (.bmt (.var 5) .append [(.var 6)])), (.asg (.nm 6) (.bin .Add (.var 6) (.call nf__law_size [(.var 7)])))]),
  (.if_ (.or_ (.cmp .NotEq (.var 2) (.lit (.str "two"))) (.or_ (.cmp .NotEq (.blt .list [(.var 4)]) (.var 5)) (.or_ (.cmp .IsNot (.call nf_is_counters [(.var 3)]) (.lit (.bl true))) (.or_ (.cmp .NotEq (.idx (.var 3) (.lit (.int 1))) (.lit (.int 2))) (.cmp .NotEq (.blt .len [(.idx (.var 3) (.lit (.int 2)))]) (.var 6)))))) [(.ret (.lit (.bl false)))] []),
  (.asg (.nm 8) (.call nf__law_draw [(.var 0), (.blt .len [(.idx (.var 1) (.lit (.int 2)))])])),
  (.asg (.nm 9) (.blt .tuple [(.cmpr [13] .range [(.idx (.var 1) (.lit (.int 1)))] (.nm 13) (.call nf__law_draw [(.var 0), (.lit (.int 3))]) none)])),
  (.for_ .range [(.lit (.int 6))] (.nm 10) [(.asg (.nm 11) (.call nf__law_step [(.var 1), (.var 8), (.var 9)])), (.if_ (.cmp .NotEq (.var 11) (.call nf_next_counters [(.var 1), (.var 8), (.var 9)])) [(.ret (.lit (.bl false)))] []), (.asg (.nm 12) (.call nf__law_power [(.var 9)])), (.if_ (.or_ (.cmp .NotEq (.call nf_power_of [(.var 9)]) (.var 12)) (.cmp .NotEq (.call nf_values_of [(.var 12), (.idx (.var 1) (.lit (.int 1)))]) (.var 9))) [(.ret (.lit (.bl false)))] []), (.if_ (.cmp .Is (.var 11) (.lit .non)) [(.ret (.call nf__law_goes [(.var 3), (.var 4), (.idx (.var 4) (.var 8)), (.var 12), (.lit .non)]))] []), (.if_ (.cmp .Gt (.var 12) (.lit (.int 300))) [(.ret (.lit (.bl true)))] []), (.if_ (.not_ (.call nf__law_goes [(.var 3), (.var 4), (.idx (.var 4) (.var 8)), (.var 12), (.tup [(.idx (.var 4) (.idx (.var 11) (.lit (.int 0)))), (.call nf__law_power [(.idx (.var 11) (.lit (.int 1)))])])])) [(.ret (.lit (.bl false)))] []), (.asg (.tup [(.nm 8), (.nm 9)]) (.var 11))]),
  (.ret (.lit (.bl true)))]
theorem t__law_case : (defBody s__law_case).mapM (trS TT ["bag", "counters", "word", "made", "entries", "due", "at", "order", "row", "values", "turn", "after", "product", "c"] (defScope s__law_case) 30) = some b__law_case := by kernel_rfl
theorem c__law_case : FnScope ["bag", "counters", "word", "made", "entries", "due", "at", "order", "row", "values", "turn", "after", "product", "c"] (["bag"] : List Str) (defScope s__law_case) := ⟨rfl, rfl, rfl, by decide +kernel, rfl, by decide +kernel, by decide +kernel⟩
abbrev s_law : Stmt := top 35
def b_law : List CS := [
  (.asg (.nm 1) (.tup [(.lit (.str "counters")), (.lit (.int 5)), (.bin .Mult (.tup [(.tup [(.lit (.str "down")), (.lit (.int 4)), (.lit (.int 0)), (.lit (.int 0))])]) (.lit (.int 20)))])),
  (.if_ (.or_ (.cmp .NotEq (.call nf__law_told [(.fnv nf_two_of), (.var 1), (.lit .non)]) (.lit (.str "far"))) (.cmp .NotEq (.call nf__law_told [(.fnv nf_two_of), (.lit .non), (.lit .non)]) (.lit (.str "bad counters")))) [(.ret (.lit (.bl false)))] []),
  (.if_ (.or_ (.cmp .NotEq (.cmpr [3] .seq [(.lst [(.tup []), (.tup [(.neg (.lit (.int 1)))]), (.lst [(.lit (.int 0))]), (.lit .non), (.bin .Mult (.tup [(.lit (.int 0))]) (.lit (.int 6))), (.tup [(.lit (.bl true))])])] (.nm 3) (.call nf__law_told [(.fnv nf_power_of), (.var 3), (.lit .non)]) none) (.bin .Mult (.lst [(.lit (.str "bad values"))]) (.lit (.int 6)))) (.cmp .NotEq (.call nf_power_of [(.tup [(.lit (.int 3)), (.lit (.int 2)), (.lit (.int 1)), (.lit (.int 1)), (.lit (.int 1))])]) (.bin .Mult (.bin .Mult (.bin .Mult (.bin .Mult (.lit (.int 8)) (.lit (.int 9))) (.lit (.int 5))) (.lit (.int 7))) (.lit (.int 11))))) [(.ret (.lit (.bl false)))] []),
  (.if_ (.cmp .NotEq (.cmpr [4, 2] .seq [(.lst [(.tup [(.lit (.int 13)), (.lit (.int 5))]), (.tup [(.lit (.int 0)), (.lit (.int 2))]), (.tup [(.neg (.lit (.int 4))), (.lit (.int 2))]), (.tup [(.lit (.bl true)), (.lit (.int 2))]), (.tup [(.lit (.int 9)), (.lit (.int 1))]), (.tup [(.lit (.int 4)), (.lit (.int 0))]), (.tup [(.lit (.int 4)), (.lit (.int 6))]), (.tup [(.lit .non), (.lit (.int 2))])])] (.tup [(.nm 4), (.nm 2)]) (.call nf__law_told [(.fnv nf_values_of), (.var 4), (.tup [(.var 2)])]) none) (.bin .Mult (.lst [(.lit (.str "none"))]) (.lit (.int 8)))) [(.ret (.lit (.bl false)))] []),
  (.for_ .range [(.blt .min [(.blt .max [(.blt .len [(.var 0)]), (.lit (.int 1))]), (.lit (.int 4))])] (.nm 2) [(.if_ (.not_ (.call nf__law_case [(.call nf__law_bag [(.var 0), (.var 2)])])) [(.ret (.lit (.bl false)))] [])]),
  (.ret (.lit (.bl true)))]
theorem t_law : (defBody s_law).mapM (trS TT ["script", "wide", "k", "odd", "one"] (defScope s_law) 30) = some b_law := by kernel_rfl
theorem c_law : FnScope ["script", "wide", "k", "odd", "one"] (["script"] : List Str) (defScope s_law) := ⟨rfl, rfl, rfl, by decide +kernel, rfl, by decide +kernel, by decide +kernel⟩
def D : Defs where
  T := TT
  con := con
  fns := [⟨3, 3, b_is_integer⟩,
    ⟨3, 4, b_is_row⟩,
    ⟨1, 5, b_is_counters⟩,
    ⟨2, 3, b_are_values⟩,
    ⟨3, 3, b_look_at_counters⟩,
    ⟨3, 3, b_changed⟩,
    ⟨3, 4, b_step_by⟩,
    ⟨3, 3, b_next_counters⟩,
    ⟨1, 5, b_power_of⟩,
    ⟨2, 5, b_values_of⟩,
    ⟨1, 3, b_size_of⟩,
    ⟨3, 6, b_rows_for_up⟩,
    ⟨4, 9, b_rows_for_down⟩,
    ⟨1, 6, b_two_of⟩,
    ⟨2, 3, b__law_bag⟩,
    ⟨2, 4, b__law_draw⟩,
    ⟨1, 6, b__law_counters⟩,
    ⟨3, 5, b__law_step⟩,
    ⟨1, 4, b__law_power⟩,
    ⟨1, 3, b__law_size⟩,
    ⟨3, 4, b__law_told⟩,
    ⟨5, 8, b__law_goes⟩,
    ⟨1, 14, b__law_case⟩,
    ⟨1, 5, b_law⟩]
  mth := fun c m => match c, m with
    | _, _ => none
  ini := fun c => match c with
    | _ => none
theorem con_MOST_ROWS {k : Nat} : (envAt D k).con nc_MOST_ROWS = .int 2000 := by rw [env_con]; rfl
theorem con_MOST_COUNTERS {k : Nat} : (envAt D k).con nc_MOST_COUNTERS = .int 5 := by rw [env_con]; rfl
theorem con_PRIMES {k : Nat} : (envAt D k).con nc_PRIMES = .tup [.int 2, .int 3, .int 5, .int 7, .int 11] := by rw [env_con]; rfl
abbrev s_BadPaper_init : Stmt := inClass (top 2) 0
theorem c_BadPaper_init : FnScope ["self", "word"] (["self", "word"] : List Str) (defScope s_BadPaper_init) := ⟨rfl, rfl, rfl, by decide +kernel, rfl, by decide +kernel, by decide +kernel⟩
theorem i_BadPaper_init : isXi s_BadPaper_init "self" "word" "word" := ⟨_, _, _, _, rfl⟩
theorem all_mk {prog : Program} {w : World} {K : PySem.W.Frag} {h : Heap} {mg : Str → Option Value} {fa f0 f1 f2 f3 f4 f5 f6 f7 f8 f9 f10 f11 f12 f13 f14 f15 f16 f17 f18 f19 f20 f21 f22 f23 C0 C1 C2 C3 I1 t2_0 : Addr} (X : K.In h) (G : h.Ns mainGlobals mg) (hfa : mg "law" = some (.ref fa))
    {od_f0 an_f0 od_f1 an_f1 od_f2 an_f2 od_f3 an_f3 od_f4 an_f4 od_f5 an_f5 od_f6 an_f6 od_f7 an_f7 od_f8 an_f8 od_f9 an_f9 od_f10 an_f10 od_f11 an_f11 od_f12 an_f12 od_f13 an_f13 od_f14 an_f14 od_f15 an_f15 od_f16 an_f16 od_f17 an_f17 od_f18 an_f18 od_f19 an_f19 od_f20 an_f20 od_f21 an_f21 od_f22 an_f22 od_f23 an_f23 od_I1 an_I1 od_t2_0 : Option Addr} {sl_f0 sl_f1 sl_f2 sl_f3 sl_f4 sl_f5 sl_f6 sl_f7 sl_f8 sl_f9 sl_f10 sl_f11 sl_f12 sl_f13 sl_f14 sl_f15 sl_f16 sl_f17 sl_f18 sl_f19 sl_f20 sl_f21 sl_f22 sl_f23 sl_I1 sl_t2_0 : Array (Option Value)} {oc_f0 kv_f0 dc_f0 pm_f0 cd_f0 ct_f0 oc_f1 kv_f1 dc_f1 pm_f1 cd_f1 ct_f1 oc_f2 kv_f2 dc_f2 pm_f2 cd_f2 ct_f2 oc_f3 kv_f3 dc_f3 pm_f3 cd_f3 ct_f3 oc_f4 kv_f4 dc_f4 pm_f4 cd_f4 ct_f4 oc_f5 kv_f5 dc_f5 pm_f5 cd_f5 ct_f5 oc_f6 kv_f6 dc_f6 pm_f6 cd_f6 ct_f6 oc_f7 kv_f7 dc_f7 pm_f7 cd_f7 ct_f7 oc_f8 kv_f8 dc_f8 pm_f8 cd_f8 ct_f8 oc_f9 kv_f9 dc_f9 pm_f9 cd_f9 ct_f9 oc_f10 kv_f10 dc_f10 pm_f10 cd_f10 ct_f10 oc_f11 kv_f11 dc_f11 pm_f11 cd_f11 ct_f11 oc_f12 kv_f12 dc_f12 pm_f12 cd_f12 ct_f12 oc_f13 kv_f13 dc_f13 pm_f13 cd_f13 ct_f13 oc_f14 kv_f14 dc_f14 pm_f14 cd_f14 ct_f14 oc_f15 kv_f15 dc_f15 pm_f15 cd_f15 ct_f15 oc_f16 kv_f16 dc_f16 pm_f16 cd_f16 ct_f16 oc_f17 kv_f17 dc_f17 pm_f17 cd_f17 ct_f17 oc_f18 kv_f18 dc_f18 pm_f18 cd_f18 ct_f18 oc_f19 kv_f19 dc_f19 pm_f19 cd_f19 ct_f19 oc_f20 kv_f20 dc_f20 pm_f20 cd_f20 ct_f20 oc_f21 kv_f21 dc_f21 pm_f21 cd_f21 ct_f21 oc_f22 kv_f22 dc_f22 pm_f22 cd_f22 ct_f22 oc_f23 kv_f23 dc_f23 pm_f23 cd_f23 ct_f23 oc_I1 kv_I1 dc_I1 pm_I1 cd_I1 ct_I1 : Value} {tk0 tk1 tk_t2_0_0 tk_t2_0_1 tk_t2_0_2 tk_t2_0_3 tk_t2_0_4 : Tok} {nm_C1 : Str} {qn_C1 : Str} {N_C1 : Addr} {bs_C1 bm_C1 sub_C1 : List Value} {sn_C1 : List Str} {ab_C1 : Bool} {col_C1 : Option Bool} {dd_C1 : Option Addr} {m0_C1 m1_C1 m2_C1 m3_C1 m5_C1 : Option Value}
    (a_f0 : PySem.W.nsIn K mainGlobals "is_integer" = some (some (.ref f0)))
    (l_f0 : K.lookup f0 = some ⟨oc_f0, od_f0, .func (PySem.W.fnOf "is_integer" "is_integer" (defArgs s_is_integer) (defBody s_is_integer) (defScope s_is_integer) .none kv_f0 dc_f0 pm_f0 an_f0 cd_f0 ct_f0), sl_f0⟩)
    (c_f0 : PySem.W.codeIn K cd_f0 "is_integer" = true)
    (k_f0 : PySem.W.keepIn K (.ref f0) = true)
    (a_f1 : PySem.W.nsIn K mainGlobals "is_row" = some (some (.ref f1)))
    (l_f1 : K.lookup f1 = some ⟨oc_f1, od_f1, .func (PySem.W.fnOf "is_row" "is_row" (defArgs s_is_row) (defBody s_is_row) (defScope s_is_row) .none kv_f1 dc_f1 pm_f1 an_f1 cd_f1 ct_f1), sl_f1⟩)
    (c_f1 : PySem.W.codeIn K cd_f1 "is_row" = true)
    (k_f1 : PySem.W.keepIn K (.ref f1) = true)
    (a_f2 : PySem.W.nsIn K mainGlobals "is_counters" = some (some (.ref f2)))
    (l_f2 : K.lookup f2 = some ⟨oc_f2, od_f2, .func (PySem.W.fnOf "is_counters" "is_counters" (defArgs s_is_counters) (defBody s_is_counters) (defScope s_is_counters) .none kv_f2 dc_f2 pm_f2 an_f2 cd_f2 ct_f2), sl_f2⟩)
    (c_f2 : PySem.W.codeIn K cd_f2 "is_counters" = true)
    (k_f2 : PySem.W.keepIn K (.ref f2) = true)
    (a_f3 : PySem.W.nsIn K mainGlobals "are_values" = some (some (.ref f3)))
    (l_f3 : K.lookup f3 = some ⟨oc_f3, od_f3, .func (PySem.W.fnOf "are_values" "are_values" (defArgs s_are_values) (defBody s_are_values) (defScope s_are_values) .none kv_f3 dc_f3 pm_f3 an_f3 cd_f3 ct_f3), sl_f3⟩)
    (c_f3 : PySem.W.codeIn K cd_f3 "are_values" = true)
    (k_f3 : PySem.W.keepIn K (.ref f3) = true)
    (a_f4 : PySem.W.nsIn K mainGlobals "look_at_counters" = some (some (.ref f4)))
    (l_f4 : K.lookup f4 = some ⟨oc_f4, od_f4, .func (PySem.W.fnOf "look_at_counters" "look_at_counters" (defArgs s_look_at_counters) (defBody s_look_at_counters) (defScope s_look_at_counters) .none kv_f4 dc_f4 pm_f4 an_f4 cd_f4 ct_f4), sl_f4⟩)
    (c_f4 : PySem.W.codeIn K cd_f4 "look_at_counters" = true)
    (k_f4 : PySem.W.keepIn K (.ref f4) = true)
    (a_f5 : PySem.W.nsIn K mainGlobals "changed" = some (some (.ref f5)))
    (l_f5 : K.lookup f5 = some ⟨oc_f5, od_f5, .func (PySem.W.fnOf "changed" "changed" (defArgs s_changed) (defBody s_changed) (defScope s_changed) .none kv_f5 dc_f5 pm_f5 an_f5 cd_f5 ct_f5), sl_f5⟩)
    (c_f5 : PySem.W.codeIn K cd_f5 "changed" = true)
    (k_f5 : PySem.W.keepIn K (.ref f5) = true)
    (a_f6 : PySem.W.nsIn K mainGlobals "step_by" = some (some (.ref f6)))
    (l_f6 : K.lookup f6 = some ⟨oc_f6, od_f6, .func (PySem.W.fnOf "step_by" "step_by" (defArgs s_step_by) (defBody s_step_by) (defScope s_step_by) .none kv_f6 dc_f6 pm_f6 an_f6 cd_f6 ct_f6), sl_f6⟩)
    (c_f6 : PySem.W.codeIn K cd_f6 "step_by" = true)
    (k_f6 : PySem.W.keepIn K (.ref f6) = true)
    (a_f7 : PySem.W.nsIn K mainGlobals "next_counters" = some (some (.ref f7)))
    (l_f7 : K.lookup f7 = some ⟨oc_f7, od_f7, .func (PySem.W.fnOf "next_counters" "next_counters" (defArgs s_next_counters) (defBody s_next_counters) (defScope s_next_counters) .none kv_f7 dc_f7 pm_f7 an_f7 cd_f7 ct_f7), sl_f7⟩)
    (c_f7 : PySem.W.codeIn K cd_f7 "next_counters" = true)
    (k_f7 : PySem.W.keepIn K (.ref f7) = true)
    (a_f8 : PySem.W.nsIn K mainGlobals "power_of" = some (some (.ref f8)))
    (l_f8 : K.lookup f8 = some ⟨oc_f8, od_f8, .func (PySem.W.fnOf "power_of" "power_of" (defArgs s_power_of) (defBody s_power_of) (defScope s_power_of) .none kv_f8 dc_f8 pm_f8 an_f8 cd_f8 ct_f8), sl_f8⟩)
    (c_f8 : PySem.W.codeIn K cd_f8 "power_of" = true)
    (k_f8 : PySem.W.keepIn K (.ref f8) = true)
    (a_f9 : PySem.W.nsIn K mainGlobals "values_of" = some (some (.ref f9)))
    (l_f9 : K.lookup f9 = some ⟨oc_f9, od_f9, .func (PySem.W.fnOf "values_of" "values_of" (defArgs s_values_of) (defBody s_values_of) (defScope s_values_of) .none kv_f9 dc_f9 pm_f9 an_f9 cd_f9 ct_f9), sl_f9⟩)
    (c_f9 : PySem.W.codeIn K cd_f9 "values_of" = true)
    (k_f9 : PySem.W.keepIn K (.ref f9) = true)
    (a_f10 : PySem.W.nsIn K mainGlobals "size_of" = some (some (.ref f10)))
    (l_f10 : K.lookup f10 = some ⟨oc_f10, od_f10, .func (PySem.W.fnOf "size_of" "size_of" (defArgs s_size_of) (defBody s_size_of) (defScope s_size_of) .none kv_f10 dc_f10 pm_f10 an_f10 cd_f10 ct_f10), sl_f10⟩)
    (c_f10 : PySem.W.codeIn K cd_f10 "size_of" = true)
    (k_f10 : PySem.W.keepIn K (.ref f10) = true)
    (a_f11 : PySem.W.nsIn K mainGlobals "rows_for_up" = some (some (.ref f11)))
    (l_f11 : K.lookup f11 = some ⟨oc_f11, od_f11, .func (PySem.W.fnOf "rows_for_up" "rows_for_up" (defArgs s_rows_for_up) (defBody s_rows_for_up) (defScope s_rows_for_up) .none kv_f11 dc_f11 pm_f11 an_f11 cd_f11 ct_f11), sl_f11⟩)
    (c_f11 : PySem.W.codeIn K cd_f11 "rows_for_up" = true)
    (k_f11 : PySem.W.keepIn K (.ref f11) = true)
    (a_f12 : PySem.W.nsIn K mainGlobals "rows_for_down" = some (some (.ref f12)))
    (l_f12 : K.lookup f12 = some ⟨oc_f12, od_f12, .func (PySem.W.fnOf "rows_for_down" "rows_for_down" (defArgs s_rows_for_down) (defBody s_rows_for_down) (defScope s_rows_for_down) .none kv_f12 dc_f12 pm_f12 an_f12 cd_f12 ct_f12), sl_f12⟩)
    (c_f12 : PySem.W.codeIn K cd_f12 "rows_for_down" = true)
    (k_f12 : PySem.W.keepIn K (.ref f12) = true)
    (a_f13 : PySem.W.nsIn K mainGlobals "two_of" = some (some (.ref f13)))
    (l_f13 : K.lookup f13 = some ⟨oc_f13, od_f13, .func (PySem.W.fnOf "two_of" "two_of" (defArgs s_two_of) (defBody s_two_of) (defScope s_two_of) .none kv_f13 dc_f13 pm_f13 an_f13 cd_f13 ct_f13), sl_f13⟩)
    (c_f13 : PySem.W.codeIn K cd_f13 "two_of" = true)
    (k_f13 : PySem.W.keepIn K (.ref f13) = true)
    (a_f14 : PySem.W.nsIn K mainGlobals "_law_bag" = some (some (.ref f14)))
    (l_f14 : K.lookup f14 = some ⟨oc_f14, od_f14, .func (PySem.W.fnOf "_law_bag" "_law_bag" (defArgs s__law_bag) (defBody s__law_bag) (defScope s__law_bag) .none kv_f14 dc_f14 pm_f14 an_f14 cd_f14 ct_f14), sl_f14⟩)
    (c_f14 : PySem.W.codeIn K cd_f14 "_law_bag" = true)
    (k_f14 : PySem.W.keepIn K (.ref f14) = true)
    (a_f15 : PySem.W.nsIn K mainGlobals "_law_draw" = some (some (.ref f15)))
    (l_f15 : K.lookup f15 = some ⟨oc_f15, od_f15, .func (PySem.W.fnOf "_law_draw" "_law_draw" (defArgs s__law_draw) (defBody s__law_draw) (defScope s__law_draw) .none kv_f15 dc_f15 pm_f15 an_f15 cd_f15 ct_f15), sl_f15⟩)
    (c_f15 : PySem.W.codeIn K cd_f15 "_law_draw" = true)
    (k_f15 : PySem.W.keepIn K (.ref f15) = true)
    (a_f16 : PySem.W.nsIn K mainGlobals "_law_counters" = some (some (.ref f16)))
    (l_f16 : K.lookup f16 = some ⟨oc_f16, od_f16, .func (PySem.W.fnOf "_law_counters" "_law_counters" (defArgs s__law_counters) (defBody s__law_counters) (defScope s__law_counters) .none kv_f16 dc_f16 pm_f16 an_f16 cd_f16 ct_f16), sl_f16⟩)
    (c_f16 : PySem.W.codeIn K cd_f16 "_law_counters" = true)
    (k_f16 : PySem.W.keepIn K (.ref f16) = true)
    (a_f17 : PySem.W.nsIn K mainGlobals "_law_step" = some (some (.ref f17)))
    (l_f17 : K.lookup f17 = some ⟨oc_f17, od_f17, .func (PySem.W.fnOf "_law_step" "_law_step" (defArgs s__law_step) (defBody s__law_step) (defScope s__law_step) .none kv_f17 dc_f17 pm_f17 an_f17 cd_f17 ct_f17), sl_f17⟩)
    (c_f17 : PySem.W.codeIn K cd_f17 "_law_step" = true)
    (k_f17 : PySem.W.keepIn K (.ref f17) = true)
    (a_f18 : PySem.W.nsIn K mainGlobals "_law_power" = some (some (.ref f18)))
    (l_f18 : K.lookup f18 = some ⟨oc_f18, od_f18, .func (PySem.W.fnOf "_law_power" "_law_power" (defArgs s__law_power) (defBody s__law_power) (defScope s__law_power) .none kv_f18 dc_f18 pm_f18 an_f18 cd_f18 ct_f18), sl_f18⟩)
    (c_f18 : PySem.W.codeIn K cd_f18 "_law_power" = true)
    (k_f18 : PySem.W.keepIn K (.ref f18) = true)
    (a_f19 : PySem.W.nsIn K mainGlobals "_law_size" = some (some (.ref f19)))
    (l_f19 : K.lookup f19 = some ⟨oc_f19, od_f19, .func (PySem.W.fnOf "_law_size" "_law_size" (defArgs s__law_size) (defBody s__law_size) (defScope s__law_size) .none kv_f19 dc_f19 pm_f19 an_f19 cd_f19 ct_f19), sl_f19⟩)
    (c_f19 : PySem.W.codeIn K cd_f19 "_law_size" = true)
    (k_f19 : PySem.W.keepIn K (.ref f19) = true)
    (a_f20 : PySem.W.nsIn K mainGlobals "_law_told" = some (some (.ref f20)))
    (l_f20 : K.lookup f20 = some ⟨oc_f20, od_f20, .func (PySem.W.fnOf "_law_told" "_law_told" (defArgs s__law_told) (defBody s__law_told) (defScope s__law_told) .none kv_f20 dc_f20 pm_f20 an_f20 cd_f20 ct_f20), sl_f20⟩)
    (c_f20 : PySem.W.codeIn K cd_f20 "_law_told" = true)
    (k_f20 : PySem.W.keepIn K (.ref f20) = true)
    (a_f21 : PySem.W.nsIn K mainGlobals "_law_goes" = some (some (.ref f21)))
    (l_f21 : K.lookup f21 = some ⟨oc_f21, od_f21, .func (PySem.W.fnOf "_law_goes" "_law_goes" (defArgs s__law_goes) (defBody s__law_goes) (defScope s__law_goes) .none kv_f21 dc_f21 pm_f21 an_f21 cd_f21 ct_f21), sl_f21⟩)
    (c_f21 : PySem.W.codeIn K cd_f21 "_law_goes" = true)
    (k_f21 : PySem.W.keepIn K (.ref f21) = true)
    (a_f22 : PySem.W.nsIn K mainGlobals "_law_case" = some (some (.ref f22)))
    (l_f22 : K.lookup f22 = some ⟨oc_f22, od_f22, .func (PySem.W.fnOf "_law_case" "_law_case" (defArgs s__law_case) (defBody s__law_case) (defScope s__law_case) .none kv_f22 dc_f22 pm_f22 an_f22 cd_f22 ct_f22), sl_f22⟩)
    (c_f22 : PySem.W.codeIn K cd_f22 "_law_case" = true)
    (k_f22 : PySem.W.keepIn K (.ref f22) = true)
    (a_f23 : PySem.W.nsIn K mainGlobals "law" = some (some (.ref f23)))
    (l_f23 : K.lookup f23 = some ⟨oc_f23, od_f23, .func (PySem.W.fnOf "law" "law" (defArgs s_law) (defBody s_law) (defScope s_law) .none kv_f23 dc_f23 pm_f23 an_f23 cd_f23 ct_f23), sl_f23⟩)
    (c_f23 : PySem.W.codeIn K cd_f23 "law" = true)
    (k_f23 : PySem.W.keepIn K (.ref f23) = true)
    (a_C0 : PySem.W.nsIn K mainGlobals "HeadError" = some (some (.ref C0)))
    (k_C0 : PySem.W.keepIn K (.ref C0) = true)
    (a_C1 : PySem.W.nsIn K mainGlobals "BadPaper" = some (some (.ref C1)))
    (k_C1 : PySem.W.keepIn K (.ref C1) = true)
    (a_C2 : PySem.W.nsIn K mainGlobals "TooFar" = some (some (.ref C2)))
    (k_C2 : PySem.W.keepIn K (.ref C2) = true)
    (a_C3 : PySem.W.nsIn K mainGlobals "NoSuch" = some (some (.ref C3)))
    (k_C3 : PySem.W.keepIn K (.ref C3) = true)
    (x_C1 : xfB K C1 = true)
    (n_C1 : (nA.all fun y => decide (PySem.W.findIn K (.ref C1) y = some none)) = true)
    (s_C1 : PySem.W.subIn K (.ref C1) (.type "BaseException") = some true)
    (y_C1 : PySem.W.typeIn K (.ref C1) = some (.type "type"))
    (o_C1 : K.lookup C1 = some (excClassObj nm_C1 qn_C1 C1 N_C1 bs_C1 bm_C1 true sn_C1 sub_C1 ab_C1 col_C1 dd_C1 m0_C1 m1_C1 m2_C1 m3_C1 m5_C1 "ValueError.__new__"))
    (r_C1 : PySem.HandSPX.refsVE bm_C1 = true)
    (sa_C1 : PySem.W.findIn K (.ref C1) "__setattr__" = some (some (.builtin "object.__setattr__")))
    (i_C1 : PySem.W.findIn K (.ref C1) "__init__" = some (some (.ref I1)))
    (t_I1 : PySem.W.typeIn K (.ref I1) = some (.type "function"))
    (l_I1 : K.lookup I1 = some ⟨oc_I1, od_I1, .func (PySem.W.fnOf "__init__" "BadPaper.__init__" (defArgs s_BadPaper_init) (defBody s_BadPaper_init) (defScope s_BadPaper_init) .none kv_I1 dc_I1 pm_I1 an_I1 cd_I1 ct_I1), sl_I1⟩)
    (c_I1 : PySem.W.codeIn K cd_I1 "BadPaper.__init__" = true)
    (k_I1 : PySem.W.keepIn K (.ref I1) = true)
    (x_C2 : xfB K C2 = true)
    (n_C2 : (nA.all fun y => decide (PySem.W.findIn K (.ref C2) y = some none)) = true)
    (s_C2 : PySem.W.subIn K (.ref C2) (.type "BaseException") = some true)
    (y_C2 : PySem.W.typeIn K (.ref C2) = some (.type "type"))
    (e_C2 : PySem.W.excIn K C2 PySem.HandSPX.veTail "ValueError.__new__" = true)
    (x_C3 : xfB K C3 = true)
    (n_C3 : (nA.all fun y => decide (PySem.W.findIn K (.ref C3) y = some none)) = true)
    (s_C3 : PySem.W.subIn K (.ref C3) (.type "BaseException") = some true)
    (y_C3 : PySem.W.typeIn K (.ref C3) = some (.type "type"))
    (e_C3 : PySem.W.excIn K C3 PySem.HandSPX.veTail "ValueError.__new__" = true)
    (ee_1_1 : PySem.W.exmOne K (.ref C1) (.ref C1) = some (decide ((1 : Nat) = 1)))
    (ee_1_2 : PySem.W.exmOne K (.ref C1) (.ref C2) = some (decide ((1 : Nat) = 2)))
    (ee_1_3 : PySem.W.exmOne K (.ref C1) (.ref C3) = some (decide ((1 : Nat) = 3)))
    (ee_2_1 : PySem.W.exmOne K (.ref C2) (.ref C1) = some (decide ((2 : Nat) = 1)))
    (ee_2_2 : PySem.W.exmOne K (.ref C2) (.ref C2) = some (decide ((2 : Nat) = 2)))
    (ee_2_3 : PySem.W.exmOne K (.ref C2) (.ref C3) = some (decide ((2 : Nat) = 3)))
    (ee_3_1 : PySem.W.exmOne K (.ref C3) (.ref C1) = some (decide ((3 : Nat) = 1)))
    (ee_3_2 : PySem.W.exmOne K (.ref C3) (.ref C2) = some (decide ((3 : Nat) = 2)))
    (ee_3_3 : PySem.W.exmOne K (.ref C3) (.ref C3) = some (decide ((3 : Nat) = 3)))
    (g_0 : PySem.W.nsIn K mainGlobals "MOST_ROWS" = some (some (.int 2000 tk0)))
    (g_1 : PySem.W.nsIn K mainGlobals "MOST_COUNTERS" = some (some (.int 5 tk1)))
    (g_2 : PySem.W.nsIn K mainGlobals "PRIMES" = some (some (.ref t2_0)))
    (l_t2_0 : K.lookup t2_0 = some ⟨.type "tuple", od_t2_0, .seq #[.int 2 tk_t2_0_0, .int 3 tk_t2_0_1, .int 5 tk_t2_0_2, .int 7 tk_t2_0_3, .int 11 tk_t2_0_4] 0, sl_t2_0⟩)
    (blt : (bltNames.all fun y => decide (PySem.W.nsIn K mainGlobals y = some none)) = true)
    : ∃ fd : FuncData, (∀ (s : Shared) (v : Value), BindsTo s fd ⟨[v], []⟩ [("script", v)]) ∧ ∀ (k : Nat) (base : Heap), FnOk prog w K mg base (L2.CX prog w) (k + 1) fa fd ["script"] (lawSp K mg D w (k + 1) 23) := by
  have F0 := fun_mk (st := s_is_integer) l_f0 c_f0 k_f0
  have T0 : FnFactP K TT "is_integer" "is_integer" f0 ⟨3, 3, b_is_integer⟩ _ (["value", "low", "high"] : List Str) := ⟨s_is_integer, ["value", "low", "high"], F0, c_is_integer, rfl, rfl, F0.binds (ps := ["value", "low", "high"]) fun _ _ _ _ _ _ us hl => match us, hl with | [_, _, _], _ => rfl, t_is_integer⟩
  have F1 := fun_mk (st := s_is_row) l_f1 c_f1 k_f1
  have T1 : FnFactP K TT "is_row" "is_row" f1 ⟨3, 4, b_is_row⟩ _ (["value", "k", "many"] : List Str) := ⟨s_is_row, ["value", "k", "many", "one"], F1, c_is_row, rfl, rfl, F1.binds (ps := ["value", "k", "many"]) fun _ _ _ _ _ _ us hl => match us, hl with | [_, _, _], _ => rfl, t_is_row⟩
  have F2 := fun_mk (st := s_is_counters) l_f2 c_f2 k_f2
  have T2 : FnFactP K TT "is_counters" "is_counters" f2 ⟨1, 5, b_is_counters⟩ _ (["value"] : List Str) := ⟨s_is_counters, ["value", "_", "k", "rows", "row"], F2, c_is_counters, rfl, rfl, F2.binds (ps := ["value"]) fun _ _ _ _ _ _ us hl => match us, hl with | [_], _ => rfl, t_is_counters⟩
  have F3 := fun_mk (st := s_are_values) l_f3 c_f3 k_f3
  have T3 : FnFactP K TT "are_values" "are_values" f3 ⟨2, 3, b_are_values⟩ _ (["value", "k"] : List Str) := ⟨s_are_values, ["value", "k", "one"], F3, c_are_values, rfl, rfl, F3.binds (ps := ["value", "k"]) fun _ _ _ _ _ _ us hl => match us, hl with | [_, _], _ => rfl, t_are_values⟩
  have F4 := fun_mk (st := s_look_at_counters) l_f4 c_f4 k_f4
  have T4 : FnFactP K TT "look_at_counters" "look_at_counters" f4 ⟨3, 3, b_look_at_counters⟩ _ (["counters", "row", "values"] : List Str) := ⟨s_look_at_counters, ["counters", "row", "values"], F4, c_look_at_counters, rfl, rfl, F4.binds (ps := ["counters", "row", "values"]) fun _ _ _ _ _ _ us hl => match us, hl with | [_, _, _], _ => rfl, t_look_at_counters⟩
  have F5 := fun_mk (st := s_changed) l_f5 c_f5 k_f5
  have T5 : FnFactP K TT "changed" "changed" f5 ⟨3, 3, b_changed⟩ _ (["values", "c", "by"] : List Str) := ⟨s_changed, ["values", "c", "by"], F5, c_changed, rfl, rfl, F5.binds (ps := ["values", "c", "by"]) fun _ _ _ _ _ _ us hl => match us, hl with | [_, _, _], _ => rfl, t_changed⟩
  have F6 := fun_mk (st := s_step_by) l_f6 c_f6 k_f6
  have T6 : FnFactP K TT "step_by" "step_by" f6 ⟨3, 4, b_step_by⟩ _ (["counters", "row", "values"] : List Str) := ⟨s_step_by, ["counters", "row", "values", "order"], F6, c_step_by, rfl, rfl, F6.binds (ps := ["counters", "row", "values"]) fun _ _ _ _ _ _ us hl => match us, hl with | [_, _, _], _ => rfl, t_step_by⟩
  have F7 := fun_mk (st := s_next_counters) l_f7 c_f7 k_f7
  have T7 : FnFactP K TT "next_counters" "next_counters" f7 ⟨3, 3, b_next_counters⟩ _ (["counters", "row", "values"] : List Str) := ⟨s_next_counters, ["counters", "row", "values"], F7, c_next_counters, rfl, rfl, F7.binds (ps := ["counters", "row", "values"]) fun _ _ _ _ _ _ us hl => match us, hl with | [_, _, _], _ => rfl, t_next_counters⟩
  have F8 := fun_mk (st := s_power_of) l_f8 c_f8 k_f8
  have T8 : FnFactP K TT "power_of" "power_of" f8 ⟨1, 5, b_power_of⟩ _ (["values"] : List Str) := ⟨s_power_of, ["values", "found", "prime", "value", "_"], F8, c_power_of, rfl, rfl, F8.binds (ps := ["values"]) fun _ _ _ _ _ _ us hl => match us, hl with | [_], _ => rfl, t_power_of⟩
  have F9 := fun_mk (st := s_values_of) l_f9 c_f9 k_f9
  have T9 : FnFactP K TT "values_of" "values_of" f9 ⟨2, 5, b_values_of⟩ _ (["product", "k"] : List Str) := ⟨s_values_of, ["product", "k", "found", "prime", "many"], F9, c_values_of, rfl, rfl, F9.binds (ps := ["product", "k"]) fun _ _ _ _ _ _ us hl => match us, hl with | [_, _], _ => rfl, t_values_of⟩
  have F10 := fun_mk (st := s_size_of) l_f10 c_f10 k_f10
  have T10 : FnFactP K TT "size_of" "size_of" f10 ⟨1, 3, b_size_of⟩ _ (["order"] : List Str) := ⟨s_size_of, ["order", "p", "r"], F10, c_size_of, rfl, rfl, F10.binds (ps := ["order"]) fun _ _ _ _ _ _ us hl => match us, hl with | [_], _ => rfl, t_size_of⟩
  have F11 := fun_mk (st := s_rows_for_up) l_f11 c_f11 k_f11
  have T11 : FnFactP K TT "rows_for_up" "rows_for_up" f11 ⟨3, 6, b_rows_for_up⟩ _ (["p", "at", "after"] : List Str) := ⟨s_rows_for_up, ["p", "at", "after", "rows", "i", "back"], F11, c_rows_for_up, rfl, rfl, F11.binds (ps := ["p", "at", "after"]) fun _ _ _ _ _ _ us hl => match us, hl with | [_, _, _], _ => rfl, t_rows_for_up⟩
  have F12 := fun_mk (st := s_rows_for_down) l_f12 c_f12 k_f12
  have T12 : FnFactP K TT "rows_for_down" "rows_for_down" f12 ⟨4, 9, b_rows_for_down⟩ _ (["p", "at", "after", "other"] : List Str) := ⟨s_rows_for_down, ["p", "at", "after", "other", "rests", "r", "rows", "here", "i"], F12, c_rows_for_down, rfl, rfl, F12.binds (ps := ["p", "at", "after", "other"]) fun _ _ _ _ _ _ us hl => match us, hl with | [_, _, _, _], _ => rfl, t_rows_for_down⟩
  have F13 := fun_mk (st := s_two_of) l_f13 c_f13 k_f13
  have T13 : FnFactP K TT "two_of" "two_of" f13 ⟨1, 6, b_two_of⟩ _ (["counters"] : List Str) := ⟨s_two_of, ["counters", "entries", "at", "order", "rows", "here"], F13, c_two_of, rfl, rfl, F13.binds (ps := ["counters"]) fun _ _ _ _ _ _ us hl => match us, hl with | [_], _ => rfl, t_two_of⟩
  have F14 := fun_mk (st := s__law_bag) l_f14 c_f14 k_f14
  have T14 : FnFactP K TT "_law_bag" "_law_bag" f14 ⟨2, 3, b__law_bag⟩ _ (["script", "k"] : List Str) := ⟨s__law_bag, ["script", "k", "cell"], F14, c__law_bag, rfl, rfl, F14.binds (ps := ["script", "k"]) fun _ _ _ _ _ _ us hl => match us, hl with | [_, _], _ => rfl, t__law_bag⟩
  have F15 := fun_mk (st := s__law_draw) l_f15 c_f15 k_f15
  have T15 : FnFactP K TT "_law_draw" "_law_draw" f15 ⟨2, 4, b__law_draw⟩ _ (["bag", "many"] : List Str) := ⟨s__law_draw, ["bag", "many", "seed", "rest"], F15, c__law_draw, rfl, rfl, F15.binds (ps := ["bag", "many"]) fun _ _ _ _ _ _ us hl => match us, hl with | [_, _], _ => rfl, t__law_draw⟩
  have F16 := fun_mk (st := s__law_counters) l_f16 c_f16 k_f16
  have T16 : FnFactP K TT "_law_counters" "_law_counters" f16 ⟨1, 6, b__law_counters⟩ _ (["bag"] : List Str) := ⟨s__law_counters, ["bag", "k", "many", "rows", "n", "pick"], F16, c__law_counters, rfl, rfl, F16.binds (ps := ["bag"]) fun _ _ _ _ _ _ us hl => match us, hl with | [_], _ => rfl, t__law_counters⟩
  have F17 := fun_mk (st := s__law_step) l_f17 c_f17 k_f17
  have T17 : FnFactP K TT "_law_step" "_law_step" f17 ⟨3, 5, b__law_step⟩ _ (["counters", "row", "values"] : List Str) := ⟨s__law_step, ["counters", "row", "values", "order", "c"], F17, c__law_step, rfl, rfl, F17.binds (ps := ["counters", "row", "values"]) fun _ _ _ _ _ _ us hl => match us, hl with | [_, _, _], _ => rfl, t__law_step⟩
  have F18 := fun_mk (st := s__law_power) l_f18 c_f18 k_f18
  have T18 : FnFactP K TT "_law_power" "_law_power" f18 ⟨1, 4, b__law_power⟩ _ (["values"] : List Str) := ⟨s__law_power, ["values", "found", "c", "k"], F18, c__law_power, rfl, rfl, F18.binds (ps := ["values"]) fun _ _ _ _ _ _ us hl => match us, hl with | [_], _ => rfl, t__law_power⟩
  have F19 := fun_mk (st := s__law_size) l_f19 c_f19 k_f19
  have T19 : FnFactP K TT "_law_size" "_law_size" f19 ⟨1, 3, b__law_size⟩ _ (["order"] : List Str) := ⟨s__law_size, ["order", "p", "r"], F19, c__law_size, rfl, rfl, F19.binds (ps := ["order"]) fun _ _ _ _ _ _ us hl => match us, hl with | [_], _ => rfl, t__law_size⟩
  have F20 := fun_mk (st := s__law_told) l_f20 c_f20 k_f20
  have T20 : FnFactP K TT "_law_told" "_law_told" f20 ⟨3, 4, b__law_told⟩ _ (["call", "one", "other"] : List Str) := ⟨s__law_told, ["call", "one", "other", "e"], F20, c__law_told, rfl, rfl, F20.binds (ps := ["call", "one", "other"]) fun _ _ _ _ _ _ us hl => match us, hl with | [_, _, _], _ => rfl, t__law_told⟩
  have F21 := fun_mk (st := s__law_goes) l_f21 c_f21 k_f21
  have T21 : FnFactP K TT "_law_goes" "_law_goes" f21 ⟨5, 8, b__law_goes⟩ _ (["made", "entries", "row", "product", "due"] : List Str) := ⟨s__law_goes, ["made", "entries", "row", "product", "due", "here", "step", "after"], F21, c__law_goes, rfl, rfl, F21.binds (ps := ["made", "entries", "row", "product", "due"]) fun _ _ _ _ _ _ us hl => match us, hl with | [_, _, _, _, _], _ => rfl, t__law_goes⟩
  have F22 := fun_mk (st := s__law_case) l_f22 c_f22 k_f22
  have T22 : FnFactP K TT "_law_case" "_law_case" f22 ⟨1, 14, b__law_case⟩ _ (["bag"] : List Str) := ⟨s__law_case, ["bag", "counters", "word", "made", "entries", "due", "at", "order", "row", "values", "turn", "after", "product", "c"], F22, c__law_case, rfl, rfl, F22.binds (ps := ["bag"]) fun _ _ _ _ _ _ us hl => match us, hl with | [_], _ => rfl, t__law_case⟩
  have F23 := fun_mk (st := s_law) l_f23 c_f23 k_f23
  have T23 : FnFactP K TT "law" "law" f23 ⟨1, 5, b_law⟩ _ (["script"] : List Str) := ⟨s_law, ["script", "wide", "k", "odd", "one"], F23, c_law, rfl, rfl, F23.binds (ps := ["script"]) fun _ _ _ _ _ _ us hl => match us, hl with | [_], _ => rfl, t_law⟩
  have G0 : mg "HeadError" = some (.ref C0) := PySem.W.mg_of X G a_C0
  have G1 : mg "BadPaper" = some (.ref C1) := PySem.W.mg_of X G a_C1
  have G2 : mg "TooFar" = some (.ref C2) := PySem.W.mg_of X G a_C2
  have G3 : mg "NoSuch" = some (.ref C3) := PySem.W.mg_of X G a_C3
  have st : PStat K mg D := {
    con := fun i x h => match i, h with
    | 0, h => by cases h; exact ⟨.int 2000, _, PySem.W.mg_of X G g_0, ⟨_, rfl⟩, fun _ H => rep_int⟩
    | 1, h => by cases h; exact ⟨.int 5, _, PySem.W.mg_of X G g_1, ⟨_, rfl⟩, fun _ H => rep_int⟩
    | 2, h => by cases h; exact ⟨.ref t2_0, _, PySem.W.mg_of X G g_2, rfl, fun _ H => (rep_ktup (vs := [.int 2, .int 3, .int 5, .int 7, .int 11]) l_t2_0 (Nat.le_of_ble_eq_true rfl) (.cons ⟨_, rfl⟩ (.cons ⟨_, rfl⟩ (.cons ⟨_, rfl⟩ (.cons ⟨_, rfl⟩ (.cons ⟨_, rfl⟩ .nil))))) (Reps.cons rep_int (Reps.cons rep_int (Reps.cons rep_int (Reps.cons rep_int (Reps.cons rep_int reps_nil))))))⟩
    | n + 3, h => by cases h
    fnv := fun i x h => match i, h with
    | 0, h => by cases h; exact ⟨f0, PySem.W.mg_of X G a_f0, k_f0, fun d hd => by cases hd; exact ⟨_, _, _, T0⟩⟩
    | 1, h => by cases h; exact ⟨f1, PySem.W.mg_of X G a_f1, k_f1, fun d hd => by cases hd; exact ⟨_, _, _, T1⟩⟩
    | 2, h => by cases h; exact ⟨f2, PySem.W.mg_of X G a_f2, k_f2, fun d hd => by cases hd; exact ⟨_, _, _, T2⟩⟩
    | 3, h => by cases h; exact ⟨f3, PySem.W.mg_of X G a_f3, k_f3, fun d hd => by cases hd; exact ⟨_, _, _, T3⟩⟩
    | 4, h => by cases h; exact ⟨f4, PySem.W.mg_of X G a_f4, k_f4, fun d hd => by cases hd; exact ⟨_, _, _, T4⟩⟩
    | 5, h => by cases h; exact ⟨f5, PySem.W.mg_of X G a_f5, k_f5, fun d hd => by cases hd; exact ⟨_, _, _, T5⟩⟩
    | 6, h => by cases h; exact ⟨f6, PySem.W.mg_of X G a_f6, k_f6, fun d hd => by cases hd; exact ⟨_, _, _, T6⟩⟩
    | 7, h => by cases h; exact ⟨f7, PySem.W.mg_of X G a_f7, k_f7, fun d hd => by cases hd; exact ⟨_, _, _, T7⟩⟩
    | 8, h => by cases h; exact ⟨f8, PySem.W.mg_of X G a_f8, k_f8, fun d hd => by cases hd; exact ⟨_, _, _, T8⟩⟩
    | 9, h => by cases h; exact ⟨f9, PySem.W.mg_of X G a_f9, k_f9, fun d hd => by cases hd; exact ⟨_, _, _, T9⟩⟩
    | 10, h => by cases h; exact ⟨f10, PySem.W.mg_of X G a_f10, k_f10, fun d hd => by cases hd; exact ⟨_, _, _, T10⟩⟩
    | 11, h => by cases h; exact ⟨f11, PySem.W.mg_of X G a_f11, k_f11, fun d hd => by cases hd; exact ⟨_, _, _, T11⟩⟩
    | 12, h => by cases h; exact ⟨f12, PySem.W.mg_of X G a_f12, k_f12, fun d hd => by cases hd; exact ⟨_, _, _, T12⟩⟩
    | 13, h => by cases h; exact ⟨f13, PySem.W.mg_of X G a_f13, k_f13, fun d hd => by cases hd; exact ⟨_, _, _, T13⟩⟩
    | 14, h => by cases h; exact ⟨f14, PySem.W.mg_of X G a_f14, k_f14, fun d hd => by cases hd; exact ⟨_, _, _, T14⟩⟩
    | 15, h => by cases h; exact ⟨f15, PySem.W.mg_of X G a_f15, k_f15, fun d hd => by cases hd; exact ⟨_, _, _, T15⟩⟩
    | 16, h => by cases h; exact ⟨f16, PySem.W.mg_of X G a_f16, k_f16, fun d hd => by cases hd; exact ⟨_, _, _, T16⟩⟩
    | 17, h => by cases h; exact ⟨f17, PySem.W.mg_of X G a_f17, k_f17, fun d hd => by cases hd; exact ⟨_, _, _, T17⟩⟩
    | 18, h => by cases h; exact ⟨f18, PySem.W.mg_of X G a_f18, k_f18, fun d hd => by cases hd; exact ⟨_, _, _, T18⟩⟩
    | 19, h => by cases h; exact ⟨f19, PySem.W.mg_of X G a_f19, k_f19, fun d hd => by cases hd; exact ⟨_, _, _, T19⟩⟩
    | 20, h => by cases h; exact ⟨f20, PySem.W.mg_of X G a_f20, k_f20, fun d hd => by cases hd; exact ⟨_, _, _, T20⟩⟩
    | 21, h => by cases h; exact ⟨f21, PySem.W.mg_of X G a_f21, k_f21, fun d hd => by cases hd; exact ⟨_, _, _, T21⟩⟩
    | 22, h => by cases h; exact ⟨f22, PySem.W.mg_of X G a_f22, k_f22, fun d hd => by cases hd; exact ⟨_, _, _, T22⟩⟩
    | 23, h => by cases h; exact ⟨f23, PySem.W.mg_of X G a_f23, k_f23, fun d hd => by cases hd; exact ⟨_, _, _, T23⟩⟩
    | n + 24, h => by cases h
    clv := fun i x h => match i, h with
    | 0, h => by cases h; exact ⟨C0, G0, k_C0⟩
    | 1, h => by cases h; exact ⟨C1, G1, k_C1⟩
    | 2, h => by cases h; exact ⟨C2, G2, k_C2⟩
    | 3, h => by cases h; exact ⟨C3, G3, k_C3⟩
    | n + 4, h => by cases h
    mth := fun i j d h => by simp [D] at h
    ini := fun i d h => by simp [D] at h
    blt := fun x hx => PySem.W.mg_none_of X G (of_decide_eq_true (List.all_eq_true.mp blt x hx))
    att := by decide +kernel
    exm := fun i j x y C E h1 h2 h3 h4 h5 h6 => by
      have key : ∀ (i : Nat) (x : Str) (C : Addr), nK[i]? = some x → (xc i).isSome = true → mg x = some (.ref C) → (i = 1 ∧ C = C1) ∨ (i = 2 ∧ C = C2) ∨ (i = 3 ∧ C = C3) := by
        intro i x C h1 h2 h3
        match i, h1, h2 with
        | 0, _, h2 => cases h2
        | 1, h1, _ => cases h1; rw [G1] at h3; cases h3; exact .inl ⟨rfl, rfl⟩
        | 2, h1, _ => cases h1; rw [G2] at h3; cases h3; exact .inr (.inl ⟨rfl, rfl⟩)
        | 3, h1, _ => cases h1; rw [G3] at h3; cases h3; exact .inr (.inr ⟨rfl, rfl⟩)
        | n + 4, h1, _ => cases h1
      have e1 := key i x C h1 h3 h5
      have e2 := key j y E h2 h4 h6
      rcases e1 with ⟨rfl, rfl⟩ | ⟨rfl, rfl⟩ | ⟨rfl, rfl⟩ <;> rcases e2 with ⟨rfl, rfl⟩ | ⟨rfl, rfl⟩ | ⟨rfl, rfl⟩ <;> assumption
    xfs := fun i x C h1 h2 h3 => by
      match i, h1, h2 with
      | 0, _, h2 => cases h2
      | 1, h1, _ => cases h1; have h3 : mg "BadPaper" = some (.ref C) := h3; rw [G1] at h3; cases h3; exact ⟨xfB_ok x_C1, fun f y hy => show PySem.W.findIn K (.ref C1) y = some none from of_decide_eq_true (List.all_eq_true.mp n_C1 y (List.mem_of_getElem? hy)), s_C1, y_C1⟩
      | 2, h1, _ => cases h1; have h3 : mg "TooFar" = some (.ref C) := h3; rw [G2] at h3; cases h3; exact ⟨xfB_ok x_C2, fun f y hy => show PySem.W.findIn K (.ref C2) y = some none from of_decide_eq_true (List.all_eq_true.mp n_C2 y (List.mem_of_getElem? hy)), s_C2, y_C2⟩
      | 3, h1, _ => cases h1; have h3 : mg "NoSuch" = some (.ref C) := h3; rw [G3] at h3; cases h3; exact ⟨xfB_ok x_C3, fun f y hy => show PySem.W.findIn K (.ref C3) y = some none from of_decide_eq_true (List.all_eq_true.mp n_C3 y (List.mem_of_getElem? hy)), s_C3, y_C3⟩
      | n + 4, h1, _ => cases h1
    xc0 := fun i x C h1 h2 h3 => by
      match i, h1, h2 with
      | 0, _, h2 => cases h2
      | 1, _, h2 => cases h2
      | 2, h1, _ => cases h1; have h3 : mg "TooFar" = some (.ref C) := h3; rw [G2] at h3; cases h3; exact e_C2
      | 3, h1, _ => cases h1; have h3 : mg "NoSuch" = some (.ref C) := h3; rw [G3] at h3; cases h3; exact e_C3
      | n + 4, h1, _ => cases h1
    xc1 := fun i f x y C h1 h2 h4 h3 => by
      match i, h1, h2 with
      | 0, _, h2 => cases h2
      | 1, h1, h2 =>
              cases h1; cases h2; cases h4; have h3 : mg "BadPaper" = some (.ref C) := h3; rw [G1] at h3; cases h3
              have FI := fun_mk (st := s_BadPaper_init) l_I1 c_I1 k_I1
              exact ⟨I1, _, s_BadPaper_init, _, _, _, ⟨⟨_, _, _, _, _, _, _, _, _, _, _, _, _, _, _, o_C1, r_C1⟩, sa_C1, s_C1, y_C1, k_C1⟩, i_C1, t_I1, FI, c_BadPaper_init, i_BadPaper_init, FI.binds (ps := [_, _]) fun _ _ _ _ _ _ us hl => match us, hl with | [_, _], _ => rfl, by decide, by decide, by decide, by decide⟩
      | 2, _, h2 => cases h2
      | 3, _, h2 => cases h2
      | n + 4, h1, _ => cases h1
    xcf := fun i f h => by
      match i, h with
      | 0, h => cases h
      | 1, h => cases h; exact ⟨_, rfl⟩
      | 2, h => cases h
      | 3, h => cases h
      | n + 4, h => cases h
    dis := fun i j x h1 h2 => by
      have e : (nA.all fun y => !nM.contains y) = true := by decide +kernel
      have := List.all_eq_true.mp e x (List.mem_of_getElem? h1)
      have z : x ∈ nM := List.mem_of_getElem? h2
      simp [z] at this }
  have ef := hfa.symm.trans (PySem.W.mg_of X G a_f23)
  cases ef
  exact ⟨_, fun s v => .of_eq rfl, fun k base => law_at st T23 rfl⟩
end Z
end
section
set_option maxRecDepth 100000
set_option maxHeartbeats 4000000
/-! Base: plain values of any kind; machines, plainly. -/
namespace Core
open PySem L2
open Dat (toP toD)
/-! ### values of any kind -/
mutual
theorem dataS_mono {S : Store} : ∀ (n m : Nat) (p : P) (d : PyData), n ≤ m → dataS S n p = some d → dataS S m p = some d
  | 0, m, p, d, h, e => by simp [dataS] at e
  | n + 1, 0, p, d, h, e => by omega
  | n + 1, m + 1, .non, d, h, e => e
  | n + 1, m + 1, .bl b, d, h, e => e
  | n + 1, m + 1, .int b, d, h, e => e
  | n + 1, m + 1, .str b, d, h, e => e
  | n + 1, m + 1, .fn b, d, h, e => e
  | n + 1, m + 1, .tup xs, d, h, e => by
    simp only [dataS, Option.map_eq_some_iff] at e ⊢
    obtain ⟨ds, e1, e2⟩ := e
    exact ⟨ds, datasS_mono n m xs ds (by omega) e1, e2⟩
  | n + 1, m + 1, .frl xs, d, h, e => by
    simp only [dataS, Option.map_eq_some_iff] at e ⊢
    obtain ⟨ds, e1, e2⟩ := e
    exact ⟨ds, datasS_mono n m xs ds (by omega) e1, e2⟩
  | n + 1, m + 1, .loc a, d, h, e => by
    simp only [dataS] at e ⊢
    split at e
    · simp only [Option.map_eq_some_iff] at e ⊢
      obtain ⟨ds, e1, e2⟩ := e
      exact ⟨ds, datasS_mono n m _ ds (by omega) e1, e2⟩
    · cases e
theorem datasS_mono {S : Store} : ∀ (n m : Nat) (ps : List P) (ds : List PyData), n ≤ m → ps.mapM (dataS S n) = some ds → ps.mapM (dataS S m) = some ds
  | n, m, [], ds, h, e => by simpa using e
  | n, m, p :: ps, ds, h, e => by
    rw [List.mapM_cons] at e ⊢
    cases h1 : dataS S n p with
    | none => rw [h1] at e; cases e
    | some d =>
      cases h2 : ps.mapM (dataS S n) with
      | none => rw [h1, h2] at e; cases e
      | some es =>
        rw [h1, h2] at e
        rw [dataS_mono n m p d h h1, datasS_mono n m ps es h h2]
        exact e
end
mutual
theorem dataS_sub {S S' : Store} (d : SubS S S') : ∀ (n : Nat) (p : P) (x : PyData), dataS S n p = some x → dataS S' n p = some x
  | 0, p, x, e => by simp [dataS] at e
  | n + 1, .non, x, e => e
  | n + 1, .bl b, x, e => e
  | n + 1, .int b, x, e => e
  | n + 1, .str b, x, e => e
  | n + 1, .fn b, x, e => e
  | n + 1, .tup xs, x, e => by
    simp only [dataS, Option.map_eq_some_iff] at e ⊢
    obtain ⟨ds, e1, e2⟩ := e
    exact ⟨ds, datasS_sub d n xs ds e1, e2⟩
  | n + 1, .frl xs, x, e => by
    simp only [dataS, Option.map_eq_some_iff] at e ⊢
    obtain ⟨ds, e1, e2⟩ := e
    exact ⟨ds, datasS_sub d n xs ds e1, e2⟩
  | n + 1, .loc a, x, e => by
    simp only [dataS] at e ⊢
    split at e
    · rename_i xs hx
      rw [d _ _ hx]
      simp only [Option.map_eq_some_iff] at e ⊢
      obtain ⟨ds, e1, e2⟩ := e
      exact ⟨ds, datasS_sub d n _ ds e1, e2⟩
    · cases e
theorem datasS_sub {S S' : Store} (d : SubS S S') : ∀ (n : Nat) (ps : List P) (ds : List PyData), ps.mapM (dataS S n) = some ds → ps.mapM (dataS S' n) = some ds
  | n, [], ds, e => by simpa using e
  | n, p :: ps, ds, e => by
    rw [List.mapM_cons] at e ⊢
    cases h1 : dataS S n p with
    | none => rw [h1] at e; cases e
    | some x =>
      cases h2 : ps.mapM (dataS S n) with
      | none => rw [h1, h2] at e; cases e
      | some es =>
        rw [h1, h2] at e
        rw [dataS_sub d n p x h1, datasS_sub d n ps es h2]
        exact e
end
/-- plain data, to a depth -/
def Dt (S : Store) (n : Nat) (p : P) : Prop := ∃ d, dataS S n p = some d
theorem Dt.at {S S' : Store} {n : Nat} {p : P} (h : Dt S n p) (d : SubS S S') : Dt S' n p := let ⟨x, e⟩ := h; ⟨x, dataS_sub d n p x e⟩
theorem Dt.up {S : Store} {n m : Nat} {p : P} (h : Dt S n p) (l : n ≤ m) : Dt S m p := let ⟨x, e⟩ := h; ⟨x, dataS_mono n m p x l e⟩
theorem Dt.ty {S : Store} {n : Nat} {p : P} (h : Dt S n p) : ∃ t, tyOf S p = some t := by
  obtain ⟨x, e⟩ := h
  cases n with
  | zero => simp [dataS] at e
  | succ n =>
    cases p with
    | loc a =>
      simp only [dataS] at e
      split at e
      · rename_i xs hx
        exact ⟨some .list, by simp [tyOf, hx]⟩
      · cases e
    | fn f => simp [dataS] at e
    | _ => exact ⟨_, rfl⟩
theorem mapM_mem {α β : Type} {f : α → Option β} : ∀ {l : List α} {r : List β}, l.mapM f = some r → ∀ x ∈ l, ∃ y, f x = some y
  | [], r, h, x, hx => by cases hx
  | a :: l, r, h, x, hx => by
    rw [List.mapM_cons] at h
    cases h1 : f a with
    | none => rw [h1] at h; cases h
    | some b =>
      cases h2 : l.mapM f with
      | none => rw [h1, h2] at h; cases h
      | some bs =>
        rcases List.mem_cons.mp hx with rfl | hx
        · exact ⟨b, h1⟩
        · exact mapM_mem h2 x hx
theorem mapM_all {α β : Type} {f : α → Option β} : ∀ {l : List α}, (∀ x ∈ l, ∃ y, f x = some y) → ∃ r, l.mapM f = some r
  | [], _ => ⟨[], rfl⟩
  | a :: l, h => by
    obtain ⟨b, h1⟩ := h a List.mem_cons_self
    obtain ⟨bs, h2⟩ := mapM_all (l := l) fun x hx => h x (List.mem_cons_of_mem _ hx)
    exact ⟨b :: bs, by rw [List.mapM_cons, h1, h2]; rfl⟩
theorem Dt.tup {S : Store} {n : Nat} {xs : List P} (h : Dt S (n + 1) (.tup xs)) : ∀ x ∈ xs, Dt S n x := by
  obtain ⟨d, e⟩ := h
  simp only [dataS, Option.map_eq_some_iff] at e
  obtain ⟨ds, e1, _⟩ := e
  exact mapM_mem e1
theorem Dt.mk {S : Store} {n : Nat} {xs : List P} (h : ∀ x ∈ xs, Dt S n x) : Dt S (n + 1) (.tup xs) := by
  obtain ⟨r, hr⟩ := mapM_all (f := dataS S n) h
  exact ⟨.tuple r, by simp [dataS, hr]⟩
theorem Dt.lst {S : Store} {n : Nat} {a : Addr} {xs : List P} (e : S a = some (.lst xs)) (h : ∀ x ∈ xs, Dt S n x) : Dt S (n + 1) (.loc a) := by
  obtain ⟨r, hr⟩ := mapM_all (f := dataS S n) h
  exact ⟨.list r, by simp [dataS, e, hr]⟩
theorem Dt.int {S : Store} {n : Nat} {i : Int} : Dt S (n + 1) (.int i) := ⟨_, rfl⟩
theorem Dt.bl {S : Store} {n : Nat} {i : Bool} : Dt S (n + 1) (.bl i) := ⟨_, rfl⟩
theorem Dt.non {S : Store} {n : Nat} : Dt S (n + 1) .non := ⟨_, rfl⟩
theorem Dt.str {S : Store} {n : Nat} {s : Str} (h : PyData.strOk s = true) : Dt S (n + 1) (.str s) := ⟨.str s, by simp [dataS, h]⟩
theorem Dt.of {α : Type} [Dat α] {S : Store} {n : Nat} (x : α) (h : Dat.dep α ≤ n) : Dt S n (toP x) := ⟨_, Dat.den S n x h⟩
/-- a text? -/
def strIs (v : P) (s : Str) : Bool := match v with
  | .str t => decide (t = s)
  | _ => false
theorem cmpv_neT {S : Store} {n : Nat} {v : P} {t : Str} (h : Dt S n v) (hn : n ≤ 62) (ht : PyData.strOk t = true) : CmpV .NotEq v (.str t) S (!strIs v t) := .mk fun S' d Q q => by
  obtain ⟨x, e⟩ := (h.at d).up hn
  refine ⟨x, .str t, e, by simp [dataS, ht], ?_⟩
  have z : PyData.eqv x (.str t) = strIs v t := by
    cases v with
    | str s =>
      simp only [dataS] at e
      split at e
      · cases e
        show (s == t) = decide (s = t)
        by_cases q : s = t
        · subst q; simp
        · simp [q]
      · cases e
    | loc a =>
      simp only [dataS] at e
      split at e
      · simp only [Option.map_eq_some_iff] at e
        obtain ⟨_, _, rfl⟩ := e
        rfl
      · cases e
    | fn a => simp [dataS] at e
    | tup a =>
      simp only [dataS, Option.map_eq_some_iff] at e
      obtain ⟨_, _, rfl⟩ := e
      rfl
    | frl a =>
      simp only [dataS, Option.map_eq_some_iff] at e
      obtain ⟨_, _, rfl⟩ := e
      rfl
    | non => cases e; rfl
    | bl _ => cases e; rfl
    | int _ => cases e; rfl
  rw [z]
  exact q
def inRange (lo hi : Int) : P → Bool
  | .int i => decide (lo ≤ i) && decide (i ≤ hi)
  | _ => false
theorem inRange_of {lo hi : Int} {v : P} (h : inRange lo hi v = true) : ∃ i, v = .int i ∧ lo ≤ i ∧ i ≤ hi := by
  cases v <;> first | (cases h; done) | skip
  rename_i i
  simp only [inRange, Bool.and_eq_true, decide_eq_true_eq] at h
  exact ⟨i, rfl, h.1, h.2⟩
theorem inRange_i {lo hi i : Int} (h1 : lo ≤ i) (h2 : i ≤ hi) : inRange lo hi (.int i) = true := by
  simp [inRange, h1, h2]
def isTup : P → Bool
  | .tup _ => true
  | _ => false
def isStrP : P → Bool
  | .str _ => true
  | _ => false
theorem ty_tup {S : Store} {v : P} {t : Option Ty} (h : tyOf S v = some t) : ([Ty.tuple].any fun u => isTy t u) = isTup v := by
  cases v with
  | fn _ => cases h
  | loc a =>
    simp only [tyOf] at h
    split at h
    · cases h; rfl
    · cases h
  | _ => cases h; rfl
theorem ty_str {S : Store} {v : P} {t : Option Ty} (h : tyOf S v = some t) : ([Ty.str].any fun u => isTy t u) = isStrP v := by
  cases v with
  | fn _ => cases h
  | loc a =>
    simp only [tyOf] at h
    split at h
    · cases h; rfl
    · cases h
  | _ => cases h; rfl
theorem ev_isTup {G : Env} {ρ : Loc} {S : Store} {c : CE} {v : P} {t : Option Ty} (h : Ev G c ρ S v) (ht : tyOf S v = some t) : Ev G (.isi c [.tuple]) ρ S (.bl (isTup v)) := by
  have := ev_isi (ts := [.tuple]) h ht
  rw [ty_tup ht] at this
  exact this
theorem ev_isStr {G : Env} {ρ : Loc} {S : Store} {c : CE} {v : P} {t : Option Ty} (h : Ev G c ρ S v) (ht : tyOf S v = some t) : Ev G (.isi c [.str]) ρ S (.bl (isStrP v)) := by
  have := ev_isi (ts := [.str]) h ht
  rw [ty_str ht] at this
  exact this
/-! ### three things -/
structure Tri (α β γ : Type) where
  a : α
  b : β
  c : γ
  deriving DecidableEq
instance {α β γ : Type} [Dat α] [Dat β] [Dat γ] : DatN (Tri α β γ) where
  toP := fun x => .tup [Dat.toP x.a, Dat.toP x.b, Dat.toP x.c]
  toD := fun x => .tuple [Dat.toD x.a, Dat.toD x.b, Dat.toD x.c]
  dep := max (Dat.dep α) (max (Dat.dep β) (Dat.dep γ)) + 1
  den := fun S n x h => by
    cases n with
    | zero => omega
    | succ n =>
      simp only [dataS, List.mapM_cons, List.mapM_nil]
      rw [Dat.den S n x.a (by omega), Dat.den S n x.b (by omega), Dat.den S n x.c (by omega)]
      rfl
  nb := fun x => by simp [noB, noBs, Dat.nb]
  inj := fun x y h => by
    simp only [PyData.tuple.injEq, List.cons.injEq, and_true] at h
    obtain ⟨x1, x2, x3⟩ := x
    obtain ⟨y1, y2, y3⟩ := y
    obtain ⟨h1, h2, h3⟩ := h
    have := Dat.inj _ _ h1
    have := Dat.inj _ _ h2
    have := Dat.inj _ _ h3
    simp_all
  nn := fun _ h => by cases h
/-- the sign written, the way, the next state -/
abbrev Rule := Tri Int Int Int
abbrev Rows := List (List (Option Rule))
structure Mach where
  m : Nat
  rows : Rows
  deriving DecidableEq
def mP (M : Mach) : P := .tup [.str "machine", .int M.m, toP M.rows]
structure GoodR (m n : Nat) (r : Rule) : Prop where
  a0 : 0 ≤ r.a
  a1 : r.a < m
  b : r.b = 1 ∨ r.b = -1
  c0 : 0 ≤ r.c
  c1 : r.c < n
structure GoodM (M : Mach) : Prop where
  m0 : 2 ≤ M.m
  m1 : M.m ≤ 4
  n0 : 1 ≤ M.rows.length
  n1 : M.rows.length ≤ 6
  len : ∀ row ∈ M.rows, row.length = M.m
  rule : ∀ row ∈ M.rows, ∀ r, some r ∈ row → GoodR M.m M.rows.length r
end Core
end
section
set_option maxRecDepth 100000
set_option maxHeartbeats 4000000
/-! CoreK: keys of dicts; sets of places met; how many there can be. -/
namespace Core
open PySem L2
class Ky (α : Type) [Dat α] where
  key : α → NestedKey
  kof : ∀ x, keyOf (Dat.toP x) = some (key x)
  kinj : ∀ x y, key x = key y → x = y
  kdep : Nat
  kd : ∀ x, (key x).depth ≤ kdep
  kind : (∀ x : α, flK (Dat.toP x) = true) ∨ (∀ x, ∃ ks, key x = .tup ks)
instance : Ky Int where
  key := .num
  kof := fun _ => rfl
  kinj := fun x y h => by cases h; rfl
  kdep := 0
  kd := fun _ => Nat.le_refl 0
  kind := .inl fun _ => rfl
theorem keysOf_map {α : Type} [Dat α] [Ky α] : ∀ xs : List α, keysOf (xs.map Dat.toP) = some (xs.map Ky.key)
  | [] => rfl
  | x :: xs => by rw [List.map_cons, keysOf, Ky.kof x, keysOf_map xs]; rfl
theorem depthAll_map {α : Type} [Dat α] [Ky α] : ∀ xs : List α, NestedKey.depthAll (xs.map Ky.key) ≤ Ky.kdep α
  | [] => Nat.zero_le _
  | x :: xs => by rw [List.map_cons, NestedKey.depthAll]; exact Nat.max_le.mpr ⟨Ky.kd x, depthAll_map xs⟩
theorem keys_inj {α : Type} [Dat α] [Ky α] : ∀ xs ys : List α, xs.map (Ky.key) = ys.map Ky.key → xs = ys
  | [], ys, h => by cases ys with
    | nil => rfl
    | cons _ _ => cases h
  | x :: xs, ys, h => by
    cases ys with
    | nil => cases h
    | cons y ys =>
      simp only [List.map_cons, List.cons.injEq] at h
      rw [Ky.kinj x y h.1, keys_inj xs ys h.2]
instance {α : Type} [Dat α] [Ky α] : Ky (List α) where
  key := fun xs => .tup (xs.map Ky.key)
  kof := fun xs => by show (keysOf (xs.map Dat.toP)).map NestedKey.tup = _; rw [keysOf_map]; rfl
  kinj := fun x y h => keys_inj x y (NestedKey.tup.inj h)
  kdep := Ky.kdep α + 1
  kd := fun x => by rw [NestedKey.depth]; exact Nat.succ_le_succ (depthAll_map x)
  kind := .inr fun _ => ⟨_, rfl⟩
instance {α β : Type} [Dat α] [Dat β] [Ky α] [Ky β] : Ky (α × β) where
  key := fun x => .tup [Ky.key x.1, Ky.key x.2]
  kof := fun x => by show (keysOf [Dat.toP x.1, Dat.toP x.2]).map NestedKey.tup = _; simp [keysOf, Ky.kof]
  kinj := fun x y h => by
    simp only [NestedKey.tup.injEq, List.cons.injEq, and_true] at h
    exact Prod.ext (Ky.kinj _ _ h.1) (Ky.kinj _ _ h.2)
  kdep := max (Ky.kdep α) (Ky.kdep β) + 1
  kd := fun x => by
    have h1 := Ky.kd x.1
    have h2 := Ky.kd x.2
    simp only [NestedKey.depth, NestedKey.depthAll]
    omega
  kind := .inr fun _ => ⟨_, rfl⟩
instance {α β γ : Type} [Dat α] [Dat β] [Dat γ] [Ky α] [Ky β] [Ky γ] : Ky (Tri α β γ) where
  key := fun x => .tup [Ky.key x.a, Ky.key x.b, Ky.key x.c]
  kof := fun x => by show (keysOf [Dat.toP x.a, Dat.toP x.b, Dat.toP x.c]).map NestedKey.tup = _; simp [keysOf, Ky.kof]
  kinj := fun x y h => by
    simp only [NestedKey.tup.injEq, List.cons.injEq, and_true] at h
    obtain ⟨h1, h2, h3⟩ := h
    have h1 := Ky.kinj _ _ h1
    have h2 := Ky.kinj _ _ h2
    have h3 := Ky.kinj _ _ h3
    cases x; cases y
    simp_all
  kdep := max (Ky.kdep α) (max (Ky.kdep β) (Ky.kdep γ)) + 1
  kd := fun x => by
    have h1 := Ky.kd x.a
    have h2 := Ky.kd x.b
    have h3 := Ky.kd x.c
    simp only [NestedKey.depth, NestedKey.depthAll]
    omega
  kind := .inr fun _ => ⟨_, rfl⟩
section
variable {α : Type} [Dat α] [Ky α]
theorem same_ky [DecidableEq α] (x y : α) : sameK (Dat.toP x) (Dat.toP y) = decide (x = y) := by
  unfold sameK
  rw [Ky.kof, Ky.kof]
  by_cases h : x = y
  · subst h; simp
  · have : ¬ some (Ky.key x) = some (Ky.key y) := fun e => h (Ky.kinj x y (Option.some.inj e))
    simp [h, this]
theorem tuK_of {p : P} {ks : List NestedKey} (h : keyOf p = some (.tup ks)) (hd : (NestedKey.tup ks).depth ≤ 8) : tuK p = true := by
  cases p with
  | tup xs =>
    unfold keyOf at h
    unfold tuK
    cases e : keysOf xs with
    | none => rw [e] at h; cases h
    | some l =>
      rw [e] at h; cases h
      show (match keysOf xs with
        | some ks => decide ((NestedKey.tup ks).depth ≤ 8)
        | none => false) = true
      rw [e]
      exact decide_eq_true hd
  | _ => cases h
/-- a dict: keys of one kind, and what they tell -/
def dP (l : List (α × P)) : List (P × P) := l.map fun e => (Dat.toP e.1, e.2)
def getA [DecidableEq α] (l : List (α × P)) (x : α) : Option P := (l.find? fun e => decide (e.1 = x)).map (·.2)
def putA [DecidableEq α] (l : List (α × P)) (x : α) (v : P) : List (α × P) := if (l.any fun e => decide (e.1 = x)) = true then l.map (fun e => if e.1 = x then (e.1, v) else e) else l ++ [(x, v)]
theorem dP_ok (l : List (α × P)) (x : α) (h : Ky.kdep α ≤ 8) : okK (dP l) (Dat.toP x) = true := by
  unfold okK dP
  rcases Ky.kind (α := α) with k | k
  · simp [k, List.all_map, Function.comp_def]
  · have t : ∀ x : α, tuK (Dat.toP x) = true := fun x => by
      obtain ⟨ks, e⟩ := k x
      exact tuK_of ((Ky.kof x).trans (congrArg some e)) (e ▸ Nat.le_trans (Ky.kd x) h)
    simp [t, List.all_map, Function.comp_def]
theorem dP_get [DecidableEq α] (l : List (α × P)) (x : α) : valP (dP l) (Dat.toP x) = getA l x := by
  unfold valP dP getA
  induction l with
  | nil => rfl
  | cons e l ih =>
    rw [List.map_cons, List.find?_cons, List.find?_cons]
    dsimp only
    rw [same_ky]
    cases decide (e.1 = x) with
    | true => rfl
    | false => exact ih
theorem dP_put [DecidableEq α] (l : List (α × P)) (x : α) (v : P) : putP (dP l) (Dat.toP x) v = dP (putA l x v) := by
  unfold putP putA
  have e1 : ((dP l).any fun kv => sameK kv.1 (Dat.toP x)) = l.any fun e => decide (e.1 = x) := by
    unfold dP
    rw [List.any_map]
    congr 1
    funext e
    exact same_ky _ _
  rw [e1]
  split
  · unfold dP
    rw [List.map_map, List.map_map]
    congr 1
    funext e
    simp only [Function.comp, same_ky]
    by_cases h : e.1 = x <;> simp [h]
  · unfold dP
    rw [List.map_append]
    rfl
/-- places met -/
def seenP (v : P) (l : List α) : List (P × P) := dP (l.map fun x => (x, v))
theorem getA_seen [DecidableEq α] {v : P} (l : List α) (x : α) : (getA (l.map fun x => (x, v)) x).isSome = decide (x ∈ l) := by
  unfold getA
  rw [Option.isSome_map, Bool.eq_iff_iff, List.find?_isSome]
  simp only [List.mem_map, decide_eq_true_eq]
  constructor
  · rintro ⟨y, ⟨z, hz, rfl⟩, rfl⟩; exact hz
  · exact fun h => ⟨_, ⟨x, h, rfl⟩, rfl⟩
theorem seen_get [DecidableEq α] {v : P} (l : List α) (x : α) : (valP (seenP v l) (Dat.toP x)).isSome = decide (x ∈ l) := by
  unfold seenP
  rw [dP_get, getA_seen]
theorem seen_put [DecidableEq α] {v : P} (l : List α) (x : α) (h : x ∉ l) : putP (seenP v l) (Dat.toP x) v = seenP v (l ++ [x]) := by
  unfold seenP
  rw [dP_put]
  unfold putA
  have : ((l.map fun x => (x, v)).any fun e => decide (e.1 = x)) = false := by
    rw [List.any_map, List.any_eq_false]
    intro y hy
    simp only [Function.comp, decide_eq_true_eq]
    exact fun e => h (e ▸ hy)
  rw [this, if_neg (by simp), List.map_append]
  rfl
theorem seen_ok {v : P} (l : List α) (x : α) (h : Ky.kdep α ≤ 8) : okK (seenP v l) (Dat.toP x) = true := dP_ok _ _ h
theorem seen_len {v : P} (l : List α) : (seenP v l).length = l.length := by simp [seenP, dP]
end
/-! ### how many -/
theorem nodup_le {α : Type} [DecidableEq α] : ∀ (l u : List α), l.Nodup → (∀ x ∈ l, x ∈ u) → l.length ≤ u.length
  | [], u, _, _ => Nat.zero_le _
  | x :: l, u, h, s => by
    have hx := s x List.mem_cons_self
    have h1 := List.length_erase_of_mem hx
    have h2 := nodup_le l (u.erase x) (List.nodup_cons.mp h).2 fun y hy => by
      have ne : y ≠ x := fun e => (List.nodup_cons.mp h).1 (e ▸ hy)
      exact (List.mem_erase_of_ne ne).mpr (s y (List.mem_cons_of_mem _ hy))
    have h3 := List.length_pos_of_mem hx
    rw [List.length_cons]
    omega
theorem nodup_snoc {α : Type} {l : List α} {x : α} (h : l.Nodup) (hx : x ∉ l) : (l ++ [x]).Nodup := by
  rw [List.nodup_append]
  refine ⟨h, List.nodup_cons.mpr ⟨by simp, List.nodup_nil⟩, fun a ha b hb e => ?_⟩
  rw [List.mem_singleton.mp hb] at e
  exact hx (e ▸ ha)
/-- all whole numbers below -/
def allI (n : Nat) : List Int := (List.range n).map fun (i : Nat) => (i : Int)
theorem allI_len {n : Nat} : (allI n).length = n := by simp [allI]
theorem allI_mem {n : Nat} {i : Int} : i ∈ allI n ↔ 0 ≤ i ∧ i < n := by
  simp only [allI, List.mem_map, List.mem_range]
  constructor
  · rintro ⟨j, h, rfl⟩; omega
  · rintro ⟨h1, h2⟩; exact ⟨i.toNat, by omega, by omega⟩
/-- all words -/
def words (m : Nat) : Nat → List (List Int)
  | 0 => [[]]
  | k + 1 => (allI m).flatMap fun x => (words m k).map fun w => x :: w
theorem flat_len {α β : Type} {f : α → List β} {k : Nat} : ∀ {l : List α}, (∀ x ∈ l, (f x).length = k) → (l.flatMap f).length = l.length * k
  | [], _ => by simp
  | x :: l, h => by
    rw [List.flatMap_cons, List.length_append, h x List.mem_cons_self, flat_len fun y hy => h y (List.mem_cons_of_mem _ hy), List.length_cons, Nat.add_mul, Nat.one_mul, Nat.add_comm]
theorem words_len {m : Nat} : ∀ k, (words m k).length = m ^ k
  | 0 => rfl
  | k + 1 => by
    unfold words
    rw [flat_len (k := m ^ k) fun x _ => by rw [List.length_map, words_len k], allI_len, Nat.pow_succ, Nat.mul_comm]
theorem words_mem {m : Nat} : ∀ {k : Nat} {w : List Int}, w.length = k → (∀ x ∈ w, 0 ≤ x ∧ x < m) → w ∈ words m k
  | 0, [], _, _ => List.mem_singleton.mpr rfl
  | k + 1, x :: w, h, hx => by
    unfold words
    exact List.mem_flatMap.mpr ⟨x, allI_mem.mpr (hx x List.mem_cons_self), List.mem_map.mpr ⟨w, words_mem (by simpa using h) fun y hy => hx y (List.mem_cons_of_mem _ hy), rfl⟩⟩
def ruleAt (rows : Rows) (st sg : Int) : Option Rule := ((rows[st.toNat]?.getD [])[sg.toNat]?).getD none
/-- a rule in a good machine -/
theorem rule_at {M : Mach} (g : GoodM M) {st sg : Int} (h1 : 0 ≤ st ∧ st < M.rows.length) (h2 : 0 ≤ sg ∧ sg < M.m) : ∃ row : List (Option Rule), atI (M.rows.map Dat.toP) st = some (Dat.toP row) ∧ atI (row.map Dat.toP) sg = some (Dat.toP (ruleAt M.rows st sg)) ∧ ∀ r, ruleAt M.rows st sg = some r → GoodR M.m M.rows.length r := by
  obtain ⟨i, rfl⟩ : ∃ i : Nat, st = i := ⟨st.toNat, (Int.toNat_of_nonneg h1.1).symm⟩
  obtain ⟨j, rfl⟩ : ∃ j : Nat, sg = j := ⟨sg.toNat, (Int.toNat_of_nonneg h2.1).symm⟩
  have hi : i < M.rows.length := by omega
  have hr : M.rows[i] ∈ M.rows := List.getElem_mem hi
  have hj : j < M.rows[i].length := by rw [g.len _ hr]; omega
  have e : ruleAt M.rows i j = M.rows[i][j] := by simp [ruleAt, hi, hj]
  refine ⟨M.rows[i], atI_at (by simp [hi]), ?_, fun r h => g.rule _ hr r ?_⟩
  · rw [e]; exact atI_at (by simp [hj])
  · rw [← h, e]; exact List.getElem_mem hj
theorem ixN_at {n i : Nat} (h : i < n) : ixN n (i : Int) = some i := by
  unfold ixN
  rw [if_pos (by omega), if_pos (by omega)]
  simp
/-! ### several targets at once -/
section
variable {G : Env} {ρ : Loc} {S : Store} {Q : Loc → Store → Prop} {E : QE} {ts : List Tgt} {ps : List P}
theorem ts_nil (h : Q ρ S) : wpTs G [] [] ρ S Q E := by unfold wpTs; exact h
theorem ts_nm {i : Nat} {p : P} (h : wpTs G ts ps (ρ.set i (some p)) S Q E) : wpTs G (.nm i :: ts) (p :: ps) ρ S Q E := by unfold wpTs wpT; exact h
theorem ts_put {a c : CE} {l : Addr} {xs : List P} {n : Int} {j : Nat} {p : P} (h1 : Ev G a ρ S (.loc l)) (h2 : Ev G c ρ S (.int n)) (hs : S l = some (.lst xs)) (hj : ixN xs.length n = some j) (q : ∀ S2, SubS (S.upd l (.lst (xs.set j p))) S2 → wpTs G ts ps ρ S2 Q E) : wpTs G (.sub a c :: ts) (p :: ps) ρ S Q E := by
  unfold wpTs wpT
  refine h1 _ S (.refl S) _ fun S2 d2 => h2 _ S2 d2 _ fun S3 d3 => ?_
  simp only [putS, dctS, lstS, d3 _ _ (d2 _ _ hs)]
  exact fun _ => ⟨j, hj, q _ ((d2.trans d3).both l _)⟩
end
section
variable {G : Env} {ρ : Loc} {S : Store} {ss : List CS} {D : DE}
/-- x = {key: v} -/
theorem bk_setD1 {α : Type} [Dat α] [Ky α] [DecidableEq α] {i : Nat} {c e : CE} {k : α} {v : P} (h : Ev G c ρ S (Dat.toP k)) (h2 : Ev G e ρ S v) (hd : Ky.kdep α ≤ 8) (q : ∀ a, S a = none → wpB G ss (ρ.set i (some (.loc a))) (S.upd a (.dct (dP [(k, v)]))) D) : wpB G (.asg (.nm i) (.dct [c, e]) :: ss) ρ S D := by
  have e0 : (pairsP [Dat.toP k, v]).foldl (fun m kv => putP m kv.1 kv.2) [] = dP [(k, v)] := by
    show putP [] (Dat.toP k) v = _
    have := dP_put ([] : List (α × P)) k v
    exact this
  have ok := dP_ok ([] : List (α × P)) k hd
  simp only [okK, dP, List.map_nil, List.all_nil, Bool.and_true, Bool.or_eq_true] at ok
  rcases ok with ok | ok
  · refine bk_setD (ps := [Dat.toP k, v]) (evs_cons h (evs_cons h2 evs_nil)) (by simp [pairsP, ok]) fun a ha => ?_
    rw [e0]
    exact q a ha
  · refine bk_setDT (ps := [Dat.toP k, v]) (evs_cons h (evs_cons h2 evs_nil)) (by simp [pairsP]) (by simp [pairsP, ok]) fun a ha => ?_
    rw [e0]
    exact q a ha
/-- xs.index(x), x being there -/
theorem ev_index {α : Type} [Dat α] [DecidableEq α] {a c : CE} {l : Addr} {xs : List α} {x : α} {j : Nat} (h1 : Ev G a ρ S (.loc l)) (h2 : Ev G c ρ S (Dat.toP x)) (hs : S l = some (.lst (xs.map Dat.toP))) (hd : Dat.dep α ≤ 62) (hj : xs[j]? = some x) (hn : ∀ m < j, xs[m]? ≠ some x) : Ev G (.bmt a .index [c]) ρ S (.int (j : Nat)) := .mk fun E S' d Q q => by
  unfold wpE
  refine h1 E S' d _ fun S1 d1 => ⟨⟨l, _, rfl, d1 _ _ (d _ _ hs)⟩, ?_⟩
  refine evs_cons h2 evs_nil E S1 (d.trans d1) _ fun S2 d2 => ?_
  simp only [bmS, lstS, d2 _ _ (d1 _ _ (d _ _ hs))]
  refine ⟨Dat.toD x, xs.map Dat.toD, j, Dat.toD x, Dat.den S2 62 x hd, mapM_den S2 62 hd xs, by rw [List.getElem?_map, hj]; rfl, by rw [eqv_dat]; exact decide_eq_true rfl, fun m z' hm hz => ?_, q S2 (d1.trans d2)⟩
  rw [List.getElem?_map, Option.map_eq_some_iff] at hz
  obtain ⟨y, hy, rfl⟩ := hz
  rw [eqv_dat]
  exact decide_eq_false fun e => hn m hm (e ▸ hy)
end
end Core
end
section
set_option maxRecDepth 100000
set_option maxHeartbeats 4000000
/-! CoreL: texts; rows made by drawing; walks over rows that are made on the way. -/
namespace Core
open PySem L2
/-- texts -/
abbrev Txt := { s : Str // PyData.strOk s = true }
instance : DatN Txt where
  toP := fun x => .str x.1
  toD := fun x => .str x.1
  dep := 1
  den := fun S n x h => by
    cases n with
    | zero => omega
    | succ n => simp [dataS, x.2]
  nb := fun _ => rfl
  inj := fun x y h => Subtype.ext (PyData.str.inj h)
  nn := fun _ h => by cases h
instance : Ky Txt where
  key := fun x => .text x.1
  kof := fun _ => rfl
  kinj := fun x y h => Subtype.ext (NestedKey.text.inj h)
  kdep := 0
  kd := fun _ => Nat.le_refl 0
  kind := .inl fun _ => rfl
section
variable {G : Env} {ρ : Loc} {S S1 : Store} {E : QE} {Q : QP} {D : DE} {ss : List CS}
/-- [elt for .. in ..], whatever the elements are -/
theorem cps_cmpr {β : Type} {own : List Nat} {k : IK} {args : List CE} {tg : VT} {elt : CE} {vs : List P} {Good : Store → Prop} (xs : List β) (t : β → P) (I : Nat → List P → Prop) (ha : Evs G args ρ S vs) (hw : Iter k vs S (xs.map t) Good) (hg : ∀ S', SubS S S' → Good S') (h0 : I 0 [])
    (hb : ∀ i x acc S2, xs[i]? = some x → I i acc → SubS S S2 → wpVT tg (t x) (wipeP ρ own) fun ρ2 => wpE G elt ρ2 S2 (fun p S3 => SubS S2 S3 ∧ I (i + 1) (acc ++ [p])) noE)
    (q : ∀ acc a S2, I xs.length acc → SubS S S2 → S a = none → S2 a = some (.lst acc) → Q (.loc a) S2) (gm : GMono G) : wpE G (.cmpr own k args tg elt none) ρ S Q E := by
  unfold wpE
  refine ha E S (.refl S) _ fun S1 d1 => hw S1 d1 _ fun Gd gd _ a ha' => ?_
  refine ⟨fun i acc S2 => I i acc ∧ SubS S1 S2 ∧ S2 a = some (.lst acc), ⟨h0, .upd ha', Store.upd_same⟩, ?_, ?_⟩
  · rintro i x acc S2 hx ⟨hI, d2, h2⟩ _
    rw [List.getElem?_map, Option.map_eq_some_iff] at hx
    obtain ⟨y, hy, rfl⟩ := hx
    refine ⟨gd _ (hg _ (d1.trans d2)), wpVT_mono tg (fun ρ2 h => ?_) (hb i y acc S2 hy hI (d1.trans d2))⟩
    simp only [wpC, if_true]
    refine wpE_mono gm elt (fun p S3 h => ?_) (fun _ _ h => h) h
    exact ⟨h.1 _ _ h2, h.2, (d2.trans h.1).updr ha', Store.upd_same⟩
  · rintro acc S2 ⟨hI, d2, h2⟩ _
    rw [List.length_map] at hI
    exact ⟨gd _ (hg _ (d1.trans d2)), q acc a S2 hI (d1.trans d2) (sub_none d1 ha') h2⟩
/-- [elt for x in row], the row being made on the way -/
theorem evf_cmprL {β : Type} {own : List Nat} {arg : CE} {tg : VT} {elt : CE} (xs : List β) (t : β → P) (f : β → P) (ha : EvL G arg ρ S (xs.map t))
    (hb : ∀ x ∈ xs, wpVT tg (t x) (wipeP ρ own) fun ρ2 => Ev G elt ρ2 S (f x)) : EvF G (.cmpr own .seq [arg] tg elt none) ρ S (xs.map f) := .mk fun E S' d Q q => by
  unfold wpE wpEs
  refine ha E S' d _ fun l S1 d1 hl => ?_
  unfold wpEs
  refine it_lst hl S1 (.refl S1) _ fun Gd gd _ a ha' => ?_
  refine ⟨fun i acc S2 => acc = (xs.take i).map f ∧ SubS S1 S2 ∧ S2 a = some (.lst acc), ⟨by simp, .upd ha', Store.upd_same⟩, ?_, ?_⟩
  · rintro i x acc S2 hx ⟨rfl, d2, h2⟩ _
    rw [List.getElem?_map, Option.map_eq_some_iff] at hx
    obtain ⟨y, hy, rfl⟩ := hx
    refine ⟨gd _ (d2 _ _ hl), wpVT_mono tg (fun ρ2 h => ?_) (hb y (List.mem_of_getElem? hy))⟩
    simp only [wpC, if_true]
    refine h noE S2 ((d.trans d1).trans d2) _ fun S3 d3 => ⟨d3 _ _ h2, ?_, ?_, Store.upd_same⟩
    · rw [List.take_add_one, hy]; simp
    · exact (d2.trans d3).updr ha'
  · rintro acc S2 ⟨rfl, d2, h2⟩ _
    refine ⟨gd _ (d2 _ _ hl), q a S2 (d1.trans d2) (sub_none d1 ha') ?_⟩
    rw [h2, List.length_map, List.take_length]
theorem cps_and {a b : CE} {x : Bool} (h : Ev G a ρ S (.bl x)) (h1 : x = true → ∀ S2, SubS S S2 → wpE G b ρ S2 Q E) (h2 : x = false → ∀ S2, SubS S S2 → Q (.bl false) S2) : wpE G (.and_ a b) ρ S Q E := by
  unfold wpE
  refine h E S (.refl S) _ fun S2 d2 => ?_
  cases x with
  | true => exact h1 rfl S2 d2
  | false => exact h2 rfl S2 d2
theorem cps_lst {es : List CE} (h : wpEs G es ρ S (fun ps S' => ∀ a, S' a = none → Q (.loc a) (S'.upd a (.lst ps))) E) : wpE G (.lst es) ρ S Q E := by unfold wpE; exact h
theorem bf_tuple {a : Addr} {xs : List P} (h : S a = some (.lst xs)) (q : Q (.tup xs) S) : bfS .tuple [.loc a] S Q := by
  simp only [bfS, seqOf, h]
  exact fun _ => q
/-- for x in a row that is made on the way -/
theorem bk_forC {arg : CE} {tg : VT} {b : List CS} (q : wpE G arg ρ S (fun p S1 => ∃ (a : Addr) (items : List P) (I : Nat → Loc → Store → Prop), p = .loc a ∧ S1 a = some (.lst items) ∧ (∀ i ρ' S', I i ρ' S' → S' a = some (.lst items)) ∧ I 0 ρ S1 ∧
    (∀ i x ρ' S', items[i]? = some x → I i ρ' S' → wpVT tg x ρ' fun ρ2 => wpB G b ρ2 S' { D with nx := I (i + 1), ct := I (i + 1), bk := fun ρ' S' => wpB G ss ρ' S' D }) ∧ (∀ ρ' S', I items.length ρ' S' → wpB G ss ρ' S' D)) D.ex) (gm : GMono G) : wpB G (.for_ .seq [arg] tg b :: ss) ρ S D := by
  refine bk_cons ?_
  unfold wpS wpEs
  refine wpE_mono gm arg (fun p S1 h => ?_) (fun _ _ h => h) q
  obtain ⟨a, items, I, rfl, h1, hg, h0, step, fin⟩ := h
  unfold wpEs
  refine it_lst h1 S1 (.refl S1) _ fun Gd gd _ => ?_
  exact ⟨I, h0, fun i x ρ' S' hx hI => ⟨gd _ (hg _ _ _ hI), step i x ρ' S' hx hI⟩, fun ρ' S' hI => ⟨gd _ (hg _ _ _ hI), fin ρ' S' hI⟩⟩
theorem ev_neLL {α : Type} [Dat α] [DecidableEq α] {a b : CE} (xs ys : List α) (h1 : EvL G a ρ S (xs.map Dat.toP)) (h2 : EvL G b ρ S (ys.map Dat.toP)) (hd : Dat.dep α ≤ 61) : Ev G (.cmp .NotEq a b) ρ S (.bl (!decide (xs = ys))) := .mk fun E S' d Q q => by
  unfold wpE
  refine h1 E S' d _ fun l S1 d1 hl => h2 E S1 (d.trans d1) _ fun m S2 d2 hm => ?_
  exact eq_lst (k := fun b => Q (.bl (!b)) S2) xs ys hd (d2 _ _ hl) hm (q S2 (d1.trans d2))
theorem ev_eqLL {α : Type} [Dat α] [DecidableEq α] {a b : CE} (xs ys : List α) (h1 : EvL G a ρ S (xs.map Dat.toP)) (h2 : EvL G b ρ S (ys.map Dat.toP)) (hd : Dat.dep α ≤ 61) : Ev G (.cmp .Eq a b) ρ S (.bl (decide (xs = ys))) := .mk fun E S' d Q q => by
  unfold wpE
  refine h1 E S' d _ fun l S1 d1 hl => h2 E S1 (d.trans d1) _ fun m S2 d2 hm => ?_
  exact eq_lst (k := fun b => Q (.bl b) S2) xs ys hd (d2 _ _ hl) hm (q S2 (d1.trans d2))
theorem ts_fld {ts : List Tgt} {ps : List P} {R : Loc → Store → Prop} {a : CE} {f : Nat} {l : Addr} {c : Nat} {fs : List (Nat × P)} {p : P} (h1 : Ev G a ρ S (.loc l)) (hs : S l = some (.ins c fs)) (hl : fs.length < 1000) (q : ∀ S2, SubS (S.upd l (.ins c (putN f p fs))) S2 → wpTs G ts ps ρ S2 R E) : wpTs G (.fld a f :: ts) (p :: ps) ρ S R E := by
  unfold wpTs wpT
  refine h1 _ S (.refl S) _ fun S2 d2 => ?_
  simp only [d2 _ _ hs]
  exact ⟨hl, q _ (d2.both l _)⟩
end
section
variable {Df : Defs} {k : Nat} {ρ : Loc} {S : Store}
theorem ev_mth {a : CE} {m : Nat} {es : List CE} {ps : List P} {l : Addr} {c : Nat} {fs : List (Nat × P)} {v : P} (h0 : Ev (envAt Df k) a ρ S (.loc l)) (hs : S l = some (.ins c fs)) (hm : (Df.mth c m).isSome = true) (h : Evs (envAt Df k) es ρ S ps) (hf : FnV ((envAt Df k).mth c m) (.loc l :: ps) S v) : Ev (envAt Df k) (.mth a m es) ρ S v := .mk fun E S' d Q q => by
  unfold wpE
  refine h0 E S' d _ fun S1 d1 => ?_
  simp only [d1 _ _ (d _ _ hs)]
  refine ⟨by rw [env_has]; exact hm, h E S1 (d.trans d1) _ fun S2 d2 => hf S2 ((d.trans d1).trans d2) _ _ (q S2 (d1.trans d2))⟩
end
end Core
end
section
set_option maxRecDepth 100000
set_option maxHeartbeats 4000000
/-! Qu: four things; two; a text's comparison. -/
namespace Core
open PySem L2
structure Qua (α β γ δ : Type) where
  a : α
  b : β
  c : γ
  d : δ
  deriving DecidableEq
instance {α β γ δ : Type} [Dat α] [Dat β] [Dat γ] [Dat δ] : DatN (Qua α β γ δ) where
  toP := fun x => .tup [Dat.toP x.a, Dat.toP x.b, Dat.toP x.c, Dat.toP x.d]
  toD := fun x => .tuple [Dat.toD x.a, Dat.toD x.b, Dat.toD x.c, Dat.toD x.d]
  dep := max (max (Dat.dep α) (Dat.dep β)) (max (Dat.dep γ) (Dat.dep δ)) + 1
  den := fun S n x h => by
    cases n with
    | zero => omega
    | succ n =>
      simp only [dataS, List.mapM_cons, List.mapM_nil]
      rw [Dat.den S n x.a (by omega), Dat.den S n x.b (by omega), Dat.den S n x.c (by omega), Dat.den S n x.d (by omega)]
      rfl
  nb := fun x => by simp [noB, noBs, Dat.nb]
  inj := fun x y h => by
    simp only [PyData.tuple.injEq, List.cons.injEq, and_true] at h
    obtain ⟨x1, x2, x3, x4⟩ := x
    obtain ⟨y1, y2, y3, y4⟩ := y
    obtain ⟨h1, h2, h3, h4⟩ := h
    have := Dat.inj _ _ h1
    have := Dat.inj _ _ h2
    have := Dat.inj _ _ h3
    have := Dat.inj _ _ h4
    simp_all
  nn := fun _ h => by cases h
instance {α β γ δ : Type} [Dat α] [Dat β] [Dat γ] [Dat δ] [Ky α] [Ky β] [Ky γ] [Ky δ] : Ky (Qua α β γ δ) where
  key := fun x => .tup [Ky.key x.a, Ky.key x.b, Ky.key x.c, Ky.key x.d]
  kof := fun x => by show (keysOf [Dat.toP x.a, Dat.toP x.b, Dat.toP x.c, Dat.toP x.d]).map NestedKey.tup = _; simp [keysOf, Ky.kof]
  kinj := fun x y h => by
    simp only [NestedKey.tup.injEq, List.cons.injEq, and_true] at h
    obtain ⟨h1, h2, h3, h4⟩ := h
    have h1 := Ky.kinj _ _ h1
    have h2 := Ky.kinj _ _ h2
    have h3 := Ky.kinj _ _ h3
    have h4 := Ky.kinj _ _ h4
    cases x; cases y
    simp_all
  kdep := max (max (Ky.kdep α) (Ky.kdep β)) (max (Ky.kdep γ) (Ky.kdep δ)) + 1
  kd := fun x => by
    have h1 := Ky.kd x.a
    have h2 := Ky.kd x.b
    have h3 := Ky.kd x.c
    have h4 := Ky.kd x.d
    simp only [NestedKey.depth, NestedKey.depthAll]
    omega
  kind := .inr fun _ => ⟨_, rfl⟩
theorem ev_eqT {G : Env} {ρ : Loc} {S : Store} {c : CE} {s t : Str} (h : Ev G c ρ S (.str s)) (h1 : PyData.strOk s = true) (h2 : PyData.strOk t = true) : Ev G (.cmp .Eq c (.lit (.str t))) ρ S (.bl (decide (s = t))) := ev_cmp h ev_lit (cmpv_eqS h1 h2)
theorem ev_neT {G : Env} {ρ : Loc} {S : Store} {c : CE} {s t : Str} (h : Ev G c ρ S (.str s)) (h1 : PyData.strOk s = true) (h2 : PyData.strOk t = true) : Ev G (.cmp .NotEq c (.lit (.str t))) ρ S (.bl (!decide (s = t))) := ev_cmp h ev_lit (cmpv_neS h1 h2)
theorem three {α : Type} {xs : List α} (h : xs.length = 3) : ∃ a b c, xs = [a, b, c] := by
  match xs, h with
  | [a, b, c], _ => exact ⟨a, b, c, rfl⟩
theorem four {α : Type} {xs : List α} (h : xs.length = 4) : ∃ a b c d, xs = [a, b, c, d] := by
  match xs, h with
  | [a, b, c, d], _ => exact ⟨a, b, c, d, rfl⟩
theorem tup_or (v : P) : (∃ xs, v = .tup xs) ∨ isTup v = false := by cases v <;> first | exact .inl ⟨_, rfl⟩ | exact .inr rfl
/-- not isinstance(v, tuple) or .. -/
theorem ev_noTup {G : Env} {ρ : Loc} {S : Store} {c b : CE} {v : P} {t : Option Ty} (h : Ev G c ρ S v) (ht : tyOf S v = some t) (hv : isTup v = false) : Ev G (.or_ (.not_ (.isi c [.tuple])) b) ρ S (.bl true) := by
  have h1 := ev_not (ev_isTup h ht)
  rw [hv] at h1
  exact ev_or (y := true) h1 (fun e => by cases e)
/-- x or .., x being true -/
theorem ev_orT {G : Env} {ρ : Loc} {S : Store} {a b : CE} (h : Ev G a ρ S (.bl true)) : Ev G (.or_ a b) ρ S (.bl true) := ev_or (y := true) h fun e => by cases e
theorem ev_orF {G : Env} {ρ : Loc} {S : Store} {a b : CE} {y : Bool} (h : Ev G a ρ S (.bl false)) (h2 : Ev G b ρ S (.bl y)) : Ev G (.or_ a b) ρ S (.bl y) := ev_or (x := false) h fun _ => h2
theorem ev_andT {G : Env} {ρ : Loc} {S : Store} {a b : CE} {y : Bool} (h : Ev G a ρ S (.bl true)) (h2 : Ev G b ρ S (.bl y)) : Ev G (.and_ a b) ρ S (.bl y) := ev_and (x := true) h fun _ => h2
theorem ev_andF {G : Env} {ρ : Loc} {S : Store} {a b : CE} (h : Ev G a ρ S (.bl false)) : Ev G (.and_ a b) ρ S (.bl false) := ev_and (y := true) h fun e => by cases e
theorem ev_val {G : Env} {ρ : Loc} {S : Store} {a : CE} {p q : P} (h : Ev G a ρ S p) (e : p = q) : Ev G a ρ S q := e ▸ h
theorem bnt {b : Bool} (h : (!b) = true) : b = false := by cases b <;> first | rfl | cases h
theorem bnf {b : Bool} (h : (!b) = false) : b = true := by cases b <;> first | rfl | cases h
end Core
end
section
set_option maxRecDepth 100000
set_option maxHeartbeats 4000000
/-! Tape: a head on a tape, plainly. -/
namespace Core
open PySem L2
structure Cfg where
  st : Int
  left : List Int
  right : List Int
  pos : Int
  deriving DecidableEq
def push (x : Int) (l : List Int) : List Int := if l = [] ∧ x = 0 then [] else x :: l
theorem push_no {x : Int} {l : List Int} (h : ¬ (l = [] ∧ x = 0)) : push x l = x :: l := if_neg h
theorem push_yes {x : Int} {l : List Int} (h : l = [] ∧ x = 0) : push x l = [] := if_pos h
def Norm (l : List Int) : Prop := ∀ x, l.getLast? = some x → x ≠ 0
def gd (l : List Int) (i : Nat) : Int := l[i]?.getD 0
theorem gd_nil {i : Nat} : gd [] i = 0 := by simp [gd]
theorem gd_z {x : Int} {l : List Int} : gd (x :: l) 0 = x := rfl
theorem gd_s {x : Int} {l : List Int} {i : Nat} : gd (x :: l) (i + 1) = gd l i := by simp [gd]
theorem gd_tail {l : List Int} {i : Nat} : gd l.tail i = gd l (i + 1) := by
  cases l with
  | nil => simp [gd]
  | cons x l => rw [gd_s]; rfl
theorem gd_head {l : List Int} : l.headD 0 = gd l 0 := by cases l <;> rfl
theorem gd_push {x : Int} {l : List Int} {i : Nat} : gd (push x l) i = gd (x :: l) i := by
  unfold push
  split
  · rename_i h
    rw [h.1, h.2]
    cases i with
    | zero => rfl
    | succ i => rw [gd_s, gd_nil, gd_nil]
  · rfl
theorem Norm.nil : Norm [] := fun x h => by cases h
theorem Norm.push {x : Int} {l : List Int} (h : Norm l) : Norm (push x l) := by
  unfold Core.push
  split
  · exact .nil
  · rename_i e
    intro y hy
    cases l with
    | nil =>
      rw [List.getLast?_singleton] at hy
      cases hy
      exact fun z => e ⟨rfl, z⟩
    | cons z l => rw [List.getLast?_cons_cons] at hy; exact h y hy
theorem Norm.tail {l : List Int} (h : Norm l) : Norm l.tail := by
  intro y hy
  cases l with
  | nil => cases hy
  | cons z l =>
    cases l with
    | nil => cases hy
    | cons w l => exact h y (by rw [List.getLast?_cons_cons]; exact hy)
theorem norm_zero : ∀ {l : List Int}, Norm l → (∀ i, gd l i = 0) → l = []
  | [], _, _ => rfl
  | [x], h, z => absurd (z 0) (h x rfl)
  | x :: y :: l, h, z => by
    have := norm_zero (l := y :: l) (fun w hw => h w (by rw [List.getLast?_cons_cons]; exact hw)) fun i => by rw [← gd_s (x := x)]; exact z (i + 1)
    cases this
theorem norm_ext : ∀ {l m : List Int}, Norm l → Norm m → (∀ i, gd l i = gd m i) → l = m
  | [], m, _, hm, e => (norm_zero hm fun i => by rw [← e i, gd_nil]).symm
  | x :: l, [], hl, _, e => norm_zero hl fun i => by rw [e i, gd_nil]
  | x :: l, y :: m, hl, hm, e => by
    have h0 : x = y := e 0
    have := norm_ext (l := l) (m := m) hl.tail hm.tail fun i => by rw [← gd_s (x := x), ← gd_s (x := y) (l := m)]; exact e (i + 1)
    rw [h0, this]
def Cfg.rule (rows : Rows) (c : Cfg) : Option Rule := ruleAt rows c.st (c.right.headD 0)
def Cfg.move (c : Cfg) (r : Rule) : Cfg :=
  if r.b = 1 then ⟨r.c, push r.a c.left, c.right.tail, c.pos + r.b⟩
  else ⟨r.c, c.left.tail, push (c.left.headD 0) (push r.a c.right.tail), c.pos + r.b⟩
structure Sim (c : Cfg) (f : Int → Int) : Prop where
  left : ∀ i : Nat, gd c.left i = f (c.pos - 1 - i)
  right : ∀ i : Nat, gd c.right i = f (c.pos + i)
  nl : Norm c.left
  nr : Norm c.right
theorem Sim.move {c : Cfg} {f : Int → Int} {r : Rule} (h : Sim c f) (hb : r.b = 1 ∨ r.b = -1) : Sim (c.move r) (fun x => if x = c.pos then r.a else f x) := by
  unfold Cfg.move
  rcases hb with hb | hb
  · rw [if_pos hb]
    refine ⟨fun i => ?_, fun i => ?_, h.nl.push, h.nr.tail⟩
    · dsimp only
      rw [gd_push, hb]
      cases i with
      | zero => rw [gd_z, if_pos (by omega)]
      | succ i => rw [gd_s, h.left, if_neg (by omega)]; exact congrArg f (by omega)
    · dsimp only
      rw [gd_tail, h.right, hb, if_neg (by omega)]
      exact congrArg f (by omega)
  · rw [if_neg (by omega)]
    refine ⟨fun i => ?_, fun i => ?_, h.nl.tail, h.nr.tail.push.push⟩
    · dsimp only
      rw [gd_tail, h.left, hb, if_neg (by omega)]
      exact congrArg f (by omega)
    · dsimp only
      rw [gd_push, hb, gd_head]
      cases i with
      | zero => rw [gd_z, h.left, if_neg (by omega)]; exact congrArg f (by omega)
      | succ i =>
        rw [gd_s, gd_push]
        cases i with
        | zero => rw [gd_z, if_pos (by omega)]
        | succ i => rw [gd_s, gd_tail, h.right, if_neg (by omega)]; exact congrArg f (by omega)
/-- zeros at the far end are left out -/
def cut : List Int → List Int
  | [] => []
  | x :: l => push x (cut l)
theorem cut_norm : ∀ l : List Int, Norm (cut l)
  | [] => .nil
  | x :: l => (cut_norm l).push
theorem cut_gd : ∀ (l : List Int) (i : Nat), gd (cut l) i = gd l i
  | [], i => rfl
  | x :: l, i => by
    unfold cut
    rw [gd_push]
    cases i with
    | zero => rfl
    | succ i => rw [gd_s, gd_s, cut_gd l i]
theorem cut_snoc (l : List Int) : cut (l ++ [0]) = cut l := by
  induction l with
  | nil => rfl
  | cons x l ih => rw [List.cons_append]; unfold cut; rw [ih]
theorem cut_of {l : List Int} (h : Norm l) : cut l = l := norm_ext (cut_norm l) h (cut_gd l)
def placeP (c : Cfg) : P := .tup [.str "tape", .int c.st, .tup (c.left.map P.int), .tup (c.right.map P.int)]
/-- cells by their numbers -/
abbrev Cells := List (Int × Int)
def Cells.val (l : Cells) (x : Int) : Int := ((l.find? fun e => decide (e.1 = x)).map (·.2)).getD 0
def Cells.put (l : Cells) (x v : Int) : Cells := if (l.any fun e => decide (e.1 = x)) = true then l.map (fun e => if e.1 = x then (e.1, v) else e) else l ++ [(x, v)]
def cellD (l : Cells) : List (P × P) := dP (l.map fun e => (e.1, P.int e.2))
theorem cell_get (l : Cells) (x : Int) : (valP (cellD l) (.int x)).getD (.int 0) = .int (l.val x) := by
  unfold cellD
  rw [show (P.int x) = Dat.toP x from rfl, dP_get]
  unfold getA Cells.val
  induction l with
  | nil => rfl
  | cons e l ih =>
    rw [List.map_cons, List.find?_cons, List.find?_cons]
    dsimp only
    cases decide (e.1 = x) with
    | true => rfl
    | false => exact ih
theorem cell_ok (l : Cells) (x : Int) : okK (cellD l) (.int x) = true := dP_ok _ x (by decide)
theorem cell_put (l : Cells) (x v : Int) : putP (cellD l) (.int x) (.int v) = cellD (l.put x v) := by
  unfold cellD
  rw [show (P.int x) = Dat.toP x from rfl, dP_put]
  congr 1
  unfold putA Cells.put
  rw [List.any_map]
  have e : ((fun e : Int × P => decide (e.1 = x)) ∘ fun e : Int × Int => (e.1, P.int e.2)) = fun e => decide (e.1 = x) := rfl
  rw [e]
  split
  · rw [List.map_map, List.map_map]
    congr 1
    funext e
    simp only [Function.comp]
    split <;> rfl
  · rw [List.map_append]; rfl
theorem Cells.val_put (l : Cells) (x v y : Int) : (l.put x v).val y = if y = x then v else l.val y := by
  unfold Cells.put
  split
  · rename_i h
    unfold Cells.val
    induction l with
    | nil => cases h
    | cons e l ih =>
      rw [List.map_cons, List.find?_cons, List.find?_cons]
      by_cases hx : e.1 = x
      · rw [if_pos hx]
        dsimp only
        by_cases hy : e.1 = y
        · rw [decide_eq_true hy, if_pos (hy.symm.trans hx)]; rfl
        · rw [decide_eq_false hy, if_neg fun z => hy (hx.trans z.symm)]
          by_cases hl : (l.any fun e => decide (e.1 = x)) = true
          · rw [ih hl, if_neg fun z => hy (hx.trans z.symm)]
          · have : l.map (fun e => if e.1 = x then (e.1, v) else e) = l := by
              conv => rhs; rw [← List.map_id l]
              refine List.map_congr_left fun z hz => ?_
              rw [if_neg fun q => hl (List.any_eq_true.mpr ⟨z, hz, decide_eq_true q⟩)]
              rfl
            rw [this]
      · rw [if_neg hx]
        have hl : (l.any fun e => decide (e.1 = x)) = true := by simpa [hx] using h
        cases hy : decide (e.1 = y) with
        | true =>
          have hy := of_decide_eq_true hy
          rw [if_neg fun z => hx (hy.trans z)]
          
        | false => exact ih hl
  · rename_i h
    unfold Cells.val
    rw [List.find?_append]
    by_cases hy : y = x
    · subst hy
      have : l.find? (fun e => decide (e.1 = y)) = none := List.find?_eq_none.mpr fun z hz q => h (List.any_eq_true.mpr ⟨z, hz, q⟩)
      rw [this, if_pos rfl]
      simp
    · rw [if_neg hy]
      cases e : l.find? (fun e => decide (e.1 = y)) with
      | some z => rfl
      | none => simp [Ne.symm hy]
theorem Cells.val_no (l : Cells) (x : Int) (h : ∀ e ∈ l, e.1 ≠ x) : l.val x = 0 := by
  unfold Cells.val
  have : l.find? (fun e => decide (e.1 = x)) = none := List.find?_eq_none.mpr fun z hz q => h z hz (of_decide_eq_true q)
  rw [this]
  rfl
theorem cellD_keys (l : Cells) : (cellD l).map (·.1) = (l.map (·.1)).map P.int := by
  unfold cellD dP
  rw [List.map_map, List.map_map, List.map_map]
  rfl
/-- signs, rows and rules that fit together -/
structure GoodT (M : Mach) : Prop where
  m0 : 1 ≤ M.m
  n0 : 1 ≤ M.rows.length
  len : ∀ row ∈ M.rows, row.length = M.m
  rule : ∀ row ∈ M.rows, ∀ r, some r ∈ row → GoodR M.m M.rows.length r
theorem GoodM.t {M : Mach} (g : GoodM M) : GoodT M := ⟨Nat.le_of_succ_le g.m0, g.n0, g.len, g.rule⟩
instance {M : Mach} : Coe (GoodM M) (GoodT M) := ⟨GoodM.t⟩
theorem rule_atT {M : Mach} (g : GoodT M) {st sg : Int} (h1 : 0 ≤ st ∧ st < M.rows.length) (h2 : 0 ≤ sg ∧ sg < M.m) : ∃ row : List (Option Rule), atI (M.rows.map Dat.toP) st = some (Dat.toP row) ∧ atI (row.map Dat.toP) sg = some (Dat.toP (ruleAt M.rows st sg)) ∧ ∀ r, ruleAt M.rows st sg = some r → GoodR M.m M.rows.length r := by
  obtain ⟨i, rfl⟩ : ∃ i : Nat, st = i := ⟨st.toNat, (Int.toNat_of_nonneg h1.1).symm⟩
  obtain ⟨j, rfl⟩ : ∃ j : Nat, sg = j := ⟨sg.toNat, (Int.toNat_of_nonneg h2.1).symm⟩
  have hi : i < M.rows.length := by omega
  have hr : M.rows[i] ∈ M.rows := List.getElem_mem hi
  have hj : j < M.rows[i].length := by rw [g.len _ hr]; omega
  have e : ruleAt M.rows i j = M.rows[i][j] := by simp [ruleAt, hi, hj]
  refine ⟨M.rows[i], atI_at (by simp [hi]), ?_, fun r h => g.rule _ hr r ?_⟩
  · rw [e]; exact atI_at (by simp [hj])
  · rw [← h, e]; exact List.getElem_mem hj
/-! ### whole places -/
structure Wf (M : Mach) (K : Nat) (c : Cfg) : Prop where
  st : 0 ≤ c.st ∧ c.st < M.rows.length
  left : ∀ x ∈ c.left, 0 ≤ x ∧ x < M.m
  right : ∀ x ∈ c.right, 0 ≤ x ∧ x < M.m
  ll : c.left.length ≤ K
  lr : c.right.length ≤ K
  pos : -(K : Int) ≤ c.pos ∧ c.pos ≤ K
theorem mem_push {x y : Int} {l : List Int} (h : y ∈ push x l) : y = x ∨ y ∈ l := by
  unfold push at h
  split at h
  · cases h
  · exact List.mem_cons.mp h
theorem len_push {x : Int} {l : List Int} : (push x l).length ≤ l.length + 1 := by
  unfold push
  split
  · exact Nat.zero_le _
  · exact Nat.le_refl _
theorem Wf.sign {M : Mach} {K : Nat} {c : Cfg} (g : GoodT M) (w : Wf M K c) : 0 ≤ c.right.headD 0 ∧ c.right.headD 0 < M.m := by
  have := g.m0
  cases h : c.right with
  | nil => exact ⟨Int.le_refl _, by show (0 : Int) < M.m; omega⟩
  | cons x l => exact w.right x (by rw [h]; exact List.mem_cons_self)
theorem Wf.head {M : Mach} {K : Nat} {c : Cfg} (g : GoodT M) (w : Wf M K c) : 0 ≤ c.left.headD 0 ∧ c.left.headD 0 < M.m := by
  have := g.m0
  cases h : c.left with
  | nil => exact ⟨Int.le_refl _, by show (0 : Int) < M.m; omega⟩
  | cons x l => exact w.left x (by rw [h]; exact List.mem_cons_self)
theorem Wf.rule {M : Mach} {K : Nat} {c : Cfg} {r : Rule} (g : GoodT M) (w : Wf M K c) (h : c.rule M.rows = some r) : GoodR M.m M.rows.length r :=
  (rule_atT g w.st (w.sign g)).choose_spec.2.2 r h
theorem Wf.move {M : Mach} {K : Nat} {c : Cfg} {r : Rule} (g : GoodT M) (w : Wf M K c) (h : c.rule M.rows = some r) : Wf M (K + 2) (c.move r) := by
  have gr := w.rule g h
  have hl := w.ll
  have hr := w.lr
  have hp := w.pos
  have hh := w.head g
  have t : ∀ {l : List Int} {x : Int}, x ∈ l.tail → x ∈ l := fun h => List.mem_of_mem_tail h
  unfold Cfg.move
  rcases gr.b with hb | hb
  · rw [if_pos hb]
    refine ⟨⟨gr.c0, gr.c1⟩, fun x hx => ?_, fun x hx => w.right x (t hx), ?_, ?_, ?_⟩
    · rcases mem_push hx with rfl | hx
      · exact ⟨gr.a0, gr.a1⟩
      · exact w.left x hx
    · have := len_push (x := r.a) (l := c.left)
      show (push r.a c.left).length ≤ _
      omega
    · show c.right.tail.length ≤ _
      rw [List.length_tail]; omega
    · show _ ≤ c.pos + r.b ∧ c.pos + r.b ≤ _
      rw [hb]; omega
  · rw [if_neg (by omega)]
    refine ⟨⟨gr.c0, gr.c1⟩, fun x hx => w.left x (t hx), fun x hx => ?_, ?_, ?_, ?_⟩
    · rcases mem_push hx with rfl | hx
      · exact hh
      · rcases mem_push hx with rfl | hx
        · exact ⟨gr.a0, gr.a1⟩
        · exact w.right x (t hx)
    · show c.left.tail.length ≤ _
      rw [List.length_tail]; omega
    · have h1 := len_push (x := c.left.headD 0) (l := push r.a c.right.tail)
      have h2 := len_push (x := r.a) (l := c.right.tail)
      rw [List.length_tail] at h2
      show (push (c.left.headD 0) (push r.a c.right.tail)).length ≤ _
      omega
    · show _ ≤ c.pos + r.b ∧ c.pos + r.b ≤ _
      rw [hb]; omega
def cfg0 : Cfg := ⟨0, [], [], 0⟩
theorem wf0 {M : Mach} (g : GoodT M) : Wf M 0 cfg0 := ⟨⟨Int.le_refl _, by have := g.n0; show (0 : Int) < M.rows.length; omega⟩, fun _ h => absurd h List.not_mem_nil, fun _ h => absurd h List.not_mem_nil, Nat.le_refl _, Nat.le_refl _, ⟨Int.le_refl _, Int.le_refl _⟩⟩
theorem sim0 : Sim cfg0 (Cells.val []) := ⟨fun i => by show gd [] i = _; rw [gd_nil]; rfl, fun i => by show gd [] i = _; rw [gd_nil]; rfl, .nil, .nil⟩
theorem Sim.head {c : Cfg} {f : Int → Int} (h : Sim c f) : f c.pos = c.right.headD 0 := by
  rw [gd_head, h.right]
  exact congrArg f (by omega)
theorem Sim.put {c : Cfg} {l : Cells} {r : Rule} (h : Sim c l.val) (hb : r.b = 1 ∨ r.b = -1) : Sim (c.move r) (l.put c.pos r.a).val := by
  have : (l.put c.pos r.a).val = fun x => if x = c.pos then r.a else l.val x := funext fun x => Cells.val_put l _ _ x
  rw [this]
  exact h.move hb
theorem move_pos {c : Cfg} {r : Rule} : (c.move r).pos = c.pos + r.b := by unfold Cfg.move; split <;> rfl
theorem move_st {c : Cfg} {r : Rule} : (c.move r).st = r.c := by unfold Cfg.move; split <;> rfl
def runR (rows : Rows) : Nat → Cfg → Nat → Cfg × Nat
  | 0, c, n => (c, n)
  | f + 1, c, n => match c.rule rows with
    | none => (c, n)
    | some r => runR rows f (c.move r) (n + 1)
theorem runR_le (rows : Rows) : ∀ (f : Nat) (c : Cfg) (n : Nat), (runR rows f c n).2 ≤ n + f
  | 0, c, n => Nat.le_refl _
  | f + 1, c, n => by
    unfold runR
    split
    · exact Nat.le_add_right _ _
    · have := runR_le rows f (c.move ‹_›) (n + 1)
      omega
theorem Wf.up {M : Mach} {K L : Nat} {c : Cfg} (w : Wf M K c) (h : K ≤ L) : Wf M L c := ⟨w.st, w.left, w.right, Nat.le_trans w.ll h, Nat.le_trans w.lr h, by have := w.pos; omega⟩
theorem runR_wf {M : Mach} (g : GoodT M) : ∀ (f : Nat) (c : Cfg) (n K : Nat), Wf M K c → Wf M (K + 2 * f) (runR M.rows f c n).1
  | 0, c, n, K, w => w
  | f + 1, c, n, K, w => by
    unfold runR
    split
    · exact w.up (by omega)
    · rename_i r h
      exact (runR_wf g f _ (n + 1) (K + 2) (w.move g h)).up (by omega)
theorem Cfg.move_norm {c : Cfg} {r : Rule} (h1 : Norm c.left) (h2 : Norm c.right) : Norm (c.move r).left ∧ Norm (c.move r).right := by
  unfold Cfg.move
  split
  · exact ⟨h1.push, h2.tail⟩
  · exact ⟨h1.tail, h2.tail.push.push⟩
theorem runR_norm (rows : Rows) : ∀ (f : Nat) (c : Cfg) (n : Nat), Norm c.left → Norm c.right → Norm (runR rows f c n).1.left ∧ Norm (runR rows f c n).1.right
  | 0, c, n, h1, h2 => ⟨h1, h2⟩
  | f + 1, c, n, h1, h2 => by
    unfold runR
    split
    · exact ⟨h1, h2⟩
    · have := Cfg.move_norm (r := ‹_›) h1 h2
      exact runR_norm rows f _ (n + 1) this.1 this.2
theorem cutl_le : ∀ {l : List Int}, (cut l).length ≤ l.length
  | [] => Nat.le_refl _
  | x :: l => by
    have := len_push (x := x) (l := cut l)
    have := cutl_le (l := l)
    show (push x (cut l)).length ≤ l.length + 1
    omega
theorem cutl_mem : ∀ {l : List Int} {x : Int}, x ∈ cut l → x ∈ l
  | [], _, h => h
  | y :: l, x, h => by
    rcases mem_push h with rfl | h
    · exact List.mem_cons_self
    · exact List.mem_cons_of_mem _ (cutl_mem h)
end Core
end
section
set_option maxRecDepth 100000
set_option maxHeartbeats 4000000
/-! Lq: walks, parts of rows, dicts: what all programs share. -/
namespace Core
open PySem L2
theorem at_last {xs : List P} {p : P} : atI (xs ++ [p]) (-1) = some p := by
  unfold atI ixN
  rw [if_neg (by omega), if_pos (by rw [List.length_append, List.length_singleton]; omega)]
  have : ((-1 : Int) + ((xs ++ [p]).length : Int)).toNat = xs.length := by rw [List.length_append, List.length_singleton]; omega
  rw [this]
  simp
theorem cps_runF {G : Env} {ρ : Loc} {S : Store} {Q : QP} {E : QE} {c : CE} {xs : List P} (h : EvF G c ρ S xs) (q : ∀ a S2, SubS S S2 → S a = none → S2 a = some (.lst xs) → Q (.loc a) S2) : wpE G c ρ S Q E := h E S (.refl S) Q q
theorem bk_appendE {Df : Defs} {k i : Nat} {ρ : Loc} {S : Store} {ss : List CS} {D : DE} {e : CE} {a : Addr} {xs : List P} (h1 : ρ[i]? = some (some (.loc a))) (hs : S a = some (.lst xs)) (hl : xs.length < sizeLine) (q : wpE (envAt Df k) e ρ S (fun p S' => S' a = some (.lst xs) ∧ wpB (envAt Df k) ss ρ (S'.upd a (.lst (xs ++ [p]))) D) D.ex) : wpB (envAt Df k) (.exp (.bmt (.var i) .append [e]) :: ss) ρ S D := by
  refine bk_cons ?_
  unfold wpS wpE wpE
  rw [h1]
  refine ⟨⟨a, xs, rfl, hs⟩, ?_⟩
  unfold wpEs
  refine wpE_mono (env_mono Df k) e (fun p S2 h => ?_) (fun _ _ h => h) q
  unfold wpEs
  simp only [bmS, lstS, h.1]
  exact ⟨hl, h.2⟩
theorem cutP_last {xs : List P} {p : P} : cutP (xs ++ [p]) none (some (-1)) = xs := by
  have e : HT.sIx (xs ++ [p]).length (xs ++ [p]).length (some (-1)) = xs.length := by
    show (if (-1 : Int) < 0 then ((-1 : Int) + ((xs ++ [p]).length : Int)).toNat else min (-1 : Int).toNat (xs ++ [p]).length) = xs.length
    rw [if_pos (by omega), List.length_append, List.length_singleton]
    omega
  unfold cutP
  rw [e, HT.sIx_none, Nat.sub_zero, List.drop_zero]
  simp
theorem cutP_nat {xs : List P} (i j : Nat) : cutP xs (some (i : Int)) (some (j : Int)) = (xs.drop i).take (j - i) := by
  unfold cutP
  rw [HT.sIx_nat, HT.sIx_nat]
  by_cases h : i ≤ xs.length
  · rw [Nat.min_eq_left h]
    by_cases h2 : j ≤ xs.length
    · rw [Nat.min_eq_left h2]
    · rw [Nat.min_eq_right (by omega)]
      have e : (xs.drop i).length = xs.length - i := List.length_drop ..
      rw [List.take_of_length_le (by omega), List.take_of_length_le (by omega)]
  · rw [Nat.min_eq_right (show xs.length ≤ i by omega)]
    rw [List.drop_of_length_le (Nat.le_refl _), List.drop_of_length_le (by omega)]
    simp
theorem cutP_to {xs : List P} (j : Nat) : cutP xs none (some (j : Int)) = xs.take j := by
  unfold cutP
  rw [HT.sIx_nat, HT.sIx_none, Nat.sub_zero, List.drop_zero]
  by_cases h : j ≤ xs.length
  · rw [Nat.min_eq_left h]
  · rw [Nat.min_eq_right (by omega), List.take_of_length_le (Nat.le_refl _), List.take_of_length_le (by omega)]
theorem cutP_from {xs : List P} (i : Nat) : cutP xs (some (i : Int)) none = xs.drop i := by
  unfold cutP
  rw [HT.sIx_nat, HT.sIx_none]
  by_cases h : i ≤ xs.length
  · rw [Nat.min_eq_left h]
    have e : (xs.drop i).length = xs.length - i := List.length_drop ..
    rw [List.take_of_length_le (by omega)]
  · rw [Nat.min_eq_right (by omega), List.drop_of_length_le (Nat.le_refl _), List.drop_of_length_le (by omega)]
    simp
section
variable {G : Env} {ρ : Loc} {S : Store}
/-- list(d) -/
theorem evf_listD {a : CE} {l : Addr} {kvs : List (P × P)} (h1 : Ev G a ρ S (.loc l)) (hs : S l = some (.dct kvs)) (hf : (kvs.all fun kv => flK kv.1) = true) : EvF G (.blt .list [a]) ρ S (kvs.map (·.1)) := .mk fun E S' d Q q => by
  unfold wpE wpEs wpEs
  refine h1 E S' d _ fun S1 d1 => ?_
  simp only [bfS, dctS, d1 _ _ (d _ _ hs)]
  exact ⟨hf, fun _ c hc => q c _ (d1.trans (.upd hc)) (sub_none d1 hc) Store.upd_same⟩
end
theorem min_ex (x : Int) (l : List Int) : ∃ m, m ∈ x :: l ∧ ∀ y ∈ x :: l, m ≤ y := by
  induction l generalizing x with
  | nil => exact ⟨x, List.mem_cons_self, fun y hy => by rw [List.mem_singleton.mp hy]; exact Int.le_refl _⟩
  | cons z l ih =>
    obtain ⟨m, h1, h2⟩ := ih z
    by_cases h : x ≤ m
    · exact ⟨x, List.mem_cons_self, fun y hy => by
        rcases List.mem_cons.mp hy with rfl | hy
        · exact Int.le_refl _
        · exact Int.le_trans h (h2 y hy)⟩
    · exact ⟨m, List.mem_cons_of_mem _ h1, fun y hy => by
        rcases List.mem_cons.mp hy with rfl | hy
        · omega
        · exact h2 y hy⟩
theorem max_ex (x : Int) (l : List Int) : ∃ m, m ∈ x :: l ∧ ∀ y ∈ x :: l, y ≤ m := by
  induction l generalizing x with
  | nil => exact ⟨x, List.mem_cons_self, fun y hy => by rw [List.mem_singleton.mp hy]; exact Int.le_refl _⟩
  | cons z l ih =>
    obtain ⟨m, h1, h2⟩ := ih z
    by_cases h : m ≤ x
    · exact ⟨x, List.mem_cons_self, fun y hy => by
        rcases List.mem_cons.mp hy with rfl | hy
        · exact Int.le_refl _
        · exact Int.le_trans (h2 y hy) h⟩
    · exact ⟨m, List.mem_cons_of_mem _ h1, fun y hy => by
        rcases List.mem_cons.mp hy with rfl | hy
        · omega
        · exact h2 y hy⟩
theorem cps_not {Df : Defs} {k : Nat} {ρ : Loc} {S : Store} {Q : QP} {E : QE} {a : CE} (h : wpE (envAt Df k) a ρ S (fun p S1 => ∃ b, p = .bl b ∧ Q (.bl (!b)) S1) E) : wpE (envAt Df k) (.not_ a) ρ S Q E := by
  unfold wpE
  refine wpE_mono (env_mono Df k) a (fun p S1 h => ?_) (fun _ _ h => h) h
  obtain ⟨b, rfl, h⟩ := h
  exact h
theorem cps_dct {G : Env} {ρ : Loc} {S : Store} {Q : QP} {E : QE} {es : List CE} (h : ∀ a, S a = none → wpEs G es ρ (S.upd a (.dct [])) (fun ps S1 => S1 a = some (.dct []) ∧ (((pairsP ps).all fun kv => flK kv.1) = true ∨ (pairsP ps ≠ [] ∧ ((pairsP ps).all fun kv => tuK kv.1) = true)) ∧ Q (.loc a) (S1.upd a (.dct ((pairsP ps).foldl (fun m kv => putP m kv.1 kv.2) [])))) E) : wpE G (.dct es) ρ S Q E := by unfold wpE; exact h
theorem wpEs_lits {G : Env} {ρ : Loc} {E : QE} (vs : List P) : ∀ {S : Store} {R : List P → Store → Prop}, wpEs G (vs.map .lit) ρ S R E → R vs S := by
  induction vs with
  | nil => intro S R h; rw [List.map_nil] at h; unfold wpEs at h; exact h
  | cons v vs ih =>
    intro S R h
    rw [List.map_cons] at h
    unfold wpEs wpE at h
    exact ih h
theorem cps_cmprN {Df : Defs} {k : Nat} {ρ : Loc} {S : Store} {Q : QP} {E : QE} {own : List Nat} {ik : IK} {args : List CE} {tg : VT} {elt : CE} (h : wpEs (envAt Df k) args ρ S (fun vs S1 => wpE (envAt Df k) (.cmpr own ik (vs.map .lit) tg elt none) ρ S1 Q E) E) : wpE (envAt Df k) (.cmpr own ik args tg elt none) ρ S Q E := by
  unfold wpE
  refine wpEs_mono (env_mono Df k) args (fun vs S1 h => ?_) (fun _ _ h => h) h
  unfold wpE at h
  exact wpEs_lits vs h
theorem bk_D {G : Env} {b : List CS} {ρ : Loc} {S : Store} {D : DE} (h : ∀ D2 : DE, D2.nx = D.nx → wpB G b ρ S D2) : wpB G b ρ S D := h D rfl
theorem Cells.put_len (l : Cells) (x v : Int) : (l.put x v).length ≤ l.length + 1 := by
  unfold Cells.put
  split
  · rw [List.length_map]; omega
  · rw [List.length_append]; exact Nat.le_refl _
theorem Cells.put_keys (l : Cells) (x v : Int) : ∀ e ∈ l.put x v, e.1 = x ∨ ∃ e' ∈ l, e'.1 = e.1 := by
  unfold Cells.put
  split
  · intro e he
    obtain ⟨z, hz, rfl⟩ := List.mem_map.mp he
    refine .inr ⟨z, hz, ?_⟩
    split <;> rfl
  · intro e he
    rcases List.mem_append.mp he with he | he
    · exact .inr ⟨e, he, rfl⟩
    · rw [List.mem_singleton.mp he]; exact .inl rfl
theorem cellD_fl (l : Cells) : ((cellD l).all fun kv => flK kv.1) = true := by
  unfold cellD dP
  rw [List.all_map, List.all_map, List.all_eq_true]
  intro e _
  rfl
def endsB (l : List Int) : Bool := match l.getLast? with
  | none => true
  | some x => !decide (x = 0)
theorem ends_norm {l : List Int} (h : Norm l) : endsB l = true := by
  unfold endsB
  cases e : l.getLast? with
  | none => rfl
  | some x => simpa using h x e
def lenP : P → Int
  | .tup xs => xs.length
  | _ => 0
def nz : P → Bool
  | .int i => !decide (i = 0)
  | _ => true
theorem atI_0 {α : Type} {x : α} {l : List α} : atI (x :: l) 0 = some x := atI_at (k := 0) rfl
end Core
end
section
set_option maxRecDepth 100000
set_option maxHeartbeats 4000000
/-! Bi: whole numbers. -/
open PySem Core L2
local macro_rules | `(tactic| fail "fn") => `(tactic| first
  | assumption)
local macro_rules | `(tactic| fail "num") => `(tactic| first
  | omega
  | decide
  | (simp only [List.length_append, List.length_cons, List.length_nil, List.length_map, List.length_replicate, List.length_singleton]; omega))
local macro_rules | `(tactic| fail "at") => `(tactic| first
  | rfl
  | assumption
  | exact atI_at (by first | assumption | rfl)
  | (refine atI_at ?_; simp; done))
local macro_rules | `(tactic| fail "st") => `(tactic| first
  | assumption
  | exact Store.upd_same)
local macro_rules | `(tactic| fail "ty") => `(tactic| first
  | rfl
  | assumption)
local macro_rules | `(tactic| fail "evs") => `(tactic| first
  | exact evs_nil
  | (refine' evs_cons ?h0 ?h1; (case h0 => fail "ev"); (case h1 => fail "evs")))
local macro_rules | `(tactic| fail "op") => `(tactic| first
  | exact opv_add
  | exact opv_sub
  | exact opv_pow ⟨by decide, by decide, by decide⟩
  | (refine' opv_cat ?h0; (case h0 => (have := PySem.sizeLine_eq; fail "num")))
  | (refine' opv_mod ?h0; (case h0 => fail "num"))
  | (refine' opv_div ?h0 ?h1; (case h0 => fail "num"); (case h1 => fail "num"))
  | (refine' opv_mulR ?h0 ?h1; (case h0 => fail "num"); (case h1 => fail "num"))
  | (refine' opv_mulL ?h0 ?h1; (case h0 => fail "num"); (case h1 => fail "num"))
  | (refine' opv_rep ?h0 ?h1 ?h2; (case h0 => fail "num"); (case h1 => fail "num"); (case h2 => (have := PySem.sizeLine_eq; fail "num")))
  | assumption)
local macro_rules | `(tactic| fail "cm") => `(tactic| first
  | exact cmpv_eqI
  | exact cmpv_neI
  | exact cmpv_lt
  | exact cmpv_le
  | exact cmpv_gt
  | exact cmpv_ge
  | exact cmpv_isN
  | exact cmpv_isNN
  | exact cmpv_isB
  | exact cmpv_isNB
  | assumption)
local macro_rules | `(tactic| fail "ix") => `(tactic| first
  | (refine' idxv_tup ?h0; (case h0 => fail "at"))
  | (refine' idxv_lst ?h0 ?h1; (case h0 => fail "st"); (case h1 => fail "at"))
  | (refine' idxv_frl ?h0; (case h0 => fail "at"))
  | assumption)
local macro_rules | `(tactic| fail "eo") => `(tactic| first
  | exact True.intro
  | (refine (show EvO _ (some _) _ _ (some _) from ?_); fail "ev"))
local macro_rules | `(tactic| fail "el") => `(tactic| first
  | (refine' evl_var ?h0 ?h1; (case h0 => rfl); (case h1 => fail "st"))
  | (refine EvF.l ?_; fail "ef")
  | assumption)
local macro_rules | `(tactic| fail "ef") => `(tactic| first
  | (refine' evf_lst ?h0; (case h0 => fail "evs"))
  | (refine' evf_list ?h0 ?h1 ?h2; (case h0 => fail "ev"); (case h1 => exact fun _ => rfl); (case h2 => exact fun _ => rfl))
  | (refine' evf_listL ?h0; (case h0 => fail "el"))
  | (refine' evf_rev ?h0; (case h0 => fail "el"))
  | (refine' evf_slc ?h0 ?h1 ?h2; (case h0 => fail "el"); (case h1 => fail "eo"); (case h2 => fail "eo"))
  | (refine' evf_add ?h0 ?h1 ?h2; (case h0 => fail "el"); (case h1 => fail "el"); (case h2 => (have := PySem.sizeLine_eq; fail "num")))
  | (refine' evf_call ?h0 ?h1; (case h0 => fail "evs"); (case h1 => fail "fn"))
  | assumption)
local macro_rules | `(tactic| fail "ev") => `(tactic| first
  | exact ev_lit
  | exact ev_var rfl
  | (refine' ev_con ?h0; (case h0 => fail "con"))
  | exact ev_fnv
  | (refine' ev_tup ?h0; (case h0 => fail "evs"))
  | (refine' ev_not ?h0; (case h0 => fail "ev"))
  | (refine' ev_and ?h0 ?h1; (case h0 => fail "ev"); (case h1 => first | ((refine (show _ = true → Ev _ _ _ _ (.bl false) from ?_)); intro h; exact absurd h (by decide)) | (intro hAnd; fail "ev")))
  | (refine' ev_or ?h0 ?h1; (case h0 => fail "ev"); (case h1 => first | ((refine (show _ = false → Ev _ _ _ _ (.bl false) from ?_)); intro h; exact absurd h (by decide)) | (intro hOr; fail "ev")))
  | (refine' ev_chn ?h0 ?h1 ?h2 ?h3 ?h4; (case h0 => fail "ev"); (case h1 => fail "ev"); (case h2 => fail "ev"); (case h3 => fail "cm"); (case h4 => fail "cm"))
  | (refine' ev_cmp ?h0 ?h1 ?h2; (case h0 => fail "ev"); (case h1 => fail "ev"); (case h2 => fail "cm"))
  | (refine' ev_bin ?h0 ?h1 ?h2; (case h0 => fail "ev"); (case h1 => fail "ev"); (case h2 => fail "op"))
  | (refine' ev_neg ?h0; (case h0 => fail "ev"))
  | (refine' ev_ife ?h0 ?h1 ?h2; (case h0 => fail "ev"); (case h1 => (intro hT; fail "ev")); (case h2 => (intro hF; fail "ev")))
  | (refine' ev_idx ?h0 ?h1 ?h2; (case h0 => fail "ev"); (case h1 => fail "ev"); (case h2 => fail "ix"))
  | (refine' ev_slc ?h0 ?h1 ?h2; (case h0 => fail "ev"); (case h1 => fail "eo"); (case h2 => fail "eo"))
  | (refine' ev_fld ?h0 ?h1 ?h2; (case h0 => fail "ev"); (case h1 => fail "st"); (case h2 => rfl))
  | (refine' ev_isi ?h0 ?h1; (case h0 => fail "ev"); (case h1 => fail "ty"))
  | (refine' ev_len ?h0 ?h1 ?h2; (case h0 => fail "ev"); (case h1 => exact fun _ => rfl); (case h2 => exact fun _ => rfl))
  | (refine' ev_lenL ?h0; (case h0 => fail "el"))
  | (refine' ev_int ?h0; (case h0 => fail "ev"))
  | (refine' ev_intB ?h0; (case h0 => fail "ev"))
  | (refine' ev_tuple ?h0 ?h1; (case h0 => fail "ev"); (case h1 => exact fun _ => rfl))
  | (refine' ev_tupleL ?h0; (case h0 => fail "el"))
  | (refine' ev_min2 ?h0 ?h1; (case h0 => fail "ev"); (case h1 => fail "ev"))
  | (refine' ev_max2 ?h0 ?h1; (case h0 => fail "ev"); (case h1 => fail "ev"))
  | (refine' ev_abs ?h0; (case h0 => fail "ev"))
  | (refine' ev_call ?h0 ?h1; (case h0 => fail "evs"); (case h1 => fail "fn"))
  | (refine' ev_cvar ?h0 ?h1 ?h2; (case h0 => rfl); (case h1 => fail "evs"); (case h2 => fail "fn"))
  | assumption)
local macro_rules | `(tactic| fail "tf") => `(tactic| first
  | decide
  | rfl
  | (simp; done)
  | (simp; omega))
local macro_rules | `(tactic| fail "no") => `(tactic| (refine' bk_noX ?h0 ?h1 ?_; (case h0 => fail "ev"); (case h1 => fail "tf")))
local macro_rules | `(tactic| fail "yes") => `(tactic| (refine' bk_yesX ?h0 ?h1 ?_; (case h0 => fail "ev"); (case h1 => fail "tf")))
local macro_rules | `(tactic| fail "ret") => `(tactic| (refine' bk_ret ?h0 (fun S9 d9 => Wk.drop d9 (Wk.here ?_)); (case h0 => fail "ev")))
local macro_rules | `(tactic| fail "set") => `(tactic| (refine' bk_set ?h0 ?_; (case h0 => fail "ev")))
local macro_rules | `(tactic| fail "setF") => `(tactic| (refine' bk_setF ?h0 ?_; (case h0 => fail "ef")))
local macro_rules | `(tactic| fail "if") => `(tactic| (refine' bk_if1 ?h0 ?_ ?_; (case h0 => fail "ev")))
local macro_rules | `(tactic| fail "if2") => `(tactic| (refine' bk_if ?h0 ?_ ?_; (case h0 => fail "ev")))
local macro_rules | `(tactic| fail "put") => `(tactic| (refine' bk_put ?h0 ?h1 ?h2 ?h3 ?h4 ?_; (case h0 => fail "ev"); (case h1 => fail "ev"); (case h2 => fail "ev"); (case h3 => fail "st"); (case h4 => rfl)))
local macro_rules | `(tactic| fail "retC") => `(tactic| (refine' bk_retC ?h0 ?_; (case h0 => fail "evs")))
local macro_rules | `(tactic| fail "setC") => `(tactic| (refine' bk_setC ?h0 ?_; (case h0 => fail "evs")))
local macro_rules | `(tactic| fail "expC") => `(tactic| (refine' bk_expC ?h0 ?_; (case h0 => fail "evs")))
local macro_rules | `(tactic| fail "callE") => `(tactic| (refine' cps_call ?h0 ?_; (case h0 => fail "evs")))
local macro_rules | `(tactic| fail "exp") => `(tactic| (refine' bk_exp ?h0 ?_; (case h0 => fail "ev")))
local macro_rules | `(tactic| fail "con") => `(tactic| first | exact Z.con_MOST_ROWS | exact Z.con_MOST_COUNTERS | exact Z.con_PRIMES | rfl)
namespace Z
open PySem Core L2
theorem int_ok {k : Nat} {v : P} {lo hi : Int} {S : Store} {t : Option Ty} (ht : tyOf S v = some t) : FnV ((envAt D (k + 1)).fn nf_is_integer) [v, .int lo, .int hi] S (.bl (inRange lo hi v)) := by
  refine ⟨fun S' d Q E q => ?_⟩
  have ht := tyOf_at d ht
  refine fn_start (d := ⟨3, 3, b_is_integer⟩) rfl rfl ?_
  show wpB _ b_is_integer [some v, some (.int lo), some (.int hi)] S' _
  cases v with
  | fn _ => cases ht
  | loc a =>
    have e : t = some .list := by
      simp only [tyOf] at ht
      split at ht
      · exact (Option.some.inj ht).symm
      · cases ht
    subst e
    fail "ret"; exact q
  | _ => cases ht; fail "ret"; exact q
end Z
end
section
set_option maxRecDepth 100000
set_option maxHeartbeats 4000000
/-! Ci: whole numbers; the law's draws (k60 and on). -/
open PySem Core L2
local macro_rules | `(tactic| fail "fn") => `(tactic| first
  | assumption)
local macro_rules | `(tactic| fail "num") => `(tactic| first
  | omega
  | decide
  | (simp only [List.length_append, List.length_cons, List.length_nil, List.length_map, List.length_replicate, List.length_singleton]; omega))
local macro_rules | `(tactic| fail "at") => `(tactic| first
  | rfl
  | assumption
  | exact atI_at (by first | assumption | rfl)
  | (refine atI_at ?_; simp; done))
local macro_rules | `(tactic| fail "st") => `(tactic| first
  | assumption
  | exact Store.upd_same)
local macro_rules | `(tactic| fail "ty") => `(tactic| first
  | rfl
  | assumption)
local macro_rules | `(tactic| fail "evs") => `(tactic| first
  | exact evs_nil
  | (refine' evs_cons ?h0 ?h1; (case h0 => fail "ev"); (case h1 => fail "evs")))
local macro_rules | `(tactic| fail "op") => `(tactic| first
  | exact opv_add
  | exact opv_sub
  | exact opv_pow ⟨by decide, by decide, by decide⟩
  | (refine' opv_cat ?h0; (case h0 => (have := PySem.sizeLine_eq; fail "num")))
  | (refine' opv_mod ?h0; (case h0 => fail "num"))
  | (refine' opv_div ?h0 ?h1; (case h0 => fail "num"); (case h1 => fail "num"))
  | (refine' opv_mulR ?h0 ?h1; (case h0 => fail "num"); (case h1 => fail "num"))
  | (refine' opv_mulL ?h0 ?h1; (case h0 => fail "num"); (case h1 => fail "num"))
  | (refine' opv_rep ?h0 ?h1 ?h2; (case h0 => fail "num"); (case h1 => fail "num"); (case h2 => (have := PySem.sizeLine_eq; fail "num")))
  | assumption)
local macro_rules | `(tactic| fail "cm") => `(tactic| first
  | exact cmpv_eqI
  | exact cmpv_neI
  | exact cmpv_lt
  | exact cmpv_le
  | exact cmpv_gt
  | exact cmpv_ge
  | exact cmpv_isN
  | exact cmpv_isNN
  | exact cmpv_isB
  | exact cmpv_isNB
  | assumption)
local macro_rules | `(tactic| fail "ix") => `(tactic| first
  | (refine' idxv_tup ?h0; (case h0 => fail "at"))
  | (refine' idxv_lst ?h0 ?h1; (case h0 => fail "st"); (case h1 => fail "at"))
  | (refine' idxv_frl ?h0; (case h0 => fail "at"))
  | assumption)
local macro_rules | `(tactic| fail "eo") => `(tactic| first
  | exact True.intro
  | (refine (show EvO _ (some _) _ _ (some _) from ?_); fail "ev"))
local macro_rules | `(tactic| fail "el") => `(tactic| first
  | (refine' evl_var ?h0 ?h1; (case h0 => rfl); (case h1 => fail "st"))
  | (refine EvF.l ?_; fail "ef")
  | assumption)
local macro_rules | `(tactic| fail "ef") => `(tactic| first
  | (refine' evf_lst ?h0; (case h0 => fail "evs"))
  | (refine' evf_list ?h0 ?h1 ?h2; (case h0 => fail "ev"); (case h1 => exact fun _ => rfl); (case h2 => exact fun _ => rfl))
  | (refine' evf_listL ?h0; (case h0 => fail "el"))
  | (refine' evf_rev ?h0; (case h0 => fail "el"))
  | (refine' evf_slc ?h0 ?h1 ?h2; (case h0 => fail "el"); (case h1 => fail "eo"); (case h2 => fail "eo"))
  | (refine' evf_add ?h0 ?h1 ?h2; (case h0 => fail "el"); (case h1 => fail "el"); (case h2 => (have := PySem.sizeLine_eq; fail "num")))
  | (refine' evf_call ?h0 ?h1; (case h0 => fail "evs"); (case h1 => fail "fn"))
  | assumption)
local macro_rules | `(tactic| fail "ev") => `(tactic| first
  | exact ev_lit
  | exact ev_var rfl
  | (refine' ev_con ?h0; (case h0 => fail "con"))
  | exact ev_fnv
  | (refine' ev_tup ?h0; (case h0 => fail "evs"))
  | (refine' ev_not ?h0; (case h0 => fail "ev"))
  | (refine' ev_and ?h0 ?h1; (case h0 => fail "ev"); (case h1 => first | ((refine (show _ = true → Ev _ _ _ _ (.bl false) from ?_)); intro h; exact absurd h (by decide)) | (intro hAnd; fail "ev")))
  | (refine' ev_or ?h0 ?h1; (case h0 => fail "ev"); (case h1 => first | ((refine (show _ = false → Ev _ _ _ _ (.bl false) from ?_)); intro h; exact absurd h (by decide)) | (intro hOr; fail "ev")))
  | (refine' ev_chn ?h0 ?h1 ?h2 ?h3 ?h4; (case h0 => fail "ev"); (case h1 => fail "ev"); (case h2 => fail "ev"); (case h3 => fail "cm"); (case h4 => fail "cm"))
  | (refine' ev_cmp ?h0 ?h1 ?h2; (case h0 => fail "ev"); (case h1 => fail "ev"); (case h2 => fail "cm"))
  | (refine' ev_bin ?h0 ?h1 ?h2; (case h0 => fail "ev"); (case h1 => fail "ev"); (case h2 => fail "op"))
  | (refine' ev_neg ?h0; (case h0 => fail "ev"))
  | (refine' ev_ife ?h0 ?h1 ?h2; (case h0 => fail "ev"); (case h1 => (intro hT; fail "ev")); (case h2 => (intro hF; fail "ev")))
  | (refine' ev_idx ?h0 ?h1 ?h2; (case h0 => fail "ev"); (case h1 => fail "ev"); (case h2 => fail "ix"))
  | (refine' ev_slc ?h0 ?h1 ?h2; (case h0 => fail "ev"); (case h1 => fail "eo"); (case h2 => fail "eo"))
  | (refine' ev_fld ?h0 ?h1 ?h2; (case h0 => fail "ev"); (case h1 => fail "st"); (case h2 => rfl))
  | (refine' ev_isi ?h0 ?h1; (case h0 => fail "ev"); (case h1 => fail "ty"))
  | (refine' ev_len ?h0 ?h1 ?h2; (case h0 => fail "ev"); (case h1 => exact fun _ => rfl); (case h2 => exact fun _ => rfl))
  | (refine' ev_lenL ?h0; (case h0 => fail "el"))
  | (refine' ev_int ?h0; (case h0 => fail "ev"))
  | (refine' ev_intB ?h0; (case h0 => fail "ev"))
  | (refine' ev_tuple ?h0 ?h1; (case h0 => fail "ev"); (case h1 => exact fun _ => rfl))
  | (refine' ev_tupleL ?h0; (case h0 => fail "el"))
  | (refine' ev_min2 ?h0 ?h1; (case h0 => fail "ev"); (case h1 => fail "ev"))
  | (refine' ev_max2 ?h0 ?h1; (case h0 => fail "ev"); (case h1 => fail "ev"))
  | (refine' ev_abs ?h0; (case h0 => fail "ev"))
  | (refine' ev_call ?h0 ?h1; (case h0 => fail "evs"); (case h1 => fail "fn"))
  | (refine' ev_cvar ?h0 ?h1 ?h2; (case h0 => rfl); (case h1 => fail "evs"); (case h2 => fail "fn"))
  | assumption)
local macro_rules | `(tactic| fail "tf") => `(tactic| first
  | decide
  | rfl
  | (simp; done)
  | (simp; omega))
local macro_rules | `(tactic| fail "no") => `(tactic| (refine' bk_noX ?h0 ?h1 ?_; (case h0 => fail "ev"); (case h1 => fail "tf")))
local macro_rules | `(tactic| fail "yes") => `(tactic| (refine' bk_yesX ?h0 ?h1 ?_; (case h0 => fail "ev"); (case h1 => fail "tf")))
local macro_rules | `(tactic| fail "ret") => `(tactic| (refine' bk_ret ?h0 (fun S9 d9 => Wk.drop d9 (Wk.here ?_)); (case h0 => fail "ev")))
local macro_rules | `(tactic| fail "set") => `(tactic| (refine' bk_set ?h0 ?_; (case h0 => fail "ev")))
local macro_rules | `(tactic| fail "setF") => `(tactic| (refine' bk_setF ?h0 ?_; (case h0 => fail "ef")))
local macro_rules | `(tactic| fail "if") => `(tactic| (refine' bk_if1 ?h0 ?_ ?_; (case h0 => fail "ev")))
local macro_rules | `(tactic| fail "if2") => `(tactic| (refine' bk_if ?h0 ?_ ?_; (case h0 => fail "ev")))
local macro_rules | `(tactic| fail "put") => `(tactic| (refine' bk_put ?h0 ?h1 ?h2 ?h3 ?h4 ?_; (case h0 => fail "ev"); (case h1 => fail "ev"); (case h2 => fail "ev"); (case h3 => fail "st"); (case h4 => rfl)))
local macro_rules | `(tactic| fail "retC") => `(tactic| (refine' bk_retC ?h0 ?_; (case h0 => fail "evs")))
local macro_rules | `(tactic| fail "setC") => `(tactic| (refine' bk_setC ?h0 ?_; (case h0 => fail "evs")))
local macro_rules | `(tactic| fail "expC") => `(tactic| (refine' bk_expC ?h0 ?_; (case h0 => fail "evs")))
local macro_rules | `(tactic| fail "callE") => `(tactic| (refine' cps_call ?h0 ?_; (case h0 => fail "evs")))
local macro_rules | `(tactic| fail "exp") => `(tactic| (refine' bk_exp ?h0 ?_; (case h0 => fail "ev")))
local macro_rules | `(tactic| fail "con") => `(tactic| first | exact Z.con_MOST_ROWS | exact Z.con_MOST_COUNTERS | exact Z.con_PRIMES | rfl)
local macro_rules | `(tactic| fail "fn") => `(tactic| exact Z.int_ok (by fail "ty"))
namespace Z
open PySem Core L2
/-- the law's bag: three numbers -/
def BagB (xs : List P) : Prop := ∃ x y z : Int, xs = [.int x, .int y, .int z]
theorem draw_ok {k : Nat} {a : Addr} {many : Int} {S : Store} {Q : QP} {E : QE} (hb : S a = some (.any BagB)) (h1 : 0 < many) (h2 : many < 2 ^ 64) (q : ∀ r, 0 ≤ r → r < many → Q (.int r) S) : (envAt D (k + 1)).fn nf__law_draw [.loc a, .int many] S Q E := by
  refine fn_start (d := ⟨2, 4, b__law_draw⟩) rfl rfl ?_
  show wpB _ b__law_draw [some (.loc a), some (.int many), none, none] S _
  refine bk_opn hb fun xs hx => ?_
  obtain ⟨x, y, z, rfl⟩ := hx
  have tail : ∀ (u : Option P) (x y z : Int), wpB (envAt D k) (b__law_draw.drop 1) [some (.loc a), some (.int many), u, none] (S.upd a (.lst [.int x, .int y, .int z])) (DE.fn Q E) := fun u x y z => by
    fail "set"
    fail "put"
    rw [Store.upd_upd]
    refine bk_ret (p := .int (x % many)) (by fail "ev") (fun S9 d9 => Wk.drop d9 (Wk.cls BagB Store.upd_same ⟨x / many, y, z, rfl⟩ ?_))
    rw [Store.upd_upd, Store.upd_self hb]
    exact Wk.here (q _ (Int.emod_nonneg _ (by omega)) (Int.emod_lt_of_pos _ h1))
  fail "if2"
  · intro _
    fail "set"
    have b1 := Int.emod_nonneg (y * 48271 + z * 69621 + 11) (b := 2147483647) (by decide)
    have b2 := Int.emod_lt_of_pos (y * 48271 + z * 69621 + 11) (b := 2147483647) (by decide)
    fail "put"
    rw [Store.upd_upd]
    fail "put"
    rw [Store.upd_upd]
    exact bk_nil (tail _ _ _ _)
  · intro _
    exact bk_nil (tail _ _ _ _)
theorem bag_ok {k : Nat} {ns : List Int} {n : Nat} {S : Store} {Q : QP} {E : QE} (q : ∀ a, S a = none → Q (.loc a) (S.upd a (.any BagB))) : (envAt D (k + 1)).fn nf__law_bag [.frl (ns.map P.int), .int n] S Q E := by
  refine fn_start (d := ⟨2, 3, b__law_bag⟩) rfl rfl ?_
  show wpB _ b__law_bag [some (.frl (ns.map P.int)), some (.int n), none] S _
  have last : ∀ (ρ : Core.Loc) (xs : List P) (c : CE) (ss : List CS) (D2 : DE), D2.rt = (DE.fn Q E).rt → BagB xs → EvF (envAt D k) c ρ S xs → wpB (envAt D k) (.ret c :: ss) ρ S D2 := fun ρ xs c ss D2 hD hx he =>
    bk_retF he fun a ha S2 d2 => hD ▸ Wk.drop d2 (Wk.cls BagB Store.upd_same hx (by rw [Store.upd_upd]; exact Wk.here (q a ha)))
  have tail : ∀ x : Int, wpB (envAt D k) (b__law_bag.drop 2) [some (.frl (ns.map P.int)), some (.int n), some (.int x)] S (DE.fn Q E) := fun x => by
    fail "if"
    · intro _
      exact last _ [.int x, .int x, .int n] _ _ _ rfl ⟨_, _, _, rfl⟩ (by fail "ef")
    · intro _
      exact last _ [.int 0, .int x, .int n] _ _ _ rfl ⟨_, _, _, rfl⟩ (by fail "ef")
  fail "set"
  fail "if"
  · intro e
    have lt : n < ns.length := by simpa using e
    refine bk_set (p := .int ns[n]) ?_ (bk_nil (tail _))
    have : atI (ns.map P.int) (n : Int) = some (.int ns[n]) := atI_at (by simp [lt])
    fail "ev"
  · intro _
    exact tail _
end Z
end
section
set_option maxRecDepth 100000
set_option maxHeartbeats 4000000
/-! Cn0: machines with counters, plainly. -/
namespace Core
open PySem L2
inductive Od
  | non
  | up (c a : Nat)
  | dn (c a b : Nat)
deriving DecidableEq
def Od.toP : Od → P
  | .non => .non
  | .up c a => .tup [.str "up", .int c, .int a]
  | .dn c a b => .tup [.str "down", .int c, .int a, .int b]
structure Cn where
  k : Nat
  rows : List Od
def Cn.toP (C : Cn) : P := .tup [.str "counters", .int C.k, .tup (C.rows.map Od.toP)]
def Od.Ok (k m : Nat) : Od → Prop
  | .non => True
  | .up c a => c < k ∧ a < m
  | .dn c a b => c < k ∧ a < m ∧ b < m
structure GoodC (C : Cn) : Prop where
  k0 : 1 ≤ C.k
  k1 : C.k ≤ 5
  n0 : 1 ≤ C.rows.length
  n1 : C.rows.length ≤ 2000
  od : ∀ o ∈ C.rows, o.Ok C.k C.rows.length
structure GoodV (k : Nat) (v : List Int) : Prop where
  len : v.length = k
  pos : ∀ x ∈ v, 0 ≤ x
def addAt (v : List Int) (c : Nat) (d : Int) : List Int := v.set c (v.getD c 0 + d)
theorem addAt_len {v : List Int} {c : Nat} {d : Int} : (addAt v c d).length = v.length := by simp [addAt]
theorem addAt_split {v : List Int} {c : Nat} {d : Int} (h : c < v.length) : v.take c ++ [v.getD c 0 + d] ++ v.drop (c + 1) = addAt v c d := by
  unfold addAt
  rw [List.set_eq_take_append_cons_drop, if_pos h, List.append_assoc]
  rfl
abbrev CSt := Nat × List Int
def stepC (R : List Od) (x : CSt) : Option CSt := match R[x.1]? with
  | some (.up c a) => some (a, addAt x.2 c 1)
  | some (.dn c a b) => if x.2.getD c 0 = 0 then some (b, x.2) else some (a, addAt x.2 c (-1))
  | _ => none
def itC (R : List Od) : Nat → CSt → Option CSt
  | 0, x => some x
  | n + 1, x => (itC R n x).bind (stepC R)
theorem itC_add {R : List Od} {x : CSt} (m : Nat) : ∀ n, itC R (m + n) x = (itC R m x).bind (itC R n)
  | 0 => by
    show itC R m x = _
    cases itC R m x <;> rfl
  | n + 1 => by
    show (itC R (m + n) x).bind (stepC R) = _
    rw [itC_add m n]
    cases itC R m x <;> rfl
theorem itC_none {R : List Od} {x : CSt} {n m : Nat} (h : itC R n x = none) (hl : n ≤ m) : itC R m x = none := by
  obtain ⟨d, rfl⟩ := Nat.exists_eq_add_of_le hl
  rw [itC_add, h]; rfl
structure EndC (R : List Od) (x : CSt) (m : Nat) (y : CSt) (n : Nat) : Prop where
  it : itC R n x = some y
  le : n ≤ m
  en : n = m ∨ stepC R y = none
theorem EndC.lt_no {R : List Od} {x y y' : CSt} {m n n' : Nat} (h : EndC R x m y n) (h' : EndC R x m y' n') : ¬ n < n' := fun l => by
  rcases h.en with e | e
  · have := h'.le; omega
  · have z : itC R (n + 1) x = none := by
      show (itC R n x).bind _ = _
      rw [h.it]; exact e
    have := itC_none z (show n + 1 ≤ n' by omega)
    rw [h'.it] at this; cases this
theorem EndC.unique {R : List Od} {x y y' : CSt} {m n n' : Nat} (h : EndC R x m y n) (h' : EndC R x m y' n') : y = y' ∧ n = n' := by
  have h1 := h.lt_no h'
  have h2 := h'.lt_no h
  have e : n = n' := by omega
  subst e
  have := h.it.symm.trans h'.it
  cases this
  exact ⟨rfl, rfl⟩
structure GoodX (C : Cn) (x : CSt) : Prop where
  r : x.1 < C.rows.length
  v : GoodV C.k x.2
theorem addAt_good {k : Nat} {v : List Int} {c : Nat} {d : Int} (g : GoodV k v) (h : c < k → 0 ≤ v.getD c 0 + d) : GoodV k (addAt v c d) := by
  by_cases hc : c < k
  · refine ⟨by rw [addAt_len, g.len], fun x hx => ?_⟩
    rcases List.mem_or_eq_of_mem_set hx with hx | rfl
    · exact g.pos x hx
    · exact h hc
  · have e : addAt v c d = v := by
      unfold addAt
      rw [List.set_eq_of_length_le (by rw [g.len]; omega)]
    rw [e]; exact g
theorem getD_pos {k : Nat} {v : List Int} (g : GoodV k v) (c : Nat) : 0 ≤ v.getD c 0 := by
  rw [List.getD_eq_getElem?_getD]
  cases h : v[c]? with
  | none => exact Int.le_refl _
  | some y => exact g.pos y (List.mem_of_getElem? h)
theorem step_good {C : Cn} {x y : CSt} (g : GoodC C) (gx : GoodX C x) (h : stepC C.rows x = some y) : GoodX C y := by
  unfold stepC at h
  cases hr : C.rows[x.1]? with
  | none => rw [hr] at h; cases h
  | some o =>
    have go := g.od o (List.mem_of_getElem? hr)
    rw [hr] at h
    cases o with
    | non => cases h
    | up c a =>
      cases h
      exact ⟨go.2, addAt_good gx.v fun _ => by have := getD_pos gx.v c; omega⟩
    | dn c a b =>
      dsimp only at h
      split at h
      · cases h; exact ⟨go.2.2, gx.v⟩
      · rename_i hz
        cases h
        exact ⟨go.2.1, addAt_good gx.v fun _ => by have := getD_pos gx.v c; omega⟩
theorem it_good {C : Cn} {x : CSt} (g : GoodC C) (gx : GoodX C x) : ∀ {n : Nat} {y : CSt}, itC C.rows n x = some y → GoodX C y
  | 0, y, h => by cases h; exact gx
  | n + 1, y, h => by
    have h : (itC C.rows n x).bind (stepC C.rows) = some y := h
    cases e : itC C.rows n x with
    | none => rw [e] at h; cases h
    | some z => rw [e] at h; exact step_good g (it_good g gx e) h
/-! ### loops -/
def chain (R : List Od) (row : Nat) : Nat → Nat → List Int → Nat → Option (List Int × Nat)
  | 0, _, _, _ => none
  | f + 1, here, ch, s => if here = row then some (ch, s) else match R[here]? with
    | some (.up c a) => if R.length < s then none else chain R row f a (addAt ch c 1) (s + 1)
    | _ => none
def loopC (R : List Od) (k row : Nat) : Option (Nat × List Int × Nat) := match R[row]? with
  | some (.dn c a _) => (chain R row (R.length + 1) a ((List.replicate k (0 : Int)).set c (-1)) 1).map fun e => (c, e.1, e.2)
  | _ => none
def plusV (u ch : List Int) : List Int := List.zipWith (· + ·) u ch
theorem plus_add {u ch : List Int} {c : Nat} (h : ch.length = u.length) (d : Int) : addAt (plusV u ch) c d = plusV u (addAt ch c d) := by
  unfold addAt plusV
  refine List.ext_getElem (by simp) fun i h1 h2 => ?_
  rw [List.getElem_set, List.getElem_zipWith, List.getElem_zipWith, List.getElem_set]
  split
  · rename_i e
    subst e
    have hu : c < u.length := by simp at h1; omega
    have hc : c < ch.length := by omega
    have e1 : (List.zipWith (· + ·) u ch).getD c 0 = u[c] + ch[c] := by
      rw [List.getD_eq_getElem?_getD, List.getElem?_zipWith, List.getElem?_eq_getElem hu, List.getElem?_eq_getElem hc]; rfl
    have e2 : ch.getD c 0 = ch[c] := by
      rw [List.getD_eq_getElem?_getD, List.getElem?_eq_getElem hc]; rfl
    have e3 : (List.zipWith (· + ·) u ch).getD c 0 + d = u[c] + (ch.getD c 0 + d) := by
      rw [e1, e2]; omega
    exact e3
  · rfl
theorem chain_it {R : List Od} {row k : Nat} : ∀ (f here : Nat) (ch : List Int) (s : Nat) (ch' : List Int) (s' : Nat), chain R row f here ch s = some (ch', s') → ch.length = k → ch'.length = k ∧ s ≤ s' ∧ ∀ u : List Int, u.length = k → itC R (s' - s) (here, plusV u ch) = some (row, plusV u ch')
  | 0, _, _, _, _, _, h, _ => by cases h
  | f + 1, here, ch, s, ch', s', h, hl => by
    unfold chain at h
    split at h
    · rename_i e
      cases h
      subst e
      exact ⟨hl, Nat.le_refl _, fun u hu => by rw [Nat.sub_self]; rfl⟩
    · cases hr : R[here]? with
      | none => rw [hr] at h; cases h
      | some o =>
        rw [hr] at h
        cases o with
        | non => cases h
        | dn c a b => cases h
        | up c a =>
          dsimp only at h
          split at h
          · cases h
          · obtain ⟨h1, h2, h3⟩ := chain_it (k := k) f a _ _ _ _ h (by rw [addAt_len]; exact hl)
            refine ⟨h1, by omega, fun u hu => ?_⟩
            have e : s' - s = 1 + (s' - (s + 1)) := by omega
            rw [e, itC_add]
            have e1 : itC R 1 (here, plusV u ch) = some (a, plusV u (addAt ch c 1)) := by
              show stepC R (here, plusV u ch) = _
              unfold stepC
              simp only [hr]
              rw [plus_add (by omega)]
            rw [e1]
            exact h3 u hu
theorem chain_steps {R : List Od} {row : Nat} : ∀ (f here : Nat) (ch : List Int) (s : Nat) (ch' : List Int) (s' : Nat), chain R row f here ch s = some (ch', s') → s' < s + f
  | 0, _, _, _, _, _, h => by cases h
  | f + 1, here, ch, s, ch', s', h => by
    unfold chain at h
    split at h
    · cases h; omega
    · cases hr : R[here]? with
      | none => rw [hr] at h; cases h
      | some o =>
        rw [hr] at h
        cases o with
        | non => cases h
        | dn c a b => cases h
        | up c a =>
          dsimp only at h
          split at h
          · cases h
          · have := chain_steps f a _ _ _ _ h; omega
theorem set_plus {u : List Int} {c : Nat} (hc : c < u.length) : plusV u ((List.replicate u.length (0 : Int)).set c (-1)) = addAt u c (-1) := by
  unfold plusV addAt
  refine List.ext_getElem (by simp) fun i h1 h2 => ?_
  rw [List.getElem_set, List.getElem_zipWith, List.getElem_set]
  split
  · rename_i e
    subst e
    simp [List.getD_eq_getElem?_getD, hc]
  · simp
/-- one round of a loop -/
theorem loop_round {C : Cn} {row c n : Nat} {ch : List Int} (g : GoodC C) (h : loopC C.rows C.k row = some (c, ch, n)) : c < C.k ∧ ch.length = C.k ∧ 1 ≤ n ∧ n ≤ 2001 ∧ ∀ u : List Int, u.length = C.k → 1 ≤ u.getD c 0 → itC C.rows n (row, u) = some (row, plusV u ch) := by
  unfold loopC at h
  cases hr : C.rows[row]? with
  | none => rw [hr] at h; cases h
  | some o =>
    have go := g.od o (List.mem_of_getElem? hr)
    rw [hr] at h
    cases o with
    | non => cases h
    | up c a => cases h
    | dn c0 a b =>
      obtain ⟨⟨ch', n'⟩, he, hq⟩ := Option.map_eq_some_iff.mp h
      simp only [Prod.mk.injEq] at hq
      obtain ⟨rfl, rfl, rfl⟩ := hq
      obtain ⟨h1, h2, h3⟩ := chain_it (k := C.k) _ _ _ _ _ _ he (by simp)
      have h4 := chain_steps _ _ _ _ _ _ he
      have hc : c0 < C.k := go.1
      refine ⟨hc, h1, h2, ?_, fun u hu hp => ?_⟩
      · have := g.n1
        omega
      have e : n' = 1 + (n' - 1) := by omega
      rw [e, itC_add]
      have e1 : itC C.rows 1 (row, u) = some (a, plusV u ((List.replicate C.k (0 : Int)).set c0 (-1))) := by
        show stepC C.rows (row, u) = _
        unfold stepC
        simp only [hr]
        rw [if_neg (by omega), ← hu, set_plus (by omega)]
      rw [e1]
      exact h3 u hu
def jumpV (u : List Int) (t : Nat) (ch : List Int) : List Int := List.zipWith (fun a b => a + t * b) u ch
theorem jump_0 {u ch : List Int} (h : ch.length = u.length) : jumpV u 0 ch = u := by
  unfold jumpV
  refine List.ext_getElem (by simp; omega) fun i h1 h2 => ?_
  rw [List.getElem_zipWith]; omega
theorem jump_s {u ch : List Int} {t : Nat} : jumpV (plusV u ch) t ch = jumpV u (t + 1) ch := by
  unfold jumpV plusV
  refine List.ext_getElem (by simp) fun i h1 h2 => ?_
  rw [List.getElem_zipWith, List.getElem_zipWith, List.getElem_zipWith]
  push_cast
  rw [Int.add_mul]; omega
theorem loop_rounds {C : Cn} {row c n : Nat} {ch : List Int} (g : GoodC C) (h : loopC C.rows C.k row = some (c, ch, n)) (hm : ch.getD c 0 = -1) : ∀ (t : Nat) (u : List Int), u.length = C.k → (t : Int) ≤ u.getD c 0 → itC C.rows (t * n) (row, u) = some (row, jumpV u t ch)
  | 0, u, hu, _ => by
    obtain ⟨_, hl, _⟩ := loop_round g h
    rw [Nat.zero_mul, jump_0 (by omega)]; rfl
  | t + 1, u, hu, ht => by
    obtain ⟨hc, hl, _, _, hr⟩ := loop_round g h
    have e : (t + 1) * n = n + t * n := by rw [Nat.add_mul]; omega
    rw [e, itC_add, hr u hu (by omega)]
    show itC C.rows (t * n) (row, plusV u ch) = _
    rw [loop_rounds g h hm t (plusV u ch) (by simp [plusV]; omega) ?_, jump_s]
    have h1 : c < u.length := by omega
    have h2 : c < ch.length := by omega
    rw [List.getD_eq_getElem?_getD, List.getElem?_eq_getElem h2] at hm
    rw [List.getD_eq_getElem?_getD, List.getElem?_eq_getElem h1] at ht
    unfold plusV
    rw [List.getD_eq_getElem?_getD, List.getElem?_zipWith, List.getElem?_eq_getElem h1, List.getElem?_eq_getElem h2]
    have hm : ch[c] = -1 := hm
    have ht : ((t + 1 : Nat) : Int) ≤ u[c] := ht
    show (t : Int) ≤ u[c] + ch[c]
    omega
end Core
end
section
set_option maxRecDepth 100000
set_option maxHeartbeats 4000000
/-! Cn1: is a value a machine with counters? -/
open PySem Core L2
local macro_rules | `(tactic| fail "fn") => `(tactic| first
  | assumption)
local macro_rules | `(tactic| fail "num") => `(tactic| first
  | omega
  | decide
  | (simp only [List.length_append, List.length_cons, List.length_nil, List.length_map, List.length_replicate, List.length_singleton]; omega))
local macro_rules | `(tactic| fail "at") => `(tactic| first
  | rfl
  | assumption
  | exact atI_at (by first | assumption | rfl)
  | (refine atI_at ?_; simp; done))
local macro_rules | `(tactic| fail "st") => `(tactic| first
  | assumption
  | exact Store.upd_same)
local macro_rules | `(tactic| fail "ty") => `(tactic| first
  | rfl
  | assumption)
local macro_rules | `(tactic| fail "evs") => `(tactic| first
  | exact evs_nil
  | (refine' evs_cons ?h0 ?h1; (case h0 => fail "ev"); (case h1 => fail "evs")))
local macro_rules | `(tactic| fail "op") => `(tactic| first
  | exact opv_add
  | exact opv_sub
  | exact opv_pow ⟨by decide, by decide, by decide⟩
  | (refine' opv_cat ?h0; (case h0 => (have := PySem.sizeLine_eq; fail "num")))
  | (refine' opv_mod ?h0; (case h0 => fail "num"))
  | (refine' opv_div ?h0 ?h1; (case h0 => fail "num"); (case h1 => fail "num"))
  | (refine' opv_mulR ?h0 ?h1; (case h0 => fail "num"); (case h1 => fail "num"))
  | (refine' opv_mulL ?h0 ?h1; (case h0 => fail "num"); (case h1 => fail "num"))
  | (refine' opv_rep ?h0 ?h1 ?h2; (case h0 => fail "num"); (case h1 => fail "num"); (case h2 => (have := PySem.sizeLine_eq; fail "num")))
  | assumption)
local macro_rules | `(tactic| fail "cm") => `(tactic| first
  | exact cmpv_eqI
  | exact cmpv_neI
  | exact cmpv_lt
  | exact cmpv_le
  | exact cmpv_gt
  | exact cmpv_ge
  | exact cmpv_isN
  | exact cmpv_isNN
  | exact cmpv_isB
  | exact cmpv_isNB
  | assumption)
local macro_rules | `(tactic| fail "ix") => `(tactic| first
  | (refine' idxv_tup ?h0; (case h0 => fail "at"))
  | (refine' idxv_lst ?h0 ?h1; (case h0 => fail "st"); (case h1 => fail "at"))
  | (refine' idxv_frl ?h0; (case h0 => fail "at"))
  | assumption)
local macro_rules | `(tactic| fail "eo") => `(tactic| first
  | exact True.intro
  | (refine (show EvO _ (some _) _ _ (some _) from ?_); fail "ev"))
local macro_rules | `(tactic| fail "el") => `(tactic| first
  | (refine' evl_var ?h0 ?h1; (case h0 => rfl); (case h1 => fail "st"))
  | (refine EvF.l ?_; fail "ef")
  | assumption)
local macro_rules | `(tactic| fail "ef") => `(tactic| first
  | (refine' evf_lst ?h0; (case h0 => fail "evs"))
  | (refine' evf_list ?h0 ?h1 ?h2; (case h0 => fail "ev"); (case h1 => exact fun _ => rfl); (case h2 => exact fun _ => rfl))
  | (refine' evf_listL ?h0; (case h0 => fail "el"))
  | (refine' evf_rev ?h0; (case h0 => fail "el"))
  | (refine' evf_slc ?h0 ?h1 ?h2; (case h0 => fail "el"); (case h1 => fail "eo"); (case h2 => fail "eo"))
  | (refine' evf_add ?h0 ?h1 ?h2; (case h0 => fail "el"); (case h1 => fail "el"); (case h2 => (have := PySem.sizeLine_eq; fail "num")))
  | (refine' evf_call ?h0 ?h1; (case h0 => fail "evs"); (case h1 => fail "fn"))
  | assumption)
local macro_rules | `(tactic| fail "ev") => `(tactic| first
  | exact ev_lit
  | exact ev_var rfl
  | (refine' ev_con ?h0; (case h0 => fail "con"))
  | exact ev_fnv
  | (refine' ev_tup ?h0; (case h0 => fail "evs"))
  | (refine' ev_not ?h0; (case h0 => fail "ev"))
  | (refine' ev_and ?h0 ?h1; (case h0 => fail "ev"); (case h1 => first | ((refine (show _ = true → Ev _ _ _ _ (.bl false) from ?_)); intro h; exact absurd h (by decide)) | (intro hAnd; fail "ev")))
  | (refine' ev_or ?h0 ?h1; (case h0 => fail "ev"); (case h1 => first | ((refine (show _ = false → Ev _ _ _ _ (.bl false) from ?_)); intro h; exact absurd h (by decide)) | (intro hOr; fail "ev")))
  | (refine' ev_chn ?h0 ?h1 ?h2 ?h3 ?h4; (case h0 => fail "ev"); (case h1 => fail "ev"); (case h2 => fail "ev"); (case h3 => fail "cm"); (case h4 => fail "cm"))
  | (refine' ev_cmp ?h0 ?h1 ?h2; (case h0 => fail "ev"); (case h1 => fail "ev"); (case h2 => fail "cm"))
  | (refine' ev_bin ?h0 ?h1 ?h2; (case h0 => fail "ev"); (case h1 => fail "ev"); (case h2 => fail "op"))
  | (refine' ev_neg ?h0; (case h0 => fail "ev"))
  | (refine' ev_ife ?h0 ?h1 ?h2; (case h0 => fail "ev"); (case h1 => (intro hT; fail "ev")); (case h2 => (intro hF; fail "ev")))
  | (refine' ev_idx ?h0 ?h1 ?h2; (case h0 => fail "ev"); (case h1 => fail "ev"); (case h2 => fail "ix"))
  | (refine' ev_slc ?h0 ?h1 ?h2; (case h0 => fail "ev"); (case h1 => fail "eo"); (case h2 => fail "eo"))
  | (refine' ev_fld ?h0 ?h1 ?h2; (case h0 => fail "ev"); (case h1 => fail "st"); (case h2 => rfl))
  | (refine' ev_isi ?h0 ?h1; (case h0 => fail "ev"); (case h1 => fail "ty"))
  | (refine' ev_len ?h0 ?h1 ?h2; (case h0 => fail "ev"); (case h1 => exact fun _ => rfl); (case h2 => exact fun _ => rfl))
  | (refine' ev_lenL ?h0; (case h0 => fail "el"))
  | (refine' ev_int ?h0; (case h0 => fail "ev"))
  | (refine' ev_intB ?h0; (case h0 => fail "ev"))
  | (refine' ev_tuple ?h0 ?h1; (case h0 => fail "ev"); (case h1 => exact fun _ => rfl))
  | (refine' ev_tupleL ?h0; (case h0 => fail "el"))
  | (refine' ev_min2 ?h0 ?h1; (case h0 => fail "ev"); (case h1 => fail "ev"))
  | (refine' ev_max2 ?h0 ?h1; (case h0 => fail "ev"); (case h1 => fail "ev"))
  | (refine' ev_abs ?h0; (case h0 => fail "ev"))
  | (refine' ev_call ?h0 ?h1; (case h0 => fail "evs"); (case h1 => fail "fn"))
  | (refine' ev_cvar ?h0 ?h1 ?h2; (case h0 => rfl); (case h1 => fail "evs"); (case h2 => fail "fn"))
  | assumption)
local macro_rules | `(tactic| fail "tf") => `(tactic| first
  | decide
  | rfl
  | (simp; done)
  | (simp; omega))
local macro_rules | `(tactic| fail "no") => `(tactic| (refine' bk_noX ?h0 ?h1 ?_; (case h0 => fail "ev"); (case h1 => fail "tf")))
local macro_rules | `(tactic| fail "yes") => `(tactic| (refine' bk_yesX ?h0 ?h1 ?_; (case h0 => fail "ev"); (case h1 => fail "tf")))
local macro_rules | `(tactic| fail "ret") => `(tactic| (refine' bk_ret ?h0 (fun S9 d9 => Wk.drop d9 (Wk.here ?_)); (case h0 => fail "ev")))
local macro_rules | `(tactic| fail "set") => `(tactic| (refine' bk_set ?h0 ?_; (case h0 => fail "ev")))
local macro_rules | `(tactic| fail "setF") => `(tactic| (refine' bk_setF ?h0 ?_; (case h0 => fail "ef")))
local macro_rules | `(tactic| fail "if") => `(tactic| (refine' bk_if1 ?h0 ?_ ?_; (case h0 => fail "ev")))
local macro_rules | `(tactic| fail "if2") => `(tactic| (refine' bk_if ?h0 ?_ ?_; (case h0 => fail "ev")))
local macro_rules | `(tactic| fail "put") => `(tactic| (refine' bk_put ?h0 ?h1 ?h2 ?h3 ?h4 ?_; (case h0 => fail "ev"); (case h1 => fail "ev"); (case h2 => fail "ev"); (case h3 => fail "st"); (case h4 => rfl)))
local macro_rules | `(tactic| fail "retC") => `(tactic| (refine' bk_retC ?h0 ?_; (case h0 => fail "evs")))
local macro_rules | `(tactic| fail "setC") => `(tactic| (refine' bk_setC ?h0 ?_; (case h0 => fail "evs")))
local macro_rules | `(tactic| fail "expC") => `(tactic| (refine' bk_expC ?h0 ?_; (case h0 => fail "evs")))
local macro_rules | `(tactic| fail "callE") => `(tactic| (refine' cps_call ?h0 ?_; (case h0 => fail "evs")))
local macro_rules | `(tactic| fail "exp") => `(tactic| (refine' bk_exp ?h0 ?_; (case h0 => fail "ev")))
local macro_rules | `(tactic| fail "con") => `(tactic| first | exact Z.con_MOST_ROWS | exact Z.con_MOST_COUNTERS | exact Z.con_PRIMES | rfl)
local macro_rules | `(tactic| fail "fn") => `(tactic| exact Z.int_ok (by fail "ty"))
namespace Z
open PySem Core L2
theorem eqv_str {S : Store} {n : Nat} {v : P} {t : Str} (h : Dt S n v) (hn : n ≤ 62) (ht : PyData.strOk t = true) : CmpV .Eq v (.str t) S (strIs v t) := .mk fun S' d Q q => by
  obtain ⟨x, y, e1, e2, e3⟩ := (cmpv_neT h hn ht).run S' d (fun p S2 => p = .bl (!strIs v t) ∧ S2 = S') ⟨rfl, rfl⟩
  refine ⟨x, y, e1, e2, ?_⟩
  have e4 : PyData.eqv x y = strIs v t := by
    have e3 := e3.1
    simp only [P.bl.injEq] at e3
    cases h1 : PyData.eqv x y <;> cases h2 : strIs v t <;> rw [h1, h2] at e3 <;> first | rfl | cases e3
  rw [e4]; exact q
def rowC (k m : Int) : P → Bool
  | .non => true
  | .tup (w :: c :: a :: r) => isStrP w && (((inRange 0 (k - 1) c) && (a :: r).all (inRange 0 (m - 1))) && ((strIs w "up" && decide (r.length = 0)) || (strIs w "down" && decide (r.length = 1))))
  | _ => false
theorem rowC_v {k m : Int} {w c a : P} {r : List P} : rowC k m (.tup (w :: c :: a :: r)) = (isStrP w && (((inRange 0 (k - 1) c) && (a :: r).all (inRange 0 (m - 1))) && ((strIs w "up" && decide (r.length = 0)) || (strIs w "down" && decide (r.length = 1))))) := rfl
theorem rowC_no {k m : Int} {xs : List P} (h : xs.length < 3) : rowC k m (.tup xs) = false := by
  match xs, h with
  | [], _ => rfl
  | [_], _ => rfl
  | [_, _], _ => rfl
  | _ :: _ :: _ :: _, h => simp at h; omega
theorem three_of {α : Type} {xs : List α} (h : ¬ xs.length < 3) : ∃ a b c r, xs = a :: b :: c :: r := by
  match xs, h with
  | a :: b :: c :: r, _ => exact ⟨a, b, c, r, rfl⟩
  | [], h => simp at h
  | [_], h => simp at h
  | [_, _], h => simp at h
theorem row_ok {lv j : Nat} {v : P} {k m : Int} {S : Store} (h : Dt S (j + 2) v) (hj : j ≤ 50) : FnV ((envAt D (lv + 2)).fn nf_is_row) [v, .int k, .int m] S (.bl (rowC k m v)) := by
  refine ⟨fun S' d Q E q => ?_⟩
  have h := h.at d
  have q : Q (.bl (rowC k m v)) S' := q
  refine fn_start (d := ⟨3, 4, b_is_row⟩) rfl rfl ?_
  show wpB _ b_is_row [some v, some (.int k), some (.int m), none] S' _
  obtain ⟨t, ht⟩ := h.ty
  fail "if"
  · intro e
    have : v = .non := by cases v <;> first | rfl | cases e
    subst this
    fail "ret"; exact q
  · intro e
    rcases tup_or v with ⟨xs, rfl⟩ | hv
    · by_cases hl : xs.length < 3
      · rw [rowC_no hl] at q
        refine bk_yesX (ev_orF (ev_not (ev_isTup (v := .tup xs) (ev_var rfl) ht)) (ev_orT (ev_val (ev_cmp (ev_len (xs := xs) (ev_var rfl) (fun _ => rfl) (fun _ => rfl)) ev_lit cmpv_lt) (by rw [decide_eq_true (by omega)])))) rfl ?_
        fail "ret"; exact q
      · obtain ⟨w, c, a, r, rfl⟩ := three_of hl
        have ow := h.tup w (by simp)
        have oc := h.tup c (by simp)
        obtain ⟨tw, htw⟩ := ow.ty
        obtain ⟨tc, htc⟩ := oc.ty
        have i0 : IdxV (.tup (w :: c :: a :: r)) (.int 0) S' w := idxv_tup atI_0
        have i1 : IdxV (.tup (w :: c :: a :: r)) (.int 1) S' c := idxv_tup (atI_at (k := 1) rfl)
        have len : ∀ ρ : Core.Loc, ρ[0]? = some (some (.tup (w :: c :: a :: r))) → Ev (envAt D (lv + 1)) (.blt .len [.var 0]) ρ S' (.int ((r.length : Int) + 3)) := fun ρ hρ => ev_val (ev_len (xs := w :: c :: a :: r) (ev_var hρ) (fun _ => rfl) (fun _ => rfl)) (by simp only [List.length_cons]; congr 1)
        rw [rowC_v] at q
        refine bk_if1 (x := !isStrP w) (ev_orF (ev_not (ev_isTup (v := .tup (w :: c :: a :: r)) (ev_var rfl) ht)) (ev_orF (ev_val (ev_cmp (len _ rfl) ev_lit cmpv_lt) (by rw [decide_eq_false (by omega)])) (ev_not (ev_isStr (ev_idx (ev_var rfl) ev_lit i0) htw)))) ?_ ?_
        · intro e
          rw [bnt e] at q
          fail "ret"; exact q
        · intro e
          rw [bnf e, Bool.true_and] at q
          have all : Ev (envAt D (lv + 1)) (.blt .all [.cmpr [3] .seq [.slc (.var 0) (some (.lit (.int 2))) none] (.nm 3) (.call nf_is_integer [.var 3, .lit (.int 0), .bin .Sub (.var 2) (.lit (.int 1))]) none]) [some (.tup (w :: c :: a :: r)), some (.int k), some (.int m), none] S' (.bl ((a :: r).all (inRange 0 (m - 1)))) := by
            refine ev_allC (a :: r) id (inRange 0 (m - 1)) (evs_cons (ev_slc (l := some ((2 : Nat) : Int)) (h := none) (ev_var rfl) (show Ev _ _ _ _ _ from ev_lit) trivial) evs_nil) (by rw [cutP_from]; exact it_tupI) good_any fun y hy => ?_
            show Ev _ _ [some (.tup (w :: c :: a :: r)), some (.int k), some (.int m), some y] S' _
            obtain ⟨ty, hty⟩ := (h.tup y (List.mem_cons_of_mem _ (List.mem_cons_of_mem _ hy))).ty
            fail "ev"
          refine bk_if1 (x := !(inRange 0 (k - 1) c && (a :: r).all (inRange 0 (m - 1)))) ?_ ?_ ?_
          · rw [Bool.not_and]
            exact ev_or (ev_not (ev_call (ps := [c, .int 0, .int (k - 1)]) (evs_cons (ev_idx (ev_var rfl) ev_lit i1) (evs_cons ev_lit (evs_cons (by fail "ev") evs_nil))) (int_ok htc))) fun _ => ev_not all
          · intro e
            rw [bnt e] at q
            fail "ret"; exact q
          · intro e
            rw [bnf e, Bool.true_and] at q
            refine bk_ret ?_ (fun S9 d9 => Wk.drop d9 (Wk.here q))
            have l3 : ∀ n : Int, Ev (envAt D (lv + 1)) (.cmp .Eq (.blt .len [.var 0]) (.lit (.int n))) [some (.tup (w :: c :: a :: r)), some (.int k), some (.int m), none] S' (.bl (decide ((r.length : Int) + 3 = n))) := fun n => ev_cmp (len _ rfl) ev_lit cmpv_eqI
            have e3 : decide ((r.length : Int) + 3 = 3) = decide (r.length = 0) := by
              congr 1; exact propext ⟨fun _ => by omega, fun _ => by omega⟩
            have e4 : decide ((r.length : Int) + 3 = 4) = decide (r.length = 1) := by
              congr 1; exact propext ⟨fun _ => by omega, fun _ => by omega⟩
            exact ev_or (ev_and (ev_cmp (ev_idx (ev_var rfl) ev_lit i0) ev_lit (eqv_str ow (by omega) (by decide +kernel))) fun _ => e3 ▸ l3 3) fun _ => ev_and (ev_cmp (ev_idx (ev_var rfl) ev_lit i0) ev_lit (eqv_str ow (by omega) (by decide +kernel))) fun _ => e4 ▸ l3 4
    · have z : rowC k m v = false := by cases v <;> first | rfl | exact absurd e (by decide) | cases hv
      rw [z] at q
      refine bk_yesX (ev_noTup (ev_var rfl) ht hv) rfl ?_
      fail "ret"; exact q
def intOf : P → Int
  | .int i => i
  | _ => 0
def rowsC (k : Int) : P → Bool
  | .tup rows => (decide ((1 : Int) ≤ rows.length) && decide ((rows.length : Int) ≤ 2000)) && rows.all (rowC k rows.length)
  | _ => false
def cntB : P → Bool
  | .tup [a, b, c] => strIs a "counters" && (inRange 1 5 b && rowsC (intOf b) c)
  | _ => false
theorem cntB_v {a b c : P} : cntB (.tup [a, b, c]) = (strIs a "counters" && (inRange 1 5 b && rowsC (intOf b) c)) := rfl
theorem cntB_no {xs : List P} (h : xs.length ≠ 3) : cntB (.tup xs) = false := by
  match xs, h with
  | [], _ => rfl
  | [_], _ => rfl
  | [_, _], _ => rfl
  | [_, _, _], h => exact absurd rfl h
  | _ :: _ :: _ :: _ :: _, _ => rfl
theorem ev_tagNo {G : Core.Env} {ρ : Core.Loc} {S : Store} {c : CE} {w : P} {t : Str} {j : Nat} (h : Ev G c ρ S w) (hd : Dt S j w) (hj : j ≤ 62) (ht : PyData.strOk t = true) : Ev G (.or_ (.not_ (.isi c [.str])) (.cmp .NotEq c (.lit (.str t)))) ρ S (.bl (!strIs w t)) := by
  obtain ⟨ty, hty⟩ := hd.ty
  have h1 := ev_not (ev_isStr h hty)
  cases hs : isStrP w with
  | true =>
    rw [hs] at h1
    exact ev_orF h1 (ev_cmp h ev_lit (cmpv_neT hd hj ht))
  | false =>
    rw [hs] at h1
    have : strIs w t = false := by cases w <;> first | rfl | cases hs
    rw [this]
    exact ev_orT h1
theorem cnt_ok {lv n : Nat} {v : P} {S : Store} (h : Dt S (n + 5) v) (hn : n ≤ 40) : FnV ((envAt D (lv + 3)).fn nf_is_counters) [v] S (.bl (cntB v)) := by
  refine ⟨fun S' d Q E q => ?_⟩
  have h := h.at d
  have q : Q (.bl (cntB v)) S' := q
  refine fn_start (d := ⟨1, 5, b_is_counters⟩) rfl rfl ?_
  show wpB _ b_is_counters [some v, none, none, none, none] S' _
  obtain ⟨t, ht⟩ := h.ty
  rcases tup_or v with ⟨xs, rfl⟩ | hv
  · by_cases hl : xs.length = 3
    · obtain ⟨a, b, c, rfl⟩ := three hl
      have oa := h.tup a (by simp)
      have ob := h.tup b (by simp)
      have oc := h.tup c (by simp)
      obtain ⟨tb, htb⟩ := ob.ty
      obtain ⟨tc, htc⟩ := oc.ty
      have i0 : IdxV (.tup [a, b, c]) (.int 0) S' a := idxv_tup rfl
      have ct := ev_tagNo (G := envAt D (lv + 2)) (ρ := [some (.tup [a, b, c]), none, none, none, none]) (t := "counters") (c := .idx (.var 0) (.lit (.int 0))) (ev_idx (ev_var rfl) ev_lit i0) oa (by omega) (by decide +kernel)
      refine bk_if1 (x := !strIs a "counters") (ev_orF (ev_not (ev_isTup (v := .tup [a, b, c]) (ev_var rfl) ht)) (ev_orF (ev_cmp (ev_len (xs := [a, b, c]) (ev_var rfl) (fun _ => rfl) (fun _ => rfl)) ev_lit cmpv_neI) (ct))) ?_ ?_
      · intro e
        fail "ret"
        rw [cntB_v, bnt e] at q; exact q
      · intro e
        refine bk_unpackN (ps := [a, b, c]) (by fail "ev") rfl rfl ?_
        show wpB _ _ [some (.tup [a, b, c]), some a, some b, some c, none] S' _
        rw [cntB_v, bnf e, Bool.true_and] at q
        cases hb : inRange 1 5 b with
        | false =>
          have ib : FnV ((envAt D (lv + 2)).fn nf_is_integer) [b, .int 1, .int 5] S' (.bl false) := by rw [← hb]; exact int_ok htb
          refine bk_yesX (ev_orT (ev_not (ev_call (by fail "evs") ib))) rfl ?_
          fail "ret"
          rw [hb] at q; exact q
        | true =>
          obtain ⟨m, rfl, m1, m2⟩ := inRange_of hb
          have ib : FnV ((envAt D (lv + 2)).fn nf_is_integer) [.int m, .int 1, .int 5] S' (.bl true) := by rw [← hb]; exact int_ok rfl
          rw [hb, Bool.true_and] at q
          have q : Q (.bl (rowsC m c)) S' := q
          rcases tup_or c with ⟨rows, rfl⟩ | hc
          · have e1 : Ev (envAt D (lv + 2)) (.not_ (.chn .LtE .LtE (.lit (.int 1)) (.blt .len [.var 3]) (.con nc_MOST_ROWS))) [some (.tup [a, .int m, .tup rows]), some a, some (.int m), some (.tup rows), none] S' (.bl (!(decide ((1 : Int) ≤ rows.length) && decide ((rows.length : Int) ≤ 2000)))) := by fail "ev"
            have vr : rowsC m (.tup rows) = ((decide ((1 : Int) ≤ rows.length) && decide ((rows.length : Int) ≤ 2000)) && rows.all (rowC m rows.length)) := rfl
            rw [vr] at q
            refine bk_if1 (ev_orF (ev_not (ev_call (by fail "evs") ib)) (ev_orF (ev_not (ev_isTup (v := .tup rows) (ev_var rfl) htc)) (e1))) ?_ ?_
            · intro e
              fail "ret"
              rw [bnt e] at q; exact q
            · intro e
              rw [bnf e, Bool.true_and] at q
              refine bk_ret (ev_allC rows id (rowC m rows.length) (evs_cons (ev_var rfl) evs_nil) it_tupI good_any fun y hy => ?_) (fun S9 d9 => Wk.drop d9 (Wk.here q))
              show Ev _ _ [some (.tup [a, .int m, .tup rows]), some a, some (.int m), some (.tup rows), some y] S' _
              exact ev_call (ps := [y, .int m, .int rows.length]) (evs_cons (ev_var rfl) (evs_cons (ev_var rfl) (evs_cons (ev_len (xs := rows) (ev_var rfl) (fun _ => rfl) (fun _ => rfl)) evs_nil))) (row_ok (j := n + 1) (oc.tup y hy) (by omega))
          · have vr : rowsC m c = false := by cases c <;> first | rfl | cases hc
            rw [vr] at q
            refine bk_yesX (ev_orF (ev_not (ev_call (by fail "evs") ib)) (ev_noTup (ev_var rfl) htc hc)) rfl ?_
            fail "ret"; exact q
    · rw [cntB_no hl] at q
      have hl' : (!decide ((xs.length : Int) = 3)) = true := by simp; omega
      refine bk_yesX (ev_orF (ev_not (ev_isTup (v := .tup xs) (ev_var rfl) ht)) (ev_orT (hl' ▸ ev_cmp (ev_len (xs := xs) (ev_var rfl) (fun _ => rfl) (fun _ => rfl)) ev_lit cmpv_neI))) rfl ?_
      fail "ret"; exact q
  · have z : cntB v = false := by cases v <;> first | rfl | cases hv
    rw [z] at q
    refine bk_yesX (ev_noTup (ev_var rfl) ht hv) rfl ?_
    fail "ret"; exact q
end Z
end
section
set_option maxRecDepth 100000
set_option maxHeartbeats 4000000
/-! Cn2: values, one step. -/
open PySem Core L2
local macro_rules | `(tactic| fail "fn") => `(tactic| first
  | assumption)
local macro_rules | `(tactic| fail "num") => `(tactic| first
  | omega
  | decide
  | (simp only [List.length_append, List.length_cons, List.length_nil, List.length_map, List.length_replicate, List.length_singleton]; omega))
local macro_rules | `(tactic| fail "at") => `(tactic| first
  | rfl
  | assumption
  | exact atI_at (by first | assumption | rfl)
  | (refine atI_at ?_; simp; done))
local macro_rules | `(tactic| fail "st") => `(tactic| first
  | assumption
  | exact Store.upd_same)
local macro_rules | `(tactic| fail "ty") => `(tactic| first
  | rfl
  | assumption)
local macro_rules | `(tactic| fail "evs") => `(tactic| first
  | exact evs_nil
  | (refine' evs_cons ?h0 ?h1; (case h0 => fail "ev"); (case h1 => fail "evs")))
local macro_rules | `(tactic| fail "op") => `(tactic| first
  | exact opv_add
  | exact opv_sub
  | exact opv_pow ⟨by decide, by decide, by decide⟩
  | (refine' opv_cat ?h0; (case h0 => (have := PySem.sizeLine_eq; fail "num")))
  | (refine' opv_mod ?h0; (case h0 => fail "num"))
  | (refine' opv_div ?h0 ?h1; (case h0 => fail "num"); (case h1 => fail "num"))
  | (refine' opv_mulR ?h0 ?h1; (case h0 => fail "num"); (case h1 => fail "num"))
  | (refine' opv_mulL ?h0 ?h1; (case h0 => fail "num"); (case h1 => fail "num"))
  | (refine' opv_rep ?h0 ?h1 ?h2; (case h0 => fail "num"); (case h1 => fail "num"); (case h2 => (have := PySem.sizeLine_eq; fail "num")))
  | assumption)
local macro_rules | `(tactic| fail "cm") => `(tactic| first
  | exact cmpv_eqI
  | exact cmpv_neI
  | exact cmpv_lt
  | exact cmpv_le
  | exact cmpv_gt
  | exact cmpv_ge
  | exact cmpv_isN
  | exact cmpv_isNN
  | exact cmpv_isB
  | exact cmpv_isNB
  | assumption)
local macro_rules | `(tactic| fail "ix") => `(tactic| first
  | (refine' idxv_tup ?h0; (case h0 => fail "at"))
  | (refine' idxv_lst ?h0 ?h1; (case h0 => fail "st"); (case h1 => fail "at"))
  | (refine' idxv_frl ?h0; (case h0 => fail "at"))
  | assumption)
local macro_rules | `(tactic| fail "eo") => `(tactic| first
  | exact True.intro
  | (refine (show EvO _ (some _) _ _ (some _) from ?_); fail "ev"))
local macro_rules | `(tactic| fail "el") => `(tactic| first
  | (refine' evl_var ?h0 ?h1; (case h0 => rfl); (case h1 => fail "st"))
  | (refine EvF.l ?_; fail "ef")
  | assumption)
local macro_rules | `(tactic| fail "ef") => `(tactic| first
  | (refine' evf_lst ?h0; (case h0 => fail "evs"))
  | (refine' evf_list ?h0 ?h1 ?h2; (case h0 => fail "ev"); (case h1 => exact fun _ => rfl); (case h2 => exact fun _ => rfl))
  | (refine' evf_listL ?h0; (case h0 => fail "el"))
  | (refine' evf_rev ?h0; (case h0 => fail "el"))
  | (refine' evf_slc ?h0 ?h1 ?h2; (case h0 => fail "el"); (case h1 => fail "eo"); (case h2 => fail "eo"))
  | (refine' evf_add ?h0 ?h1 ?h2; (case h0 => fail "el"); (case h1 => fail "el"); (case h2 => (have := PySem.sizeLine_eq; fail "num")))
  | (refine' evf_call ?h0 ?h1; (case h0 => fail "evs"); (case h1 => fail "fn"))
  | assumption)
local macro_rules | `(tactic| fail "ev") => `(tactic| first
  | exact ev_lit
  | exact ev_var rfl
  | (refine' ev_con ?h0; (case h0 => fail "con"))
  | exact ev_fnv
  | (refine' ev_tup ?h0; (case h0 => fail "evs"))
  | (refine' ev_not ?h0; (case h0 => fail "ev"))
  | (refine' ev_and ?h0 ?h1; (case h0 => fail "ev"); (case h1 => first | ((refine (show _ = true → Ev _ _ _ _ (.bl false) from ?_)); intro h; exact absurd h (by decide)) | (intro hAnd; fail "ev")))
  | (refine' ev_or ?h0 ?h1; (case h0 => fail "ev"); (case h1 => first | ((refine (show _ = false → Ev _ _ _ _ (.bl false) from ?_)); intro h; exact absurd h (by decide)) | (intro hOr; fail "ev")))
  | (refine' ev_chn ?h0 ?h1 ?h2 ?h3 ?h4; (case h0 => fail "ev"); (case h1 => fail "ev"); (case h2 => fail "ev"); (case h3 => fail "cm"); (case h4 => fail "cm"))
  | (refine' ev_cmp ?h0 ?h1 ?h2; (case h0 => fail "ev"); (case h1 => fail "ev"); (case h2 => fail "cm"))
  | (refine' ev_bin ?h0 ?h1 ?h2; (case h0 => fail "ev"); (case h1 => fail "ev"); (case h2 => fail "op"))
  | (refine' ev_neg ?h0; (case h0 => fail "ev"))
  | (refine' ev_ife ?h0 ?h1 ?h2; (case h0 => fail "ev"); (case h1 => (intro hT; fail "ev")); (case h2 => (intro hF; fail "ev")))
  | (refine' ev_idx ?h0 ?h1 ?h2; (case h0 => fail "ev"); (case h1 => fail "ev"); (case h2 => fail "ix"))
  | (refine' ev_slc ?h0 ?h1 ?h2; (case h0 => fail "ev"); (case h1 => fail "eo"); (case h2 => fail "eo"))
  | (refine' ev_fld ?h0 ?h1 ?h2; (case h0 => fail "ev"); (case h1 => fail "st"); (case h2 => rfl))
  | (refine' ev_isi ?h0 ?h1; (case h0 => fail "ev"); (case h1 => fail "ty"))
  | (refine' ev_len ?h0 ?h1 ?h2; (case h0 => fail "ev"); (case h1 => exact fun _ => rfl); (case h2 => exact fun _ => rfl))
  | (refine' ev_lenL ?h0; (case h0 => fail "el"))
  | (refine' ev_int ?h0; (case h0 => fail "ev"))
  | (refine' ev_intB ?h0; (case h0 => fail "ev"))
  | (refine' ev_tuple ?h0 ?h1; (case h0 => fail "ev"); (case h1 => exact fun _ => rfl))
  | (refine' ev_tupleL ?h0; (case h0 => fail "el"))
  | (refine' ev_min2 ?h0 ?h1; (case h0 => fail "ev"); (case h1 => fail "ev"))
  | (refine' ev_max2 ?h0 ?h1; (case h0 => fail "ev"); (case h1 => fail "ev"))
  | (refine' ev_abs ?h0; (case h0 => fail "ev"))
  | (refine' ev_call ?h0 ?h1; (case h0 => fail "evs"); (case h1 => fail "fn"))
  | (refine' ev_cvar ?h0 ?h1 ?h2; (case h0 => rfl); (case h1 => fail "evs"); (case h2 => fail "fn"))
  | assumption)
local macro_rules | `(tactic| fail "tf") => `(tactic| first
  | decide
  | rfl
  | (simp; done)
  | (simp; omega))
local macro_rules | `(tactic| fail "no") => `(tactic| (refine' bk_noX ?h0 ?h1 ?_; (case h0 => fail "ev"); (case h1 => fail "tf")))
local macro_rules | `(tactic| fail "yes") => `(tactic| (refine' bk_yesX ?h0 ?h1 ?_; (case h0 => fail "ev"); (case h1 => fail "tf")))
local macro_rules | `(tactic| fail "ret") => `(tactic| (refine' bk_ret ?h0 (fun S9 d9 => Wk.drop d9 (Wk.here ?_)); (case h0 => fail "ev")))
local macro_rules | `(tactic| fail "set") => `(tactic| (refine' bk_set ?h0 ?_; (case h0 => fail "ev")))
local macro_rules | `(tactic| fail "setF") => `(tactic| (refine' bk_setF ?h0 ?_; (case h0 => fail "ef")))
local macro_rules | `(tactic| fail "if") => `(tactic| (refine' bk_if1 ?h0 ?_ ?_; (case h0 => fail "ev")))
local macro_rules | `(tactic| fail "if2") => `(tactic| (refine' bk_if ?h0 ?_ ?_; (case h0 => fail "ev")))
local macro_rules | `(tactic| fail "put") => `(tactic| (refine' bk_put ?h0 ?h1 ?h2 ?h3 ?h4 ?_; (case h0 => fail "ev"); (case h1 => fail "ev"); (case h2 => fail "ev"); (case h3 => fail "st"); (case h4 => rfl)))
local macro_rules | `(tactic| fail "retC") => `(tactic| (refine' bk_retC ?h0 ?_; (case h0 => fail "evs")))
local macro_rules | `(tactic| fail "setC") => `(tactic| (refine' bk_setC ?h0 ?_; (case h0 => fail "evs")))
local macro_rules | `(tactic| fail "expC") => `(tactic| (refine' bk_expC ?h0 ?_; (case h0 => fail "evs")))
local macro_rules | `(tactic| fail "callE") => `(tactic| (refine' cps_call ?h0 ?_; (case h0 => fail "evs")))
local macro_rules | `(tactic| fail "exp") => `(tactic| (refine' bk_exp ?h0 ?_; (case h0 => fail "ev")))
local macro_rules | `(tactic| fail "con") => `(tactic| first | exact Z.con_MOST_ROWS | exact Z.con_MOST_COUNTERS | exact Z.con_PRIMES | rfl)
local macro_rules | `(tactic| fail "fn") => `(tactic| exact Z.int_ok (by fail "ty"))
namespace Z
open PySem Core L2
def natP : P → Bool
  | .int i => decide (0 ≤ i)
  | _ => false
def valB (k : Int) : P → Bool
  | .tup xs => decide ((xs.length : Int) = k) && xs.all natP
  | _ => false
theorem nat_el {G : Core.Env} {ρ : Core.Loc} {S : Store} {i : Nat} {v : P} {t : Option Ty} (h : ρ[i]? = some (some v)) (ht : tyOf S v = some t) : Ev G (.and_ (.isi (.var i) [.int]) (.and_ (.not_ (.isi (.var i) [.bool])) (.cmp .GtE (.var i) (.lit (.int 0))))) ρ S (.bl (natP v)) := by
  cases v with
  | fn _ => cases ht
  | loc a =>
    have e : t = some .list := by
      simp only [tyOf] at ht
      split at ht
      · exact (Option.some.inj ht).symm
      · cases ht
    subst e
    exact ev_andF (ev_isi (ev_var h) ht)
  | int j => exact ev_andT (ev_isi (ev_var h) rfl) (ev_andT (ev_not (ev_isi (ev_var h) rfl)) (ev_cmp (ev_var h) ev_lit cmpv_ge))
  | bl b => exact ev_andT (ev_isi (ev_var h) rfl) (ev_andF (ev_not (ev_isi (ev_var h) rfl)))
  | _ => cases ht; exact ev_andF (ev_isi (ev_var h) rfl)
theorem vals_ok {lv n : Nat} {v : P} {k : Int} {S : Store} (h : Dt S (n + 2) v) : FnV ((envAt D (lv + 1)).fn nf_are_values) [v, .int k] S (.bl (valB k v)) := by
  refine ⟨fun S' d Q E q => ?_⟩
  have h := h.at d
  have q : Q (.bl (valB k v)) S' := q
  refine fn_start (d := ⟨2, 3, b_are_values⟩) rfl rfl ?_
  show wpB _ b_are_values [some v, some (.int k), none] S' _
  obtain ⟨t, ht⟩ := h.ty
  rcases tup_or v with ⟨xs, rfl⟩ | hv
  · have q : Q (.bl (decide ((xs.length : Int) = k) && xs.all natP)) S' := q
    refine bk_if1 (x := !decide ((xs.length : Int) = k)) (ev_orF (ev_not (ev_isTup (v := .tup xs) (ev_var rfl) ht)) (ev_cmp (ev_len (xs := xs) (ev_var rfl) (fun _ => rfl) (fun _ => rfl)) (ev_var rfl) cmpv_neI)) ?_ ?_
    · intro e
      rw [bnt e] at q
      fail "ret"; exact q
    · intro e
      rw [bnf e, Bool.true_and] at q
      refine bk_ret (ev_allC xs id natP (evs_cons (ev_var rfl) evs_nil) it_tupI good_any fun y hy => ?_) (fun S9 d9 => Wk.drop d9 (Wk.here q))
      obtain ⟨ty, hty⟩ := (h.tup y hy).ty
      exact nat_el (i := 2) rfl hty
  · have z : valB k v = false := by cases v <;> first | rfl | cases hv
    rw [z] at q
    refine bk_yesX (ev_noTup (ev_var rfl) ht hv) rfl ?_
    fail "ret"; exact q
/-- the paper's error -/
def badE (s : Str) : Exc := ⟨nk_BadPaper, [(na_word, .str s)]⟩
theorem od_dt {S : Store} {n : Nat} (o : Od) : Dt S (n + 2) o.toP := by
  cases o with
  | non => exact Dt.non
  | up c a =>
    exact Dt.mk fun x hx => by
      rcases List.mem_cons.mp hx with rfl | hx
      · exact Dt.str (by decide +kernel)
      rcases List.mem_cons.mp hx with rfl | hx
      · exact Dt.int
      cases List.mem_singleton.mp hx
      exact Dt.int
  | dn c a b =>
    exact Dt.mk fun x hx => by
      rcases List.mem_cons.mp hx with rfl | hx
      · exact Dt.str (by decide +kernel)
      rcases List.mem_cons.mp hx with rfl | hx
      · exact Dt.int
      rcases List.mem_cons.mp hx with rfl | hx
      · exact Dt.int
      cases List.mem_singleton.mp hx
      exact Dt.int
theorem rows_dt {S : Store} {n : Nat} (R : List Od) : Dt S (n + 3) (.tup (R.map Od.toP)) := Dt.mk fun x hx => by
  obtain ⟨o, _, rfl⟩ := List.mem_map.mp hx
  exact od_dt o
theorem cn_dt {S : Store} {n : Nat} (C : Cn) : Dt S (n + 4) C.toP := Dt.mk fun x hx => by
  rcases List.mem_cons.mp hx with rfl | hx
  · exact Dt.str (by decide +kernel)
  rcases List.mem_cons.mp hx with rfl | hx
  · exact Dt.int
  cases List.mem_singleton.mp hx
  exact rows_dt C.rows
theorem vs_dt {S : Store} {n : Nat} (v : List Int) : Dt S (n + 2) (.tup (v.map P.int)) := Dt.mk fun x hx => by
  obtain ⟨o, _, rfl⟩ := List.mem_map.mp hx
  exact Dt.int
theorem rowC_good {k m : Nat} {o : Od} (h : o.Ok k m) : rowC k m o.toP = true := by
  cases o with
  | non => rfl
  | up c a =>
    have h1 : inRange 0 ((k : Int) - 1) (.int c) = true := inRange_i (by omega) (by have := h.1; omega)
    have h2 : inRange 0 ((m : Int) - 1) (.int a) = true := inRange_i (by omega) (by have := h.2; omega)
    show rowC k m (.tup [.str "up", .int c, .int a]) = true
    rw [rowC_v, h1]
    simp only [List.all_cons, List.all_nil, h2]
    simp [strIs, isStrP]
  | dn c a b =>
    have h1 : inRange 0 ((k : Int) - 1) (.int c) = true := inRange_i (by omega) (by have := h.1; omega)
    have h2 : inRange 0 ((m : Int) - 1) (.int a) = true := inRange_i (by omega) (by have := h.2.1; omega)
    have h3 : inRange 0 ((m : Int) - 1) (.int b) = true := inRange_i (by omega) (by have := h.2.2; omega)
    show rowC k m (.tup [.str "down", .int c, .int a, .int b]) = true
    rw [rowC_v, h1]
    simp only [List.all_cons, List.all_nil, h2, h3]
    simp [strIs, isStrP]
theorem cn_good {C : Cn} (g : GoodC C) : cntB C.toP = true := by
  show (strIs (.str "counters") "counters" && (inRange 1 5 (.int C.k) && rowsC (intOf (.int C.k)) (.tup (C.rows.map Od.toP)))) = true
  have h1 := g.k0
  have h2 := g.k1
  have h3 := g.n0
  have h4 := g.n1
  rw [inRange_i (by omega) (by omega)]
  simp only [strIs, rowsC, intOf, List.length_map, Bool.and_eq_true, decide_eq_true_eq, List.all_eq_true]
  refine ⟨trivial, trivial, ⟨by omega, by omega⟩, fun x hx => ?_⟩
  obtain ⟨o, ho, rfl⟩ := List.mem_map.mp hx
  exact rowC_good (g.od o ho)
theorem vs_good {k : Nat} {v : List Int} (g : GoodV k v) : valB k (.tup (v.map P.int)) = true := by
  show (decide (((v.map P.int).length : Int) = k) && (v.map P.int).all natP) = true
  rw [List.length_map, g.len, decide_eq_true rfl, Bool.true_and, List.all_eq_true]
  intro x hx
  obtain ⟨i, hi, rfl⟩ := List.mem_map.mp hx
  exact decide_eq_true (g.pos i hi)
theorem look_no {lv n : Nat} {c r v : P} {S : Store} (h : Dt S (n + 5) c) (hn : n ≤ 40) (hc : cntB c = false) : FnR ((envAt D (lv + 4)).fn nf_look_at_counters) [c, r, v] S (.error (badE "counters")) := by
  refine ⟨fun S' d Q E q => ?_⟩
  have h := h.at d
  refine fn_start (d := ⟨3, 3, b_look_at_counters⟩) rfl rfl ?_
  show wpB _ b_look_at_counters [some c, some r, some v] S' _
  have hm := cnt_ok (lv := lv) h hn
  rw [hc] at hm
  refine bk_yesX (ev_not (ev_call (by fail "evs") hm)) rfl ?_
  exact bk_rse1 (f := na_word) (by rw [env_xc]; rfl) (by rw [env_lv]; omega) ev_lit fun S2 d2 => Wk.drop d2 (keepE q)
theorem len_rows {G : Core.Env} {ρ : Core.Loc} {S : Store} {C : Cn} {i : Nat} (h : ρ[i]? = some (some C.toP)) : Ev G (.blt .len [.idx (.var i) (.lit (.int 2))]) ρ S (.int C.rows.length) := by
  have := ev_len (G := G) (S := S) (ρ := ρ) (a := .idx (.var i) (.lit (.int 2))) (xs := C.rows.map Od.toP) (ev_idx (ev_var h) ev_lit (idxv_tup (i := 2) rfl)) (fun _ => rfl) (fun _ => rfl)
  rw [List.length_map] at this
  exact this
theorem look_ok {lv n : Nat} {C : Cn} {r v : P} {t : Option Ty} {S : Store} (g : GoodC C) (hr : tyOf S r = some t) (h : Dt S (n + 2) v) : FnR ((envAt D (lv + 4)).fn nf_look_at_counters) [C.toP, r, v] S (if (inRange 0 (C.rows.length - 1) r && valB C.k v) = true then .ok .non else .error (badE "values")) := by
  refine ⟨fun S' d Q E q => ?_⟩
  have h := h.at d
  have hr := tyOf_at d hr
  refine fn_start (d := ⟨3, 3, b_look_at_counters⟩) rfl rfl ?_
  show wpB _ b_look_at_counters [some C.toP, some r, some v] S' _
  have hm := cnt_ok (lv := lv) (n := 1) (S := S') (cn_dt C) (by omega)
  rw [cn_good g] at hm
  have i1 : IdxV C.toP (.int 1) S' (.int C.k) := idxv_tup rfl
  refine bk_noX (ev_not (ev_call (by fail "evs") hm)) rfl ?_
  refine bk_if1 (x := !(inRange 0 (C.rows.length - 1) r && valB C.k v)) ?_ ?_ ?_
  · rw [Bool.not_and]
    exact ev_or (ev_not (ev_call (ps := [r, .int 0, .int (C.rows.length - 1)]) (evs_cons (ev_var rfl) (evs_cons ev_lit (evs_cons (ev_bin (len_rows rfl) ev_lit opv_sub) evs_nil))) (int_ok hr))) fun _ =>
      ev_not (ev_call (ps := [v, .int C.k]) (evs_cons (ev_var rfl) (evs_cons (ev_idx (ev_var rfl) ev_lit i1) evs_nil)) (vals_ok h))
  · intro e
    rw [bnt e] at q
    exact bk_rse1 (f := na_word) (by rw [env_xc]; rfl) (by rw [env_lv]; omega) ev_lit fun S2 d2 => Wk.drop d2 (keepE q)
  · intro e
    rw [bnf e] at q
    exact bk_nil (keep q)
theorem look_good {lv : Nat} {C : Cn} {x : CSt} {S : Store} (g : GoodC C) (gx : GoodX C x) : FnR ((envAt D (lv + 4)).fn nf_look_at_counters) [C.toP, .int x.1, .tup (x.2.map P.int)] S (.ok .non) := by
  have h := look_ok (lv := lv) (n := 0) (C := C) (r := .int x.1) (v := .tup (x.2.map P.int)) (S := S) g rfl (vs_dt _)
  rw [inRange_i (by omega) (by have := gx.r; omega), vs_good gx.v] at h
  exact h
def resP : Option CSt → P
  | none => .non
  | some x => .tup [.int x.1, .tup (x.2.map P.int)]
/-- one cell of a tuple changed -/
theorem ev_addAt {G : Core.Env} {ρ : Core.Loc} {S : Store} {i : Nat} {cc e : CE} {v : List Int} {c : Nat} {d : Int} (h : ρ[i]? = some (some (.tup (v.map P.int)))) (hc : Ev G cc ρ S (.int c)) (he : Ev G e ρ S (.int (v.getD c 0 + d))) (hl : c < v.length) (hb : v.length ≤ 1000) :
    Ev G (.bin .Add (.bin .Add (.slc (.var i) none (some cc)) (.tup [e])) (.slc (.var i) (some (.bin .Add cc (.lit (.int 1)))) none)) ρ S (.tup ((addAt v c d).map P.int)) := by
  have big := PySem.sizeLine_eq
  have e1 := ev_slc (lo := none) (hi := some cc) (l := none) (h := some ((c : Nat) : Int)) (ev_var (G := G) (S := S) h) trivial (show Ev _ _ _ _ _ from hc)
  rw [cutP_to, ← List.map_take] at e1
  have e2 := ev_slc (lo := some (.bin .Add cc (.lit (.int 1)))) (hi := none) (l := some (((c + 1 : Nat)) : Int)) (h := none) (ev_var (G := G) (S := S) h) (show Ev _ _ _ _ _ from ev_val (ev_bin hc ev_lit opv_add) (by push_cast; rfl)) trivial
  rw [cutP_from, ← List.map_drop] at e2
  have e3 := ev_bin e1 (ev_tup (evs_cons he evs_nil)) (opv_cat (by simp; omega))
  have e4 := ev_bin e3 e2 (opv_cat (by simp; omega))
  have z : List.map P.int (List.take c v) ++ [P.int (v.getD c 0 + d)] ++ List.map P.int (List.drop (c + 1) v) = (addAt v c d).map P.int := by
    rw [← addAt_split hl]; simp
  rw [z] at e4
  exact e4
theorem at_vs {v : List Int} {c : Nat} (h : c < v.length) : atI (v.map P.int) (c : Int) = some (.int (v.getD c 0)) := atI_at (by
  rw [List.getElem?_map, List.getD_eq_getElem?_getD, List.getElem?_eq_getElem h]; rfl)
theorem changed_ok {lv c : Nat} {v : List Int} {d : Int} {S : Store} (hl : c < v.length) (hb : v.length ≤ 1000) : FnV ((envAt D (lv + 1)).fn nf_changed) [.tup (v.map P.int), .int c, .int d] S (.tup ((addAt v c d).map P.int)) := by
  refine ⟨fun S' _ Q E q => ?_⟩
  have q : Q (.tup ((addAt v c d).map P.int)) S' := q
  refine fn_start (d := ⟨3, 3, b_changed⟩) rfl rfl ?_
  show wpB _ b_changed [some (.tup (v.map P.int)), some (.int c), some (.int d)] S' _
  refine bk_ret (ev_addAt (v := v) (c := c) (d := d) rfl (ev_var rfl) (ev_bin (ev_idx (ev_var rfl) (ev_var rfl) (idxv_tup (at_vs hl))) (ev_var rfl) opv_add) hl hb) (fun S9 d9 => Wk.drop d9 (Wk.here q))
theorem row_at {C : Cn} {r : Nat} {S : Store} {o : Od} (h : C.rows[r]? = some o) : IdxV (.tup (C.rows.map Od.toP)) (.int r) S o.toP := idxv_tup (atI_at (by rw [List.getElem?_map, h]; rfl))
theorem step_ok {lv : Nat} {C : Cn} {x : CSt} {S : Store} (g : GoodC C) (gx : GoodX C x) : FnV ((envAt D (lv + 2)).fn nf_step_by) [C.toP, .int x.1, .tup (x.2.map P.int)] S (resP (stepC C.rows x)) := by
  refine ⟨fun S' _ Q E q => ?_⟩
  have q : Q (resP (stepC C.rows x)) S' := q
  have lx := gx.v.len
  have k5 := g.k1
  refine fn_start (d := ⟨3, 4, b_step_by⟩) rfl rfl ?_
  show wpB _ b_step_by [some C.toP, some (.int x.1), some (.tup (x.2.map P.int)), none] S' _
  have i2 : IdxV C.toP (.int 2) S' (.tup (C.rows.map Od.toP)) := idxv_tup rfl
  obtain ⟨o, hr⟩ : ∃ o, C.rows[x.1]? = some o := ⟨_, List.getElem?_eq_getElem gx.r⟩
  have go := g.od _ (List.mem_of_getElem? hr)
  refine bk_set (p := o.toP) (ev_idx (ev_idx (ev_var rfl) ev_lit i2) (ev_var rfl) (row_at hr)) ?_
  unfold stepC at q
  rw [hr] at q
  cases o with
  | non =>
    fail "yes"
    fail "ret"; exact q
  | up c a =>
    have j0 : IdxV (Od.up c a).toP (.int 0) S' (.str "up") := idxv_tup rfl
    have j1 : IdxV (Od.up c a).toP (.int 1) S' (.int c) := idxv_tup rfl
    have j2 : IdxV (Od.up c a).toP (.int 2) S' (.int a) := idxv_tup rfl
    refine bk_noX (ev_cmp (ev_var rfl) ev_lit cmpv_isN) rfl ?_
    refine bk_yesX (ev_eqT (ev_idx (ev_var rfl) ev_lit j0) (by decide +kernel) (by decide +kernel)) (by decide) ?_
    refine bk_ret (ev_tup (evs_cons (ev_idx (ev_var rfl) ev_lit j2) (evs_cons (ev_call (ps := [.tup (x.2.map P.int), .int c, .int 1]) (evs_cons (ev_var rfl) (evs_cons (ev_idx (ev_var rfl) ev_lit j1) (evs_cons ev_lit evs_nil))) (changed_ok (by have := go.1; omega) (by omega))) evs_nil))) (fun S9 d9 => Wk.drop d9 (Wk.here q))
  | dn c a b =>
    have j0 : IdxV (Od.dn c a b).toP (.int 0) S' (.str "down") := idxv_tup rfl
    have j1 : IdxV (Od.dn c a b).toP (.int 1) S' (.int c) := idxv_tup rfl
    have j2 : IdxV (Od.dn c a b).toP (.int 2) S' (.int a) := idxv_tup rfl
    have j3 : IdxV (Od.dn c a b).toP (.int 3) S' (.int b) := idxv_tup rfl
    have hc : c < x.2.length := by have := go.1; omega
    dsimp only at q
    refine bk_noX (ev_cmp (ev_var rfl) ev_lit cmpv_isN) rfl ?_
    refine bk_noX (ev_eqT (ev_idx (ev_var rfl) ev_lit j0) (by decide +kernel) (by decide +kernel)) (by decide) ?_
    refine bk_if1 (ev_cmp (ev_idx (ev_var rfl) (ev_idx (ev_var rfl) ev_lit j1) (idxv_tup (at_vs hc))) ev_lit cmpv_eqI) ?_ ?_
    · intro e
      rw [if_pos (of_decide_eq_true e)] at q
      refine bk_ret (ev_tup (evs_cons (ev_idx (ev_var rfl) ev_lit j3) (evs_cons (ev_var rfl) evs_nil))) (fun S9 d9 => Wk.drop d9 (Wk.here q))
    · intro e
      rw [if_neg (of_decide_eq_false e)] at q
      refine bk_ret (ev_tup (evs_cons (ev_idx (ev_var rfl) ev_lit j2) (evs_cons (ev_call (ps := [.tup (x.2.map P.int), .int c, .int (-1)]) (evs_cons (ev_var rfl) (evs_cons (ev_idx (ev_var rfl) ev_lit j1) (evs_cons (ev_neg ev_lit) evs_nil))) (changed_ok hc (by omega))) evs_nil))) (fun S9 d9 => Wk.drop d9 (Wk.here q))
theorem law_step_ok {lv : Nat} {C : Cn} {x : CSt} {S : Store} (g : GoodC C) (gx : GoodX C x) : FnV ((envAt D (lv + 2)).fn nf__law_step) [C.toP, .int x.1, .tup (x.2.map P.int)] S (resP (stepC C.rows x)) := by
  refine ⟨fun S' _ Q E q => ?_⟩
  have q : Q (resP (stepC C.rows x)) S' := q
  have lx := gx.v.len
  have k5 := g.k1
  refine fn_start (d := ⟨3, 5, b__law_step⟩) rfl rfl ?_
  show wpB _ b__law_step [some C.toP, some (.int x.1), some (.tup (x.2.map P.int)), none, none] S' _
  have i2 : IdxV C.toP (.int 2) S' (.tup (C.rows.map Od.toP)) := idxv_tup rfl
  obtain ⟨o, hr⟩ : ∃ o, C.rows[x.1]? = some o := ⟨_, List.getElem?_eq_getElem gx.r⟩
  have go := g.od _ (List.mem_of_getElem? hr)
  refine bk_set (p := o.toP) (ev_idx (ev_idx (ev_var rfl) ev_lit i2) (ev_var rfl) (row_at hr)) ?_
  unfold stepC at q
  rw [hr] at q
  cases o with
  | non =>
    fail "yes"
    fail "ret"; exact q
  | up c a =>
    have j0 : IdxV (Od.up c a).toP (.int 0) S' (.str "up") := idxv_tup rfl
    have j1 : IdxV (Od.up c a).toP (.int 1) S' (.int c) := idxv_tup rfl
    have j2 : IdxV (Od.up c a).toP (.int 2) S' (.int a) := idxv_tup rfl
    have hc : c < x.2.length := by have := go.1; omega
    refine bk_noX (ev_cmp (ev_var rfl) ev_lit cmpv_isN) rfl ?_
    refine bk_set (p := .int c) (ev_idx (ev_var rfl) ev_lit j1) ?_
    refine bk_yesX (ev_eqT (ev_idx (ev_var rfl) ev_lit j0) (by decide +kernel) (by decide +kernel)) (by decide) ?_
    refine bk_ret (ev_tup (evs_cons (ev_idx (ev_var rfl) ev_lit j2) (evs_cons (ev_addAt (v := x.2) (c := c) (d := 1) rfl (ev_var rfl) (ev_bin (ev_idx (ev_var rfl) (ev_var rfl) (idxv_tup (at_vs hc))) ev_lit opv_add) hc (by omega)) evs_nil))) (fun S9 d9 => Wk.drop d9 (Wk.here q))
  | dn c a b =>
    have j0 : IdxV (Od.dn c a b).toP (.int 0) S' (.str "down") := idxv_tup rfl
    have j1 : IdxV (Od.dn c a b).toP (.int 1) S' (.int c) := idxv_tup rfl
    have j2 : IdxV (Od.dn c a b).toP (.int 2) S' (.int a) := idxv_tup rfl
    have j3 : IdxV (Od.dn c a b).toP (.int 3) S' (.int b) := idxv_tup rfl
    have hc : c < x.2.length := by have := go.1; omega
    dsimp only at q
    refine bk_noX (ev_cmp (ev_var rfl) ev_lit cmpv_isN) rfl ?_
    refine bk_set (p := .int c) (ev_idx (ev_var rfl) ev_lit j1) ?_
    refine bk_noX (ev_eqT (ev_idx (ev_var rfl) ev_lit j0) (by decide +kernel) (by decide +kernel)) (by decide) ?_
    refine bk_if1 (ev_cmp (ev_idx (ev_var rfl) (ev_var rfl) (idxv_tup (at_vs hc))) ev_lit cmpv_eqI) ?_ ?_
    · intro e
      rw [if_pos (of_decide_eq_true e)] at q
      refine bk_ret (ev_tup (evs_cons (ev_idx (ev_var rfl) ev_lit j3) (evs_cons (ev_var rfl) evs_nil))) (fun S9 d9 => Wk.drop d9 (Wk.here q))
    · intro e
      rw [if_neg (of_decide_eq_false e)] at q
      refine bk_ret (ev_tup (evs_cons (ev_idx (ev_var rfl) ev_lit j2) (evs_cons (ev_addAt (v := x.2) (c := c) (d := -1) rfl (ev_var rfl) (ev_bin (ev_idx (ev_var rfl) (ev_var rfl) (idxv_tup (at_vs hc))) ev_lit opv_sub) hc (by omega)) evs_nil))) (fun S9 d9 => Wk.drop d9 (Wk.here q))
end Z
end
section
set_option maxRecDepth 100000
set_option maxHeartbeats 4000000
/-! Cn3: next_counters. -/
open PySem Core L2
local macro_rules | `(tactic| fail "fn") => `(tactic| first
  | assumption)
local macro_rules | `(tactic| fail "num") => `(tactic| first
  | omega
  | decide
  | (simp only [List.length_append, List.length_cons, List.length_nil, List.length_map, List.length_replicate, List.length_singleton]; omega))
local macro_rules | `(tactic| fail "at") => `(tactic| first
  | rfl
  | assumption
  | exact atI_at (by first | assumption | rfl)
  | (refine atI_at ?_; simp; done))
local macro_rules | `(tactic| fail "st") => `(tactic| first
  | assumption
  | exact Store.upd_same)
local macro_rules | `(tactic| fail "ty") => `(tactic| first
  | rfl
  | assumption)
local macro_rules | `(tactic| fail "evs") => `(tactic| first
  | exact evs_nil
  | (refine' evs_cons ?h0 ?h1; (case h0 => fail "ev"); (case h1 => fail "evs")))
local macro_rules | `(tactic| fail "op") => `(tactic| first
  | exact opv_add
  | exact opv_sub
  | exact opv_pow ⟨by decide, by decide, by decide⟩
  | (refine' opv_cat ?h0; (case h0 => (have := PySem.sizeLine_eq; fail "num")))
  | (refine' opv_mod ?h0; (case h0 => fail "num"))
  | (refine' opv_div ?h0 ?h1; (case h0 => fail "num"); (case h1 => fail "num"))
  | (refine' opv_mulR ?h0 ?h1; (case h0 => fail "num"); (case h1 => fail "num"))
  | (refine' opv_mulL ?h0 ?h1; (case h0 => fail "num"); (case h1 => fail "num"))
  | (refine' opv_rep ?h0 ?h1 ?h2; (case h0 => fail "num"); (case h1 => fail "num"); (case h2 => (have := PySem.sizeLine_eq; fail "num")))
  | assumption)
local macro_rules | `(tactic| fail "cm") => `(tactic| first
  | exact cmpv_eqI
  | exact cmpv_neI
  | exact cmpv_lt
  | exact cmpv_le
  | exact cmpv_gt
  | exact cmpv_ge
  | exact cmpv_isN
  | exact cmpv_isNN
  | exact cmpv_isB
  | exact cmpv_isNB
  | assumption)
local macro_rules | `(tactic| fail "ix") => `(tactic| first
  | (refine' idxv_tup ?h0; (case h0 => fail "at"))
  | (refine' idxv_lst ?h0 ?h1; (case h0 => fail "st"); (case h1 => fail "at"))
  | (refine' idxv_frl ?h0; (case h0 => fail "at"))
  | assumption)
local macro_rules | `(tactic| fail "eo") => `(tactic| first
  | exact True.intro
  | (refine (show EvO _ (some _) _ _ (some _) from ?_); fail "ev"))
local macro_rules | `(tactic| fail "el") => `(tactic| first
  | (refine' evl_var ?h0 ?h1; (case h0 => rfl); (case h1 => fail "st"))
  | (refine EvF.l ?_; fail "ef")
  | assumption)
local macro_rules | `(tactic| fail "ef") => `(tactic| first
  | (refine' evf_lst ?h0; (case h0 => fail "evs"))
  | (refine' evf_list ?h0 ?h1 ?h2; (case h0 => fail "ev"); (case h1 => exact fun _ => rfl); (case h2 => exact fun _ => rfl))
  | (refine' evf_listL ?h0; (case h0 => fail "el"))
  | (refine' evf_rev ?h0; (case h0 => fail "el"))
  | (refine' evf_slc ?h0 ?h1 ?h2; (case h0 => fail "el"); (case h1 => fail "eo"); (case h2 => fail "eo"))
  | (refine' evf_add ?h0 ?h1 ?h2; (case h0 => fail "el"); (case h1 => fail "el"); (case h2 => (have := PySem.sizeLine_eq; fail "num")))
  | (refine' evf_call ?h0 ?h1; (case h0 => fail "evs"); (case h1 => fail "fn"))
  | assumption)
local macro_rules | `(tactic| fail "ev") => `(tactic| first
  | exact ev_lit
  | exact ev_var rfl
  | (refine' ev_con ?h0; (case h0 => fail "con"))
  | exact ev_fnv
  | (refine' ev_tup ?h0; (case h0 => fail "evs"))
  | (refine' ev_not ?h0; (case h0 => fail "ev"))
  | (refine' ev_and ?h0 ?h1; (case h0 => fail "ev"); (case h1 => first | ((refine (show _ = true → Ev _ _ _ _ (.bl false) from ?_)); intro h; exact absurd h (by decide)) | (intro hAnd; fail "ev")))
  | (refine' ev_or ?h0 ?h1; (case h0 => fail "ev"); (case h1 => first | ((refine (show _ = false → Ev _ _ _ _ (.bl false) from ?_)); intro h; exact absurd h (by decide)) | (intro hOr; fail "ev")))
  | (refine' ev_chn ?h0 ?h1 ?h2 ?h3 ?h4; (case h0 => fail "ev"); (case h1 => fail "ev"); (case h2 => fail "ev"); (case h3 => fail "cm"); (case h4 => fail "cm"))
  | (refine' ev_cmp ?h0 ?h1 ?h2; (case h0 => fail "ev"); (case h1 => fail "ev"); (case h2 => fail "cm"))
  | (refine' ev_bin ?h0 ?h1 ?h2; (case h0 => fail "ev"); (case h1 => fail "ev"); (case h2 => fail "op"))
  | (refine' ev_neg ?h0; (case h0 => fail "ev"))
  | (refine' ev_ife ?h0 ?h1 ?h2; (case h0 => fail "ev"); (case h1 => (intro hT; fail "ev")); (case h2 => (intro hF; fail "ev")))
  | (refine' ev_idx ?h0 ?h1 ?h2; (case h0 => fail "ev"); (case h1 => fail "ev"); (case h2 => fail "ix"))
  | (refine' ev_slc ?h0 ?h1 ?h2; (case h0 => fail "ev"); (case h1 => fail "eo"); (case h2 => fail "eo"))
  | (refine' ev_fld ?h0 ?h1 ?h2; (case h0 => fail "ev"); (case h1 => fail "st"); (case h2 => rfl))
  | (refine' ev_isi ?h0 ?h1; (case h0 => fail "ev"); (case h1 => fail "ty"))
  | (refine' ev_len ?h0 ?h1 ?h2; (case h0 => fail "ev"); (case h1 => exact fun _ => rfl); (case h2 => exact fun _ => rfl))
  | (refine' ev_lenL ?h0; (case h0 => fail "el"))
  | (refine' ev_int ?h0; (case h0 => fail "ev"))
  | (refine' ev_intB ?h0; (case h0 => fail "ev"))
  | (refine' ev_tuple ?h0 ?h1; (case h0 => fail "ev"); (case h1 => exact fun _ => rfl))
  | (refine' ev_tupleL ?h0; (case h0 => fail "el"))
  | (refine' ev_min2 ?h0 ?h1; (case h0 => fail "ev"); (case h1 => fail "ev"))
  | (refine' ev_max2 ?h0 ?h1; (case h0 => fail "ev"); (case h1 => fail "ev"))
  | (refine' ev_abs ?h0; (case h0 => fail "ev"))
  | (refine' ev_call ?h0 ?h1; (case h0 => fail "evs"); (case h1 => fail "fn"))
  | (refine' ev_cvar ?h0 ?h1 ?h2; (case h0 => rfl); (case h1 => fail "evs"); (case h2 => fail "fn"))
  | assumption)
local macro_rules | `(tactic| fail "tf") => `(tactic| first
  | decide
  | rfl
  | (simp; done)
  | (simp; omega))
local macro_rules | `(tactic| fail "no") => `(tactic| (refine' bk_noX ?h0 ?h1 ?_; (case h0 => fail "ev"); (case h1 => fail "tf")))
local macro_rules | `(tactic| fail "yes") => `(tactic| (refine' bk_yesX ?h0 ?h1 ?_; (case h0 => fail "ev"); (case h1 => fail "tf")))
local macro_rules | `(tactic| fail "ret") => `(tactic| (refine' bk_ret ?h0 (fun S9 d9 => Wk.drop d9 (Wk.here ?_)); (case h0 => fail "ev")))
local macro_rules | `(tactic| fail "set") => `(tactic| (refine' bk_set ?h0 ?_; (case h0 => fail "ev")))
local macro_rules | `(tactic| fail "setF") => `(tactic| (refine' bk_setF ?h0 ?_; (case h0 => fail "ef")))
local macro_rules | `(tactic| fail "if") => `(tactic| (refine' bk_if1 ?h0 ?_ ?_; (case h0 => fail "ev")))
local macro_rules | `(tactic| fail "if2") => `(tactic| (refine' bk_if ?h0 ?_ ?_; (case h0 => fail "ev")))
local macro_rules | `(tactic| fail "put") => `(tactic| (refine' bk_put ?h0 ?h1 ?h2 ?h3 ?h4 ?_; (case h0 => fail "ev"); (case h1 => fail "ev"); (case h2 => fail "ev"); (case h3 => fail "st"); (case h4 => rfl)))
local macro_rules | `(tactic| fail "retC") => `(tactic| (refine' bk_retC ?h0 ?_; (case h0 => fail "evs")))
local macro_rules | `(tactic| fail "setC") => `(tactic| (refine' bk_setC ?h0 ?_; (case h0 => fail "evs")))
local macro_rules | `(tactic| fail "expC") => `(tactic| (refine' bk_expC ?h0 ?_; (case h0 => fail "evs")))
local macro_rules | `(tactic| fail "callE") => `(tactic| (refine' cps_call ?h0 ?_; (case h0 => fail "evs")))
local macro_rules | `(tactic| fail "exp") => `(tactic| (refine' bk_exp ?h0 ?_; (case h0 => fail "ev")))
local macro_rules | `(tactic| fail "con") => `(tactic| first | exact Z.con_MOST_ROWS | exact Z.con_MOST_COUNTERS | exact Z.con_PRIMES | rfl)
local macro_rules | `(tactic| fail "fn") => `(tactic| exact Z.int_ok (by fail "ty"))
namespace Z
open PySem Core L2
theorem next_ok {lv : Nat} {C : Cn} {x : CSt} {S : Store} (g : GoodC C) (gx : GoodX C x) : FnV ((envAt D (lv + 5)).fn nf_next_counters) [C.toP, .int x.1, .tup (x.2.map P.int)] S (resP (stepC C.rows x)) := by
  refine ⟨fun S' _ Q E q => ?_⟩
  have q : Q (resP (stepC C.rows x)) S' := q
  refine fn_start (d := ⟨3, 3, b_next_counters⟩) rfl rfl ?_
  show wpB _ b_next_counters [some C.toP, some (.int x.1), some (.tup (x.2.map P.int))] S' _
  refine bk_exp (EvR.v (evr_call (by fail "evs") (look_good (lv := lv) g gx))) ?_
  refine bk_ret (ev_call (by fail "evs") (step_ok (lv := lv + 2) g gx)) (fun S9 d9 => Wk.drop d9 (Wk.here q))
theorem next_e {lv : Nat} {c r v : P} {x : Exc} {S : Store} (h : FnR ((envAt D (lv + 4)).fn nf_look_at_counters) [c, r, v] S (.error x)) : FnR ((envAt D (lv + 5)).fn nf_next_counters) [c, r, v] S (.error x) := by
  refine ⟨fun S' d Q E q => ?_⟩
  refine fn_start (d := ⟨3, 3, b_next_counters⟩) rfl rfl ?_
  show wpB _ b_next_counters [some c, some r, some v] S' _
  exact bk_expR (evr_call (by fail "evs") (h.at d)) (fun p e => by cases e) fun y e S2 d2 => by cases e; exact Wk.drop d2 (keepE q)
theorem endC_ex (R : List Od) (x : CSt) : ∀ m, ∃ y n, EndC R x m y n
  | 0 => ⟨x, 0, rfl, Nat.le_refl _, .inl rfl⟩
  | m + 1 => by
    obtain ⟨y, n, h⟩ := endC_ex R x m
    cases e : stepC R y with
    | none => exact ⟨y, n, h.it, by have := h.le; omega, .inr e⟩
    | some z =>
      have hn : n = m := by
        rcases h.en with q | q
        · exact q
        · rw [q] at e; cases e
      subst hn
      refine ⟨z, n + 1, ?_, Nat.le_refl _, .inl rfl⟩
      show (itC R n x).bind (stepC R) = _
      rw [h.it]; exact e
def run3 (y : CSt) (n : Nat) : P := .tup [.int y.1, .tup (y.2.map P.int), .int n]
end Z
end
section
set_option maxRecDepth 100000
set_option maxHeartbeats 4000000
/-! Cn4: the law's machines with counters. -/
open PySem Core L2
local macro_rules | `(tactic| fail "fn") => `(tactic| first
  | assumption)
local macro_rules | `(tactic| fail "num") => `(tactic| first
  | omega
  | decide
  | (simp only [List.length_append, List.length_cons, List.length_nil, List.length_map, List.length_replicate, List.length_singleton]; omega))
local macro_rules | `(tactic| fail "at") => `(tactic| first
  | rfl
  | assumption
  | exact atI_at (by first | assumption | rfl)
  | (refine atI_at ?_; simp; done))
local macro_rules | `(tactic| fail "st") => `(tactic| first
  | assumption
  | exact Store.upd_same)
local macro_rules | `(tactic| fail "ty") => `(tactic| first
  | rfl
  | assumption)
local macro_rules | `(tactic| fail "evs") => `(tactic| first
  | exact evs_nil
  | (refine' evs_cons ?h0 ?h1; (case h0 => fail "ev"); (case h1 => fail "evs")))
local macro_rules | `(tactic| fail "op") => `(tactic| first
  | exact opv_add
  | exact opv_sub
  | exact opv_pow ⟨by decide, by decide, by decide⟩
  | (refine' opv_cat ?h0; (case h0 => (have := PySem.sizeLine_eq; fail "num")))
  | (refine' opv_mod ?h0; (case h0 => fail "num"))
  | (refine' opv_div ?h0 ?h1; (case h0 => fail "num"); (case h1 => fail "num"))
  | (refine' opv_mulR ?h0 ?h1; (case h0 => fail "num"); (case h1 => fail "num"))
  | (refine' opv_mulL ?h0 ?h1; (case h0 => fail "num"); (case h1 => fail "num"))
  | (refine' opv_rep ?h0 ?h1 ?h2; (case h0 => fail "num"); (case h1 => fail "num"); (case h2 => (have := PySem.sizeLine_eq; fail "num")))
  | assumption)
local macro_rules | `(tactic| fail "cm") => `(tactic| first
  | exact cmpv_eqI
  | exact cmpv_neI
  | exact cmpv_lt
  | exact cmpv_le
  | exact cmpv_gt
  | exact cmpv_ge
  | exact cmpv_isN
  | exact cmpv_isNN
  | exact cmpv_isB
  | exact cmpv_isNB
  | assumption)
local macro_rules | `(tactic| fail "ix") => `(tactic| first
  | (refine' idxv_tup ?h0; (case h0 => fail "at"))
  | (refine' idxv_lst ?h0 ?h1; (case h0 => fail "st"); (case h1 => fail "at"))
  | (refine' idxv_frl ?h0; (case h0 => fail "at"))
  | assumption)
local macro_rules | `(tactic| fail "eo") => `(tactic| first
  | exact True.intro
  | (refine (show EvO _ (some _) _ _ (some _) from ?_); fail "ev"))
local macro_rules | `(tactic| fail "el") => `(tactic| first
  | (refine' evl_var ?h0 ?h1; (case h0 => rfl); (case h1 => fail "st"))
  | (refine EvF.l ?_; fail "ef")
  | assumption)
local macro_rules | `(tactic| fail "ef") => `(tactic| first
  | (refine' evf_lst ?h0; (case h0 => fail "evs"))
  | (refine' evf_list ?h0 ?h1 ?h2; (case h0 => fail "ev"); (case h1 => exact fun _ => rfl); (case h2 => exact fun _ => rfl))
  | (refine' evf_listL ?h0; (case h0 => fail "el"))
  | (refine' evf_rev ?h0; (case h0 => fail "el"))
  | (refine' evf_slc ?h0 ?h1 ?h2; (case h0 => fail "el"); (case h1 => fail "eo"); (case h2 => fail "eo"))
  | (refine' evf_add ?h0 ?h1 ?h2; (case h0 => fail "el"); (case h1 => fail "el"); (case h2 => (have := PySem.sizeLine_eq; fail "num")))
  | (refine' evf_call ?h0 ?h1; (case h0 => fail "evs"); (case h1 => fail "fn"))
  | assumption)
local macro_rules | `(tactic| fail "ev") => `(tactic| first
  | exact ev_lit
  | exact ev_var rfl
  | (refine' ev_con ?h0; (case h0 => fail "con"))
  | exact ev_fnv
  | (refine' ev_tup ?h0; (case h0 => fail "evs"))
  | (refine' ev_not ?h0; (case h0 => fail "ev"))
  | (refine' ev_and ?h0 ?h1; (case h0 => fail "ev"); (case h1 => first | ((refine (show _ = true → Ev _ _ _ _ (.bl false) from ?_)); intro h; exact absurd h (by decide)) | (intro hAnd; fail "ev")))
  | (refine' ev_or ?h0 ?h1; (case h0 => fail "ev"); (case h1 => first | ((refine (show _ = false → Ev _ _ _ _ (.bl false) from ?_)); intro h; exact absurd h (by decide)) | (intro hOr; fail "ev")))
  | (refine' ev_chn ?h0 ?h1 ?h2 ?h3 ?h4; (case h0 => fail "ev"); (case h1 => fail "ev"); (case h2 => fail "ev"); (case h3 => fail "cm"); (case h4 => fail "cm"))
  | (refine' ev_cmp ?h0 ?h1 ?h2; (case h0 => fail "ev"); (case h1 => fail "ev"); (case h2 => fail "cm"))
  | (refine' ev_bin ?h0 ?h1 ?h2; (case h0 => fail "ev"); (case h1 => fail "ev"); (case h2 => fail "op"))
  | (refine' ev_neg ?h0; (case h0 => fail "ev"))
  | (refine' ev_ife ?h0 ?h1 ?h2; (case h0 => fail "ev"); (case h1 => (intro hT; fail "ev")); (case h2 => (intro hF; fail "ev")))
  | (refine' ev_idx ?h0 ?h1 ?h2; (case h0 => fail "ev"); (case h1 => fail "ev"); (case h2 => fail "ix"))
  | (refine' ev_slc ?h0 ?h1 ?h2; (case h0 => fail "ev"); (case h1 => fail "eo"); (case h2 => fail "eo"))
  | (refine' ev_fld ?h0 ?h1 ?h2; (case h0 => fail "ev"); (case h1 => fail "st"); (case h2 => rfl))
  | (refine' ev_isi ?h0 ?h1; (case h0 => fail "ev"); (case h1 => fail "ty"))
  | (refine' ev_len ?h0 ?h1 ?h2; (case h0 => fail "ev"); (case h1 => exact fun _ => rfl); (case h2 => exact fun _ => rfl))
  | (refine' ev_lenL ?h0; (case h0 => fail "el"))
  | (refine' ev_int ?h0; (case h0 => fail "ev"))
  | (refine' ev_intB ?h0; (case h0 => fail "ev"))
  | (refine' ev_tuple ?h0 ?h1; (case h0 => fail "ev"); (case h1 => exact fun _ => rfl))
  | (refine' ev_tupleL ?h0; (case h0 => fail "el"))
  | (refine' ev_min2 ?h0 ?h1; (case h0 => fail "ev"); (case h1 => fail "ev"))
  | (refine' ev_max2 ?h0 ?h1; (case h0 => fail "ev"); (case h1 => fail "ev"))
  | (refine' ev_abs ?h0; (case h0 => fail "ev"))
  | (refine' ev_call ?h0 ?h1; (case h0 => fail "evs"); (case h1 => fail "fn"))
  | (refine' ev_cvar ?h0 ?h1 ?h2; (case h0 => rfl); (case h1 => fail "evs"); (case h2 => fail "fn"))
  | assumption)
local macro_rules | `(tactic| fail "tf") => `(tactic| first
  | decide
  | rfl
  | (simp; done)
  | (simp; omega))
local macro_rules | `(tactic| fail "no") => `(tactic| (refine' bk_noX ?h0 ?h1 ?_; (case h0 => fail "ev"); (case h1 => fail "tf")))
local macro_rules | `(tactic| fail "yes") => `(tactic| (refine' bk_yesX ?h0 ?h1 ?_; (case h0 => fail "ev"); (case h1 => fail "tf")))
local macro_rules | `(tactic| fail "ret") => `(tactic| (refine' bk_ret ?h0 (fun S9 d9 => Wk.drop d9 (Wk.here ?_)); (case h0 => fail "ev")))
local macro_rules | `(tactic| fail "set") => `(tactic| (refine' bk_set ?h0 ?_; (case h0 => fail "ev")))
local macro_rules | `(tactic| fail "setF") => `(tactic| (refine' bk_setF ?h0 ?_; (case h0 => fail "ef")))
local macro_rules | `(tactic| fail "if") => `(tactic| (refine' bk_if1 ?h0 ?_ ?_; (case h0 => fail "ev")))
local macro_rules | `(tactic| fail "if2") => `(tactic| (refine' bk_if ?h0 ?_ ?_; (case h0 => fail "ev")))
local macro_rules | `(tactic| fail "put") => `(tactic| (refine' bk_put ?h0 ?h1 ?h2 ?h3 ?h4 ?_; (case h0 => fail "ev"); (case h1 => fail "ev"); (case h2 => fail "ev"); (case h3 => fail "st"); (case h4 => rfl)))
local macro_rules | `(tactic| fail "retC") => `(tactic| (refine' bk_retC ?h0 ?_; (case h0 => fail "evs")))
local macro_rules | `(tactic| fail "setC") => `(tactic| (refine' bk_setC ?h0 ?_; (case h0 => fail "evs")))
local macro_rules | `(tactic| fail "expC") => `(tactic| (refine' bk_expC ?h0 ?_; (case h0 => fail "evs")))
local macro_rules | `(tactic| fail "callE") => `(tactic| (refine' cps_call ?h0 ?_; (case h0 => fail "evs")))
local macro_rules | `(tactic| fail "exp") => `(tactic| (refine' bk_exp ?h0 ?_; (case h0 => fail "ev")))
local macro_rules | `(tactic| fail "con") => `(tactic| first | exact Z.con_MOST_ROWS | exact Z.con_MOST_COUNTERS | exact Z.con_PRIMES | rfl)
local macro_rules | `(tactic| fail "fn") => `(tactic| exact Z.int_ok (by fail "ty"))
namespace Z
open PySem Core L2
theorem lawCounters_ok {lv : Nat} {a : Addr} {S : Store} {Q : QP} {E : QE} (hb : S a = some (.any BagB)) (q : ∀ C, GoodC C → C.k ≤ 3 → C.rows.length ≤ 8 → Q C.toP S) : (envAt D (lv + 2)).fn nf__law_counters [.loc a] S Q E := by
  refine fn_start (d := ⟨1, 6, b__law_counters⟩) rfl rfl ?_
  show wpB _ b__law_counters [some (.loc a), none, none, none, none, none] S _
  have big := PySem.sizeLine_eq
  refine bk_setE (cps_bin (cps_run ev_lit fun S1 d1 => ?_))
  fail "callE"
  refine draw_ok (d1 _ _ hb) (by decide) (by decide) fun r r0 r1 => ?_
  refine opv_add.run S1 (.refl _) _ fun S2 d2 => bk_drop (d1.trans d2) ?_
  obtain ⟨k, hk, k1, k2⟩ : ∃ k : Nat, 1 + r = k ∧ 1 ≤ k ∧ k ≤ 3 := ⟨(1 + r).toNat, by omega, by omega, by omega⟩
  rw [hk]
  clear hk r0 r1 r d1
  refine bk_setE (cps_bin (cps_run ev_lit fun S1 d1 => ?_))
  fail "callE"
  refine draw_ok (d1 _ _ hb) (by decide) (by decide) fun r r0 r1 => ?_
  refine opv_add.run S1 (.refl _) _ fun S2 d2 => bk_drop (d1.trans d2) ?_
  obtain ⟨n, hn, n1, n2⟩ : ∃ k : Nat, 1 + r = k ∧ 1 ≤ k ∧ k ≤ 8 := ⟨(1 + r).toNat, by omega, by omega, by omega⟩
  rw [hn]
  clear hn r0 r1 r d1
  refine bk_setF (by fail "ef") fun R hR => ?_
  have aR : a ≠ R := fun z => by rw [← z, hb] at hR; cases hR
  show wpB _ _ [some (.loc a), some (.int k), some (.int n), some (.loc R), none, none] _ _
  refine bk_for (List.range n) (fun (i : Nat) => P.int i) (fun i ρ' S' => ∃ rows : List Od, rows.length = i ∧ (∀ o ∈ rows, o.Ok k n) ∧ S' = S.upd R (.lst (rows.map Od.toP)) ∧ ∃ x1 x2, ρ' = [some (.loc a), some (.int k), some (.int n), some (.loc R), x1, x2])
    (evs_cons (ev_var rfl) evs_nil) (it_range (by omega)) up_any (fun _ _ _ _ => trivial) ⟨[], rfl, fun _ h => (by cases h), rfl, none, none, rfl⟩ ?_ ?_ (env_mono _ _)
  · rintro i x ρ' S' hx ⟨rows, hl, hr, rfl, x1, x2, rfl⟩
    have lt : i < n := by have := (List.getElem?_eq_some_iff.mp hx).1; simpa using this
    show wpB _ _ [some (.loc a), some (.int k), some (.int n), some (.loc R), some (.int x), x2] _ _
    have hb' : (S.upd R (.lst (rows.map Od.toP))) a = some (.any BagB) := by rw [Store.upd_ne aR]; exact hb
    have hR' : (S.upd R (.lst (rows.map Od.toP))) R = some (.lst (rows.map Od.toP)) := Store.upd_same
    have hup : ∀ o : Od, (S.upd R (.lst (rows.map Od.toP))).upd R (.lst (rows.map Od.toP ++ [o.toP])) = S.upd R (.lst ((rows ++ [o]).map Od.toP)) := fun o => by rw [Store.upd_upd, List.map_append]; rfl
    generalize S.upd R (.lst (rows.map Od.toP)) = S3 at hb' hR' hup
    have hlen : (rows.map Od.toP).length < sizeLine := by rw [List.length_map]; omega
    have last : ∀ (x2 : Option P) (o : Od), o.Ok k n → ∃ rows' : List Od, rows'.length = i + 1 ∧ (∀ o ∈ rows', o.Ok k n) ∧ S3.upd R (.lst (rows.map Od.toP ++ [o.toP])) = S.upd R (.lst (rows'.map Od.toP)) ∧ ∃ y1 y2, [some (.loc a), some (.int k), some (.int n), some (.loc R), some (.int x), x2] = [some (.loc a), some (.int k), some (.int n), some (.loc R), y1, y2] := fun x2 o ho => by
      refine ⟨rows ++ [o], by simp [hl], fun o' ho' => ?_, hup o, _, _, rfl⟩
      rcases List.mem_append.mp ho' with h | h
      · exact hr o' h
      · rw [List.mem_singleton.mp h]; exact ho
    refine bk_setE ?_
    fail "callE"
    refine draw_ok hb' (by decide) (by decide) fun r r0 r1 => ?_
    show wpB _ _ [some (.loc a), some (.int k), some (.int n), some (.loc R), some (.int x), some (.int r)] _ _
    refine bk_if (x := decide (r = 0)) (by fail "ev") ?_ ?_
    · intro _
      refine bk_append (p := Od.toP .non) (ev_var rfl) ev_lit hR' hlen (bk_nil (bk_nil (G := envAt D (lv + 1)) ?_))
      exact last (some (.int r)) .non trivial
    · intro _
      refine bk_if (x := decide (r < 4)) (by fail "ev") ?_ ?_
      · intro _
        refine bk_appendE rfl hR' hlen (cps_tup (cps_cons (cps_run ev_lit fun S4 d4 => cps_cons ?_)))
        refine cps_call (ps := [.loc a, .int k]) (by fail "evs") (draw_ok (d4 _ _ hb') (by omega) (by omega) fun c c0 c1 => cps_cons ?_)
        refine cps_call (ps := [.loc a, .int n]) (by fail "evs") (draw_ok (d4 _ _ hb') (by omega) (by omega) fun b b0 b1 => cps_nil ⟨d4 _ _ hR', bk_drop (d4.both _ _) ?_⟩)
        obtain ⟨c, rfl⟩ : ∃ n : Nat, c = n := ⟨c.toNat, (Int.toNat_of_nonneg c0).symm⟩
        obtain ⟨b, rfl⟩ : ∃ n : Nat, b = n := ⟨b.toNat, (Int.toNat_of_nonneg b0).symm⟩
        refine bk_nil (bk_nil (G := envAt D (lv + 1)) (bk_nil (G := envAt D (lv + 1)) ?_))
        exact last (some (.int r)) (.up c b) ⟨by omega, by omega⟩
      · intro _
        refine bk_appendE rfl hR' hlen (cps_tup (cps_cons (cps_run ev_lit fun S4 d4 => cps_cons ?_)))
        refine cps_call (ps := [.loc a, .int k]) (by fail "evs") (draw_ok (d4 _ _ hb') (by omega) (by omega) fun c c0 c1 => cps_cons ?_)
        refine cps_call (ps := [.loc a, .int n]) (by fail "evs") (draw_ok (d4 _ _ hb') (by omega) (by omega) fun b b0 b1 => cps_cons ?_)
        refine cps_call (ps := [.loc a, .int n]) (by fail "evs") (draw_ok (d4 _ _ hb') (by omega) (by omega) fun b' b0' b1' => cps_nil ⟨d4 _ _ hR', bk_drop (d4.both _ _) ?_⟩)
        obtain ⟨c, rfl⟩ : ∃ n : Nat, c = n := ⟨c.toNat, (Int.toNat_of_nonneg c0).symm⟩
        obtain ⟨b, rfl⟩ : ∃ n : Nat, b = n := ⟨b.toNat, (Int.toNat_of_nonneg b0).symm⟩
        obtain ⟨b', rfl⟩ : ∃ n : Nat, b' = n := ⟨b'.toNat, (Int.toNat_of_nonneg b0').symm⟩
        refine bk_nil (bk_nil (G := envAt D (lv + 1)) (bk_nil (G := envAt D (lv + 1)) ?_))
        exact last (some (.int r)) (.dn c b b') ⟨by omega, by omega, by omega⟩
  · rintro ρ' S' ⟨rows, hl, hr, rfl, x1, x2, rfl⟩
    rw [List.length_range] at hl
    refine bk_ret (p := Cn.toP ⟨k, rows⟩) (ev_tup (evs_cons ev_lit (evs_cons (ev_var rfl) (evs_cons (ev_tupleL (evl_var rfl Store.upd_same)) evs_nil)))) (fun S9 d9 => Wk.drop ((SubS.upd hR).trans d9) (Wk.here (q _ ⟨k1, by dsimp only; omega, by dsimp only; omega, by dsimp only; omega, fun o h => ?_⟩ k2 (by dsimp only; omega))))
    dsimp only
    rw [hl]
    exact hr o h
end Z
end
section
set_option maxRecDepth 100000
set_option maxHeartbeats 4000000
/-! T0: two counters, plainly: rows and entries. -/
namespace Core
open PySem L2
def primes : List Nat := [2, 3, 5, 7, 11]
def prm (c : Nat) : Nat := primes.getD c 0
def sizeO : Od → Nat
  | .non => 1
  | .up c _ => prm c + 3
  | .dn c _ _ => prm c + 3 + ((List.range (prm c - 1)).map fun j => 1 + prm c + (j + 1)).sum
def ents : Nat → List Od → List Nat
  | _, [] => []
  | at_, o :: os => at_ :: ents (at_ + sizeO o) os
def total : Nat → List Od → Nat
  | at_, [] => at_
  | at_, o :: os => total (at_ + sizeO o) os
def rst (p at_ : Nat) : Nat → Nat
  | 0 => at_ + p + 1
  | 1 => at_ + p + 3
  | r + 2 => rst p at_ (r + 1) + p + (r + 2)
def upB (p at_ after : Nat) : List Od := [.dn 0 (at_ + 1) (at_ + 1 + p)] ++ (List.range p).map (fun i => .up 1 (if i + 1 = p then at_ else at_ + 2 + i)) ++ [.dn 1 (at_ + p + 2) after] ++ [.up 0 (at_ + p + 1)]
def dnR (p h r other : Nat) : List Od := [.dn 1 (h + 1) (h + 1 + p)] ++ (List.range (p - 1)).map (fun i => .up 0 (h + 2 + i)) ++ [.up 0 h] ++ (List.range (r - 1)).map (fun i => .up 0 (h + p + 2 + i)) ++ [.up 0 other]
def dnB (p at_ after other : Nat) : List Od := (List.range p).map (fun i => .dn 0 (at_ + i + 1) (rst p at_ i)) ++ [.up 1 at_] ++ [.dn 1 (rst p at_ 0 + 1) after] ++ [.up 0 (rst p at_ 0)] ++ (List.range (p - 1)).flatMap fun j => dnR p (rst p at_ (j + 1)) (j + 1) other
def blockO (F : Nat → Nat) (at_ : Nat) : Od → List Od
  | .non => [.non]
  | .up c a => upB (prm c) at_ (F a)
  | .dn c a b => dnB (prm c) at_ (F a) (F b)
def build (F : Nat → Nat) : Nat → List Od → List Od
  | _, [] => []
  | at_, o :: os => blockO F at_ o ++ build F (at_ + sizeO o) os
theorem build_zip (F : Nat → Nat) : ∀ (os : List Od) (at_ : Nat), ((ents at_ os).zip os).flatMap (fun e => blockO F e.1 e.2) = build F at_ os
  | [], at_ => rfl
  | o :: os, at_ => by
    show ((at_ :: ents (at_ + sizeO o) os).zip (o :: os)).flatMap _ = _
    rw [List.zip_cons_cons, List.flatMap_cons, build_zip F os]; rfl
theorem ents_len : ∀ (os : List Od) (at_ : Nat), (ents at_ os).length = os.length
  | [], _ => rfl
  | o :: os, at_ => by
    show (ents (at_ + sizeO o) os).length + 1 = os.length + 1
    rw [ents_len os]
theorem three_c {c : Nat} (h : c < 3) : c = 0 ∨ c = 1 ∨ c = 2 := by omega
theorem block_len {F : Nat → Nat} {at_ k m : Nat} {o : Od} (h : o.Ok k m) (hk : k ≤ 3) : (blockO F at_ o).length = sizeO o := by
  cases o with
  | non => rfl
  | up c a => rcases three_c (c := c) (by have := h.1; omega) with rfl | rfl | rfl <;> rfl
  | dn c a b => rcases three_c (c := c) (by have := h.1; omega) with rfl | rfl | rfl <;> rfl
theorem size_pos {o : Od} : 1 ≤ sizeO o := by
  cases o with
  | non => exact Nat.le_refl 1
  | up c a => show 1 ≤ prm c + 3; omega
  | dn c a b => show 1 ≤ prm c + 3 + _; omega
theorem build_len {F : Nat → Nat} {k m : Nat} (hk : k ≤ 3) : ∀ (os : List Od) (at_ : Nat), (∀ o ∈ os, o.Ok k m) → at_ + (build F at_ os).length = total at_ os
  | [], at_, _ => rfl
  | o :: os, at_, h => by
    show at_ + (blockO F at_ o ++ build F (at_ + sizeO o) os).length = total (at_ + sizeO o) os
    rw [List.length_append, block_len (h o List.mem_cons_self) hk, ← build_len (F := F) hk os (at_ + sizeO o) fun x hx => h x (List.mem_cons_of_mem _ hx)]
    omega
theorem build_at {F : Nat → Nat} {k m : Nat} (hk : k ≤ 3) : ∀ (os : List Od) (at_ i e : Nat) (o : Od), (∀ o ∈ os, o.Ok k m) → os[i]? = some o → (ents at_ os)[i]? = some e → at_ ≤ e ∧ e + sizeO o ≤ total at_ os ∧ ∀ j, j < sizeO o → (build F at_ os)[e - at_ + j]? = (blockO F e o)[j]?
  | [], at_, i, e, o, _, h, _ => by cases h
  | x :: os, at_, 0, e, o, hok, h, he => by
    cases h
    have he : at_ = e := Option.some.inj he
    subst he
    have hl := block_len (F := F) (at_ := at_) (hok x List.mem_cons_self) hk
    have tl := build_len (F := F) hk os (at_ + sizeO x) fun y hy => hok y (List.mem_cons_of_mem _ hy)
    refine ⟨Nat.le_refl _, by show _ ≤ total (at_ + sizeO x) os; omega, fun j hj => ?_⟩
    show (blockO F at_ x ++ build F (at_ + sizeO x) os)[at_ - at_ + j]? = _
    rw [Nat.sub_self, Nat.zero_add, List.getElem?_append_left (by omega)]
  | x :: os, at_, i + 1, e, o, hok, h, he => by
    obtain ⟨h1, h2, h3⟩ := build_at hk os (at_ + sizeO x) i e o (fun y hy => hok y (List.mem_cons_of_mem _ hy)) h he
    have hl := block_len (F := F) (at_ := at_) (hok x List.mem_cons_self) hk
    refine ⟨by omega, h2, fun j hj => ?_⟩
    show (blockO F at_ x ++ build F (at_ + sizeO x) os)[e - at_ + j]? = _
    rw [List.getElem?_append_right (by omega), hl, show e - at_ + j - sizeO x = e - (at_ + sizeO x) + j by omega]
    exact h3 j hj
theorem ents_gap : ∀ (os : List Od) (at_ i e x : Nat) (o : Od), os[i]? = some o → (ents at_ os)[i]? = some e → x ∈ ents at_ os → e < x → e + sizeO o ≤ x
  | [], at_, i, e, x, o, h, _, _, _ => by cases h
  | y :: os, at_, i, e, x, o, h, he, hx, hl => by
    have low : ∀ (os : List Od) (at_ x : Nat), x ∈ ents at_ os → at_ ≤ x := fun os => by
      induction os with
      | nil => intro at_ x hx; cases hx
      | cons z os ih =>
        intro at_ x hx
        rcases List.mem_cons.mp hx with rfl | hx
        · exact Nat.le_refl _
        · have := ih _ _ hx; omega
    rcases List.mem_cons.mp hx with rfl | hx
    · cases i with
      | zero =>
        have he : x = e := Option.some.inj he
        omega
      | succ i =>
        have := low os _ e (List.mem_of_getElem? (show (ents (x + sizeO y) os)[i]? = some e from he))
        omega
    · cases i with
      | zero =>
        cases h
        have he : at_ = e := Option.some.inj he
        subst he
        exact low os _ x hx
      | succ i => exact ents_gap os _ i e x o h he hx hl
/-! ### runs that touch nothing -/
structure Run (R : List Od) (B : CSt → Prop) (n : Nat) (x y : CSt) : Prop where
  it : itC R n x = some y
  ok : ∀ i, 1 ≤ i → i ≤ n → ∀ w, itC R i x = some w → ¬ B w
theorem Run.zero {R : List Od} {B : CSt → Prop} {x : CSt} : Run R B 0 x x := ⟨rfl, fun i h1 h2 => by omega⟩
theorem Run.one {R : List Od} {B : CSt → Prop} {x y : CSt} (h : stepC R x = some y) (hy : ¬ B y) : Run R B 1 x y := ⟨h, fun i h1 h2 w hw => by
  have : i = 1 := by omega
  subst this
  have hw : stepC R x = some w := hw
  rw [h] at hw; cases hw; exact hy⟩
theorem Run.trans {R : List Od} {B : CSt → Prop} {m n : Nat} {x y z : CSt} (h : Run R B m x y) (h2 : Run R B n y z) : Run R B (m + n) x z := ⟨by rw [itC_add, h.it]; exact h2.it, fun i h1 hi w hw => by
  by_cases hm : i ≤ m
  · exact h.ok i h1 hm w hw
  · obtain ⟨j, rfl⟩ : ∃ j, i = m + j := ⟨i - m, by omega⟩
    rw [itC_add, h.it] at hw
    exact h2.ok j (by omega) (by omega) w hw⟩
theorem Run.as {R : List Od} {B : CSt → Prop} {m n : Nat} {x y : CSt} (h : Run R B m x y) (e : m = n) : Run R B n x y := e ▸ h
def st2 (r u v : Nat) : CSt := (r, [(u : Int), (v : Int)])
section
variable {R : List Od} {r a b u v : Nat}
theorem s_up0 (h : R[r]? = some (.up 0 a)) : stepC R (st2 r u v) = some (st2 a (u + 1) v) := by
  unfold stepC st2; simp only [h]; rfl
theorem s_up1 (h : R[r]? = some (.up 1 a)) : stepC R (st2 r u v) = some (st2 a u (v + 1)) := by
  unfold stepC st2; simp only [h]; rfl
theorem s_dn0 (h : R[r]? = some (.dn 0 a b)) : stepC R (st2 r (u + 1) v) = some (st2 a u v) := by
  unfold stepC st2; simp only [h]
  rw [if_neg (by show ¬ ((u + 1 : Nat) : Int) = 0; omega)]
  show some (a, [((u + 1 : Nat) : Int) + -1, (v : Int)]) = _
  rw [show ((u + 1 : Nat) : Int) + -1 = u by omega]
theorem s_dn0z (h : R[r]? = some (.dn 0 a b)) : stepC R (st2 r 0 v) = some (st2 b 0 v) := by
  unfold stepC st2; simp only [h]; rfl
theorem s_dn1 (h : R[r]? = some (.dn 1 a b)) : stepC R (st2 r u (v + 1)) = some (st2 a u v) := by
  unfold stepC st2; simp only [h]
  rw [if_neg (by show ¬ ((v + 1 : Nat) : Int) = 0; omega)]
  show some (a, [(u : Int), ((v + 1 : Nat) : Int) + -1]) = _
  rw [show ((v + 1 : Nat) : Int) + -1 = v by omega]
theorem s_dn1z (h : R[r]? = some (.dn 1 a b)) : stepC R (st2 r u 0) = some (st2 b u 0) := by
  unfold stepC st2; simp only [h]; rfl
end
def hitE (E : List Nat) (z : CSt) : Prop := z.1 ∈ E ∧ z.2.getD 1 0 = 0
theorem nohit_r {E : List Nat} {r u v : Nat} (h : r ∉ E) : ¬ hitE E (st2 r u v) := fun x => h x.1
theorem nohit_v {E : List Nat} {r u v : Nat} (h : 0 < v) : ¬ hitE E (st2 r u v) := fun x => by
  have := x.2
  have : (v : Int) = 0 := this
  omega
section
variable {R : List Od} {E : List Nat}
/-- n times one more in the first counter, or in the second -/
theorem ups0 : ∀ (n r t u v : Nat), 1 ≤ n → (∀ i, i < n → R[r + i]? = some (.up 0 (if i + 1 = n then t else r + i + 1))) → (∀ i, 0 < i → i < n → r + i ∉ E) → ¬ hitE E (st2 t (u + n) v) → Run R (hitE E) n (st2 r u v) (st2 t (u + n) v)
  | 0, r, t, u, v, h, _, _, _ => by omega
  | 1, r, t, u, v, _, h, _, ht => Run.one (s_up0 (by have := h 0 (by omega); rwa [if_pos rfl] at this)) ht
  | n + 2, r, t, u, v, _, h, hE, ht => by
    have h0 := h 0 (by omega)
    rw [if_neg (by omega)] at h0
    have s1 : Run R (hitE E) 1 (st2 r u v) (st2 (r + 1) (u + 1) v) := Run.one (s_up0 h0) (nohit_r (hE 1 (by omega) (by omega)))
    have s2 := ups0 (n + 1) (r + 1) t (u + 1) v (by omega) (fun i hi => by
      have := h (i + 1) (by omega)
      rw [show r + (i + 1) = r + 1 + i by omega] at this
      rw [this]
      by_cases q : i + 1 = n + 1
      · rw [if_pos q, if_pos (by omega)]
      · rw [if_neg q, if_neg (by omega)]) (fun i h1 h2 => by
      have := hE (i + 1) (by omega) (by omega)
      rwa [show r + (i + 1) = r + 1 + i by omega] at this) (by rwa [show u + 1 + (n + 1) = u + (n + 2) by omega])
    rw [show u + 1 + (n + 1) = u + (n + 2) by omega] at s2
    exact (s1.trans s2).as (by omega)
theorem ups1 : ∀ (n r t u v : Nat), 1 ≤ n → (∀ i, i < n → R[r + i]? = some (.up 1 (if i + 1 = n then t else r + i + 1))) → (∀ i, 0 < i → i < n → r + i ∉ E) → ¬ hitE E (st2 t u (v + n)) → Run R (hitE E) n (st2 r u v) (st2 t u (v + n))
  | 0, r, t, u, v, h, _, _, _ => by omega
  | 1, r, t, u, v, _, h, _, ht => Run.one (s_up1 (by have := h 0 (by omega); rwa [if_pos rfl] at this)) ht
  | n + 2, r, t, u, v, _, h, hE, ht => by
    have h0 := h 0 (by omega)
    rw [if_neg (by omega)] at h0
    have s1 : Run R (hitE E) 1 (st2 r u v) (st2 (r + 1) u (v + 1)) := Run.one (s_up1 h0) (nohit_v (by omega))
    have s2 := ups1 (n + 1) (r + 1) t u (v + 1) (by omega) (fun i hi => by
      have := h (i + 1) (by omega)
      rw [show r + (i + 1) = r + 1 + i by omega] at this
      rw [this]
      by_cases q : i + 1 = n + 1
      · rw [if_pos q, if_pos (by omega)]
      · rw [if_neg q, if_neg (by omega)]) (fun i h1 h2 => by
      have := hE (i + 1) (by omega) (by omega)
      rwa [show r + (i + 1) = r + 1 + i by omega] at this) (by rwa [show v + 1 + (n + 1) = v + (n + 2) by omega])
    rw [show v + 1 + (n + 1) = v + (n + 2) by omega] at s2
    exact (s1.trans s2).as (by omega)
/-- rounds: one less in the second counter, q more in the first -/
theorem cyc0 {h q x : Nat} (hq : 1 ≤ q) (h0 : R[h]? = some (.dn 1 (h + 1) x)) (h1 : ∀ i, i < q → R[h + 1 + i]? = some (.up 0 (if i + 1 = q then h else h + 1 + i + 1))) (hE : ∀ i, i < q → h + 1 + i ∉ E) (hh : h ∉ E) : ∀ v u, Run R (hitE E) (v * (q + 1)) (st2 h u v) (st2 h (u + v * q) 0)
  | 0, u => by rw [Nat.zero_mul, Nat.zero_mul]; exact Run.zero
  | v + 1, u => by
    have s1 : Run R (hitE E) 1 (st2 h u (v + 1)) (st2 (h + 1) u v) := Run.one (s_dn1 h0) (nohit_r (hE 0 (by omega)))
    have s2 := ups0 (E := E) q (h + 1) h u v hq h1 (fun i _ hi => hE i hi) (nohit_r hh)
    have s3 := cyc0 hq h0 h1 hE hh v (u + q)
    have e : u + q + v * q = u + (v + 1) * q := by rw [Nat.add_mul]; omega
    rw [e] at s3
    exact ((s1.trans s2).trans s3).as (by rw [Nat.add_mul (v) 1]; omega)
/-- rounds: one less in the first counter, q more in the second -/
theorem cyc1 {h q x : Nat} (hq : 1 ≤ q) (h0 : R[h]? = some (.dn 0 (h + 1) x)) (h1 : ∀ i, i < q → R[h + 1 + i]? = some (.up 1 (if i + 1 = q then h else h + 1 + i + 1))) (hE : ∀ i, i < q → h + 1 + i ∉ E) : ∀ u v, Run R (hitE E) (u * (q + 1)) (st2 h u v) (st2 h 0 (v + u * q))
  | 0, v => by rw [Nat.zero_mul, Nat.zero_mul]; exact Run.zero
  | u + 1, v => by
    have s1 : Run R (hitE E) 1 (st2 h (u + 1) v) (st2 (h + 1) u v) := Run.one (s_dn0 h0) (nohit_r (hE 0 (by omega)))
    have s2 := ups1 (E := E) q (h + 1) h u v hq h1 (fun i _ hi => hE i hi) (nohit_v (by omega))
    have s3 := cyc1 hq h0 h1 hE u (v + q)
    have e : v + q + u * q = v + (u + 1) * q := by rw [Nat.add_mul]; omega
    rw [e] at s3
    exact ((s1.trans s2).trans s3).as (by rw [Nat.add_mul u 1]; omega)
/-- n times one less in the first counter -/
theorem downs {h : Nat} {F : Nat → Nat} : ∀ (n u v : Nat), (∀ i, i < n → R[h + i]? = some (.dn 0 (h + i + 1) (F i))) → (∀ i, 0 < i → i ≤ n → h + i ∉ E) → Run R (hitE E) n (st2 h (u + n) v) (st2 (h + n) u v)
  | 0, u, v, _, _ => Run.zero
  | n + 1, u, v, h0, hE => by
    have s1 := downs n (u + 1) v (fun i hi => h0 i (by omega)) (fun i a b => hE i a (by omega))
    rw [show u + 1 + n = u + (n + 1) by omega] at s1
    exact s1.trans (Run.one (s_dn0 (h0 n (by omega))) (nohit_r (hE (n + 1) (by omega) (by omega))))
/-- rounds: p less in the first counter, one more in the second -/
theorem cycp {h p : Nat} {F : Nat → Nat} (hp : 1 ≤ p) (h0 : ∀ i, i < p → R[h + i]? = some (.dn 0 (h + i + 1) (F i))) (h1 : R[h + p]? = some (.up 1 h)) (hE : ∀ i, 0 < i → i ≤ p → h + i ∉ E) : ∀ q r v, Run R (hitE E) (q * (p + 1)) (st2 h (r + q * p) v) (st2 h r (v + q))
  | 0, r, v => by rw [Nat.zero_mul, Nat.zero_mul]; exact Run.zero
  | q + 1, r, v => by
    have s1 := downs (E := E) p (r + q * p) v h0 hE
    have s2 : Run R (hitE E) 1 (st2 (h + p) (r + q * p) v) (st2 h (r + q * p) (v + 1)) := Run.one (s_up1 h1) (nohit_v (by omega))
    have s3 := cycp hp h0 h1 hE q r (v + 1)
    have e : r + q * p + p = r + (q + 1) * p := by rw [Nat.add_mul]; omega
    rw [e] at s1
    rw [show v + 1 + q = v + (q + 1) by omega] at s3
    exact ((s1.trans s2).trans s3).as (by rw [Nat.add_mul q 1]; omega)
end
end Core
end
section
set_option maxRecDepth 100000
set_option maxHeartbeats 4000000
/-! T1: two counters, plainly: what the rows of one order do. -/
namespace Core
open PySem L2
structure UpBlk (R : List Od) (E : List Nat) (p e t : Nat) : Prop where
  a : R[e]? = some (.dn 0 (e + 1) (e + 1 + p))
  b : ∀ i, i < p → R[e + 1 + i]? = some (.up 1 (if i + 1 = p then e else e + 1 + i + 1))
  c : R[e + 1 + p]? = some (.dn 1 (e + 1 + p + 1) t)
  d : R[e + 1 + p + 1]? = some (.up 0 (e + 1 + p))
  E : ∀ j, 0 < j → j < p + 3 → e + j ∉ E
theorem go_up {R : List Od} {E : List Nat} {p e t N : Nat} (h : UpBlk R E p e t) (hp : 1 ≤ p) (hN : 1 ≤ N) : Run R (hitE E) (N * (p + 1) + 1 + N * p * 2) (st2 e N 0) (st2 (e + 1 + p) (N * p) 0) ∧ stepC R (st2 (e + 1 + p) (N * p) 0) = some (st2 t (N * p) 0) := by
  have nE : e + 1 + p ∉ E := by have := h.E (1 + p) (by omega) (by omega); rwa [show e + (1 + p) = e + 1 + p by omega] at this
  have s1 := cyc1 (E := E) hp h.a h.b (fun i hi => by have := h.E (1 + i) (by omega) (by omega); rwa [show e + (1 + i) = e + 1 + i by omega] at this) N 0
  rw [Nat.zero_add] at s1
  have s2 : Run R (hitE E) 1 (st2 e 0 (N * p)) (st2 (e + 1 + p) 0 (N * p)) := Run.one (s_dn0z h.a) (nohit_r nE)
  have s3 := cyc0 (E := E) (q := 1) (h := e + 1 + p) (Nat.le_refl _) h.c (fun i hi => by
    have : i = 0 := by omega
    subst this
    exact h.d) (fun i hi => by
    have : i = 0 := by omega
    subst this
    have := h.E (1 + p + 1) (by omega) (by omega)
    rwa [show e + (1 + p + 1) = e + 1 + p + 1 + 0 by omega] at this) nE (N * p) 0
  rw [Nat.zero_add, Nat.mul_one] at s3
  exact ⟨(s1.trans s2).trans s3, s_dn1z h.c⟩
/-- the rows for one rest -/
theorem fin_r {R : List Od} {E : List Nat} {p h r tb : Nat} (hp : 1 ≤ p) (h0 : R[h]? = some (.dn 1 (h + 1) (h + 1 + p))) (h1 : ∀ i, i < p → R[h + 1 + i]? = some (.up 0 (if i + 1 = p then h else h + 1 + i + 1))) (h2 : ∀ i, i < r → R[h + 1 + p + i]? = some (.up 0 (if i + 1 = r then tb else h + 1 + p + i + 1)))
    (hE : ∀ j, j ≤ p + r → h + j ∉ E) (hr : 1 ≤ r) (q : Nat) : ∃ y, Run R (hitE E) (q * (p + 1) + 1 + (r - 1)) (st2 h 0 q) y ∧ stepC R y = some (st2 tb (q * p + r) 0) := by
  have s1 := cyc0 (E := E) hp h0 h1 (fun i hi => by have := hE (1 + i) (by omega); rwa [show h + (1 + i) = h + 1 + i by omega] at this) (hE 0 (by omega)) q 0
  rw [Nat.zero_add] at s1
  have nE : h + 1 + p ∉ E := by have := hE (1 + p) (by omega); rwa [show h + (1 + p) = h + 1 + p by omega] at this
  have s2 : Run R (hitE E) 1 (st2 h (q * p) 0) (st2 (h + 1 + p) (q * p) 0) := Run.one (s_dn1z h0) (nohit_r nE)
  have last := h2 (r - 1) (by omega)
  rw [if_pos (by omega)] at last
  by_cases hr1 : r = 1
  · subst hr1
    exact ⟨_, (s1.trans s2).as (by omega), s_up0 last⟩
  · have nE2 : h + 1 + p + (r - 1) ∉ E := by have := hE (1 + p + (r - 1)) (by omega); rwa [show h + (1 + p + (r - 1)) = h + 1 + p + (r - 1) by omega] at this
    have s3 := ups0 (R := R) (E := E) (r - 1) (h + 1 + p) (h + 1 + p + (r - 1)) (q * p) 0 (by omega) (fun i hi => by
      have := h2 i (by omega)
      rw [if_neg (by omega)] at this
      rw [this]
      by_cases z : i + 1 = r - 1
      · rw [if_pos z]; congr 2; omega
      · rw [if_neg z]) (fun i a b => by have := hE (1 + p + i) (by omega); rwa [show h + (1 + p + i) = h + 1 + p + i by omega] at this) (nohit_r nE2)
    refine ⟨_, (s1.trans s2).trans s3, ?_⟩
    rw [s_up0 last, show q * p + (r - 1) + 1 = q * p + r by omega]
structure DnBlk (R : List Od) (E : List Nat) (p e ta tb s : Nat) : Prop where
  a : ∀ i, i < p → R[e + i]? = some (.dn 0 (e + i + 1) (rst p e i))
  b : R[e + p]? = some (.up 1 e)
  c : R[e + p + 1]? = some (.dn 1 (e + p + 1 + 1) ta)
  d : R[e + p + 1 + 1]? = some (.up 0 (e + p + 1))
  r0 : ∀ r, 1 ≤ r → r < p → R[rst p e r]? = some (.dn 1 (rst p e r + 1) (rst p e r + 1 + p))
  r1 : ∀ r, 1 ≤ r → r < p → ∀ i, i < p → R[rst p e r + 1 + i]? = some (.up 0 (if i + 1 = p then rst p e r else rst p e r + 1 + i + 1))
  r2 : ∀ r, 1 ≤ r → r < p → ∀ i, i < r → R[rst p e r + 1 + p + i]? = some (.up 0 (if i + 1 = r then tb else rst p e r + 1 + p + i + 1))
  f : ∀ r, 1 ≤ r → r < p → e < rst p e r ∧ rst p e r + p + r < e + s
  sz : p + 3 ≤ s
  E : ∀ j, 0 < j → j < s → e + j ∉ E
theorem go_dn {R : List Od} {E : List Nat} {p e ta tb s N : Nat} (h : DnBlk R E p e ta tb s) (hp : 1 ≤ p) : ∃ n y, n ≤ N * (p + 1) * 2 + 2 + 2 * p ∧ Run R (hitE E) n (st2 e N 0) y ∧ stepC R y = some (if N % p = 0 then st2 ta (N / p) 0 else st2 tb N 0) := by
  have hN : N % p + N / p * p = N := by rw [Nat.mul_comm]; exact Nat.mod_add_div N p
  have hr : N % p < p := Nat.mod_lt _ (by omega)
  generalize N % p = r at hN hr
  generalize N / p = q at hN
  have hsz := h.sz
  have s1 := cycp (E := E) (F := rst p e) hp h.a h.b (fun i h1 h2 => h.E i h1 (by omega)) q r 0
  rw [hN, Nat.zero_add] at s1
  have s2 := downs (R := R) (E := E) (h := e) (F := rst p e) r 0 q (fun i hi => h.a i (by omega)) (fun i h1 h2 => h.E i h1 (by omega))
  rw [Nat.zero_add] at s2
  have hq : q * (p + 1) ≤ N * (p + 1) := Nat.mul_le_mul_right _ (by
    have : q * 1 ≤ q * p := Nat.mul_le_mul_left q hp
    omega)
  have hq2 : q * 2 ≤ q * (p + 1) := Nat.mul_le_mul_left q (by omega)
  by_cases hr0 : r = 0
  · subst hr0
    rw [if_pos rfl]
    have nE : e + p + 1 ∉ E := by have := h.E (p + 1) (by omega) (by omega); rwa [show e + (p + 1) = e + p + 1 by omega] at this
    have s3 : Run R (hitE E) 1 (st2 e 0 q) (st2 (e + p + 1) 0 q) := Run.one (s_dn0z (h.a 0 (by omega))) (nohit_r nE)
    have s4 := cyc0 (E := E) (q := 1) (h := e + p + 1) (Nat.le_refl _) h.c (fun i hi => by
      have : i = 0 := by omega
      subst this
      exact h.d) (fun i hi => by
      have : i = 0 := by omega
      subst this
      have := h.E (p + 1 + 1) (by omega) (by omega)
      rwa [show e + (p + 1 + 1) = e + p + 1 + 1 + 0 by omega] at this) nE q 0
    rw [Nat.zero_add, Nat.mul_one] at s4
    exact ⟨_, _, by omega, (s1.trans s3).trans s4, s_dn1z h.c⟩
  · rw [if_neg hr0]
    obtain ⟨f1, f2⟩ := h.f r (by omega) hr
    have nE : ∀ j, j ≤ p + r → rst p e r + j ∉ E := fun j hj => by
      have := h.E (rst p e r + j - e) (by omega) (by omega)
      rwa [show e + (rst p e r + j - e) = rst p e r + j by omega] at this
    have s3 : Run R (hitE E) 1 (st2 (e + r) 0 q) (st2 (rst p e r) 0 q) := Run.one (s_dn0z (h.a r hr)) (nohit_r (nE 0 (by omega)))
    obtain ⟨y, s4, s5⟩ := fin_r (E := E) hp (h.r0 r (by omega) hr) (h.r1 r (by omega) hr) (h.r2 r (by omega) hr) nE (by omega) q
    refine ⟨_, y, ?_, (((s1.trans s2).trans s3).trans s4), ?_⟩
    · omega
    · rw [s5, show q * p + r = N by omega]
theorem blk_up {R : List Od} {E : List Nat} {p e t : Nat} (hp : p = 2 ∨ p = 3 ∨ p = 5) (look : ∀ j, j < p + 3 → R[e + j]? = (upB p e t)[j]?) (hE : ∀ j, 0 < j → j < p + 3 → e + j ∉ E) : UpBlk R E p e t := by
  have g : ∀ j i, j = e + i → i < p + 3 → R[j]? = (upB p e t)[i]? := fun j i h1 h2 => by rw [h1]; exact look i h2
  rcases hp with rfl | rfl | rfl
  · refine ⟨g _ 0 rfl (by omega), fun i hi => ?_, g _ 3 rfl (by omega), g _ 4 rfl (by omega), hE⟩
    rcases (by omega : i = 0 ∨ i = 1) with rfl | rfl
    · exact g _ 1 rfl (by omega)
    · exact g _ 2 rfl (by omega)
  · refine ⟨g _ 0 rfl (by omega), fun i hi => ?_, g _ 4 rfl (by omega), g _ 5 rfl (by omega), hE⟩
    rcases (by omega : i = 0 ∨ i = 1 ∨ i = 2) with rfl | rfl | rfl
    · exact g _ 1 rfl (by omega)
    · exact g _ 2 rfl (by omega)
    · exact g _ 3 rfl (by omega)
  · refine ⟨g _ 0 rfl (by omega), fun i hi => ?_, g _ 6 rfl (by omega), g _ 7 rfl (by omega), hE⟩
    rcases (by omega : i = 0 ∨ i = 1 ∨ i = 2 ∨ i = 3 ∨ i = 4) with rfl | rfl | rfl | rfl | rfl
    · exact g _ 1 rfl (by omega)
    · exact g _ 2 rfl (by omega)
    · exact g _ 3 rfl (by omega)
    · exact g _ 4 rfl (by omega)
    · exact g _ 5 rfl (by omega)
theorem blk_dn {R : List Od} {E : List Nat} {p e ta tb s : Nat} (hp : (p = 2 ∧ s = 9) ∨ (p = 3 ∧ s = 17) ∨ (p = 5 ∧ s = 42)) (look : ∀ j, j < s → R[e + j]? = (dnB p e ta tb)[j]?) (hE : ∀ j, 0 < j → j < s → e + j ∉ E) : DnBlk R E p e ta tb s := by
  have g : ∀ j i, j = e + i → i < s → R[j]? = (dnB p e ta tb)[i]? := fun j i h1 h2 => by rw [h1]; exact look i h2
  rcases hp with ⟨rfl, rfl⟩ | ⟨rfl, rfl⟩ | ⟨rfl, rfl⟩
  · refine ⟨fun i hi => ?_, g _ 2 rfl (by omega), g _ 3 rfl (by omega), g _ 4 rfl (by omega), fun r h1 h2 => ?_, fun r h1 h2 i hi => ?_, fun r h1 h2 i hi => ?_, fun r h1 h2 => ?_, by omega, hE⟩
    · rcases (by omega : i = 0 ∨ i = 1) with rfl | rfl
      · exact g _ 0 rfl (by omega)
      · exact g _ 1 rfl (by omega)
    · obtain rfl : r = 1 := by omega
      exact g _ 5 rfl (by omega)
    · obtain rfl : r = 1 := by omega
      rcases (by omega : i = 0 ∨ i = 1) with rfl | rfl
      · exact g _ 6 rfl (by omega)
      · exact g _ 7 rfl (by omega)
    · obtain rfl : r = 1 := by omega
      obtain rfl : i = 0 := by omega
      exact g _ 8 rfl (by omega)
    · obtain rfl : r = 1 := by omega
      exact (show e < e + 5 ∧ e + 5 + 2 + 1 < e + 9 by omega)
  · refine ⟨fun i hi => ?_, g _ 3 rfl (by omega), g _ 4 rfl (by omega), g _ 5 rfl (by omega), fun r h1 h2 => ?_, fun r h1 h2 i hi => ?_, fun r h1 h2 i hi => ?_, fun r h1 h2 => ?_, by omega, hE⟩
    · rcases (by omega : i = 0 ∨ i = 1 ∨ i = 2) with rfl | rfl | rfl
      · exact g _ 0 rfl (by omega)
      · exact g _ 1 rfl (by omega)
      · exact g _ 2 rfl (by omega)
    · rcases (by omega : r = 1 ∨ r = 2) with rfl | rfl
      · exact g _ 6 rfl (by omega)
      · exact g _ 11 rfl (by omega)
    · rcases (by omega : r = 1 ∨ r = 2) with rfl | rfl
      · rcases (by omega : i = 0 ∨ i = 1 ∨ i = 2) with rfl | rfl | rfl
        · exact g _ 7 rfl (by omega)
        · exact g _ 8 rfl (by omega)
        · exact g _ 9 rfl (by omega)
      · rcases (by omega : i = 0 ∨ i = 1 ∨ i = 2) with rfl | rfl | rfl
        · exact g _ 12 rfl (by omega)
        · exact g _ 13 rfl (by omega)
        · exact g _ 14 rfl (by omega)
    · rcases (by omega : r = 1 ∨ r = 2) with rfl | rfl
      · obtain rfl : i = 0 := by omega
        exact g _ 10 rfl (by omega)
      · rcases (by omega : i = 0 ∨ i = 1) with rfl | rfl
        · exact g _ 15 rfl (by omega)
        · exact g _ 16 rfl (by omega)
    · rcases (by omega : r = 1 ∨ r = 2) with rfl | rfl
      · exact (show e < e + 6 ∧ e + 6 + 3 + 1 < e + 17 by omega)
      · exact (show e < e + 11 ∧ e + 11 + 3 + 2 < e + 17 by omega)
  · refine ⟨fun i hi => ?_, g _ 5 rfl (by omega), g _ 6 rfl (by omega), g _ 7 rfl (by omega), fun r h1 h2 => ?_, fun r h1 h2 i hi => ?_, fun r h1 h2 i hi => ?_, fun r h1 h2 => ?_, by omega, hE⟩
    · rcases (by omega : i = 0 ∨ i = 1 ∨ i = 2 ∨ i = 3 ∨ i = 4) with rfl | rfl | rfl | rfl | rfl
      · exact g _ 0 rfl (by omega)
      · exact g _ 1 rfl (by omega)
      · exact g _ 2 rfl (by omega)
      · exact g _ 3 rfl (by omega)
      · exact g _ 4 rfl (by omega)
    · rcases (by omega : r = 1 ∨ r = 2 ∨ r = 3 ∨ r = 4) with rfl | rfl | rfl | rfl
      · exact g _ 8 rfl (by omega)
      · exact g _ 15 rfl (by omega)
      · exact g _ 23 rfl (by omega)
      · exact g _ 32 rfl (by omega)
    · rcases (by omega : r = 1 ∨ r = 2 ∨ r = 3 ∨ r = 4) with rfl | rfl | rfl | rfl
      · rcases (by omega : i = 0 ∨ i = 1 ∨ i = 2 ∨ i = 3 ∨ i = 4) with rfl | rfl | rfl | rfl | rfl
        · exact g _ 9 rfl (by omega)
        · exact g _ 10 rfl (by omega)
        · exact g _ 11 rfl (by omega)
        · exact g _ 12 rfl (by omega)
        · exact g _ 13 rfl (by omega)
      · rcases (by omega : i = 0 ∨ i = 1 ∨ i = 2 ∨ i = 3 ∨ i = 4) with rfl | rfl | rfl | rfl | rfl
        · exact g _ 16 rfl (by omega)
        · exact g _ 17 rfl (by omega)
        · exact g _ 18 rfl (by omega)
        · exact g _ 19 rfl (by omega)
        · exact g _ 20 rfl (by omega)
      · rcases (by omega : i = 0 ∨ i = 1 ∨ i = 2 ∨ i = 3 ∨ i = 4) with rfl | rfl | rfl | rfl | rfl
        · exact g _ 24 rfl (by omega)
        · exact g _ 25 rfl (by omega)
        · exact g _ 26 rfl (by omega)
        · exact g _ 27 rfl (by omega)
        · exact g _ 28 rfl (by omega)
      · rcases (by omega : i = 0 ∨ i = 1 ∨ i = 2 ∨ i = 3 ∨ i = 4) with rfl | rfl | rfl | rfl | rfl
        · exact g _ 33 rfl (by omega)
        · exact g _ 34 rfl (by omega)
        · exact g _ 35 rfl (by omega)
        · exact g _ 36 rfl (by omega)
        · exact g _ 37 rfl (by omega)
    · rcases (by omega : r = 1 ∨ r = 2 ∨ r = 3 ∨ r = 4) with rfl | rfl | rfl | rfl
      · obtain rfl : i = 0 := by omega
        exact g _ 14 rfl (by omega)
      · rcases (by omega : i = 0 ∨ i = 1) with rfl | rfl
        · exact g _ 21 rfl (by omega)
        · exact g _ 22 rfl (by omega)
      · rcases (by omega : i = 0 ∨ i = 1 ∨ i = 2) with rfl | rfl | rfl
        · exact g _ 29 rfl (by omega)
        · exact g _ 30 rfl (by omega)
        · exact g _ 31 rfl (by omega)
      · rcases (by omega : i = 0 ∨ i = 1 ∨ i = 2 ∨ i = 3) with rfl | rfl | rfl | rfl
        · exact g _ 38 rfl (by omega)
        · exact g _ 39 rfl (by omega)
        · exact g _ 40 rfl (by omega)
        · exact g _ 41 rfl (by omega)
    · rcases (by omega : r = 1 ∨ r = 2 ∨ r = 3 ∨ r = 4) with rfl | rfl | rfl | rfl
      · exact (show e < e + 8 ∧ e + 8 + 5 + 1 < e + 42 by omega)
      · exact (show e < e + 15 ∧ e + 15 + 5 + 2 < e + 42 by omega)
      · exact (show e < e + 23 ∧ e + 23 + 5 + 3 < e + 42 by omega)
      · exact (show e < e + 32 ∧ e + 32 + 5 + 4 < e + 42 by omega)
end Core
end
section
set_option maxRecDepth 100000
set_option maxHeartbeats 4000000
/-! T2: two counters, plainly: products; what the rows do. -/
namespace Core
open PySem L2
def pw : List Nat → List Int → Nat
  | p :: ps, v :: vs => p ^ v.toNat * pw ps vs
  | _, _ => 1
theorem pw_pos : ∀ (ps : List Nat) (vs : List Int), (∀ p ∈ ps, 1 ≤ p) → 1 ≤ pw ps vs
  | [], vs, _ => by cases vs <;> exact Nat.le_refl 1
  | p :: ps, [], _ => Nat.le_refl 1
  | p :: ps, v :: vs, h => Nat.mul_pos (Nat.pow_pos (h p List.mem_cons_self)) (pw_pos ps vs fun q hq => h q (List.mem_cons_of_mem _ hq))
theorem addAt_z {v : Int} {vs : List Int} {d : Int} : addAt (v :: vs) 0 d = (v + d) :: vs := rfl
theorem addAt_s {v : Int} {vs : List Int} {c : Nat} {d : Int} : addAt (v :: vs) (c + 1) d = v :: addAt vs c d := rfl
theorem pw_up : ∀ (ps : List Nat) (vs : List Int) (c : Nat), c < ps.length → c < vs.length → (∀ v ∈ vs, 0 ≤ v) → pw ps (addAt vs c 1) = pw ps vs * ps.getD c 0
  | [], _, _, h, _, _ => by cases h
  | _ :: _, [], _, _, h, _ => by cases h
  | p :: ps, v :: vs, 0, _, _, hv => by
    rw [addAt_z]
    show p ^ (v + 1).toNat * pw ps vs = p ^ v.toNat * pw ps vs * p
    have := hv v List.mem_cons_self
    rw [show (v + 1).toNat = v.toNat + 1 by omega, Nat.pow_succ, Nat.mul_assoc, Nat.mul_assoc, Nat.mul_comm p]
  | p :: ps, v :: vs, c + 1, h1, h2, hv => by
    rw [addAt_s]
    show p ^ v.toNat * pw ps (addAt vs c 1) = p ^ v.toNat * pw ps vs * ps.getD c 0
    rw [pw_up ps vs c (by simpa using h1) (by simpa using h2) fun x hx => hv x (List.mem_cons_of_mem _ hx), Nat.mul_assoc]
theorem addAt_back {vs : List Int} {c : Nat} (h : c < vs.length) : addAt (addAt vs c (-1)) c 1 = vs := by
  unfold addAt
  refine List.ext_getElem (by simp) fun i h1 h2 => ?_
  rw [List.getElem_set]
  split
  · rename_i e
    subst e
    simp [List.getD_eq_getElem?_getD, h]
    omega
  · rename_i e
    rw [List.getElem_set]
    rw [if_neg e]
theorem pw_cop {q : Nat} : ∀ (ps : List Nat) (vs : List Int), (∀ (i p : Nat) (v : Int), ps[i]? = some p → vs[i]? = some v → v.toNat = 0 ∨ Nat.Coprime q p) → Nat.Coprime q (pw ps vs)
  | [], vs, _ => by cases vs <;> exact Nat.coprime_one_right q
  | p :: ps, [], _ => Nat.coprime_one_right q
  | p :: ps, v :: vs, h => by
    show Nat.Coprime q (p ^ v.toNat * pw ps vs)
    refine Nat.Coprime.mul_right ?_ (pw_cop ps vs fun i p' v' h1 h2 => h (i + 1) p' v' h1 h2)
    rcases h 0 p v rfl rfl with e | e
    · rw [e]; exact Nat.coprime_one_right q
    · exact Nat.Coprime.pow_right _ e
theorem primes_cop : ∀ c, c < 5 → ∀ i, i < 5 → c ≠ i → Nat.Coprime (primes.getD c 0) (primes.getD i 0) := by decide
theorem primes_two : ∀ c, c < 5 → 2 ≤ primes.getD c 0 := by decide
theorem primes_len : primes.length = 5 := rfl
theorem primes_at {i p : Nat} (h : primes[i]? = some p) : i < 5 ∧ p = primes.getD i 0 := by
  have hi := (List.getElem?_eq_some_iff.mp h).1
  exact ⟨hi, by rw [List.getD_eq_getElem?_getD, h]; rfl⟩
theorem pw_nd {vs : List Int} {c : Nat} (hc : c < 5) (hz : vs.getD c 0 = 0) : pw primes vs % primes.getD c 0 ≠ 0 := fun h => by
  have h2 := primes_two c hc
  have cop : Nat.Coprime (primes.getD c 0) (pw primes vs) := pw_cop primes vs fun i p v h1 hv => by
    obtain ⟨hi, rfl⟩ := primes_at h1
    by_cases e : c = i
    · subst e
      rw [List.getD_eq_getElem?_getD, hv] at hz
      have hz : v = 0 := hz
      subst hz
      exact .inl rfl
    · exact .inr (primes_cop c hc i hi e)
  have d : primes.getD c 0 ∣ pw primes vs := Nat.dvd_of_mod_eq_zero h
  have := Nat.Coprime.eq_one_of_dvd cop d
  omega
theorem p35 {c : Nat} (h : c < 3) : prm c = 2 ∨ prm c = 3 ∨ prm c = 5 := by
  rcases three_c h with rfl | rfl | rfl
  · exact .inl rfl
  · exact .inr (.inl rfl)
  · exact .inr (.inr rfl)
theorem p35s {c a b : Nat} (h : c < 3) : (prm c = 2 ∧ sizeO (.dn c a b) = 9) ∨ (prm c = 3 ∧ sizeO (.dn c a b) = 17) ∨ (prm c = 5 ∧ sizeO (.dn c a b) = 42) := by
  rcases three_c h with rfl | rfl | rfl
  · exact .inl ⟨rfl, rfl⟩
  · exact .inr (.inl ⟨rfl, rfl⟩)
  · exact .inr (.inr ⟨rfl, rfl⟩)
/-- the machine with two counters -/
def EofC (C : Cn) : List Nat := ents 0 C.rows
def FofC (C : Cn) (a : Nat) : Nat := (EofC C).getD a 0
def RofC (C : Cn) : List Od := build (FofC C) 0 C.rows
theorem ent_at {C : Cn} {r : Nat} (h : r < C.rows.length) : (EofC C)[r]? = some (FofC C r) := by
  have hl : r < (EofC C).length := by unfold EofC; rw [ents_len]; exact h
  unfold FofC
  rw [List.getD_eq_getElem?_getD, List.getElem?_eq_getElem hl]; rfl
theorem ent_mem {C : Cn} {r : Nat} (h : r < C.rows.length) : FofC C r ∈ EofC C := List.mem_of_getElem? (ent_at h)
theorem two_block {C : Cn} (g : GoodC C) (k3 : C.k ≤ 3) {r : Nat} {o : Od} (h : C.rows[r]? = some o) : FofC C r + sizeO o ≤ total 0 C.rows ∧ (∀ j, j < sizeO o → (RofC C)[FofC C r + j]? = (blockO (FofC C) (FofC C r) o)[j]?) ∧ ∀ j, 0 < j → j < sizeO o → FofC C r + j ∉ EofC C := by
  have hr := (List.getElem?_eq_some_iff.mp h).1
  obtain ⟨_, h2, h3⟩ := build_at (F := FofC C) k3 C.rows 0 r (FofC C r) o g.od h (ent_at hr)
  refine ⟨h2, fun j hj => ?_, fun j h1 hj hm => ?_⟩
  · have := h3 j hj
    rwa [Nat.sub_zero] at this
  · have := ents_gap C.rows 0 r (FofC C r) (FofC C r + j) o h (ent_at hr) hm (by omega)
    omega
/-- one step of the first machine -/
theorem two_goes {C : Cn} {x y : CSt} (g : GoodC C) (k3 : C.k ≤ 3) (gx : GoodX C x) (hs : stepC C.rows x = some y) (hN : pw primes x.2 ≤ 300) : ∃ n z, n < 6000 ∧ Run (RofC C) (hitE (EofC C)) n (st2 (FofC C x.1) (pw primes x.2) 0) z ∧ stepC (RofC C) z = some (st2 (FofC C y.1) (pw primes y.2) 0) := by
  have hN1 : 1 ≤ pw primes x.2 := pw_pos _ _ (by decide)
  obtain ⟨o, ho⟩ : ∃ o, C.rows[x.1]? = some o := ⟨_, List.getElem?_eq_getElem gx.r⟩
  have go := g.od o (List.mem_of_getElem? ho)
  obtain ⟨_, b2, b3⟩ := two_block g k3 ho
  have lv := gx.v.len
  unfold stepC at hs
  simp only [ho] at hs
  cases o with
  | non => cases hs
  | up c a =>
    cases hs
    have hc : c < 3 := by have := go.1; omega
    have hb := blk_up (R := RofC C) (E := EofC C) (t := FofC C a) (p35 hc) b2 b3
    have hp := p35 hc
    obtain ⟨s1, s2⟩ := go_up hb (by omega) hN1
    have e : pw primes (addAt x.2 c 1) = pw primes x.2 * prm c := pw_up primes x.2 c (by rw [primes_len]; omega) (by have := go.1; omega) gx.v.pos
    refine ⟨_, _, ?_, s1, by rw [s2]; show _ = some (st2 (FofC C a) (pw primes (addAt x.2 c 1)) 0); rw [e]⟩
    generalize pw primes x.2 = N at hN
    rcases hp with h | h | h <;> rw [h] <;> omega
  | dn c a b =>
    have hc : c < 3 := by have := go.1; omega
    have hcv : c < x.2.length := by have := go.1; omega
    have hp := p35 hc
    have hb := blk_dn (R := RofC C) (E := EofC C) (ta := FofC C a) (tb := FofC C b) (p35s (a := a) (b := b) hc) b2 b3
    obtain ⟨n, z, h1, h2, h3⟩ := go_dn (N := pw primes x.2) hb (by omega)
    refine ⟨n, z, ?_, h2, ?_⟩
    · generalize pw primes x.2 = N at hN h1
      rcases hp with h | h | h <;> rw [h] at h1 <;> omega
    · rw [h3]
      dsimp only at hs
      by_cases hz : x.2.getD c 0 = 0
      · rw [if_pos hz] at hs
        cases hs
        rw [if_neg (show ¬ pw primes x.2 % prm c = 0 from pw_nd (by omega) hz)]
      · rw [if_neg hz] at hs
        cases hs
        have hp0 := getD_pos gx.v c
        have e : pw primes x.2 = pw primes (addAt x.2 c (-1)) * prm c := by
          have gv := (addAt_good (d := -1) gx.v fun _ => by omega : GoodV C.k (addAt x.2 c (-1)))
          have := pw_up primes (addAt x.2 c (-1)) c (by rw [primes_len]; omega) (by rw [addAt_len]; exact hcv) gv.pos
          rw [addAt_back hcv] at this
          exact this
        rw [e, if_pos (Nat.mul_mod_left _ _), Nat.mul_div_cancel _ (by omega)]
theorem two_stops {C : Cn} {x : CSt} {N : Nat} (g : GoodC C) (k3 : C.k ≤ 3) (gx : GoodX C x) (hs : stepC C.rows x = none) : stepC (RofC C) (st2 (FofC C x.1) N 0) = none := by
  obtain ⟨o, ho⟩ : ∃ o, C.rows[x.1]? = some o := ⟨_, List.getElem?_eq_getElem gx.r⟩
  obtain ⟨_, b2, _⟩ := two_block g k3 ho
  unfold stepC at hs
  simp only [ho] at hs
  cases o with
  | non =>
    have := b2 0 (by decide)
    rw [Nat.add_zero] at this
    have this : (RofC C)[FofC C x.1]? = some .non := this
    unfold stepC st2
    simp only [this]
  | up c a => cases hs
  | dn c a b =>
    dsimp only at hs
    split at hs <;> cases hs
end Core
end
section
set_option maxRecDepth 100000
set_option maxHeartbeats 4000000
/-! T3: two counters, plainly: they are counters; products taken apart. -/
namespace Core
open PySem L2
theorem up_ok {p e t T : Nat} (h1 : e + p + 3 ≤ T) (h2 : t < T) : ∀ o ∈ upB p e t, o.Ok 2 T := by
  intro o ho
  simp only [upB, List.mem_append, List.mem_singleton, List.mem_map, List.mem_range] at ho
  rcases ho with ((rfl | ⟨i, hi, rfl⟩) | rfl) | rfl
  · exact ⟨by omega, by omega, by omega⟩
  · refine ⟨by omega, ?_⟩
    split <;> omega
  · exact ⟨by omega, by omega, by omega⟩
  · exact ⟨by omega, by omega⟩
theorem rst_lt {p e s : Nat} (hp : (p = 2 ∧ s = 9) ∨ (p = 3 ∧ s = 17) ∨ (p = 5 ∧ s = 42)) : ∀ r, r < p → rst p e r + p + r < e + s := by
  intro r hr
  rcases hp with ⟨rfl, rfl⟩ | ⟨rfl, rfl⟩ | ⟨rfl, rfl⟩
  · rcases (by omega : r = 0 ∨ r = 1) with rfl | rfl
    · exact (show e + 2 + 1 + 2 + 0 < e + 9 by omega)
    · exact (show e + 2 + 3 + 2 + 1 < e + 9 by omega)
  · rcases (by omega : r = 0 ∨ r = 1 ∨ r = 2) with rfl | rfl | rfl
    · exact (show e + 3 + 1 + 3 + 0 < e + 17 by omega)
    · exact (show e + 3 + 3 + 3 + 1 < e + 17 by omega)
    · exact (show e + 3 + 3 + 3 + 2 + 3 + 2 < e + 17 by omega)
  · rcases (by omega : r = 0 ∨ r = 1 ∨ r = 2 ∨ r = 3 ∨ r = 4) with rfl | rfl | rfl | rfl | rfl
    · exact (show e + 5 + 1 + 5 + 0 < e + 42 by omega)
    · exact (show e + 5 + 3 + 5 + 1 < e + 42 by omega)
    · exact (show e + 5 + 3 + 5 + 2 + 5 + 2 < e + 42 by omega)
    · exact (show e + 5 + 3 + 5 + 2 + 5 + 3 + 5 + 3 < e + 42 by omega)
    · exact (show e + 5 + 3 + 5 + 2 + 5 + 3 + 5 + 4 + 5 + 4 < e + 42 by omega)
theorem dn_ok {p e ta tb s T : Nat} (hp : (p = 2 ∧ s = 9) ∨ (p = 3 ∧ s = 17) ∨ (p = 5 ∧ s = 42)) (h1 : e + s ≤ T) (h2 : ta < T) (h3 : tb < T) : ∀ o ∈ dnB p e ta tb, o.Ok 2 T := by
  intro o ho
  have hr := rst_lt (e := e) hp
  have p2 : 2 ≤ p := by omega
  have h0 := hr 0 (by omega)
  simp only [dnB, List.mem_append, List.mem_singleton, List.mem_map, List.mem_range, List.mem_flatMap] at ho
  rcases ho with (((⟨i, hi, rfl⟩ | rfl) | rfl) | rfl) | ⟨j, hj, ho⟩
  · have := hr i hi
    exact ⟨by omega, by omega, by omega⟩
  · exact ⟨by omega, by omega⟩
  · exact ⟨by omega, by omega, by omega⟩
  · exact ⟨by omega, by omega⟩
  · have := hr (j + 1) (by omega)
    simp only [dnR, List.mem_append, List.mem_singleton, List.mem_map, List.mem_range] at ho
    rcases ho with (((rfl | ⟨i, hi, rfl⟩) | rfl) | ⟨i, hi, rfl⟩) | rfl
    · exact ⟨by omega, by omega, by omega⟩
    · exact ⟨by omega, by omega⟩
    · exact ⟨by omega, by omega⟩
    · exact ⟨by omega, by omega⟩
    · exact ⟨by omega, by omega⟩
theorem total_le : ∀ (os : List Od) (at_ : Nat), at_ ≤ total at_ os
  | [], at_ => Nat.le_refl _
  | o :: os, at_ => Nat.le_trans (Nat.le_add_right _ _) (total_le os (at_ + sizeO o))
theorem build_ok {F : Nat → Nat} {k m T : Nat} (hk : k ≤ 3) (hF : ∀ a, a < m → F a < T) : ∀ (os : List Od) (at_ : Nat), (∀ o ∈ os, o.Ok k m) → total at_ os ≤ T → ∀ o ∈ build F at_ os, o.Ok 2 T
  | [], at_, _, _, o, ho => by cases ho
  | x :: os, at_, hok, ht, o, ho => by
    have ht : total (at_ + sizeO x) os ≤ T := ht
    have hl := total_le os (at_ + sizeO x)
    rcases List.mem_append.mp (show o ∈ blockO F at_ x ++ build F (at_ + sizeO x) os from ho) with h | h
    · have gx := hok x List.mem_cons_self
      cases x with
      | non => rw [List.mem_singleton.mp h]; trivial
      | up c a => exact up_ok (by show at_ + prm c + 3 ≤ T; have : sizeO (.up c a) = prm c + 3 := rfl; omega) (hF a gx.2) o h
      | dn c a b => exact dn_ok (p35s (a := a) (b := b) (by have := gx.1; omega)) (by omega) (hF a gx.2.1) (hF b gx.2.2) o h
    · exact build_ok hk hF os _ (fun y hy => hok y (List.mem_cons_of_mem _ hy)) ht o h
theorem size_le {o : Od} {k m : Nat} (h : o.Ok k m) (hk : k ≤ 3) : sizeO o ≤ 42 := by
  cases o with
  | non => exact (by decide : 1 ≤ 42)
  | up c a => have := p35 (c := c) (by have := h.1; omega); show prm c + 3 ≤ 42; omega
  | dn c a b => have := p35s (c := c) (a := a) (b := b) (by have := h.1; omega); omega
theorem total_max {k m : Nat} (hk : k ≤ 3) : ∀ (os : List Od) (at_ : Nat), (∀ o ∈ os, o.Ok k m) → total at_ os ≤ at_ + os.length * 42
  | [], at_, _ => by show at_ ≤ _; omega
  | o :: os, at_, h => by
    have h1 := size_le (h o List.mem_cons_self) hk
    have h2 := total_max hk os (at_ + sizeO o) fun x hx => h x (List.mem_cons_of_mem _ hx)
    show total (at_ + sizeO o) os ≤ at_ + (os.length + 1) * 42
    omega
def twoC (C : Cn) : Cn := ⟨2, RofC C⟩
theorem two_len {C : Cn} (g : GoodC C) (k3 : C.k ≤ 3) : (RofC C).length = total 0 C.rows := by
  have := build_len (F := FofC C) k3 C.rows 0 g.od
  unfold RofC
  omega
theorem two_good {C : Cn} (g : GoodC C) (k3 : C.k ≤ 3) (n8 : C.rows.length ≤ 8) : GoodC (twoC C) := by
  have hl := two_len g k3
  have hm := total_max k3 C.rows 0 g.od
  have n0 := g.n0
  have hF : ∀ a, a < C.rows.length → FofC C a < total 0 C.rows := fun a ha => by
    obtain ⟨o, ho⟩ : ∃ o, C.rows[a]? = some o := ⟨_, List.getElem?_eq_getElem ha⟩
    have := (two_block g k3 ho).1
    have := size_pos (o := o)
    omega
  have h0 := hF 0 (by omega)
  refine ⟨by show 1 ≤ 2; decide, by show 2 ≤ 5; decide, by show 1 ≤ (RofC C).length; omega, by show (RofC C).length ≤ 2000; omega, fun o ho => ?_⟩
  show o.Ok 2 (RofC C).length
  rw [hl]
  exact build_ok k3 hF C.rows 0 g.od (Nat.le_refl _) o ho
/-! ### products taken apart -/
def strip (p : Nat) : Nat → Nat → Nat → Nat × Nat
  | 0, n, m => (n, m)
  | f + 1, n, m => if n % p = 0 then strip p f (n / p) (m + 1) else (n, m)
def divs : List Nat → Nat → List Nat × Nat
  | [], n => ([], n)
  | p :: ps, n => ((strip p n n 0).2 :: (divs ps (strip p n n 0).1).1, (divs ps (strip p n n 0).1).2)
theorem strip_pow {p b : Nat} (hp : 2 ≤ p) (hb : b % p ≠ 0) : ∀ (a f m : Nat), a ≤ f → strip p f (p ^ a * b) m = (b, m + a)
  | 0, f, m, _ => by
    rw [Nat.pow_zero, Nat.one_mul]
    cases f with
    | zero => rfl
    | succ f => unfold strip; rw [if_neg hb]; rfl
  | a + 1, 0, m, h => by omega
  | a + 1, f + 1, m, h => by
    have e : p ^ (a + 1) * b = p ^ a * b * p := by rw [Nat.pow_succ, Nat.mul_assoc, Nat.mul_comm p b, ← Nat.mul_assoc]
    unfold strip
    rw [e, if_pos (Nat.mul_mod_left _ _), Nat.mul_div_cancel _ (by omega), strip_pow hp hb a f (m + 1) (by omega), show m + 1 + a = m + (a + 1) by omega]
theorem pow_ge {p : Nat} (hp : 2 ≤ p) : ∀ a : Nat, a ≤ p ^ a
  | 0 => Nat.zero_le _
  | a + 1 => by
    have := pow_ge hp a
    have h1 : 1 ≤ p ^ a := Nat.pow_pos (by omega)
    rw [Nat.pow_succ]
    have : p ^ a * 2 ≤ p ^ a * p := Nat.mul_le_mul_left _ hp
    omega
/-- primes of one another -/
def Apart (ps : List Nat) : Prop := (∀ p ∈ ps, 2 ≤ p) ∧ ps.Pairwise Nat.Coprime
theorem divs_pw : ∀ (ps : List Nat) (vs : List Int), Apart ps → vs.length ≤ ps.length → divs (ps.take vs.length) (pw ps vs) = (vs.map Int.toNat, 1)
  | [], [], _, _ => rfl
  | [], _ :: _, _, h => by simp at h
  | p :: ps, [], _, _ => rfl
  | p :: ps, v :: vs, ⟨h2, hc⟩, hl => by
    have hp := h2 p List.mem_cons_self
    obtain ⟨hc1, hc2⟩ := List.pairwise_cons.mp hc
    have ih := divs_pw ps vs ⟨fun q hq => h2 q (List.mem_cons_of_mem _ hq), hc2⟩ (by simpa using hl)
    have cop : Nat.Coprime p (pw ps vs) := pw_cop ps vs fun i q v h _ => .inr (hc1 q (List.mem_of_getElem? h))
    have nd : pw ps vs % p ≠ 0 := fun h => by
      have := Nat.Coprime.eq_one_of_dvd cop (Nat.dvd_of_mod_eq_zero h)
      omega
    have hpos : 1 ≤ pw ps vs := pw_pos _ _ fun q hq => by have := h2 q (List.mem_cons_of_mem _ hq); omega
    show divs (p :: ps.take vs.length) (p ^ v.toNat * pw ps vs) = _
    have hs := strip_pow hp nd v.toNat (p ^ v.toNat * pw ps vs) 0 (Nat.le_trans (pow_ge hp v.toNat) (Nat.le_mul_of_pos_right _ hpos))
    unfold divs
    rw [hs]
    dsimp only
    rw [ih, Nat.zero_add]; rfl
theorem primes_apart : Apart primes := by
  refine ⟨by decide, ?_⟩
  unfold primes
  simp only [List.pairwise_cons, List.mem_cons, List.not_mem_nil, or_false, false_imp_iff, implies_true, List.Pairwise.nil, and_true, forall_eq_or_imp, forall_eq]
  decide
end Core
end
section
set_option maxRecDepth 100000
set_option maxHeartbeats 4000000
/-! S1: sizes; rows for up. -/
open PySem Core L2
local macro_rules | `(tactic| fail "fn") => `(tactic| first
  | assumption)
local macro_rules | `(tactic| fail "num") => `(tactic| first
  | omega
  | decide
  | (simp only [List.length_append, List.length_cons, List.length_nil, List.length_map, List.length_replicate, List.length_singleton]; omega))
local macro_rules | `(tactic| fail "at") => `(tactic| first
  | rfl
  | assumption
  | exact atI_at (by first | assumption | rfl)
  | (refine atI_at ?_; simp; done))
local macro_rules | `(tactic| fail "st") => `(tactic| first
  | assumption
  | exact Store.upd_same)
local macro_rules | `(tactic| fail "ty") => `(tactic| first
  | rfl
  | assumption)
local macro_rules | `(tactic| fail "evs") => `(tactic| first
  | exact evs_nil
  | (refine' evs_cons ?h0 ?h1; (case h0 => fail "ev"); (case h1 => fail "evs")))
local macro_rules | `(tactic| fail "op") => `(tactic| first
  | exact opv_add
  | exact opv_sub
  | exact opv_pow ⟨by decide, by decide, by decide⟩
  | (refine' opv_cat ?h0; (case h0 => (have := PySem.sizeLine_eq; fail "num")))
  | (refine' opv_mod ?h0; (case h0 => fail "num"))
  | (refine' opv_div ?h0 ?h1; (case h0 => fail "num"); (case h1 => fail "num"))
  | (refine' opv_mulR ?h0 ?h1; (case h0 => fail "num"); (case h1 => fail "num"))
  | (refine' opv_mulL ?h0 ?h1; (case h0 => fail "num"); (case h1 => fail "num"))
  | (refine' opv_rep ?h0 ?h1 ?h2; (case h0 => fail "num"); (case h1 => fail "num"); (case h2 => (have := PySem.sizeLine_eq; fail "num")))
  | assumption)
local macro_rules | `(tactic| fail "cm") => `(tactic| first
  | exact cmpv_eqI
  | exact cmpv_neI
  | exact cmpv_lt
  | exact cmpv_le
  | exact cmpv_gt
  | exact cmpv_ge
  | exact cmpv_isN
  | exact cmpv_isNN
  | exact cmpv_isB
  | exact cmpv_isNB
  | assumption)
local macro_rules | `(tactic| fail "ix") => `(tactic| first
  | (refine' idxv_tup ?h0; (case h0 => fail "at"))
  | (refine' idxv_lst ?h0 ?h1; (case h0 => fail "st"); (case h1 => fail "at"))
  | (refine' idxv_frl ?h0; (case h0 => fail "at"))
  | assumption)
local macro_rules | `(tactic| fail "eo") => `(tactic| first
  | exact True.intro
  | (refine (show EvO _ (some _) _ _ (some _) from ?_); fail "ev"))
local macro_rules | `(tactic| fail "el") => `(tactic| first
  | (refine' evl_var ?h0 ?h1; (case h0 => rfl); (case h1 => fail "st"))
  | (refine EvF.l ?_; fail "ef")
  | assumption)
local macro_rules | `(tactic| fail "ef") => `(tactic| first
  | (refine' evf_lst ?h0; (case h0 => fail "evs"))
  | (refine' evf_list ?h0 ?h1 ?h2; (case h0 => fail "ev"); (case h1 => exact fun _ => rfl); (case h2 => exact fun _ => rfl))
  | (refine' evf_listL ?h0; (case h0 => fail "el"))
  | (refine' evf_rev ?h0; (case h0 => fail "el"))
  | (refine' evf_slc ?h0 ?h1 ?h2; (case h0 => fail "el"); (case h1 => fail "eo"); (case h2 => fail "eo"))
  | (refine' evf_add ?h0 ?h1 ?h2; (case h0 => fail "el"); (case h1 => fail "el"); (case h2 => (have := PySem.sizeLine_eq; fail "num")))
  | (refine' evf_call ?h0 ?h1; (case h0 => fail "evs"); (case h1 => fail "fn"))
  | assumption)
local macro_rules | `(tactic| fail "ev") => `(tactic| first
  | exact ev_lit
  | exact ev_var rfl
  | (refine' ev_con ?h0; (case h0 => fail "con"))
  | exact ev_fnv
  | (refine' ev_tup ?h0; (case h0 => fail "evs"))
  | (refine' ev_not ?h0; (case h0 => fail "ev"))
  | (refine' ev_and ?h0 ?h1; (case h0 => fail "ev"); (case h1 => first | ((refine (show _ = true → Ev _ _ _ _ (.bl false) from ?_)); intro h; exact absurd h (by decide)) | (intro hAnd; fail "ev")))
  | (refine' ev_or ?h0 ?h1; (case h0 => fail "ev"); (case h1 => first | ((refine (show _ = false → Ev _ _ _ _ (.bl false) from ?_)); intro h; exact absurd h (by decide)) | (intro hOr; fail "ev")))
  | (refine' ev_chn ?h0 ?h1 ?h2 ?h3 ?h4; (case h0 => fail "ev"); (case h1 => fail "ev"); (case h2 => fail "ev"); (case h3 => fail "cm"); (case h4 => fail "cm"))
  | (refine' ev_cmp ?h0 ?h1 ?h2; (case h0 => fail "ev"); (case h1 => fail "ev"); (case h2 => fail "cm"))
  | (refine' ev_bin ?h0 ?h1 ?h2; (case h0 => fail "ev"); (case h1 => fail "ev"); (case h2 => fail "op"))
  | (refine' ev_neg ?h0; (case h0 => fail "ev"))
  | (refine' ev_ife ?h0 ?h1 ?h2; (case h0 => fail "ev"); (case h1 => (intro hT; fail "ev")); (case h2 => (intro hF; fail "ev")))
  | (refine' ev_idx ?h0 ?h1 ?h2; (case h0 => fail "ev"); (case h1 => fail "ev"); (case h2 => fail "ix"))
  | (refine' ev_slc ?h0 ?h1 ?h2; (case h0 => fail "ev"); (case h1 => fail "eo"); (case h2 => fail "eo"))
  | (refine' ev_fld ?h0 ?h1 ?h2; (case h0 => fail "ev"); (case h1 => fail "st"); (case h2 => rfl))
  | (refine' ev_isi ?h0 ?h1; (case h0 => fail "ev"); (case h1 => fail "ty"))
  | (refine' ev_len ?h0 ?h1 ?h2; (case h0 => fail "ev"); (case h1 => exact fun _ => rfl); (case h2 => exact fun _ => rfl))
  | (refine' ev_lenL ?h0; (case h0 => fail "el"))
  | (refine' ev_int ?h0; (case h0 => fail "ev"))
  | (refine' ev_intB ?h0; (case h0 => fail "ev"))
  | (refine' ev_tuple ?h0 ?h1; (case h0 => fail "ev"); (case h1 => exact fun _ => rfl))
  | (refine' ev_tupleL ?h0; (case h0 => fail "el"))
  | (refine' ev_min2 ?h0 ?h1; (case h0 => fail "ev"); (case h1 => fail "ev"))
  | (refine' ev_max2 ?h0 ?h1; (case h0 => fail "ev"); (case h1 => fail "ev"))
  | (refine' ev_abs ?h0; (case h0 => fail "ev"))
  | (refine' ev_call ?h0 ?h1; (case h0 => fail "evs"); (case h1 => fail "fn"))
  | (refine' ev_cvar ?h0 ?h1 ?h2; (case h0 => rfl); (case h1 => fail "evs"); (case h2 => fail "fn"))
  | assumption)
local macro_rules | `(tactic| fail "tf") => `(tactic| first
  | decide
  | rfl
  | (simp; done)
  | (simp; omega))
local macro_rules | `(tactic| fail "no") => `(tactic| (refine' bk_noX ?h0 ?h1 ?_; (case h0 => fail "ev"); (case h1 => fail "tf")))
local macro_rules | `(tactic| fail "yes") => `(tactic| (refine' bk_yesX ?h0 ?h1 ?_; (case h0 => fail "ev"); (case h1 => fail "tf")))
local macro_rules | `(tactic| fail "ret") => `(tactic| (refine' bk_ret ?h0 (fun S9 d9 => Wk.drop d9 (Wk.here ?_)); (case h0 => fail "ev")))
local macro_rules | `(tactic| fail "set") => `(tactic| (refine' bk_set ?h0 ?_; (case h0 => fail "ev")))
local macro_rules | `(tactic| fail "setF") => `(tactic| (refine' bk_setF ?h0 ?_; (case h0 => fail "ef")))
local macro_rules | `(tactic| fail "if") => `(tactic| (refine' bk_if1 ?h0 ?_ ?_; (case h0 => fail "ev")))
local macro_rules | `(tactic| fail "if2") => `(tactic| (refine' bk_if ?h0 ?_ ?_; (case h0 => fail "ev")))
local macro_rules | `(tactic| fail "put") => `(tactic| (refine' bk_put ?h0 ?h1 ?h2 ?h3 ?h4 ?_; (case h0 => fail "ev"); (case h1 => fail "ev"); (case h2 => fail "ev"); (case h3 => fail "st"); (case h4 => rfl)))
local macro_rules | `(tactic| fail "retC") => `(tactic| (refine' bk_retC ?h0 ?_; (case h0 => fail "evs")))
local macro_rules | `(tactic| fail "setC") => `(tactic| (refine' bk_setC ?h0 ?_; (case h0 => fail "evs")))
local macro_rules | `(tactic| fail "expC") => `(tactic| (refine' bk_expC ?h0 ?_; (case h0 => fail "evs")))
local macro_rules | `(tactic| fail "callE") => `(tactic| (refine' cps_call ?h0 ?_; (case h0 => fail "evs")))
local macro_rules | `(tactic| fail "exp") => `(tactic| (refine' bk_exp ?h0 ?_; (case h0 => fail "ev")))
local macro_rules | `(tactic| fail "con") => `(tactic| first | exact Z.con_MOST_ROWS | exact Z.con_MOST_COUNTERS | exact Z.con_PRIMES | rfl)
namespace Z
open PySem Core L2
def primesP : P := .tup (primes.map fun (p : Nat) => P.int p)
theorem prime_at {S : Store} {c : Nat} (h : c < 5) : IdxV primesP (.int c) S (.int (prm c)) := idxv_tup (atI_at (by
  rw [List.getElem?_map]
  have hl : c < primes.length := h
  unfold prm
  rw [List.getD_eq_getElem?_getD, List.getElem?_eq_getElem hl]; rfl))
theorem ev_pr {k : Nat} {ρ : Core.Loc} {S : Store} {e : CE} {c : Nat} (h : c < 5) (he : Ev (envAt D k) e ρ S (.int c)) : Ev (envAt D k) (.idx (.con nc_PRIMES) e) ρ S (.int (prm c)) := ev_idx (p := primesP) (ev_con con_PRIMES) he (prime_at h)
theorem sum_cast {α : Type} (g : α → Nat) : ∀ l : List α, (l.map fun i => ((g i : Nat) : Int)).sum = ((l.map g).sum : Nat)
  | [] => rfl
  | x :: l => by
    rw [List.map_cons, List.sum_cons, sum_cast g l, List.map_cons, List.sum_cons]; push_cast; rfl
theorem ev_sumR {k j i : Nat} {ρ : Core.Loc} {S : Store} {p : Nat} (hp : 1 ≤ p) (hp2 : p ≤ 1000) (h : ρ[i]? = some (some (.int p))) (hw : ∀ x, ((wipeP ρ [j]).set j (some x))[i]? = some (some (.int p))) (hj : ∀ x : P, ((wipeP ρ [j]).set j (some x))[j]? = some (some x)) :
    Ev (envAt D k) (.blt .sum [.cmpr [j] .range [.lit (.int 1), .var i] (.nm j) (.bin .Add (.bin .Add (.lit (.int 1)) (.var i)) (.var j)) none]) ρ S (.int (((List.range (p - 1)).map fun j => 1 + p + (j + 1)).sum : Nat)) := by
  have big := PySem.sizeLine_eq
  have hit : Iter .range [.int 1, .int (p : Int)] S ((List.range (p - 1)).map fun (i : Nat) => P.int (1 + (i : Int))) Any := by
    have := it_range2 (S := S) (m := 1) (n := (p : Int)) (by omega) (by omega) (by omega) (by omega) (by omega)
    rw [show ((p : Int) - 1).toNat = p - 1 by omega] at this
    exact this
  have ef := evf_cmpr (G := envAt D k) (ρ := ρ) (S := S) (own := [j]) (k := .range) (args := [.lit (.int 1), .var i]) (tg := .nm j) (elt := .bin .Add (.bin .Add (.lit (.int 1)) (.var i)) (.var j)) (List.range (p - 1)) (fun (n : Nat) => P.int (1 + (n : Int))) (fun n => P.int ((1 + p + (n + 1) : Nat) : Int)) (evs_cons ev_lit (evs_cons (ev_var h) evs_nil)) hit good_any (fun n hn => by
    show Ev _ _ ((wipeP ρ [j]).set j (some (P.int (1 + (n : Int))))) S _
    exact ev_val (ev_bin (ev_bin ev_lit (ev_var (hw _)) opv_add) (ev_var (hj _)) opv_add) (congrArg P.int (by push_cast; omega)))
  have e : (List.range (p - 1)).map (fun n => P.int ((1 + p + (n + 1) : Nat) : Int)) = ((List.range (p - 1)).map fun n => ((1 + p + (n + 1) : Nat) : Int)).map P.int := by rw [List.map_map]; rfl
  rw [e] at ef
  have := ev_sumL ef.l
  rw [sum_cast] at this
  exact this
theorem prm_bd {c : Nat} (h : c < 5) : 2 ≤ prm c ∧ prm c ≤ 11 := by
  rcases (by omega : c = 0 ∨ c = 1 ∨ c = 2 ∨ c = 3 ∨ c = 4) with rfl | rfl | rfl | rfl | rfl <;> decide
theorem size_ok {k kk m : Nat} {o : Od} {S : Store} (h : o.Ok kk m) (h5 : kk ≤ 5) : FnV ((envAt D (k + 1)).fn nf_size_of) [o.toP] S (.int (sizeO o)) := by
  refine ⟨fun S' d Q E q => ?_⟩
  have q : Q (.int (sizeO o)) S' := q
  refine fn_start (d := ⟨1, 3, b_size_of⟩) rfl rfl ?_
  show wpB _ b_size_of [some o.toP, none, none] S' _
  cases o with
  | non =>
    fail "yes"
    fail "ret"; exact q
  | up c a =>
    have hc : c < 5 := by have := h.1; omega
    have j0 : IdxV (Od.up c a).toP (.int 0) S' (.str "up") := idxv_tup rfl
    have j1 : IdxV (Od.up c a).toP (.int 1) S' (.int c) := idxv_tup rfl
    refine bk_noX (ev_cmp (ev_var rfl) ev_lit cmpv_isN) rfl ?_
    refine bk_set (ev_pr hc (ev_idx (ev_var rfl) ev_lit j1)) ?_
    refine bk_yesX (ev_eqT (ev_idx (ev_var rfl) ev_lit j0) (by decide +kernel) (by decide +kernel)) (by decide) ?_
    exact bk_ret (p := .int (sizeO (.up c a))) (ev_bin (ev_var rfl) ev_lit opv_add) (fun S9 d9 => Wk.drop d9 (Wk.here q))
  | dn c a b =>
    have hc : c < 5 := by have := h.1; omega
    have j0 : IdxV (Od.dn c a b).toP (.int 0) S' (.str "down") := idxv_tup rfl
    have j1 : IdxV (Od.dn c a b).toP (.int 1) S' (.int c) := idxv_tup rfl
    have pb := prm_bd hc
    refine bk_noX (ev_cmp (ev_var rfl) ev_lit cmpv_isN) rfl ?_
    refine bk_set (ev_pr hc (ev_idx (ev_var rfl) ev_lit j1)) ?_
    refine bk_noX (ev_eqT (ev_idx (ev_var rfl) ev_lit j0) (by decide +kernel) (by decide +kernel)) (by decide) ?_
    refine bk_ret (p := .int (sizeO (.dn c a b))) (ev_val (ev_bin (ev_bin (ev_var rfl) ev_lit opv_add) (ev_sumR (i := 1) (j := 2) (by omega) (by omega) rfl (fun _ => rfl) (fun _ => rfl)) opv_add) (congrArg P.int ?_)) (fun S9 d9 => Wk.drop d9 (Wk.here q))
    show _ = ((prm c + 3 + ((List.range (prm c - 1)).map fun j => 1 + prm c + (j + 1)).sum : Nat) : Int)
    push_cast; rfl
theorem lsize_ok {k kk m : Nat} {o : Od} {S : Store} (h : o.Ok kk m) (h5 : kk ≤ 5) : FnV ((envAt D (k + 1)).fn nf__law_size) [o.toP] S (.int (sizeO o)) := by
  refine ⟨fun S' d Q E q => ?_⟩
  have q : Q (.int (sizeO o)) S' := q
  refine fn_start (d := ⟨1, 3, b__law_size⟩) rfl rfl ?_
  show wpB _ b__law_size [some o.toP, none, none] S' _
  have row : ∀ {ρ : Core.Loc} {S : Store} {e : CE} {c : Nat}, c < 5 → Ev (envAt D k) e ρ S (.int c) → Ev (envAt D k) (.idx (.lst [.lit (.int 2), .lit (.int 3), .lit (.int 5), .lit (.int 7), .lit (.int 11)]) e) ρ S (.int (prm c)) := fun {ρ S e c} hc he =>
    ev_idxL (xs := primes.map fun (p : Nat) => P.int p) (EvF.l (evf_lst (evs_cons ev_lit (evs_cons ev_lit (evs_cons ev_lit (evs_cons ev_lit (evs_cons ev_lit evs_nil))))))) he (atI_at (by
      rw [List.getElem?_map]
      have hl : c < primes.length := hc
      unfold prm
      rw [List.getD_eq_getElem?_getD, List.getElem?_eq_getElem hl]; rfl))
  cases o with
  | non =>
    fail "yes"
    fail "ret"; exact q
  | up c a =>
    have hc : c < 5 := by have := h.1; omega
    have j0 : IdxV (Od.up c a).toP (.int 0) S' (.str "up") := idxv_tup rfl
    have j1 : IdxV (Od.up c a).toP (.int 1) S' (.int c) := idxv_tup rfl
    refine bk_noX (ev_cmp (ev_var rfl) ev_lit cmpv_isN) rfl ?_
    refine bk_set (row hc (ev_idx (ev_var rfl) ev_lit j1)) ?_
    refine bk_yesX (ev_eqT (ev_idx (ev_var rfl) ev_lit j0) (by decide +kernel) (by decide +kernel)) (by decide) ?_
    refine bk_ret (p := .int (sizeO (.up c a))) (ev_val (ev_bin (ev_bin ev_lit (ev_var rfl) opv_add) ev_lit opv_add) (congrArg P.int ?_)) (fun S9 d9 => Wk.drop d9 (Wk.here q))
    show (1 : Int) + prm c + 2 = ((prm c + 3 : Nat) : Int)
    push_cast; omega
  | dn c a b =>
    have hc : c < 5 := by have := h.1; omega
    have j0 : IdxV (Od.dn c a b).toP (.int 0) S' (.str "down") := idxv_tup rfl
    have j1 : IdxV (Od.dn c a b).toP (.int 1) S' (.int c) := idxv_tup rfl
    have pb := prm_bd hc
    refine bk_noX (ev_cmp (ev_var rfl) ev_lit cmpv_isN) rfl ?_
    refine bk_set (row hc (ev_idx (ev_var rfl) ev_lit j1)) ?_
    refine bk_noX (ev_eqT (ev_idx (ev_var rfl) ev_lit j0) (by decide +kernel) (by decide +kernel)) (by decide) ?_
    refine bk_ret (p := .int (sizeO (.dn c a b))) (ev_val (ev_bin (ev_bin (ev_bin (ev_var rfl) ev_lit opv_add) ev_lit opv_add) (ev_sumR (i := 1) (j := 2) (by omega) (by omega) rfl (fun _ => rfl) (fun _ => rfl)) opv_add) (congrArg P.int ?_)) (fun S9 d9 => Wk.drop d9 (Wk.here q))
    show _ = ((prm c + 3 + ((List.range (prm c - 1)).map fun j => 1 + prm c + (j + 1)).sum : Nat) : Int)
    push_cast; omega
theorem up_rows {k p e t : Nat} {S : Store} (hp : 1 ≤ p) (hp2 : p ≤ 11) : FnL ((envAt D (k + 1)).fn nf_rows_for_up) [.int p, .int e, .int t] S ((upB p e t).map Od.toP) := by
  refine ⟨fun S' d Q E q => ?_⟩
  have big := PySem.sizeLine_eq
  refine fn_start (d := ⟨3, 6, b_rows_for_up⟩) rfl rfl ?_
  show wpB _ b_rows_for_up [some (.int p), some (.int e), some (.int t), none, none, none] S' _
  refine bk_setF (xs := [Od.dn 0 (e + 1) (e + 1 + p)].map Od.toP) (evf_lst (evs_cons (ev_tup (evs_cons ev_lit (evs_cons ev_lit (evs_cons (ev_bin (ev_var rfl) ev_lit opv_add) (evs_cons (ev_bin (ev_bin (ev_var rfl) ev_lit opv_add) (ev_var rfl) opv_add) evs_nil))))) evs_nil)) fun A hA => ?_
  show wpB _ _ [some (.int p), some (.int e), some (.int t), some (.loc A), none, none] _ _
  refine bk_for (List.range p) (fun (i : Nat) => P.int i) (fun i ρ' S2 => S2 = S'.upd A (.lst (([Od.dn 0 (e + 1) (e + 1 + p)] ++ (List.range i).map (fun j => Od.up 1 (if j + 1 = p then e else e + 2 + j))).map Od.toP)) ∧ ∃ x4 x5, ρ' = [some (.int p), some (.int e), some (.int t), some (.loc A), x4, x5]) (evs_cons (ev_var rfl) evs_nil) (it_range (by omega)) up_any (fun _ _ _ _ => trivial) ⟨by simp, none, none, rfl⟩ ?_ ?_ (env_mono _ _)
  · rintro i x ρ' S2 hx ⟨rfl, x4, x5, rfl⟩
    have hix : i < p ∧ i = x := by
      rw [List.getElem?_eq_some_iff] at hx
      obtain ⟨h1, h2⟩ := hx
      simp at h1 h2
      exact ⟨h1, h2⟩
    obtain ⟨lt, rfl⟩ := hix
    show wpB _ _ [some (.int p), some (.int e), some (.int t), some (.loc A), some (.int i), x5] _ _
    have tail : ∀ b : Nat, b = (if i + 1 = p then e else e + 2 + i) → ∀ D1 : DE, (∀ S3, S3 = S'.upd A (.lst (([Od.dn 0 (e + 1) (e + 1 + p)] ++ (List.range (i + 1)).map (fun j => Od.up 1 (if j + 1 = p then e else e + 2 + j))).map Od.toP)) → D1.nx [some (.int p), some (.int e), some (.int t), some (.loc A), some (.int i), some (.int b)] S3) → wpB (envAt D k) [.exp (.bmt (.var 3) .append [.tup [.lit (.str "up"), .lit (.int 1), .var 5]])] [some (.int p), some (.int e), some (.int t), some (.loc A), some (.int i), some (.int b)] (S'.upd A (.lst (([Od.dn 0 (e + 1) (e + 1 + p)] ++ (List.range i).map (fun j => Od.up 1 (if j + 1 = p then e else e + 2 + j))).map Od.toP))) D1 := fun b hb D1 hn => by
      refine bk_append (p := (Od.up 1 b).toP) (ev_var rfl) (by fail "ev") Store.upd_same (by simp; omega) (bk_nil (hn _ ?_))
      rw [Store.upd_upd, List.range_succ, hb]
      simp
    refine bk_set (p := .int ((e + 2 + i : Nat) : Int)) (ev_bin (ev_bin (ev_var rfl) ev_lit opv_add) (ev_var rfl) opv_add) ?_
    refine bk_if1 (x := decide ((i : Int) = (p : Int) - 1)) (ev_cmp (ev_var rfl) (ev_bin (ev_var rfl) ev_lit opv_sub) cmpv_eqI) ?_ ?_
    · intro h
      have h := of_decide_eq_true h
      refine bk_set (ev_var rfl) (bk_nil (tail e (by rw [if_pos (by omega)]) _ fun S3 h3 => ⟨h3, _, _, rfl⟩))
    · intro h
      have h := of_decide_eq_false h
      exact tail _ (by rw [if_neg (by omega)]) _ fun S3 h3 => ⟨h3, _, _, rfl⟩
  · rintro ρ' S2 ⟨rfl, x4, x5, rfl⟩
    rw [List.length_range]
    refine bk_append (p := (Od.dn 1 (e + p + 2) t).toP) (ev_var rfl) (by fail "ev") Store.upd_same (by simp; omega) ?_
    rw [Store.upd_upd]
    refine bk_append (p := (Od.up 0 (e + p + 1)).toP) (ev_var rfl) (by fail "ev") Store.upd_same (by simp; omega) ?_
    rw [Store.upd_upd]
    refine bk_ret (ev_var rfl) (fun S9 d9 => Wk.drop d9 (Wk.here ?_))
    have z : ((([Od.dn 0 (e + 1) (e + 1 + p)] ++ (List.range p).map (fun j => Od.up 1 (if j + 1 = p then e else e + 2 + j))).map Od.toP ++ [(Od.dn 1 (e + p + 2) t).toP]) ++ [(Od.up 0 (e + p + 1)).toP]) = (upB p e t).map Od.toP := by
      unfold upB; simp only [List.map_append, List.map_cons, List.map_nil]
    rw [z]
    exact q A hA
end Z
end
section
set_option maxRecDepth 100000
set_option maxHeartbeats 4000000
/-! S2: rows for down. -/
open PySem Core L2
local macro_rules | `(tactic| fail "fn") => `(tactic| first
  | assumption)
local macro_rules | `(tactic| fail "num") => `(tactic| first
  | omega
  | decide
  | (simp only [List.length_append, List.length_cons, List.length_nil, List.length_map, List.length_replicate, List.length_singleton]; omega))
local macro_rules | `(tactic| fail "at") => `(tactic| first
  | rfl
  | assumption
  | exact atI_at (by first | assumption | rfl)
  | (refine atI_at ?_; simp; done))
local macro_rules | `(tactic| fail "st") => `(tactic| first
  | assumption
  | exact Store.upd_same)
local macro_rules | `(tactic| fail "ty") => `(tactic| first
  | rfl
  | assumption)
local macro_rules | `(tactic| fail "evs") => `(tactic| first
  | exact evs_nil
  | (refine' evs_cons ?h0 ?h1; (case h0 => fail "ev"); (case h1 => fail "evs")))
local macro_rules | `(tactic| fail "op") => `(tactic| first
  | exact opv_add
  | exact opv_sub
  | exact opv_pow ⟨by decide, by decide, by decide⟩
  | (refine' opv_cat ?h0; (case h0 => (have := PySem.sizeLine_eq; fail "num")))
  | (refine' opv_mod ?h0; (case h0 => fail "num"))
  | (refine' opv_div ?h0 ?h1; (case h0 => fail "num"); (case h1 => fail "num"))
  | (refine' opv_mulR ?h0 ?h1; (case h0 => fail "num"); (case h1 => fail "num"))
  | (refine' opv_mulL ?h0 ?h1; (case h0 => fail "num"); (case h1 => fail "num"))
  | (refine' opv_rep ?h0 ?h1 ?h2; (case h0 => fail "num"); (case h1 => fail "num"); (case h2 => (have := PySem.sizeLine_eq; fail "num")))
  | assumption)
local macro_rules | `(tactic| fail "cm") => `(tactic| first
  | exact cmpv_eqI
  | exact cmpv_neI
  | exact cmpv_lt
  | exact cmpv_le
  | exact cmpv_gt
  | exact cmpv_ge
  | exact cmpv_isN
  | exact cmpv_isNN
  | exact cmpv_isB
  | exact cmpv_isNB
  | assumption)
local macro_rules | `(tactic| fail "ix") => `(tactic| first
  | (refine' idxv_tup ?h0; (case h0 => fail "at"))
  | (refine' idxv_lst ?h0 ?h1; (case h0 => fail "st"); (case h1 => fail "at"))
  | (refine' idxv_frl ?h0; (case h0 => fail "at"))
  | assumption)
local macro_rules | `(tactic| fail "eo") => `(tactic| first
  | exact True.intro
  | (refine (show EvO _ (some _) _ _ (some _) from ?_); fail "ev"))
local macro_rules | `(tactic| fail "el") => `(tactic| first
  | (refine' evl_var ?h0 ?h1; (case h0 => rfl); (case h1 => fail "st"))
  | (refine EvF.l ?_; fail "ef")
  | assumption)
local macro_rules | `(tactic| fail "ef") => `(tactic| first
  | (refine' evf_lst ?h0; (case h0 => fail "evs"))
  | (refine' evf_list ?h0 ?h1 ?h2; (case h0 => fail "ev"); (case h1 => exact fun _ => rfl); (case h2 => exact fun _ => rfl))
  | (refine' evf_listL ?h0; (case h0 => fail "el"))
  | (refine' evf_rev ?h0; (case h0 => fail "el"))
  | (refine' evf_slc ?h0 ?h1 ?h2; (case h0 => fail "el"); (case h1 => fail "eo"); (case h2 => fail "eo"))
  | (refine' evf_add ?h0 ?h1 ?h2; (case h0 => fail "el"); (case h1 => fail "el"); (case h2 => (have := PySem.sizeLine_eq; fail "num")))
  | (refine' evf_call ?h0 ?h1; (case h0 => fail "evs"); (case h1 => fail "fn"))
  | assumption)
local macro_rules | `(tactic| fail "ev") => `(tactic| first
  | exact ev_lit
  | exact ev_var rfl
  | (refine' ev_con ?h0; (case h0 => fail "con"))
  | exact ev_fnv
  | (refine' ev_tup ?h0; (case h0 => fail "evs"))
  | (refine' ev_not ?h0; (case h0 => fail "ev"))
  | (refine' ev_and ?h0 ?h1; (case h0 => fail "ev"); (case h1 => first | ((refine (show _ = true → Ev _ _ _ _ (.bl false) from ?_)); intro h; exact absurd h (by decide)) | (intro hAnd; fail "ev")))
  | (refine' ev_or ?h0 ?h1; (case h0 => fail "ev"); (case h1 => first | ((refine (show _ = false → Ev _ _ _ _ (.bl false) from ?_)); intro h; exact absurd h (by decide)) | (intro hOr; fail "ev")))
  | (refine' ev_chn ?h0 ?h1 ?h2 ?h3 ?h4; (case h0 => fail "ev"); (case h1 => fail "ev"); (case h2 => fail "ev"); (case h3 => fail "cm"); (case h4 => fail "cm"))
  | (refine' ev_cmp ?h0 ?h1 ?h2; (case h0 => fail "ev"); (case h1 => fail "ev"); (case h2 => fail "cm"))
  | (refine' ev_bin ?h0 ?h1 ?h2; (case h0 => fail "ev"); (case h1 => fail "ev"); (case h2 => fail "op"))
  | (refine' ev_neg ?h0; (case h0 => fail "ev"))
  | (refine' ev_ife ?h0 ?h1 ?h2; (case h0 => fail "ev"); (case h1 => (intro hT; fail "ev")); (case h2 => (intro hF; fail "ev")))
  | (refine' ev_idx ?h0 ?h1 ?h2; (case h0 => fail "ev"); (case h1 => fail "ev"); (case h2 => fail "ix"))
  | (refine' ev_slc ?h0 ?h1 ?h2; (case h0 => fail "ev"); (case h1 => fail "eo"); (case h2 => fail "eo"))
  | (refine' ev_fld ?h0 ?h1 ?h2; (case h0 => fail "ev"); (case h1 => fail "st"); (case h2 => rfl))
  | (refine' ev_isi ?h0 ?h1; (case h0 => fail "ev"); (case h1 => fail "ty"))
  | (refine' ev_len ?h0 ?h1 ?h2; (case h0 => fail "ev"); (case h1 => exact fun _ => rfl); (case h2 => exact fun _ => rfl))
  | (refine' ev_lenL ?h0; (case h0 => fail "el"))
  | (refine' ev_int ?h0; (case h0 => fail "ev"))
  | (refine' ev_intB ?h0; (case h0 => fail "ev"))
  | (refine' ev_tuple ?h0 ?h1; (case h0 => fail "ev"); (case h1 => exact fun _ => rfl))
  | (refine' ev_tupleL ?h0; (case h0 => fail "el"))
  | (refine' ev_min2 ?h0 ?h1; (case h0 => fail "ev"); (case h1 => fail "ev"))
  | (refine' ev_max2 ?h0 ?h1; (case h0 => fail "ev"); (case h1 => fail "ev"))
  | (refine' ev_abs ?h0; (case h0 => fail "ev"))
  | (refine' ev_call ?h0 ?h1; (case h0 => fail "evs"); (case h1 => fail "fn"))
  | (refine' ev_cvar ?h0 ?h1 ?h2; (case h0 => rfl); (case h1 => fail "evs"); (case h2 => fail "fn"))
  | assumption)
local macro_rules | `(tactic| fail "tf") => `(tactic| first
  | decide
  | rfl
  | (simp; done)
  | (simp; omega))
local macro_rules | `(tactic| fail "no") => `(tactic| (refine' bk_noX ?h0 ?h1 ?_; (case h0 => fail "ev"); (case h1 => fail "tf")))
local macro_rules | `(tactic| fail "yes") => `(tactic| (refine' bk_yesX ?h0 ?h1 ?_; (case h0 => fail "ev"); (case h1 => fail "tf")))
local macro_rules | `(tactic| fail "ret") => `(tactic| (refine' bk_ret ?h0 (fun S9 d9 => Wk.drop d9 (Wk.here ?_)); (case h0 => fail "ev")))
local macro_rules | `(tactic| fail "set") => `(tactic| (refine' bk_set ?h0 ?_; (case h0 => fail "ev")))
local macro_rules | `(tactic| fail "setF") => `(tactic| (refine' bk_setF ?h0 ?_; (case h0 => fail "ef")))
local macro_rules | `(tactic| fail "if") => `(tactic| (refine' bk_if1 ?h0 ?_ ?_; (case h0 => fail "ev")))
local macro_rules | `(tactic| fail "if2") => `(tactic| (refine' bk_if ?h0 ?_ ?_; (case h0 => fail "ev")))
local macro_rules | `(tactic| fail "put") => `(tactic| (refine' bk_put ?h0 ?h1 ?h2 ?h3 ?h4 ?_; (case h0 => fail "ev"); (case h1 => fail "ev"); (case h2 => fail "ev"); (case h3 => fail "st"); (case h4 => rfl)))
local macro_rules | `(tactic| fail "retC") => `(tactic| (refine' bk_retC ?h0 ?_; (case h0 => fail "evs")))
local macro_rules | `(tactic| fail "setC") => `(tactic| (refine' bk_setC ?h0 ?_; (case h0 => fail "evs")))
local macro_rules | `(tactic| fail "expC") => `(tactic| (refine' bk_expC ?h0 ?_; (case h0 => fail "evs")))
local macro_rules | `(tactic| fail "callE") => `(tactic| (refine' cps_call ?h0 ?_; (case h0 => fail "evs")))
local macro_rules | `(tactic| fail "exp") => `(tactic| (refine' bk_exp ?h0 ?_; (case h0 => fail "ev")))
local macro_rules | `(tactic| fail "con") => `(tactic| first | exact Z.con_MOST_ROWS | exact Z.con_MOST_COUNTERS | exact Z.con_PRIMES | rfl)
namespace Z
open PySem Core L2
theorem ix_last {n : Nat} (h : n + 1 < 1000) : ixN (n + 1) (-1) = some n := by
  unfold ixN
  simp
  omega
theorem it_from1 {S : Store} {p : Nat} (hp : 1 ≤ p) (hp2 : p ≤ 1000) : Iter .range [.int 1, .int (p : Int)] S ((List.range (p - 1)).map fun (i : Nat) => P.int (1 + (i : Int))) Any := by
  have big := PySem.sizeLine_eq
  have := it_range2 (S := S) (m := 1) (n := (p : Int)) (by omega) (by omega) (by omega) (by omega) (by omega)
  rw [show ((p : Int) - 1).toNat = p - 1 by omega] at this
  exact this
def rsts (p e n : Nat) : List P := (List.range n).map fun i => P.int (rst p e i : Nat)
theorem rsts_s {p e n : Nat} : rsts p e (n + 1) = rsts p e n ++ [.int (rst p e n : Nat)] := by
  unfold rsts; rw [List.range_succ, List.map_append]; rfl
theorem rsts_at {p e n i : Nat} (h : i < n) : atI (rsts p e n) (i : Int) = some (.int (rst p e i : Nat)) := atI_at (by
  unfold rsts; rw [List.getElem?_map, List.getElem?_range h]; rfl)
def odsP (l : List Od) : List P := l.map Od.toP
theorem odsP_app {a b : List Od} : odsP a ++ odsP b = odsP (a ++ b) := by unfold odsP; rw [List.map_append]
theorem odsP_len {a : List Od} : (odsP a).length = a.length := by unfold odsP; rw [List.length_map]
theorem dnB_len {p e t o : Nat} (hp : 1 ≤ p) (hp2 : p ≤ 5) : (dnB p e t o).length ≤ 100 := by
  rcases (by omega : p = 1 ∨ p = 2 ∨ p = 3 ∨ p = 4 ∨ p = 5) with rfl | rfl | rfl | rfl | rfl <;> simp [dnB, dnR, List.flatMap, List.range, List.range.loop]
/-- the rows of the rests so far -/
def dnU (p e t o n : Nat) : List Od := (List.range p).map (fun i => .dn 0 (e + i + 1) (rst p e i)) ++ [.up 1 e] ++ [.dn 1 (rst p e 0 + 1) t] ++ [.up 0 (rst p e 0)] ++ (List.range n).flatMap fun j => dnR p (rst p e (j + 1)) (j + 1) o
theorem dnU_s {p e t o n : Nat} : dnU p e t o (n + 1) = dnU p e t o n ++ dnR p (rst p e (n + 1)) (n + 1) o := by
  unfold dnU
  rw [List.range_succ, List.flatMap_append, List.flatMap_singleton, List.append_assoc _ _ (dnR p (rst p e (n + 1)) (n + 1) o)]
theorem dnR_len {p h r o : Nat} (hp : 1 ≤ p) (hr : 1 ≤ r) : (dnR p h r o).length = p + r + 1 := by
  simp [dnR]; omega
theorem dnU_len {p e t o : Nat} (hp : 1 ≤ p) (hp2 : p ≤ 5) : ∀ n, n ≤ p - 1 → (dnU p e t o n).length ≤ 8 + n * 11
  | 0, _ => by unfold dnU; simp; omega
  | n + 1, h => by
    rw [dnU_s, List.length_append, dnR_len hp (by omega)]
    have := dnU_len (e := e) (t := t) (o := o) hp hp2 n (by omega)
    omega
/-- the first part: where the rests stand -/
theorem dn_rests {k p e t o : Nat} {S' : Store} {D1 : DE} (hp : 1 ≤ p) (hp2 : p ≤ 5) (hn : ∀ A S2 x5, S' A = none → S2 = S'.upd A (.lst (rsts p e p)) → wpB (envAt D k) (b_rows_for_down.drop 2) [some (.int p), some (.int e), some (.int t), some (.int o), some (.loc A), x5, none, none, none] S2 D1) :
    wpB (envAt D k) b_rows_for_down [some (.int p), some (.int e), some (.int t), some (.int o), none, none, none, none, none] S' D1 := by
  have big := PySem.sizeLine_eq
  refine bk_setF (xs := rsts p e 1) (evf_lst (evs_cons (ev_val (ev_bin (ev_bin (ev_var rfl) (ev_var rfl) opv_add) ev_lit opv_add) (congrArg P.int (by show (e : Int) + p + 1 = ((e + p + 1 : Nat) : Int); push_cast; rfl))) evs_nil)) fun A hA => ?_
  show wpB _ _ [some (.int p), some (.int e), some (.int t), some (.int o), some (.loc A), none, none, none, none] _ _
  refine bk_for (List.range (p - 1)) (fun (i : Nat) => P.int (1 + (i : Int))) (fun i ρ' S2 => S2 = S'.upd A (.lst (rsts p e (i + 1))) ∧ ∃ x5, ρ' = [some (.int p), some (.int e), some (.int t), some (.int o), some (.loc A), x5, none, none, none]) (evs_cons ev_lit (evs_cons (ev_var rfl) evs_nil)) (it_from1 hp (by omega)) up_any (fun _ _ _ _ => trivial) ⟨rfl, none, rfl⟩ ?_ ?_ (env_mono _ _)
  · rintro i x ρ' S2 hx ⟨rfl, x5, rfl⟩
    have hix : i < p - 1 ∧ i = x := by
      rw [List.getElem?_eq_some_iff] at hx
      obtain ⟨h1, h2⟩ := hx
      simp at h1 h2
      exact ⟨by omega, h2⟩
    obtain ⟨lt, rfl⟩ := hix
    show wpB _ _ [some (.int p), some (.int e), some (.int t), some (.int o), some (.loc A), some (.int (1 + (i : Int))), none, none, none] _ _
    have hl : (rsts p e (i + 1)).length = i + 1 := by unfold rsts; simp
    refine bk_append (p := .int ((rst p e i : Nat) + 2 : Int)) (ev_var rfl) (ev_bin (ev_idx (ev_var rfl) (ev_neg ev_lit) (idxv_lst Store.upd_same (by rw [rsts_s]; exact at_last))) ev_lit opv_add) Store.upd_same (by omega) ?_
    rw [Store.upd_upd]
    refine bk_if1 (x := decide ((1 : Int) < 1 + (i : Int))) (ev_cmp (ev_var rfl) ev_lit cmpv_gt) ?_ ?_
    · intro h
      have h := of_decide_eq_true h
      obtain ⟨j, rfl⟩ : ∃ j, i = j + 1 := ⟨i - 1, by omega⟩
      refine bk_augI (n := -1) (x := (rst p e (j + 1) : Nat) + 2) (y := (p : Int) + (1 + ((j + 1 : Nat) : Int)) - 2) (j := j + 2) (ev_var rfl) (ev_neg ev_lit) Store.upd_same at_last (by rw [List.length_append, hl]; exact ix_last (by omega)) (ev_bin (ev_bin (ev_var rfl) (ev_var rfl) opv_add) ev_lit opv_sub) (fun S' Q q => q) (bk_nil (bk_nil (G := envAt D k) ⟨?_, _, rfl⟩))
      rw [Store.upd_upd, rsts_s (n := j + 1 + 1)]
      congr 2
      rw [List.set_append_right _ _ (by omega), hl]
      simp only [Nat.sub_self, List.set_cons_zero]
      congr 3
      show _ = ((rst p e (j + 1) + p + (j + 2) : Nat) : Int)
      push_cast; omega
    · intro h
      have h := of_decide_eq_false h
      have : i = 0 := by omega
      subst this
      refine bk_nil ⟨?_, _, rfl⟩
      rw [rsts_s (n := 1)]
      congr 2
  · rintro ρ' S2 ⟨rfl, x5, rfl⟩
    rw [List.length_range, show p - 1 + 1 = p by omega]
    exact hn A _ x5 hA rfl
theorem app_od {k : Nat} {ρ : Core.Loc} {S : Store} {ss : List CS} {D1 : DE} {B : Addr} {L : List Od} {e : CE} {o : Od} (h6 : ρ[6]? = some (some (.loc B))) (he : Ev (envAt D k) e ρ (S.upd B (.lst (odsP L))) o.toP) (hl : L.length ≤ 1000) (q : wpB (envAt D k) ss ρ (S.upd B (.lst (odsP (L ++ [o])))) D1) : wpB (envAt D k) (.exp (.bmt (.var 6) .append [e]) :: ss) ρ (S.upd B (.lst (odsP L))) D1 := by
  have big := PySem.sizeLine_eq
  refine bk_append (ev_var h6) he Store.upd_same (by rw [odsP_len]; omega) ?_
  rw [Store.upd_upd]
  rw [← odsP_app] at q
  exact q
theorem ext_od {k : Nat} {ρ : Core.Loc} {S : Store} {ss : List CS} {D1 : DE} {B : Addr} {L L2 : List Od} {e : CE} (h6 : ρ[6]? = some (some (.loc B))) (he : EvL (envAt D k) e ρ (S.upd B (.lst (odsP L))) (odsP L2)) (hl : L.length ≤ 1000) (hl2 : L2.length ≤ 1000) (q : wpB (envAt D k) ss ρ (S.upd B (.lst (odsP (L ++ L2)))) D1) : wpB (envAt D k) (.exp (.bmt (.var 6) .extend [e]) :: ss) ρ (S.upd B (.lst (odsP L))) D1 := by
  have big := PySem.sizeLine_eq
  refine bk_extend (ev_var h6) he Store.upd_same (by rw [odsP_len, odsP_len]; omega) ?_
  rw [Store.upd_upd]
  rw [← odsP_app] at q
  exact q
theorem evf_ups {k : Nat} {ρ : Core.Loc} {S : Store} {arg c : CE} {n : Nat} {g : Nat → Nat} (hn : n ≤ 1000) (ha : Ev (envAt D k) arg ρ S (.int (n : Nat))) (hc : ∀ i : Nat, i < n → Ev (envAt D k) c ((wipeP ρ [8]).set 8 (some (.int (i : Nat)))) S (.int (g i : Nat))) : EvF (envAt D k) (.cmpr [8] .range [arg] (.nm 8) (.tup [.lit (.str "up"), .lit (.int 0), c]) none) ρ S (odsP ((List.range n).map fun i => Od.up 0 (g i))) := by
  have big := PySem.sizeLine_eq
  have ef := evf_cmpr (G := envAt D k) (ρ := ρ) (S := S) (own := [8]) (k := .range) (args := [arg]) (tg := .nm 8) (elt := .tup [.lit (.str "up"), .lit (.int 0), c]) (List.range n) (fun (i : Nat) => P.int (i : Nat)) (fun i => (Od.up 0 (g i)).toP) (evs_cons ha evs_nil) (it_range (by omega)) good_any (fun i hi => by
    show Ev _ _ ((wipeP ρ [8]).set 8 (some (.int (i : Nat)))) S _
    exact ev_tup (evs_cons ev_lit (evs_cons ev_lit (evs_cons (hc i (List.mem_range.mp hi)) evs_nil))))
  unfold odsP
  rw [List.map_map]
  exact ef
theorem dn_rows {k p e t o : Nat} {S : Store} (hp : 1 ≤ p) (hp2 : p ≤ 5) : FnL ((envAt D (k + 1)).fn nf_rows_for_down) [.int p, .int e, .int t, .int o] S (odsP (dnB p e t o)) := by
  refine ⟨fun S' d Q E q => ?_⟩
  have big := PySem.sizeLine_eq
  refine fn_start (d := ⟨4, 9, b_rows_for_down⟩) rfl rfl ?_
  refine dn_rests hp hp2 fun A S2 x5 hA hS2 => ?_
  have hA2 : S2 A = some (.lst (rsts p e p)) := by rw [hS2]; exact Store.upd_same
  have dA : SubS S' S2 := by rw [hS2]; exact .upd hA
  clear hS2
  have l0 : ((List.range p).map (fun i => Od.dn 0 (e + i + 1) (rst p e i))).length = p := by simp
  refine bk_setF (xs := odsP ((List.range p).map fun i => Od.dn 0 (e + i + 1) (rst p e i))) ?_ fun B hB => ?_
  · have ef := evf_cmpr (G := envAt D k) (ρ := [some (.int p), some (.int e), some (.int t), some (.int o), some (.loc A), x5, none, none, none]) (S := S2) (own := [8]) (k := .range) (args := [.var 0]) (tg := .nm 8) (elt := .tup [.lit (.str "down"), .lit (.int 0), .bin .Add (.bin .Add (.var 1) (.var 8)) (.lit (.int 1)), .idx (.var 4) (.var 8)]) (List.range p) (fun (i : Nat) => P.int (i : Nat)) (fun i => (Od.dn 0 (e + i + 1) (rst p e i)).toP) (evs_cons (ev_var rfl) evs_nil) (it_range (by omega)) good_any (fun i hi => by
      show Ev _ _ [some (.int p), some (.int e), some (.int t), some (.int o), some (.loc A), x5, none, none, some (.int (i : Nat))] S2 _
      exact ev_tup (evs_cons ev_lit (evs_cons ev_lit (evs_cons (ev_bin (ev_bin (ev_var rfl) (ev_var rfl) opv_add) ev_lit opv_add) (evs_cons (ev_idx (ev_var rfl) (ev_var rfl) (idxv_lst hA2 (rsts_at (List.mem_range.mp hi)))) evs_nil)))))
    unfold odsP
    rw [List.map_map]
    exact ef
  · have AB : A ≠ B := fun z => by rw [← z, hA2] at hB; cases hB
    have hA3 : ∀ L, (S2.upd B (.lst L)) A = some (.lst (rsts p e p)) := fun L => by rw [Store.upd_ne AB]; exact hA2
    have ei : ∀ {ρ : Core.Loc} {L : List P} {c : CE} {i : Nat}, ρ[4]? = some (some (.loc A)) → i < p → Ev (envAt D k) c ρ (S2.upd B (.lst L)) (.int (i : Nat)) → Ev (envAt D k) (.idx (.var 4) c) ρ (S2.upd B (.lst L)) (.int (rst p e i : Nat)) := fun h4 hi hc => ev_idx (ev_var h4) hc (idxv_lst (hA3 _) (rsts_at hi))
    show wpB _ _ [some (.int p), some (.int e), some (.int t), some (.int o), some (.loc A), x5, some (.loc B), none, none] _ _
    refine app_od (o := .up 1 e) rfl (by fail "ev") (by omega) ?_
    refine app_od (o := .dn 1 (rst p e 0 + 1) t) rfl (ev_tup (evs_cons ev_lit (evs_cons ev_lit (evs_cons (ev_bin (ei rfl (by omega) (ev_lit (p := .int (0 : Nat)))) ev_lit opv_add) (evs_cons (ev_var rfl) evs_nil))))) (by simp; omega) ?_
    refine app_od (o := .up 0 (rst p e 0)) rfl (ev_tup (evs_cons ev_lit (evs_cons ev_lit (evs_cons (ei rfl (by omega) (ev_lit (p := .int (0 : Nat)))) evs_nil)))) (by simp; omega) ?_
    refine bk_for (List.range (p - 1)) (fun (i : Nat) => P.int (1 + (i : Int))) (fun i ρ' S3 => S3 = S2.upd B (.lst (odsP (dnU p e t o i))) ∧ ∃ x5 x7 x8, ρ' = [some (.int p), some (.int e), some (.int t), some (.int o), some (.loc A), x5, some (.loc B), x7, x8]) (evs_cons ev_lit (evs_cons (ev_var rfl) evs_nil)) (it_from1 hp (by omega)) up_any (fun _ _ _ _ => trivial) ⟨by unfold dnU; simp, x5, none, none, rfl⟩ ?_ ?_ (env_mono _ _)
    · rintro i x ρ' S3 hx ⟨rfl, y5, y7, y8, rfl⟩
      have hix : i < p - 1 ∧ i = x := by
        rw [List.getElem?_eq_some_iff] at hx
        obtain ⟨h1, h2⟩ := hx
        simp at h1 h2
        exact ⟨by omega, h2⟩
      obtain ⟨lt, rfl⟩ := hix
      show wpB _ _ [some (.int p), some (.int e), some (.int t), some (.int o), some (.loc A), some (.int (1 + (i : Int))), some (.loc B), y7, y8] _ _
      rw [show (1 + (i : Int)) = ((i + 1 : Nat) : Int) by omega]
      have hU := dnU_len (e := e) (t := t) (o := o) hp hp2 i (by omega)
      generalize hL : dnU p e t o i = L at hU
      refine bk_set (ei rfl (by omega) (ev_var rfl)) ?_
      generalize hh : rst p e (i + 1) = h
      show wpB _ _ [some (.int p), some (.int e), some (.int t), some (.int o), some (.loc A), some (.int ((i + 1 : Nat) : Int)), some (.loc B), some (.int (h : Nat)), y8] _ _
      refine app_od (o := .dn 1 (h + 1) (h + 1 + p)) rfl (by fail "ev") (by omega) ?_
      refine ext_od (L2 := (List.range (p - 1)).map fun j => Od.up 0 (h + 2 + j)) rfl (evf_ups (g := fun j => h + 2 + j) (by omega) (ev_val (ev_bin (ev_var rfl) ev_lit opv_sub) (congrArg P.int (by omega))) fun j hj => ?_).l (by simp; omega) (by simp; omega) ?_
      · show Ev _ _ [some (.int p), some (.int e), some (.int t), some (.int o), some (.loc A), some (.int ((i + 1 : Nat) : Int)), some (.loc B), some (.int (h : Nat)), some (.int (j : Nat))] _ _
        exact ev_bin (ev_bin (ev_var rfl) ev_lit opv_add) (ev_var rfl) opv_add
      refine app_od (o := .up 0 h) rfl (by fail "ev") (by simp; omega) ?_
      refine ext_od (L2 := (List.range i).map fun j => Od.up 0 (h + p + 2 + j)) rfl (evf_ups (g := fun j => h + p + 2 + j) (by omega) (ev_val (ev_bin (ev_var rfl) ev_lit opv_sub) (congrArg P.int (by push_cast; omega))) fun j hj => ?_).l (by simp; omega) (by simp; omega) ?_
      · show Ev _ _ [some (.int p), some (.int e), some (.int t), some (.int o), some (.loc A), some (.int ((i + 1 : Nat) : Int)), some (.loc B), some (.int (h : Nat)), some (.int (j : Nat))] _ _
        exact ev_bin (ev_bin (ev_bin (ev_var rfl) (ev_var rfl) opv_add) ev_lit opv_add) (ev_var rfl) opv_add
      refine app_od (o := .up 0 o) rfl (by fail "ev") (by simp; omega) (bk_nil ⟨?_, _, _, _, rfl⟩)
      rw [dnU_s, hL, hh]
      unfold dnR
      simp only [List.append_assoc, Nat.add_sub_cancel]
    · rintro ρ' S3 ⟨rfl, y5, y7, y8, rfl⟩
      rw [List.length_range]
      have hB' : S' B = none := sub_none dA hB
      refine bk_ret (ev_var rfl) (fun S9 d9 => Wk.drop ((dA.both B _).trans d9) (Wk.here (q B hB')))
end Z
end
section
set_option maxRecDepth 100000
set_option maxHeartbeats 4000000
/-! S3: two_of. -/
open PySem Core L2
local macro_rules | `(tactic| fail "fn") => `(tactic| first
  | assumption)
local macro_rules | `(tactic| fail "num") => `(tactic| first
  | omega
  | decide
  | (simp only [List.length_append, List.length_cons, List.length_nil, List.length_map, List.length_replicate, List.length_singleton]; omega))
local macro_rules | `(tactic| fail "at") => `(tactic| first
  | rfl
  | assumption
  | exact atI_at (by first | assumption | rfl)
  | (refine atI_at ?_; simp; done))
local macro_rules | `(tactic| fail "st") => `(tactic| first
  | assumption
  | exact Store.upd_same)
local macro_rules | `(tactic| fail "ty") => `(tactic| first
  | rfl
  | assumption)
local macro_rules | `(tactic| fail "evs") => `(tactic| first
  | exact evs_nil
  | (refine' evs_cons ?h0 ?h1; (case h0 => fail "ev"); (case h1 => fail "evs")))
local macro_rules | `(tactic| fail "op") => `(tactic| first
  | exact opv_add
  | exact opv_sub
  | exact opv_pow ⟨by decide, by decide, by decide⟩
  | (refine' opv_cat ?h0; (case h0 => (have := PySem.sizeLine_eq; fail "num")))
  | (refine' opv_mod ?h0; (case h0 => fail "num"))
  | (refine' opv_div ?h0 ?h1; (case h0 => fail "num"); (case h1 => fail "num"))
  | (refine' opv_mulR ?h0 ?h1; (case h0 => fail "num"); (case h1 => fail "num"))
  | (refine' opv_mulL ?h0 ?h1; (case h0 => fail "num"); (case h1 => fail "num"))
  | (refine' opv_rep ?h0 ?h1 ?h2; (case h0 => fail "num"); (case h1 => fail "num"); (case h2 => (have := PySem.sizeLine_eq; fail "num")))
  | assumption)
local macro_rules | `(tactic| fail "cm") => `(tactic| first
  | exact cmpv_eqI
  | exact cmpv_neI
  | exact cmpv_lt
  | exact cmpv_le
  | exact cmpv_gt
  | exact cmpv_ge
  | exact cmpv_isN
  | exact cmpv_isNN
  | exact cmpv_isB
  | exact cmpv_isNB
  | assumption)
local macro_rules | `(tactic| fail "ix") => `(tactic| first
  | (refine' idxv_tup ?h0; (case h0 => fail "at"))
  | (refine' idxv_lst ?h0 ?h1; (case h0 => fail "st"); (case h1 => fail "at"))
  | (refine' idxv_frl ?h0; (case h0 => fail "at"))
  | assumption)
local macro_rules | `(tactic| fail "eo") => `(tactic| first
  | exact True.intro
  | (refine (show EvO _ (some _) _ _ (some _) from ?_); fail "ev"))
local macro_rules | `(tactic| fail "el") => `(tactic| first
  | (refine' evl_var ?h0 ?h1; (case h0 => rfl); (case h1 => fail "st"))
  | (refine EvF.l ?_; fail "ef")
  | assumption)
local macro_rules | `(tactic| fail "ef") => `(tactic| first
  | (refine' evf_lst ?h0; (case h0 => fail "evs"))
  | (refine' evf_list ?h0 ?h1 ?h2; (case h0 => fail "ev"); (case h1 => exact fun _ => rfl); (case h2 => exact fun _ => rfl))
  | (refine' evf_listL ?h0; (case h0 => fail "el"))
  | (refine' evf_rev ?h0; (case h0 => fail "el"))
  | (refine' evf_slc ?h0 ?h1 ?h2; (case h0 => fail "el"); (case h1 => fail "eo"); (case h2 => fail "eo"))
  | (refine' evf_add ?h0 ?h1 ?h2; (case h0 => fail "el"); (case h1 => fail "el"); (case h2 => (have := PySem.sizeLine_eq; fail "num")))
  | (refine' evf_call ?h0 ?h1; (case h0 => fail "evs"); (case h1 => fail "fn"))
  | assumption)
local macro_rules | `(tactic| fail "ev") => `(tactic| first
  | exact ev_lit
  | exact ev_var rfl
  | (refine' ev_con ?h0; (case h0 => fail "con"))
  | exact ev_fnv
  | (refine' ev_tup ?h0; (case h0 => fail "evs"))
  | (refine' ev_not ?h0; (case h0 => fail "ev"))
  | (refine' ev_and ?h0 ?h1; (case h0 => fail "ev"); (case h1 => first | ((refine (show _ = true → Ev _ _ _ _ (.bl false) from ?_)); intro h; exact absurd h (by decide)) | (intro hAnd; fail "ev")))
  | (refine' ev_or ?h0 ?h1; (case h0 => fail "ev"); (case h1 => first | ((refine (show _ = false → Ev _ _ _ _ (.bl false) from ?_)); intro h; exact absurd h (by decide)) | (intro hOr; fail "ev")))
  | (refine' ev_chn ?h0 ?h1 ?h2 ?h3 ?h4; (case h0 => fail "ev"); (case h1 => fail "ev"); (case h2 => fail "ev"); (case h3 => fail "cm"); (case h4 => fail "cm"))
  | (refine' ev_cmp ?h0 ?h1 ?h2; (case h0 => fail "ev"); (case h1 => fail "ev"); (case h2 => fail "cm"))
  | (refine' ev_bin ?h0 ?h1 ?h2; (case h0 => fail "ev"); (case h1 => fail "ev"); (case h2 => fail "op"))
  | (refine' ev_neg ?h0; (case h0 => fail "ev"))
  | (refine' ev_ife ?h0 ?h1 ?h2; (case h0 => fail "ev"); (case h1 => (intro hT; fail "ev")); (case h2 => (intro hF; fail "ev")))
  | (refine' ev_idx ?h0 ?h1 ?h2; (case h0 => fail "ev"); (case h1 => fail "ev"); (case h2 => fail "ix"))
  | (refine' ev_slc ?h0 ?h1 ?h2; (case h0 => fail "ev"); (case h1 => fail "eo"); (case h2 => fail "eo"))
  | (refine' ev_fld ?h0 ?h1 ?h2; (case h0 => fail "ev"); (case h1 => fail "st"); (case h2 => rfl))
  | (refine' ev_isi ?h0 ?h1; (case h0 => fail "ev"); (case h1 => fail "ty"))
  | (refine' ev_len ?h0 ?h1 ?h2; (case h0 => fail "ev"); (case h1 => exact fun _ => rfl); (case h2 => exact fun _ => rfl))
  | (refine' ev_lenL ?h0; (case h0 => fail "el"))
  | (refine' ev_int ?h0; (case h0 => fail "ev"))
  | (refine' ev_intB ?h0; (case h0 => fail "ev"))
  | (refine' ev_tuple ?h0 ?h1; (case h0 => fail "ev"); (case h1 => exact fun _ => rfl))
  | (refine' ev_tupleL ?h0; (case h0 => fail "el"))
  | (refine' ev_min2 ?h0 ?h1; (case h0 => fail "ev"); (case h1 => fail "ev"))
  | (refine' ev_max2 ?h0 ?h1; (case h0 => fail "ev"); (case h1 => fail "ev"))
  | (refine' ev_abs ?h0; (case h0 => fail "ev"))
  | (refine' ev_call ?h0 ?h1; (case h0 => fail "evs"); (case h1 => fail "fn"))
  | (refine' ev_cvar ?h0 ?h1 ?h2; (case h0 => rfl); (case h1 => fail "evs"); (case h2 => fail "fn"))
  | assumption)
local macro_rules | `(tactic| fail "tf") => `(tactic| first
  | decide
  | rfl
  | (simp; done)
  | (simp; omega))
local macro_rules | `(tactic| fail "no") => `(tactic| (refine' bk_noX ?h0 ?h1 ?_; (case h0 => fail "ev"); (case h1 => fail "tf")))
local macro_rules | `(tactic| fail "yes") => `(tactic| (refine' bk_yesX ?h0 ?h1 ?_; (case h0 => fail "ev"); (case h1 => fail "tf")))
local macro_rules | `(tactic| fail "ret") => `(tactic| (refine' bk_ret ?h0 (fun S9 d9 => Wk.drop d9 (Wk.here ?_)); (case h0 => fail "ev")))
local macro_rules | `(tactic| fail "set") => `(tactic| (refine' bk_set ?h0 ?_; (case h0 => fail "ev")))
local macro_rules | `(tactic| fail "setF") => `(tactic| (refine' bk_setF ?h0 ?_; (case h0 => fail "ef")))
local macro_rules | `(tactic| fail "if") => `(tactic| (refine' bk_if1 ?h0 ?_ ?_; (case h0 => fail "ev")))
local macro_rules | `(tactic| fail "if2") => `(tactic| (refine' bk_if ?h0 ?_ ?_; (case h0 => fail "ev")))
local macro_rules | `(tactic| fail "put") => `(tactic| (refine' bk_put ?h0 ?h1 ?h2 ?h3 ?h4 ?_; (case h0 => fail "ev"); (case h1 => fail "ev"); (case h2 => fail "ev"); (case h3 => fail "st"); (case h4 => rfl)))
local macro_rules | `(tactic| fail "retC") => `(tactic| (refine' bk_retC ?h0 ?_; (case h0 => fail "evs")))
local macro_rules | `(tactic| fail "setC") => `(tactic| (refine' bk_setC ?h0 ?_; (case h0 => fail "evs")))
local macro_rules | `(tactic| fail "expC") => `(tactic| (refine' bk_expC ?h0 ?_; (case h0 => fail "evs")))
local macro_rules | `(tactic| fail "callE") => `(tactic| (refine' cps_call ?h0 ?_; (case h0 => fail "evs")))
local macro_rules | `(tactic| fail "exp") => `(tactic| (refine' bk_exp ?h0 ?_; (case h0 => fail "ev")))
local macro_rules | `(tactic| fail "con") => `(tactic| first | exact Z.con_MOST_ROWS | exact Z.con_MOST_COUNTERS | exact Z.con_PRIMES | rfl)
local macro_rules | `(tactic| fail "fn") => `(tactic| exact Z.int_ok (by fail "ty"))
namespace Z
open PySem Core L2
theorem total_snoc : ∀ (os : List Od) (at_ : Nat) (o : Od), total at_ (os ++ [o]) = total at_ os + sizeO o
  | [], at_, o => rfl
  | x :: os, at_, o => total_snoc os (at_ + sizeO x) o
theorem ents_get : ∀ (os : List Od) (at_ i : Nat), i < os.length → (ents at_ os)[i]? = some (total at_ (os.take i))
  | [], _, i, h => by cases h
  | x :: os, at_, 0, _ => rfl
  | x :: os, at_, i + 1, h => ents_get os (at_ + sizeO x) i (by simpa using h)
def natsP (l : List Nat) : List P := l.map fun (n : Nat) => P.int n
def farE : Exc := ⟨nk_TooFar, []⟩
/-- the first part of two_of: entries -/
theorem two_ents {lv : Nat} {C : Cn} {S' : Store} {D1 : DE} (g : GoodC C) (hn : ∀ A x3, S' A = none → wpB (envAt D (lv + 3)) (b_two_of.drop 4) [some C.toP, some (.loc A), some (.int (total 0 C.rows : Nat)), x3, none, none] (S'.upd A (.lst (natsP (EofC C)))) D1) :
    wpB (envAt D (lv + 3)) b_two_of [some C.toP, none, none, none, none, none] S' D1 := by
  have big := PySem.sizeLine_eq
  have n2 := g.n1
  have hm := cnt_ok (lv := lv) (n := 1) (S := S') (cn_dt C) (by omega)
  rw [cn_good g] at hm
  refine bk_noX (ev_not (ev_call (by fail "evs") hm)) rfl ?_
  refine bk_setF (xs := natsP ((EofC C).take 0)) (evf_lst evs_nil) fun A hA => ?_
  refine bk_set ev_lit ?_
  show wpB _ _ [some C.toP, some (.loc A), some (.int 0), none, none, none] _ _
  have i2 : ∀ {S : Store}, IdxV C.toP (.int 2) S (.tup (C.rows.map Od.toP)) := idxv_tup rfl
  refine bk_for C.rows Od.toP (fun i ρ' S2 => S2 = S'.upd A (.lst (natsP ((EofC C).take i))) ∧ ∃ x3, ρ' = [some C.toP, some (.loc A), some (.int (total 0 (C.rows.take i) : Nat)), x3, none, none]) (evs_cons (ev_idx (ev_var rfl) ev_lit i2) evs_nil) it_tup up_any (fun _ _ _ _ => trivial) ⟨rfl, none, rfl⟩ ?_ ?_ (env_mono _ _)
  · rintro i o ρ' S2 hx ⟨rfl, x3, rfl⟩
    have hi := (List.getElem?_eq_some_iff.mp hx).1
    have ho := g.od o (List.mem_of_getElem? hx)
    show wpB _ _ [some C.toP, some (.loc A), some (.int (total 0 (C.rows.take i) : Nat)), some o.toP, none, none] _ _
    refine bk_append (p := .int (total 0 (C.rows.take i) : Nat)) (ev_var rfl) (ev_var rfl) Store.upd_same (by unfold natsP; simp; omega) ?_
    rw [Store.upd_upd]
    refine bk_aug (x := (total 0 (C.rows.take i) : Nat)) (y := (sizeO o : Nat)) rfl (ev_call (by fail "evs") (size_ok ho g.k1)) (fun S' Q q => q) (bk_nil ⟨?_, some o.toP, ?_⟩)
    · rw [List.take_add_one, show (EofC C)[i]? = some (total 0 (C.rows.take i)) from ents_get C.rows 0 i hi]
      unfold natsP
      simp
    · rw [List.take_add_one, hx]
      show _ = [some C.toP, some (.loc A), some (.int (total 0 (C.rows.take i ++ [o]) : Nat)), some o.toP, none, none]
      rw [total_snoc]
      rfl
  · rintro ρ' S2 ⟨rfl, x3, rfl⟩
    have hl : (EofC C).length = C.rows.length := ents_len _ _
    rw [List.take_length, ← hl, List.take_length]
    exact hn A x3 hA
theorem two_no {lv n : Nat} {c : P} {S : Store} (h : Dt S (n + 5) c) (hn : n ≤ 40) (hc : cntB c = false) : FnR ((envAt D (lv + 4)).fn nf_two_of) [c] S (.error (badE "counters")) := by
  refine ⟨fun S' d Q E q => ?_⟩
  refine fn_start (d := ⟨1, 6, b_two_of⟩) rfl rfl ?_
  show wpB _ b_two_of [some c, none, none, none, none, none] S' _
  have hm := cnt_ok (lv := lv) (h.at d) hn
  rw [hc] at hm
  refine bk_yesX (ev_not (ev_call (by fail "evs") hm)) rfl ?_
  exact bk_rse1 (f := na_word) (by rw [env_xc]; rfl) (by rw [env_lv]; omega) ev_lit fun S2 d2 => Wk.drop d2 (keepE q)
theorem two_far {lv : Nat} {C : Cn} {S : Store} (g : GoodC C) (ht : 2000 < total 0 C.rows) : FnR ((envAt D (lv + 4)).fn nf_two_of) [C.toP] S (.error farE) := by
  refine ⟨fun S' d Q E q => ?_⟩
  refine fn_start (d := ⟨1, 6, b_two_of⟩) rfl rfl ?_
  show wpB _ b_two_of [some C.toP, none, none, none, none, none] S' _
  refine two_ents (lv := lv) g fun A x3 hA => ?_
  refine bk_yesX (x := decide ((2000 : Int) < (total 0 C.rows : Nat))) (ev_cmp (ev_var rfl) (ev_con con_MOST_ROWS) cmpv_gt) (decide_eq_true (by omega)) ?_
  exact bk_rse0 (by rw [env_xc]; rfl) (by rw [env_lv]; omega) (Wk.drop (.upd hA) (keepE q))
theorem zip_ents {E : List Nat} {os : List Od} : zipP (natsP E) (os.map Od.toP) = (E.zip os).map fun e => P.tup [.int (e.1 : Nat), e.2.toP] := by
  unfold zipP natsP
  rw [List.zip_map, List.map_map]; rfl
theorem flat_len {F : Nat → Nat} {k m : Nat} (hk : k ≤ 3) : ∀ (l : List (Nat × Od)), (∀ e ∈ l, e.2.Ok k m) → (l.flatMap fun e => blockO F e.1 e.2).length ≤ l.length * 42
  | [], _ => by simp
  | e :: l, h => by
    rw [List.flatMap_cons, List.length_append, block_len (h e List.mem_cons_self) hk]
    have h1 := size_le (h e List.mem_cons_self) hk
    have h2 := flat_len (F := F) hk l fun x hx => h x (List.mem_cons_of_mem _ hx)
    rw [List.length_cons]
    omega
theorem two_ok {lv : Nat} {C : Cn} {S : Store} (g : GoodC C) (k3 : C.k ≤ 3) (n8 : C.rows.length ≤ 8) : FnV ((envAt D (lv + 4)).fn nf_two_of) [C.toP] S (.tup [.str "two", (twoC C).toP, .tup (natsP (EofC C))]) := by
  refine ⟨fun S' d Q E q => ?_⟩
  have q : Q (.tup [.str "two", (twoC C).toP, .tup (natsP (EofC C))]) S' := q
  have big := PySem.sizeLine_eq
  have hm := total_max k3 C.rows 0 g.od
  have hEl : (EofC C).length = C.rows.length := ents_len _ _
  have i2 : ∀ {S : Store}, IdxV C.toP (.int 2) S (.tup (C.rows.map Od.toP)) := idxv_tup rfl
  refine fn_start (d := ⟨1, 6, b_two_of⟩) rfl rfl ?_
  show wpB _ b_two_of [some C.toP, none, none, none, none, none] S' _
  refine two_ents (lv := lv) g fun A x3 hA => ?_
  refine bk_noX (x := decide ((2000 : Int) < (total 0 C.rows : Nat))) (ev_cmp (ev_var rfl) (ev_con con_MOST_ROWS) cmpv_gt) (decide_eq_false (by omega)) ?_
  have hA1 : (S'.upd A (.lst (natsP (EofC C)))) A = some (.lst (natsP (EofC C))) := Store.upd_same
  have dA : SubS S' (S'.upd A (.lst (natsP (EofC C)))) := .upd hA
  generalize S'.upd A (.lst (natsP (EofC C))) = S2 at hA1 dA
  refine bk_setF (xs := odsP ((((EofC C).zip C.rows).take 0).flatMap fun e => blockO (FofC C) e.1 e.2)) (evf_lst evs_nil) fun B hB => ?_
  have AB : A ≠ B := fun z => by rw [← z, hA1] at hB; cases hB
  have hA3 : ∀ L, (S2.upd B (.lst L)) A = some (.lst (natsP (EofC C))) := fun L => by rw [Store.upd_ne AB]; exact hA1
  show wpB _ _ [some C.toP, some (.loc A), some (.int (total 0 C.rows : Nat)), x3, some (.loc B), none] _ _
  refine bk_for ((EofC C).zip C.rows) (fun e => P.tup [.int (e.1 : Nat), e.2.toP]) (fun i ρ' S3 => S3 = S2.upd B (.lst (odsP ((((EofC C).zip C.rows).take i).flatMap fun e => blockO (FofC C) e.1 e.2))) ∧ ∃ x3 x5, ρ' = [some C.toP, some (.loc A), some (.int (total 0 C.rows : Nat)), x3, some (.loc B), x5]) (evs_cons (ev_var rfl) (evs_cons (ev_idx (ev_var rfl) ev_lit i2) evs_nil)) (by rw [← zip_ents]; exact it_zipLT (hA3 _)) up_lst (fun i ρ' S3 h => by rw [h.1]; exact hA3 _) ⟨rfl, x3, none, rfl⟩ ?_ ?_ (env_mono _ _)
  · rintro i x ρ' S3 hx ⟨rfl, y3, y5, rfl⟩
    obtain ⟨e, o⟩ := x
    have hz := List.getElem?_zip_eq_some.mp hx
    have hzo : C.rows[i]? = some o := hz.2
    have hi := (List.getElem?_eq_some_iff.mp hzo).1
    have ho := g.od o (List.mem_of_getElem? hzo)
    have hfl := flat_len (F := FofC C) (m := C.rows.length) k3 (((EofC C).zip C.rows).take i) (fun x hx => g.od _ (List.of_mem_zip (List.mem_of_mem_take hx)).2)
    have htl : (((EofC C).zip C.rows).take i).length ≤ 8 := by rw [List.length_take, List.length_zip]; omega
    have hs : (((EofC C).zip C.rows).take (i + 1)).flatMap (fun e => blockO (FofC C) e.1 e.2) = (((EofC C).zip C.rows).take i).flatMap (fun e => blockO (FofC C) e.1 e.2) ++ blockO (FofC C) e o := by
      rw [List.take_add_one, hx, List.flatMap_append]
      simp
    rw [hs]
    generalize (((EofC C).zip C.rows).take i).flatMap (fun e => blockO (FofC C) e.1 e.2) = L at hfl
    have hL : L.length ≤ 400 := by omega
    show wpB _ _ [some C.toP, some (.loc A), some (.int (total 0 C.rows : Nat)), some o.toP, some (.loc B), some (.int (e : Nat))] _ _
    have eE : ∀ {c : CE} {a : Nat}, a < C.rows.length → Ev (envAt D (lv + 3)) c [some C.toP, some (.loc A), some (.int (total 0 C.rows : Nat)), some o.toP, some (.loc B), some (.int (e : Nat))] (S2.upd B (.lst (odsP L))) (.int (a : Nat)) → Ev (envAt D (lv + 3)) (.idx (.var 1) c) [some C.toP, some (.loc A), some (.int (total 0 C.rows : Nat)), some o.toP, some (.loc B), some (.int (e : Nat))] (S2.upd B (.lst (odsP L))) (.int (FofC C a : Nat)) := fun ha hc => ev_idx (ev_var rfl) hc (idxv_lst (hA3 _) (atI_at (by unfold natsP; rw [List.getElem?_map, ent_at ha]; rfl)))
    cases o with
    | non =>
      refine bk_yesX (ev_cmp (ev_var rfl) ev_lit cmpv_isN) rfl ?_
      refine bk_append (p := Od.non.toP) (ev_var rfl) ev_lit Store.upd_same (by rw [odsP_len]; omega) (bk_nil (bk_nil (G := envAt D (lv + 3)) ⟨?_, _, _, rfl⟩))
      rw [Store.upd_upd, ← odsP_app]; rfl
    | up c a =>
      have j0 : ∀ {S : Store}, IdxV (Od.up c a).toP (.int 0) S (.str "up") := idxv_tup rfl
      have j1 : ∀ {S : Store}, IdxV (Od.up c a).toP (.int 1) S (.int c) := idxv_tup rfl
      have j2 : ∀ {S : Store}, IdxV (Od.up c a).toP (.int 2) S (.int a) := idxv_tup rfl
      have hc : c < 5 := by have := ho.1; omega
      have hc3 : c < 3 := by have := ho.1; omega
      have p5 := p35 hc3
      refine bk_if (x := false) (ev_cmp (ev_var rfl) ev_lit cmpv_isN) (fun h => by cases h) fun _ => ?_
      refine bk_yesX (ev_eqT (ev_idx (ev_var rfl) ev_lit j0) (by decide +kernel) (by decide +kernel)) (by decide) ?_
      refine bk_extend (ys := odsP (upB (prm c) e (FofC C a))) (ev_var rfl) (evf_call (ps := [.int (prm c : Nat), .int (e : Nat), .int (FofC C a : Nat)]) (evs_cons (ev_pr hc (ev_idx (ev_var rfl) ev_lit j1)) (evs_cons (ev_var rfl) (evs_cons (eE ho.2 (ev_idx (ev_var rfl) ev_lit j2)) evs_nil))) (up_rows (k := lv + 2) (by omega) (by omega))).l Store.upd_same (by
        rw [odsP_len, odsP_len, show (upB (prm c) e (FofC C a)).length = sizeO (.up c a) from block_len (F := FofC C) (at_ := e) ho k3]
        have := size_le ho k3
        omega) (bk_nil (bk_nil (G := envAt D (lv + 3)) (bk_nil (G := envAt D (lv + 3)) ⟨?_, _, _, rfl⟩)))
      rw [Store.upd_upd, odsP_app]; rfl
    | dn c a b =>
      have j0 : ∀ {S : Store}, IdxV (Od.dn c a b).toP (.int 0) S (.str "down") := idxv_tup rfl
      have j1 : ∀ {S : Store}, IdxV (Od.dn c a b).toP (.int 1) S (.int c) := idxv_tup rfl
      have j2 : ∀ {S : Store}, IdxV (Od.dn c a b).toP (.int 2) S (.int a) := idxv_tup rfl
      have j3 : ∀ {S : Store}, IdxV (Od.dn c a b).toP (.int 3) S (.int b) := idxv_tup rfl
      have hc : c < 5 := by have := ho.1; omega
      have hc3 : c < 3 := by have := ho.1; omega
      have p5 := p35 hc3
      refine bk_if (x := false) (ev_cmp (ev_var rfl) ev_lit cmpv_isN) (fun h => by cases h) fun _ => ?_
      refine bk_if (x := false) (ev_val (ev_eqT (ev_idx (ev_var rfl) ev_lit j0) (by decide +kernel) (by decide +kernel)) (congrArg P.bl (by decide))) (fun h => by cases h) fun _ => ?_
      refine bk_extend (ys := odsP (dnB (prm c) e (FofC C a) (FofC C b))) (ev_var rfl) (evf_call (ps := [.int (prm c : Nat), .int (e : Nat), .int (FofC C a : Nat), .int (FofC C b : Nat)]) (evs_cons (ev_pr hc (ev_idx (ev_var rfl) ev_lit j1)) (evs_cons (ev_var rfl) (evs_cons (eE ho.2.1 (ev_idx (ev_var rfl) ev_lit j2)) (evs_cons (eE ho.2.2 (ev_idx (ev_var rfl) ev_lit j3)) evs_nil)))) (dn_rows (k := lv + 2) (by omega) (by omega))).l Store.upd_same (by
        rw [odsP_len, odsP_len, show (dnB (prm c) e (FofC C a) (FofC C b)).length = sizeO (.dn c a b) from block_len (F := FofC C) (at_ := e) ho k3]
        have := size_le ho k3
        omega) (bk_nil (bk_nil (G := envAt D (lv + 3)) (bk_nil (G := envAt D (lv + 3)) ⟨?_, _, _, rfl⟩)))
      rw [Store.upd_upd, odsP_app]; rfl
  · rintro ρ' S3 ⟨rfl, y3, y5, rfl⟩
    rw [List.take_length, show ((EofC C).zip C.rows).flatMap (fun e => blockO (FofC C) e.1 e.2) = RofC C from build_zip (FofC C) C.rows 0]
    refine bk_ret (p := .tup [.str "two", (twoC C).toP, .tup (natsP (EofC C))]) (ev_tup (evs_cons ev_lit (evs_cons (ev_tup (evs_cons ev_lit (evs_cons ev_lit (evs_cons (ev_tupleL (evl_var rfl Store.upd_same)) evs_nil)))) (evs_cons (ev_tupleL (evl_var rfl (hA3 _))) evs_nil)))) (fun S9 d9 => Wk.drop ((dA.trans (.upd hB)).trans d9) (Wk.here q))
end Z
end
section
set_option maxRecDepth 100000
set_option maxHeartbeats 4000000
/-! S4: products. -/
open PySem Core L2
local macro_rules | `(tactic| fail "fn") => `(tactic| first
  | assumption)
local macro_rules | `(tactic| fail "num") => `(tactic| first
  | omega
  | decide
  | (simp only [List.length_append, List.length_cons, List.length_nil, List.length_map, List.length_replicate, List.length_singleton]; omega))
local macro_rules | `(tactic| fail "at") => `(tactic| first
  | rfl
  | assumption
  | exact atI_at (by first | assumption | rfl)
  | (refine atI_at ?_; simp; done))
local macro_rules | `(tactic| fail "st") => `(tactic| first
  | assumption
  | exact Store.upd_same)
local macro_rules | `(tactic| fail "ty") => `(tactic| first
  | rfl
  | assumption)
local macro_rules | `(tactic| fail "evs") => `(tactic| first
  | exact evs_nil
  | (refine' evs_cons ?h0 ?h1; (case h0 => fail "ev"); (case h1 => fail "evs")))
local macro_rules | `(tactic| fail "op") => `(tactic| first
  | exact opv_add
  | exact opv_sub
  | exact opv_pow ⟨by decide, by decide, by decide⟩
  | (refine' opv_cat ?h0; (case h0 => (have := PySem.sizeLine_eq; fail "num")))
  | (refine' opv_mod ?h0; (case h0 => fail "num"))
  | (refine' opv_div ?h0 ?h1; (case h0 => fail "num"); (case h1 => fail "num"))
  | (refine' opv_mulR ?h0 ?h1; (case h0 => fail "num"); (case h1 => fail "num"))
  | (refine' opv_mulL ?h0 ?h1; (case h0 => fail "num"); (case h1 => fail "num"))
  | (refine' opv_rep ?h0 ?h1 ?h2; (case h0 => fail "num"); (case h1 => fail "num"); (case h2 => (have := PySem.sizeLine_eq; fail "num")))
  | assumption)
local macro_rules | `(tactic| fail "cm") => `(tactic| first
  | exact cmpv_eqI
  | exact cmpv_neI
  | exact cmpv_lt
  | exact cmpv_le
  | exact cmpv_gt
  | exact cmpv_ge
  | exact cmpv_isN
  | exact cmpv_isNN
  | exact cmpv_isB
  | exact cmpv_isNB
  | assumption)
local macro_rules | `(tactic| fail "ix") => `(tactic| first
  | (refine' idxv_tup ?h0; (case h0 => fail "at"))
  | (refine' idxv_lst ?h0 ?h1; (case h0 => fail "st"); (case h1 => fail "at"))
  | (refine' idxv_frl ?h0; (case h0 => fail "at"))
  | assumption)
local macro_rules | `(tactic| fail "eo") => `(tactic| first
  | exact True.intro
  | (refine (show EvO _ (some _) _ _ (some _) from ?_); fail "ev"))
local macro_rules | `(tactic| fail "el") => `(tactic| first
  | (refine' evl_var ?h0 ?h1; (case h0 => rfl); (case h1 => fail "st"))
  | (refine EvF.l ?_; fail "ef")
  | assumption)
local macro_rules | `(tactic| fail "ef") => `(tactic| first
  | (refine' evf_lst ?h0; (case h0 => fail "evs"))
  | (refine' evf_list ?h0 ?h1 ?h2; (case h0 => fail "ev"); (case h1 => exact fun _ => rfl); (case h2 => exact fun _ => rfl))
  | (refine' evf_listL ?h0; (case h0 => fail "el"))
  | (refine' evf_rev ?h0; (case h0 => fail "el"))
  | (refine' evf_slc ?h0 ?h1 ?h2; (case h0 => fail "el"); (case h1 => fail "eo"); (case h2 => fail "eo"))
  | (refine' evf_add ?h0 ?h1 ?h2; (case h0 => fail "el"); (case h1 => fail "el"); (case h2 => (have := PySem.sizeLine_eq; fail "num")))
  | (refine' evf_call ?h0 ?h1; (case h0 => fail "evs"); (case h1 => fail "fn"))
  | assumption)
local macro_rules | `(tactic| fail "ev") => `(tactic| first
  | exact ev_lit
  | exact ev_var rfl
  | (refine' ev_con ?h0; (case h0 => fail "con"))
  | exact ev_fnv
  | (refine' ev_tup ?h0; (case h0 => fail "evs"))
  | (refine' ev_not ?h0; (case h0 => fail "ev"))
  | (refine' ev_and ?h0 ?h1; (case h0 => fail "ev"); (case h1 => first | ((refine (show _ = true → Ev _ _ _ _ (.bl false) from ?_)); intro h; exact absurd h (by decide)) | (intro hAnd; fail "ev")))
  | (refine' ev_or ?h0 ?h1; (case h0 => fail "ev"); (case h1 => first | ((refine (show _ = false → Ev _ _ _ _ (.bl false) from ?_)); intro h; exact absurd h (by decide)) | (intro hOr; fail "ev")))
  | (refine' ev_chn ?h0 ?h1 ?h2 ?h3 ?h4; (case h0 => fail "ev"); (case h1 => fail "ev"); (case h2 => fail "ev"); (case h3 => fail "cm"); (case h4 => fail "cm"))
  | (refine' ev_cmp ?h0 ?h1 ?h2; (case h0 => fail "ev"); (case h1 => fail "ev"); (case h2 => fail "cm"))
  | (refine' ev_bin ?h0 ?h1 ?h2; (case h0 => fail "ev"); (case h1 => fail "ev"); (case h2 => fail "op"))
  | (refine' ev_neg ?h0; (case h0 => fail "ev"))
  | (refine' ev_ife ?h0 ?h1 ?h2; (case h0 => fail "ev"); (case h1 => (intro hT; fail "ev")); (case h2 => (intro hF; fail "ev")))
  | (refine' ev_idx ?h0 ?h1 ?h2; (case h0 => fail "ev"); (case h1 => fail "ev"); (case h2 => fail "ix"))
  | (refine' ev_slc ?h0 ?h1 ?h2; (case h0 => fail "ev"); (case h1 => fail "eo"); (case h2 => fail "eo"))
  | (refine' ev_fld ?h0 ?h1 ?h2; (case h0 => fail "ev"); (case h1 => fail "st"); (case h2 => rfl))
  | (refine' ev_isi ?h0 ?h1; (case h0 => fail "ev"); (case h1 => fail "ty"))
  | (refine' ev_len ?h0 ?h1 ?h2; (case h0 => fail "ev"); (case h1 => exact fun _ => rfl); (case h2 => exact fun _ => rfl))
  | (refine' ev_lenL ?h0; (case h0 => fail "el"))
  | (refine' ev_int ?h0; (case h0 => fail "ev"))
  | (refine' ev_intB ?h0; (case h0 => fail "ev"))
  | (refine' ev_tuple ?h0 ?h1; (case h0 => fail "ev"); (case h1 => exact fun _ => rfl))
  | (refine' ev_tupleL ?h0; (case h0 => fail "el"))
  | (refine' ev_min2 ?h0 ?h1; (case h0 => fail "ev"); (case h1 => fail "ev"))
  | (refine' ev_max2 ?h0 ?h1; (case h0 => fail "ev"); (case h1 => fail "ev"))
  | (refine' ev_abs ?h0; (case h0 => fail "ev"))
  | (refine' ev_call ?h0 ?h1; (case h0 => fail "evs"); (case h1 => fail "fn"))
  | (refine' ev_cvar ?h0 ?h1 ?h2; (case h0 => rfl); (case h1 => fail "evs"); (case h2 => fail "fn"))
  | assumption)
local macro_rules | `(tactic| fail "tf") => `(tactic| first
  | decide
  | rfl
  | (simp; done)
  | (simp; omega))
local macro_rules | `(tactic| fail "no") => `(tactic| (refine' bk_noX ?h0 ?h1 ?_; (case h0 => fail "ev"); (case h1 => fail "tf")))
local macro_rules | `(tactic| fail "yes") => `(tactic| (refine' bk_yesX ?h0 ?h1 ?_; (case h0 => fail "ev"); (case h1 => fail "tf")))
local macro_rules | `(tactic| fail "ret") => `(tactic| (refine' bk_ret ?h0 (fun S9 d9 => Wk.drop d9 (Wk.here ?_)); (case h0 => fail "ev")))
local macro_rules | `(tactic| fail "set") => `(tactic| (refine' bk_set ?h0 ?_; (case h0 => fail "ev")))
local macro_rules | `(tactic| fail "setF") => `(tactic| (refine' bk_setF ?h0 ?_; (case h0 => fail "ef")))
local macro_rules | `(tactic| fail "if") => `(tactic| (refine' bk_if1 ?h0 ?_ ?_; (case h0 => fail "ev")))
local macro_rules | `(tactic| fail "if2") => `(tactic| (refine' bk_if ?h0 ?_ ?_; (case h0 => fail "ev")))
local macro_rules | `(tactic| fail "put") => `(tactic| (refine' bk_put ?h0 ?h1 ?h2 ?h3 ?h4 ?_; (case h0 => fail "ev"); (case h1 => fail "ev"); (case h2 => fail "ev"); (case h3 => fail "st"); (case h4 => rfl)))
local macro_rules | `(tactic| fail "retC") => `(tactic| (refine' bk_retC ?h0 ?_; (case h0 => fail "evs")))
local macro_rules | `(tactic| fail "setC") => `(tactic| (refine' bk_setC ?h0 ?_; (case h0 => fail "evs")))
local macro_rules | `(tactic| fail "expC") => `(tactic| (refine' bk_expC ?h0 ?_; (case h0 => fail "evs")))
local macro_rules | `(tactic| fail "callE") => `(tactic| (refine' cps_call ?h0 ?_; (case h0 => fail "evs")))
local macro_rules | `(tactic| fail "exp") => `(tactic| (refine' bk_exp ?h0 ?_; (case h0 => fail "ev")))
local macro_rules | `(tactic| fail "con") => `(tactic| first | exact Z.con_MOST_ROWS | exact Z.con_MOST_COUNTERS | exact Z.con_PRIMES | rfl)
local macro_rules | `(tactic| fail "fn") => `(tactic| exact Z.int_ok (by fail "ty"))
namespace Z
open PySem Core L2
theorem pw_snoc : ∀ (ps : List Nat) (vs : List Int) (i p : Nat) (v : Int), ps[i]? = some p → vs[i]? = some v → pw (ps.take (i + 1)) (vs.take (i + 1)) = pw (ps.take i) (vs.take i) * p ^ v.toNat
  | [], _, _, _, _, h, _ => by cases h
  | _ :: _, [], _, _, _, _, h => by cases h
  | q :: ps, w :: vs, 0, p, v, h1, h2 => by
    cases h1; cases h2
    show q ^ w.toNat * pw (ps.take 0) (vs.take 0) = 1 * q ^ w.toNat
    rw [Nat.one_mul]
    show q ^ w.toNat * 1 = _
    rw [Nat.mul_one]
  | q :: ps, w :: vs, i + 1, p, v, h1, h2 => by
    show q ^ w.toNat * pw (ps.take (i + 1)) (vs.take (i + 1)) = q ^ w.toNat * pw (ps.take i) (vs.take i) * p ^ v.toNat
    rw [pw_snoc ps vs i p v h1 h2, Nat.mul_assoc]
theorem pw_take : ∀ (ps : List Nat) (vs : List Int), vs.length ≤ ps.length → pw (ps.take vs.length) vs = pw ps vs
  | [], [], _ => rfl
  | [], _ :: _, h => by simp at h
  | p :: ps, [], _ => rfl
  | p :: ps, v :: vs, h => by
    show p ^ v.toNat * pw (ps.take vs.length) vs = p ^ v.toNat * pw ps vs
    rw [pw_take ps vs (by simpa using h)]
theorem prime_le {i p : Nat} (h : primes[i]? = some p) : 2 ≤ p ∧ p ≤ 11 := by
  obtain ⟨hi, rfl⟩ := primes_at h
  exact prm_bd hi
/-- found is taken times p, n times -/
theorem mul_loop {k n p x slot : Nat} {ρ : Core.Loc} {S : Store} {ss : List CS} {D1 : DE} {b : List CS} {arg : CE} (hn : n ≤ 1000000) (ha : Ev (envAt D k) arg ρ S (.int (n : Nat))) (h1 : ρ[1]? = some (some (.int (x : Nat))))
    (hb : ∀ (i y : Nat) (z : P) (S2 : Store) (D2 : DE), S2 = S → D2.nx ((((ρ.set 1 (some (.int (y : Nat)))).set slot (some z)).set 1 (some (.int ((y * p : Nat) : Int))))) S2 → wpB (envAt D k) b ((ρ.set 1 (some (.int (y : Nat)))).set slot (some z)) S2 D2)
    (hne : slot ≠ 1) (fin : ∀ ρ', ρ' = ρ.set 1 (some (.int ((x * p ^ n : Nat) : Int))) ∨ (∃ z, ρ' = (ρ.set 1 (some (.int ((x * p ^ n : Nat) : Int)))).set slot (some z)) → wpB (envAt D k) ss ρ' S D1) :
    wpB (envAt D k) (.for_ .range [arg] (.nm slot) b :: ss) ρ S D1 := by
  have big := PySem.sizeLine_eq
  have hl : 1 < ρ.length := (List.getElem?_eq_some_iff.mp h1).1
  refine bk_for (List.range n) (fun (i : Nat) => P.int (i : Nat)) (fun i ρ' S2 => S2 = S ∧ (ρ' = ρ.set 1 (some (.int ((x * p ^ i : Nat) : Int))) ∨ ∃ z, ρ' = (ρ.set 1 (some (.int ((x * p ^ i : Nat) : Int)))).set slot (some z))) (evs_cons ha evs_nil) (it_range (by omega)) up_any (fun _ _ _ _ => trivial) ⟨rfl, .inl ?_⟩ ?_ ?_ (env_mono _ _)
  · rw [Nat.pow_zero, Nat.mul_one]
    obtain ⟨hl2, e⟩ := List.getElem?_eq_some_iff.mp h1
    rw [← e, List.set_getElem_self]
  · rintro i j ρ' S2 hj ⟨rfl, h⟩
    have e : (ρ'.set slot (some (P.int (j : Nat)))) = (ρ.set 1 (some (.int ((x * p ^ i : Nat) : Int)))).set slot (some (.int (j : Nat))) := by
      rcases h with rfl | ⟨z, rfl⟩
      · rfl
      · rw [List.set_set]
    show wpB _ b (ρ'.set slot (some (P.int (j : Nat)))) S2 _
    rw [e]
    refine hb i _ _ _ _ rfl ⟨rfl, .inr ⟨.int (j : Nat), ?_⟩⟩
    rw [List.set_comm _ _ hne, List.set_set, Nat.pow_succ, Nat.mul_assoc]
  · rintro ρ' S2 ⟨rfl, h⟩
    rw [List.length_range] at h
    exact fin ρ' h
theorem nat_v {v : Int} (h : 0 ≤ v) : P.int v = .int (v.toNat : Nat) := by rw [Int.toNat_of_nonneg h]
theorem power_ok {k : Nat} {vs : List Int} {S : Store} (h0 : 1 ≤ vs.length) (h5 : vs.length ≤ 5) (hv : ∀ v ∈ vs, 0 ≤ v ∧ v ≤ 100000) : FnV ((envAt D (k + 2)).fn nf_power_of) [.tup (vs.map P.int)] S (.int (pw primes vs : Nat)) := by
  refine ⟨fun S' d Q E q => ?_⟩
  have q : Q (.int (pw primes vs : Nat)) S' := q
  refine fn_start (d := ⟨1, 5, b_power_of⟩) rfl rfl ?_
  show wpB _ b_power_of [some (.tup (vs.map P.int)), none, none, none, none] S' _
  have elen : ∀ {ρ : Core.Loc}, ρ[0]? = some (some (.tup (vs.map P.int))) → Ev (envAt D (k + 1)) (.blt .len [.var 0]) ρ S' (.int (vs.length : Nat)) := fun h => by
    have := ev_len (G := envAt D (k + 1)) (S := S') (a := .var 0) (xs := vs.map P.int) (ev_var h) (fun _ => rfl) (fun _ => rfl)
    rw [List.length_map] at this; exact this
  have gv : valB (vs.length : Nat) (.tup (vs.map P.int)) = true := vs_good (k := vs.length) ⟨rfl, fun v h => (hv v h).1⟩
  have ev1 := vals_ok (lv := k) (n := 0) (k := (vs.length : Nat)) (S := S') (vs_dt vs)
  rw [gv] at ev1
  refine bk_noX (x := false) (ev_orF (ev_val (ev_not (ev_isTup (v := .tup (vs.map P.int)) (t := some .tuple) (ev_var rfl) rfl)) (by rfl)) (ev_orF (ev_val (ev_not (ev_chn ev_lit (elen rfl) (ev_con con_MOST_COUNTERS) cmpv_le cmpv_le)) (by rw [decide_eq_true (by omega), decide_eq_true (by omega)]; rfl)) (ev_not (ev_call (evs_cons (ev_var rfl) (evs_cons (elen rfl) evs_nil)) ev1)))) rfl ?_
  refine bk_set ev_lit ?_
  refine bk_for (primes.zip vs) (fun e => P.tup [.int (e.1 : Nat), .int e.2]) (fun i ρ' S2 => S2 = S' ∧ ∃ x2 x3 x4, ρ' = [some (.tup (vs.map P.int)), some (.int (pw (primes.take i) (vs.take i) : Nat)), x2, x3, x4]) (evs_cons (ev_con con_PRIMES) (evs_cons (ev_var rfl) evs_nil)) (by
    have z : (primes.zip vs).map (fun e => P.tup [.int (e.1 : Nat), .int e.2]) = zipP (primes.map fun (p : Nat) => P.int p) (vs.map P.int) := by unfold zipP; rw [List.zip_map, List.map_map]; rfl
    rw [z]; exact it_zipT) up_any (fun _ _ _ _ => trivial) ⟨rfl, none, none, none, rfl⟩ ?_ ?_ (env_mono _ _)
  · rintro i e ρ' S2 hx ⟨rfl, x2, x3, x4, rfl⟩
    obtain ⟨p, v⟩ := e
    obtain ⟨hp, hvv⟩ := List.getElem?_zip_eq_some.mp hx
    have hp : primes[i]? = some p := hp
    have hvv : vs[i]? = some v := hvv
    have pb := prime_le hp
    have vb := hv v (List.mem_of_getElem? hvv)
    show wpB _ _ [some (.tup (vs.map P.int)), some (.int (pw (primes.take i) (vs.take i) : Nat)), some (.int (p : Nat)), some (.int v), x4] S2 _
    refine mul_loop (p := p) (n := v.toNat) (slot := 4) (by omega) (by rw [← nat_v vb.1]; exact ev_var rfl) rfl (fun j y z S3 D2 hS hn => ?_) (by decide) (fun ρ' h => bk_nil ?_)
    · subst hS
      show wpB _ _ [some (.tup (vs.map P.int)), some (.int (y : Nat)), some (.int (p : Nat)), some (.int v), some z] S3 _
      refine bk_aug (x := (y : Nat)) (y := (p : Nat)) (z := .int ((y * p : Nat) : Int)) rfl (ev_var rfl) (fun S' Q q => ⟨.inl (.inr ⟨by omega, by omega⟩), by rw [← Int.natCast_mul]; exact q⟩) (bk_nil hn)
    · refine ⟨rfl, ?_⟩
      rw [pw_snoc primes vs i p v hp hvv]
      rcases h with rfl | ⟨z, rfl⟩
      · exact ⟨_, _, _, rfl⟩
      · exact ⟨_, _, _, rfl⟩
  · rintro ρ' S2 ⟨rfl, x2, x3, x4, rfl⟩
    have hl : (primes.zip vs).length = vs.length := by rw [List.length_zip, primes_len]; omega
    rw [hl, List.take_length, pw_take primes vs (by rw [primes_len]; exact h5)]
    fail "ret"; exact q
theorem lpower_ok {k : Nat} {vs : List Int} {S : Store} (h5 : vs.length ≤ 5) (hv : ∀ v ∈ vs, 0 ≤ v ∧ v ≤ 100000) : FnV ((envAt D (k + 1)).fn nf__law_power) [.tup (vs.map P.int)] S (.int (pw primes vs : Nat)) := by
  refine ⟨fun S' d Q E q => ?_⟩
  have big := PySem.sizeLine_eq
  have q : Q (.int (pw primes vs : Nat)) S' := q
  refine fn_start (d := ⟨1, 4, b__law_power⟩) rfl rfl ?_
  show wpB _ b__law_power [some (.tup (vs.map P.int)), none, none, none] S' _
  refine bk_set ev_lit ?_
  have elen := ev_len (G := envAt D k) (S := S') (ρ := [some (.tup (vs.map P.int)), some (.int 1), none, none]) (a := .var 0) (xs := vs.map P.int) (ev_var rfl) (fun _ => rfl) (fun _ => rfl)
  rw [List.length_map] at elen
  refine bk_for (List.range vs.length) (fun (i : Nat) => P.int (i : Nat)) (fun i ρ' S2 => S2 = S' ∧ ∃ x2 x3, ρ' = [some (.tup (vs.map P.int)), some (.int (pw (primes.take i) (vs.take i) : Nat)), x2, x3]) (evs_cons elen evs_nil) (it_range (by omega)) up_any (fun _ _ _ _ => trivial) ⟨rfl, none, none, rfl⟩ ?_ ?_ (env_mono _ _)
  · rintro i j ρ' S2 hx ⟨rfl, x2, x3, rfl⟩
    have hix : i < vs.length ∧ i = j := by
      rw [List.getElem?_eq_some_iff] at hx
      obtain ⟨h1, h2⟩ := hx
      simp at h1 h2
      exact ⟨by omega, h2⟩
    obtain ⟨lt, rfl⟩ := hix
    obtain ⟨v, hvv⟩ : ∃ v, vs[i]? = some v := ⟨_, List.getElem?_eq_getElem lt⟩
    have hpl : i < primes.length := by rw [primes_len]; omega
    obtain ⟨p, hp⟩ : ∃ p, primes[i]? = some p := ⟨_, List.getElem?_eq_getElem hpl⟩
    have pb := prime_le hp
    have vb := hv v (List.mem_of_getElem? hvv)
    show wpB _ _ [some (.tup (vs.map P.int)), some (.int (pw (primes.take i) (vs.take i) : Nat)), some (.int (i : Nat)), x3] S2 _
    refine mul_loop (p := p) (n := v.toNat) (slot := 3) (by omega) (by rw [← nat_v vb.1]; exact ev_idx (ev_var rfl) (ev_var rfl) (idxv_tup (atI_at (by rw [List.getElem?_map, hvv]; rfl)))) rfl (fun j y z S3 D2 hS hn => ?_) (by decide) (fun ρ' h => bk_nil ?_)
    · subst hS
      show wpB _ _ [some (.tup (vs.map P.int)), some (.int (y : Nat)), some (.int (i : Nat)), some z] S3 _
      refine bk_set (p := .int ((y * p : Nat) : Int)) (ev_val (ev_bin (ev_var rfl) (ev_idxL (xs := primes.map fun (p : Nat) => P.int p) (EvF.l (evf_lst (evs_cons ev_lit (evs_cons ev_lit (evs_cons ev_lit (evs_cons ev_lit (evs_cons ev_lit evs_nil))))))) (ev_var rfl) (atI_at (by rw [List.getElem?_map, hp]; rfl))) (opv_mulR (by omega) (by omega))) (by rw [Int.natCast_mul])) (bk_nil hn)
    · refine ⟨rfl, ?_⟩
      rw [pw_snoc primes vs i p v hp hvv]
      rcases h with rfl | ⟨z, rfl⟩
      · exact ⟨_, _, rfl⟩
      · exact ⟨_, _, rfl⟩
  · rintro ρ' S2 ⟨rfl, x2, x3, rfl⟩
    rw [List.length_range, List.take_length, pw_take primes vs (by rw [primes_len]; exact h5)]
    fail "ret"; exact q
end Z
end
section
set_option maxRecDepth 100000
set_option maxHeartbeats 4000000
/-! S5: products taken apart. -/
open PySem Core L2
local macro_rules | `(tactic| fail "fn") => `(tactic| first
  | assumption)
local macro_rules | `(tactic| fail "num") => `(tactic| first
  | omega
  | decide
  | (simp only [List.length_append, List.length_cons, List.length_nil, List.length_map, List.length_replicate, List.length_singleton]; omega))
local macro_rules | `(tactic| fail "at") => `(tactic| first
  | rfl
  | assumption
  | exact atI_at (by first | assumption | rfl)
  | (refine atI_at ?_; simp; done))
local macro_rules | `(tactic| fail "st") => `(tactic| first
  | assumption
  | exact Store.upd_same)
local macro_rules | `(tactic| fail "ty") => `(tactic| first
  | rfl
  | assumption)
local macro_rules | `(tactic| fail "evs") => `(tactic| first
  | exact evs_nil
  | (refine' evs_cons ?h0 ?h1; (case h0 => fail "ev"); (case h1 => fail "evs")))
local macro_rules | `(tactic| fail "op") => `(tactic| first
  | exact opv_add
  | exact opv_sub
  | exact opv_pow ⟨by decide, by decide, by decide⟩
  | (refine' opv_cat ?h0; (case h0 => (have := PySem.sizeLine_eq; fail "num")))
  | (refine' opv_mod ?h0; (case h0 => fail "num"))
  | (refine' opv_div ?h0 ?h1; (case h0 => fail "num"); (case h1 => fail "num"))
  | (refine' opv_mulR ?h0 ?h1; (case h0 => fail "num"); (case h1 => fail "num"))
  | (refine' opv_mulL ?h0 ?h1; (case h0 => fail "num"); (case h1 => fail "num"))
  | (refine' opv_rep ?h0 ?h1 ?h2; (case h0 => fail "num"); (case h1 => fail "num"); (case h2 => (have := PySem.sizeLine_eq; fail "num")))
  | assumption)
local macro_rules | `(tactic| fail "cm") => `(tactic| first
  | exact cmpv_eqI
  | exact cmpv_neI
  | exact cmpv_lt
  | exact cmpv_le
  | exact cmpv_gt
  | exact cmpv_ge
  | exact cmpv_isN
  | exact cmpv_isNN
  | exact cmpv_isB
  | exact cmpv_isNB
  | assumption)
local macro_rules | `(tactic| fail "ix") => `(tactic| first
  | (refine' idxv_tup ?h0; (case h0 => fail "at"))
  | (refine' idxv_lst ?h0 ?h1; (case h0 => fail "st"); (case h1 => fail "at"))
  | (refine' idxv_frl ?h0; (case h0 => fail "at"))
  | assumption)
local macro_rules | `(tactic| fail "eo") => `(tactic| first
  | exact True.intro
  | (refine (show EvO _ (some _) _ _ (some _) from ?_); fail "ev"))
local macro_rules | `(tactic| fail "el") => `(tactic| first
  | (refine' evl_var ?h0 ?h1; (case h0 => rfl); (case h1 => fail "st"))
  | (refine EvF.l ?_; fail "ef")
  | assumption)
local macro_rules | `(tactic| fail "ef") => `(tactic| first
  | (refine' evf_lst ?h0; (case h0 => fail "evs"))
  | (refine' evf_list ?h0 ?h1 ?h2; (case h0 => fail "ev"); (case h1 => exact fun _ => rfl); (case h2 => exact fun _ => rfl))
  | (refine' evf_listL ?h0; (case h0 => fail "el"))
  | (refine' evf_rev ?h0; (case h0 => fail "el"))
  | (refine' evf_slc ?h0 ?h1 ?h2; (case h0 => fail "el"); (case h1 => fail "eo"); (case h2 => fail "eo"))
  | (refine' evf_add ?h0 ?h1 ?h2; (case h0 => fail "el"); (case h1 => fail "el"); (case h2 => (have := PySem.sizeLine_eq; fail "num")))
  | (refine' evf_call ?h0 ?h1; (case h0 => fail "evs"); (case h1 => fail "fn"))
  | assumption)
local macro_rules | `(tactic| fail "ev") => `(tactic| first
  | exact ev_lit
  | exact ev_var rfl
  | (refine' ev_con ?h0; (case h0 => fail "con"))
  | exact ev_fnv
  | (refine' ev_tup ?h0; (case h0 => fail "evs"))
  | (refine' ev_not ?h0; (case h0 => fail "ev"))
  | (refine' ev_and ?h0 ?h1; (case h0 => fail "ev"); (case h1 => first | ((refine (show _ = true → Ev _ _ _ _ (.bl false) from ?_)); intro h; exact absurd h (by decide)) | (intro hAnd; fail "ev")))
  | (refine' ev_or ?h0 ?h1; (case h0 => fail "ev"); (case h1 => first | ((refine (show _ = false → Ev _ _ _ _ (.bl false) from ?_)); intro h; exact absurd h (by decide)) | (intro hOr; fail "ev")))
  | (refine' ev_chn ?h0 ?h1 ?h2 ?h3 ?h4; (case h0 => fail "ev"); (case h1 => fail "ev"); (case h2 => fail "ev"); (case h3 => fail "cm"); (case h4 => fail "cm"))
  | (refine' ev_cmp ?h0 ?h1 ?h2; (case h0 => fail "ev"); (case h1 => fail "ev"); (case h2 => fail "cm"))
  | (refine' ev_bin ?h0 ?h1 ?h2; (case h0 => fail "ev"); (case h1 => fail "ev"); (case h2 => fail "op"))
  | (refine' ev_neg ?h0; (case h0 => fail "ev"))
  | (refine' ev_ife ?h0 ?h1 ?h2; (case h0 => fail "ev"); (case h1 => (intro hT; fail "ev")); (case h2 => (intro hF; fail "ev")))
  | (refine' ev_idx ?h0 ?h1 ?h2; (case h0 => fail "ev"); (case h1 => fail "ev"); (case h2 => fail "ix"))
  | (refine' ev_slc ?h0 ?h1 ?h2; (case h0 => fail "ev"); (case h1 => fail "eo"); (case h2 => fail "eo"))
  | (refine' ev_fld ?h0 ?h1 ?h2; (case h0 => fail "ev"); (case h1 => fail "st"); (case h2 => rfl))
  | (refine' ev_isi ?h0 ?h1; (case h0 => fail "ev"); (case h1 => fail "ty"))
  | (refine' ev_len ?h0 ?h1 ?h2; (case h0 => fail "ev"); (case h1 => exact fun _ => rfl); (case h2 => exact fun _ => rfl))
  | (refine' ev_lenL ?h0; (case h0 => fail "el"))
  | (refine' ev_int ?h0; (case h0 => fail "ev"))
  | (refine' ev_intB ?h0; (case h0 => fail "ev"))
  | (refine' ev_tuple ?h0 ?h1; (case h0 => fail "ev"); (case h1 => exact fun _ => rfl))
  | (refine' ev_tupleL ?h0; (case h0 => fail "el"))
  | (refine' ev_min2 ?h0 ?h1; (case h0 => fail "ev"); (case h1 => fail "ev"))
  | (refine' ev_max2 ?h0 ?h1; (case h0 => fail "ev"); (case h1 => fail "ev"))
  | (refine' ev_abs ?h0; (case h0 => fail "ev"))
  | (refine' ev_call ?h0 ?h1; (case h0 => fail "evs"); (case h1 => fail "fn"))
  | (refine' ev_cvar ?h0 ?h1 ?h2; (case h0 => rfl); (case h1 => fail "evs"); (case h2 => fail "fn"))
  | assumption)
local macro_rules | `(tactic| fail "tf") => `(tactic| first
  | decide
  | rfl
  | (simp; done)
  | (simp; omega))
local macro_rules | `(tactic| fail "no") => `(tactic| (refine' bk_noX ?h0 ?h1 ?_; (case h0 => fail "ev"); (case h1 => fail "tf")))
local macro_rules | `(tactic| fail "yes") => `(tactic| (refine' bk_yesX ?h0 ?h1 ?_; (case h0 => fail "ev"); (case h1 => fail "tf")))
local macro_rules | `(tactic| fail "ret") => `(tactic| (refine' bk_ret ?h0 (fun S9 d9 => Wk.drop d9 (Wk.here ?_)); (case h0 => fail "ev")))
local macro_rules | `(tactic| fail "set") => `(tactic| (refine' bk_set ?h0 ?_; (case h0 => fail "ev")))
local macro_rules | `(tactic| fail "setF") => `(tactic| (refine' bk_setF ?h0 ?_; (case h0 => fail "ef")))
local macro_rules | `(tactic| fail "if") => `(tactic| (refine' bk_if1 ?h0 ?_ ?_; (case h0 => fail "ev")))
local macro_rules | `(tactic| fail "if2") => `(tactic| (refine' bk_if ?h0 ?_ ?_; (case h0 => fail "ev")))
local macro_rules | `(tactic| fail "put") => `(tactic| (refine' bk_put ?h0 ?h1 ?h2 ?h3 ?h4 ?_; (case h0 => fail "ev"); (case h1 => fail "ev"); (case h2 => fail "ev"); (case h3 => fail "st"); (case h4 => rfl)))
local macro_rules | `(tactic| fail "retC") => `(tactic| (refine' bk_retC ?h0 ?_; (case h0 => fail "evs")))
local macro_rules | `(tactic| fail "setC") => `(tactic| (refine' bk_setC ?h0 ?_; (case h0 => fail "evs")))
local macro_rules | `(tactic| fail "expC") => `(tactic| (refine' bk_expC ?h0 ?_; (case h0 => fail "evs")))
local macro_rules | `(tactic| fail "callE") => `(tactic| (refine' cps_call ?h0 ?_; (case h0 => fail "evs")))
local macro_rules | `(tactic| fail "exp") => `(tactic| (refine' bk_exp ?h0 ?_; (case h0 => fail "ev")))
local macro_rules | `(tactic| fail "con") => `(tactic| first | exact Z.con_MOST_ROWS | exact Z.con_MOST_COUNTERS | exact Z.con_PRIMES | rfl)
local macro_rules | `(tactic| fail "fn") => `(tactic| exact Z.int_ok (by fail "ty"))
namespace Z
open PySem Core L2
def okPw : P → Bool
  | .tup xs => (decide ((1 : Int) ≤ xs.length) && decide ((xs.length : Int) ≤ 5)) && valB xs.length (.tup xs)
  | _ => false
theorem power_no {k n : Nat} {v : P} {S : Store} (h : Dt S (n + 2) v) (hv : okPw v = false) : FnR ((envAt D (k + 4)).fn nf_power_of) [v] S (.error (badE "values")) := by
  refine ⟨fun S' d Q E q => ?_⟩
  have h := h.at d
  refine fn_start (d := ⟨1, 5, b_power_of⟩) rfl rfl ?_
  show wpB _ b_power_of [some v, none, none, none, none] S' _
  obtain ⟨t, ht⟩ := h.ty
  have rs : ∀ {ss : List CS} {ρ : Core.Loc} {D2 : DE}, D2.ex = (DE.fn Q E).ex → wpB (envAt D (k + 3)) (.rse nk_BadPaper [.lit (.str "values")] :: ss) ρ S' D2 := fun hD => bk_rse1 (f := na_word) (by rw [env_xc]; rfl) (by rw [env_lv]; omega) ev_lit fun S2 d2 => by rw [hD]; exact Wk.drop d2 (keepE q)
  rcases tup_or v with ⟨xs, rfl⟩ | hv'
  · have hv : ((decide ((1 : Int) ≤ xs.length) && decide ((xs.length : Int) ≤ 5)) && valB xs.length (.tup xs)) = false := hv
    have elen : Ev (envAt D (k + 3)) (.blt .len [.var 0]) [some (.tup xs), none, none, none, none] S' (.int xs.length) := ev_len (xs := xs) (ev_var rfl) (fun _ => rfl) (fun _ => rfl)
    refine bk_yesX (x := !((decide ((1 : Int) ≤ xs.length) && decide ((xs.length : Int) ≤ 5)) && valB xs.length (.tup xs))) ?_ (by rw [hv]; rfl) (rs rfl)
    rw [Bool.not_and]
    exact ev_orF (ev_not (ev_isTup (v := .tup xs) (ev_var rfl) ht)) (ev_or (ev_not (ev_chn ev_lit elen (ev_con con_MOST_COUNTERS) cmpv_le cmpv_le)) fun _ => ev_not (ev_call (evs_cons (ev_var rfl) (evs_cons elen evs_nil)) (vals_ok (lv := k + 2) h)))
  · exact bk_yesX (ev_noTup (ev_var rfl) ht hv') rfl (rs rfl)
def nsE : Exc := ⟨nk_NoSuch, []⟩
theorem strip_pos {p : Nat} (hp : 2 ≤ p) : ∀ (f n m : Nat), 1 ≤ n → 1 ≤ (strip p f n m).1
  | 0, n, m, h => h
  | f + 1, n, m, h => by
    unfold strip
    split
    · rename_i e
      refine strip_pos hp f _ _ ?_
      have := Nat.div_add_mod n p
      rw [e] at this
      rcases Nat.eq_zero_or_pos (n / p) with z | z
      · rw [z] at this; simp at this; omega
      · exact z
    · exact h
theorem divs_snoc : ∀ (ps : List Nat) (p n : Nat), divs (ps ++ [p]) n = ((divs ps n).1 ++ [(strip p (divs ps n).2 (divs ps n).2 0).2], (strip p (divs ps n).2 (divs ps n).2 0).1)
  | [], p, n => rfl
  | q :: ps, p, n => by
    show (_ :: (divs (ps ++ [p]) (strip q n n 0).1).1, (divs (ps ++ [p]) (strip q n n 0).1).2) = _
    rw [divs_snoc ps p]
    rfl
theorem divs_pos : ∀ (ps : List Nat) (n : Nat), (∀ p ∈ ps, 2 ≤ p) → 1 ≤ n → 1 ≤ (divs ps n).2
  | [], n, _, h => h
  | p :: ps, n, hp, h => divs_pos ps _ (fun q hq => hp q (List.mem_cons_of_mem _ hq)) (strip_pos (hp p List.mem_cons_self) _ _ _ h)
theorem divs_len : ∀ (ps : List Nat) (n : Nat), (divs ps n).1.length = ps.length
  | [], _ => rfl
  | p :: ps, n => by
    show (divs ps _).1.length + 1 = _
    rw [divs_len ps]; rfl
def valsR (kk n : Nat) : Res := if (divs (primes.take kk) n).2 = 1 then .ok (.tup (natsP (divs (primes.take kk) n).1)) else .error nsE
theorem values_ok {k kk n : Nat} {S : Store} (h1 : 1 ≤ kk) (h5 : kk ≤ 5) (hn : 1 ≤ n) : FnR ((envAt D (k + 4)).fn nf_values_of) [.int n, .int kk] S (valsR kk n) := by
  refine ⟨fun S' d Q E q => ?_⟩
  have big := PySem.sizeLine_eq
  refine fn_start (d := ⟨2, 5, b_values_of⟩) rfl rfl ?_
  show wpB _ b_values_of [some (.int n), some (.int kk), none, none, none] S' _
  have hi : FnV ((envAt D (k + 3)).fn nf_is_integer) [.int kk, .int 1, .int 5] S' (.bl true) := by rw [← inRange_i (i := kk) (lo := 1) (hi := 5) (by omega) (by omega)]; exact int_ok rfl
  refine bk_noX (x := false) (ev_orF (ev_not (ev_call (by fail "evs") hi)) (ev_orF (ev_not (ev_isi (t := some .int) (ev_var rfl) rfl)) (ev_orF (ev_isi (t := some .int) (ev_var rfl) rfl) (ev_val (ev_cmp (ev_var rfl) ev_lit cmpv_lt) (by rw [decide_eq_false (by omega)]))))) rfl ?_
  refine bk_setF (xs := natsP (divs ((primes.take kk).take 0) n).1) (evf_lst evs_nil) fun A hA => ?_
  have htl : (primes.take kk).length = kk := by rw [List.length_take, primes_len]; omega
  have esl := ev_slc (G := envAt D (k + 3)) (S := S'.upd A (.lst (natsP (divs ((primes.take kk).take 0) n).1))) (ρ := [some (.int n), some (.int kk), some (.loc A), none, none]) (a := .con nc_PRIMES) (xs := primes.map fun (p : Nat) => P.int p) (lo := none) (hi := some (.var 1)) (l := none) (h := some ((kk : Nat) : Int)) (ev_con con_PRIMES) trivial (show Ev _ _ _ _ _ from ev_var rfl)
  rw [cutP_to, ← List.map_take] at esl
  show wpB _ _ [some (.int n), some (.int kk), some (.loc A), none, none] _ _
  refine bk_for (primes.take kk) (fun (p : Nat) => P.int p) (fun i ρ' S2 => S2 = S'.upd A (.lst (natsP (divs ((primes.take kk).take i) n).1)) ∧ ∃ x3 x4, ρ' = [some (.int ((divs ((primes.take kk).take i) n).2 : Nat)), some (.int kk), some (.loc A), x3, x4]) (evs_cons esl evs_nil) it_tup up_any (fun _ _ _ _ => trivial) ⟨rfl, none, none, rfl⟩ ?_ ?_ (env_mono _ _)
  · rintro i p ρ' S2 hx ⟨rfl, x3, x4, rfl⟩
    have hi := (List.getElem?_eq_some_iff.mp hx).1
    have hpm : p ∈ primes := List.mem_of_mem_take (List.mem_of_getElem? hx)
    obtain ⟨ip, hip⟩ := List.mem_iff_getElem?.mp hpm
    have pb := prime_le hip
    have hpos : 1 ≤ (divs ((primes.take kk).take i) n).2 := divs_pos _ _ (fun q hq => by
      obtain ⟨iq, hiq⟩ := List.mem_iff_getElem?.mp (List.mem_of_mem_take (List.mem_of_mem_take hq))
      exact (prime_le hiq).1) hn
    have hsn : divs ((primes.take kk).take (i + 1)) n = ((divs ((primes.take kk).take i) n).1 ++ [(strip p (divs ((primes.take kk).take i) n).2 (divs ((primes.take kk).take i) n).2 0).2], (strip p (divs ((primes.take kk).take i) n).2 (divs ((primes.take kk).take i) n).2 0).1) := by
      rw [List.take_add_one, hx]
      exact divs_snoc ((primes.take kk).take i) p n
    have hml := divs_len ((primes.take kk).take i) n
    rw [List.length_take, htl] at hml
    rw [hsn]
    generalize divs ((primes.take kk).take i) n = e at hpos hml
    obtain ⟨ms, r⟩ := e
    dsimp only at hpos hml ⊢
    refine bk_set ev_lit ?_
    show wpB _ _ [some (.int (r : Nat)), some (.int kk), some (.loc A), some (.int (p : Nat)), some (.int 0)] _ _
    generalize hst : strip p r r 0 = z
    refine bk_while (fun ρ S3 => S3 = S'.upd A (.lst (natsP ms)) ∧ ∃ f x m, strip p f x m = z ∧ x ≤ f ∧ 1 ≤ x ∧ ρ = [some (.int (x : Nat)), some (.int kk), some (.loc A), some (.int (p : Nat)), some (.int (m : Nat))])
      (fun ρ _ => match ρ[0]? with
        | some (some (P.int i)) => i.toNat
        | _ => 0) ⟨rfl, r, r, 0, hst, Nat.le_refl _, hpos, rfl⟩ ?_ (env_mono _ _)
    rintro ρ' S3 ⟨rfl, f, x, m, hz, hxf, hx1, rfl⟩
    obtain ⟨f, rfl⟩ : ∃ g, f = g + 1 := ⟨f - 1, by omega⟩
    unfold strip at hz
    refine while_ev (x := decide (((x : Int) % p) = 0)) (ev_cmp (ev_bin (ev_var rfl) (ev_var rfl) (opv_mod (by omega))) ev_lit cmpv_eqI) ?_ ?_
    · intro e
      have e := of_decide_eq_true e
      have e : x % p = 0 := by omega
      rw [if_pos e] at hz
      have hd := Nat.div_add_mod x p
      rw [e] at hd
      have hlt : x / p < x := Nat.div_lt_self (by omega) (by omega)
      have hge : 1 ≤ x / p := by
        rcases Nat.eq_zero_or_pos (x / p) with w | w
        · rw [w] at hd; simp at hd; omega
        · exact w
      refine bk_aug (x := (x : Nat)) (y := (p : Nat)) (z := .int ((x / p : Nat) : Int)) rfl (ev_var rfl) (fun S' Q q => ⟨⟨by omega, ?_⟩, by rw [← Int.natCast_ediv]; exact q⟩) ?_
      · have h : ((p : Nat) : Int).natAbs < 2 ^ 64 := by omega
        have := (Nat.log2_lt (n := ((p : Nat) : Int).natAbs) (k := 64) (by omega)).mpr h
        omega
      · refine bk_aug (x := (m : Nat)) (y := 1) rfl ev_lit (fun S' Q q => q) (bk_nil ⟨⟨rfl, f, x / p, m + 1, hz, by omega, hge, rfl⟩, ?_⟩)
        show ((x / p : Nat) : Int).toNat < ((x : Nat) : Int).toNat
        omega
    · intro e
      have e := of_decide_eq_false e
      have e : ¬ x % p = 0 := by omega
      rw [if_neg e] at hz
      subst hz
      refine bk_append (p := .int (m : Nat)) (ev_var rfl) (ev_var rfl) Store.upd_same (by unfold natsP; rw [List.length_map]; omega) (bk_nil ⟨?_, _, _, rfl⟩)
      rw [Store.upd_upd]
      unfold natsP
      rw [List.map_append]; rfl
  · rintro ρ' S2 ⟨rfl, x3, x4, rfl⟩
    rw [List.take_length]
    unfold valsR at q
    refine bk_if1 (x := !decide (((divs (primes.take kk) n).2 : Int) = 1)) (ev_cmp (ev_var rfl) ev_lit cmpv_neI) ?_ ?_
    · intro e
      have e := of_decide_eq_false (bnt e)
      rw [if_neg (by omega)] at q
      exact bk_rse0 (by rw [env_xc]; rfl) (by rw [env_lv]; omega) (Wk.drop (.upd hA) (keepE q))
    · intro e
      have e := of_decide_eq_true (bnf e)
      rw [if_pos (by omega)] at q
      refine bk_ret (ev_tupleL (evl_var rfl Store.upd_same)) (fun S9 d9 => Wk.drop ((SubS.upd hA).trans d9) (Wk.here q))
/-- no product, or no number of values -/
def oddN (n kk : P) : Bool := !inRange 1 5 kk || (match n with
  | .int i => decide (i < 1)
  | _ => true)
theorem values_no {k : Nat} {n kk : P} {t u : Option Ty} {S : Store} (hn : tyOf S n = some t) (hk : tyOf S kk = some u) (h : oddN n kk = true) : FnR ((envAt D (k + 4)).fn nf_values_of) [n, kk] S (.error nsE) := by
  refine ⟨fun S' d Q E q => ?_⟩
  have hn := tyOf_at d hn
  have hk := tyOf_at d hk
  refine fn_start (d := ⟨2, 5, b_values_of⟩) rfl rfl ?_
  show wpB _ b_values_of [some n, some kk, none, none, none] S' _
  have rs : ∀ {ss : List CS} {ρ : Core.Loc} {D2 : DE}, D2.ex = (DE.fn Q E).ex → wpB (envAt D (k + 3)) (.rse nk_NoSuch [] :: ss) ρ S' D2 := fun hD => bk_rse0 (by rw [env_xc]; rfl) (by rw [env_lv]; omega) (by rw [hD]; exact keepE q)
  have e1 : Ev (envAt D (k + 3)) (.not_ (.call nf_is_integer [.var 1, .lit (.int 1), .con nc_MOST_COUNTERS])) [some n, some kk, none, none, none] S' (.bl (!inRange 1 5 kk)) := ev_not (ev_call (evs_cons (ev_var rfl) (evs_cons ev_lit (evs_cons (ev_con con_MOST_COUNTERS) evs_nil))) (int_ok hk))
  refine bk_yesX (x := oddN n kk) ?_ h (rs rfl)
  unfold oddN
  refine ev_or e1 fun _ => ?_
  cases n with
  | fn _ => cases hn
  | loc a =>
    have e : t = some .list := by
      simp only [tyOf] at hn
      split at hn
      · exact (Option.some.inj hn).symm
      · cases hn
    subst e
    exact ev_orT (ev_val (ev_not (ev_isi (ev_var rfl) hn)) (by rfl))
  | int i => exact ev_orF (ev_val (ev_not (ev_isi (t := some .int) (ev_var rfl) rfl)) (by rfl)) (ev_orF (ev_val (ev_isi (t := some .int) (ev_var rfl) rfl) (by rfl)) (ev_cmp (ev_var rfl) ev_lit cmpv_lt))
  | bl b => exact ev_orF (ev_val (ev_not (ev_isi (t := some .bool) (ev_var rfl) rfl)) (by rfl)) (ev_orT (ev_val (ev_isi (t := some .bool) (ev_var rfl) rfl) (by rfl)))
  | _ => cases hn; exact ev_orT (ev_val (ev_not (ev_isi (ev_var rfl) rfl)) (by rfl))
end Z
end
section
set_option maxRecDepth 100000
set_option maxHeartbeats 4000000
/-! S6: the law's walk from entry to entry. -/
open PySem Core L2
local macro_rules | `(tactic| fail "fn") => `(tactic| first
  | assumption)
local macro_rules | `(tactic| fail "num") => `(tactic| first
  | omega
  | decide
  | (simp only [List.length_append, List.length_cons, List.length_nil, List.length_map, List.length_replicate, List.length_singleton]; omega))
local macro_rules | `(tactic| fail "at") => `(tactic| first
  | rfl
  | assumption
  | exact atI_at (by first | assumption | rfl)
  | (refine atI_at ?_; simp; done))
local macro_rules | `(tactic| fail "st") => `(tactic| first
  | assumption
  | exact Store.upd_same)
local macro_rules | `(tactic| fail "ty") => `(tactic| first
  | rfl
  | assumption)
local macro_rules | `(tactic| fail "evs") => `(tactic| first
  | exact evs_nil
  | (refine' evs_cons ?h0 ?h1; (case h0 => fail "ev"); (case h1 => fail "evs")))
local macro_rules | `(tactic| fail "op") => `(tactic| first
  | exact opv_add
  | exact opv_sub
  | exact opv_pow ⟨by decide, by decide, by decide⟩
  | (refine' opv_cat ?h0; (case h0 => (have := PySem.sizeLine_eq; fail "num")))
  | (refine' opv_mod ?h0; (case h0 => fail "num"))
  | (refine' opv_div ?h0 ?h1; (case h0 => fail "num"); (case h1 => fail "num"))
  | (refine' opv_mulR ?h0 ?h1; (case h0 => fail "num"); (case h1 => fail "num"))
  | (refine' opv_mulL ?h0 ?h1; (case h0 => fail "num"); (case h1 => fail "num"))
  | (refine' opv_rep ?h0 ?h1 ?h2; (case h0 => fail "num"); (case h1 => fail "num"); (case h2 => (have := PySem.sizeLine_eq; fail "num")))
  | assumption)
local macro_rules | `(tactic| fail "cm") => `(tactic| first
  | exact cmpv_eqI
  | exact cmpv_neI
  | exact cmpv_lt
  | exact cmpv_le
  | exact cmpv_gt
  | exact cmpv_ge
  | exact cmpv_isN
  | exact cmpv_isNN
  | exact cmpv_isB
  | exact cmpv_isNB
  | assumption)
local macro_rules | `(tactic| fail "ix") => `(tactic| first
  | (refine' idxv_tup ?h0; (case h0 => fail "at"))
  | (refine' idxv_lst ?h0 ?h1; (case h0 => fail "st"); (case h1 => fail "at"))
  | (refine' idxv_frl ?h0; (case h0 => fail "at"))
  | assumption)
local macro_rules | `(tactic| fail "eo") => `(tactic| first
  | exact True.intro
  | (refine (show EvO _ (some _) _ _ (some _) from ?_); fail "ev"))
local macro_rules | `(tactic| fail "el") => `(tactic| first
  | (refine' evl_var ?h0 ?h1; (case h0 => rfl); (case h1 => fail "st"))
  | (refine EvF.l ?_; fail "ef")
  | assumption)
local macro_rules | `(tactic| fail "ef") => `(tactic| first
  | (refine' evf_lst ?h0; (case h0 => fail "evs"))
  | (refine' evf_list ?h0 ?h1 ?h2; (case h0 => fail "ev"); (case h1 => exact fun _ => rfl); (case h2 => exact fun _ => rfl))
  | (refine' evf_listL ?h0; (case h0 => fail "el"))
  | (refine' evf_rev ?h0; (case h0 => fail "el"))
  | (refine' evf_slc ?h0 ?h1 ?h2; (case h0 => fail "el"); (case h1 => fail "eo"); (case h2 => fail "eo"))
  | (refine' evf_add ?h0 ?h1 ?h2; (case h0 => fail "el"); (case h1 => fail "el"); (case h2 => (have := PySem.sizeLine_eq; fail "num")))
  | (refine' evf_call ?h0 ?h1; (case h0 => fail "evs"); (case h1 => fail "fn"))
  | assumption)
local macro_rules | `(tactic| fail "ev") => `(tactic| first
  | exact ev_lit
  | exact ev_var rfl
  | (refine' ev_con ?h0; (case h0 => fail "con"))
  | exact ev_fnv
  | (refine' ev_tup ?h0; (case h0 => fail "evs"))
  | (refine' ev_not ?h0; (case h0 => fail "ev"))
  | (refine' ev_and ?h0 ?h1; (case h0 => fail "ev"); (case h1 => first | ((refine (show _ = true → Ev _ _ _ _ (.bl false) from ?_)); intro h; exact absurd h (by decide)) | (intro hAnd; fail "ev")))
  | (refine' ev_or ?h0 ?h1; (case h0 => fail "ev"); (case h1 => first | ((refine (show _ = false → Ev _ _ _ _ (.bl false) from ?_)); intro h; exact absurd h (by decide)) | (intro hOr; fail "ev")))
  | (refine' ev_chn ?h0 ?h1 ?h2 ?h3 ?h4; (case h0 => fail "ev"); (case h1 => fail "ev"); (case h2 => fail "ev"); (case h3 => fail "cm"); (case h4 => fail "cm"))
  | (refine' ev_cmp ?h0 ?h1 ?h2; (case h0 => fail "ev"); (case h1 => fail "ev"); (case h2 => fail "cm"))
  | (refine' ev_bin ?h0 ?h1 ?h2; (case h0 => fail "ev"); (case h1 => fail "ev"); (case h2 => fail "op"))
  | (refine' ev_neg ?h0; (case h0 => fail "ev"))
  | (refine' ev_ife ?h0 ?h1 ?h2; (case h0 => fail "ev"); (case h1 => (intro hT; fail "ev")); (case h2 => (intro hF; fail "ev")))
  | (refine' ev_idx ?h0 ?h1 ?h2; (case h0 => fail "ev"); (case h1 => fail "ev"); (case h2 => fail "ix"))
  | (refine' ev_slc ?h0 ?h1 ?h2; (case h0 => fail "ev"); (case h1 => fail "eo"); (case h2 => fail "eo"))
  | (refine' ev_fld ?h0 ?h1 ?h2; (case h0 => fail "ev"); (case h1 => fail "st"); (case h2 => rfl))
  | (refine' ev_isi ?h0 ?h1; (case h0 => fail "ev"); (case h1 => fail "ty"))
  | (refine' ev_len ?h0 ?h1 ?h2; (case h0 => fail "ev"); (case h1 => exact fun _ => rfl); (case h2 => exact fun _ => rfl))
  | (refine' ev_lenL ?h0; (case h0 => fail "el"))
  | (refine' ev_int ?h0; (case h0 => fail "ev"))
  | (refine' ev_intB ?h0; (case h0 => fail "ev"))
  | (refine' ev_tuple ?h0 ?h1; (case h0 => fail "ev"); (case h1 => exact fun _ => rfl))
  | (refine' ev_tupleL ?h0; (case h0 => fail "el"))
  | (refine' ev_min2 ?h0 ?h1; (case h0 => fail "ev"); (case h1 => fail "ev"))
  | (refine' ev_max2 ?h0 ?h1; (case h0 => fail "ev"); (case h1 => fail "ev"))
  | (refine' ev_abs ?h0; (case h0 => fail "ev"))
  | (refine' ev_call ?h0 ?h1; (case h0 => fail "evs"); (case h1 => fail "fn"))
  | (refine' ev_cvar ?h0 ?h1 ?h2; (case h0 => rfl); (case h1 => fail "evs"); (case h2 => fail "fn"))
  | assumption)
local macro_rules | `(tactic| fail "tf") => `(tactic| first
  | decide
  | rfl
  | (simp; done)
  | (simp; omega))
local macro_rules | `(tactic| fail "no") => `(tactic| (refine' bk_noX ?h0 ?h1 ?_; (case h0 => fail "ev"); (case h1 => fail "tf")))
local macro_rules | `(tactic| fail "yes") => `(tactic| (refine' bk_yesX ?h0 ?h1 ?_; (case h0 => fail "ev"); (case h1 => fail "tf")))
local macro_rules | `(tactic| fail "ret") => `(tactic| (refine' bk_ret ?h0 (fun S9 d9 => Wk.drop d9 (Wk.here ?_)); (case h0 => fail "ev")))
local macro_rules | `(tactic| fail "set") => `(tactic| (refine' bk_set ?h0 ?_; (case h0 => fail "ev")))
local macro_rules | `(tactic| fail "setF") => `(tactic| (refine' bk_setF ?h0 ?_; (case h0 => fail "ef")))
local macro_rules | `(tactic| fail "if") => `(tactic| (refine' bk_if1 ?h0 ?_ ?_; (case h0 => fail "ev")))
local macro_rules | `(tactic| fail "if2") => `(tactic| (refine' bk_if ?h0 ?_ ?_; (case h0 => fail "ev")))
local macro_rules | `(tactic| fail "put") => `(tactic| (refine' bk_put ?h0 ?h1 ?h2 ?h3 ?h4 ?_; (case h0 => fail "ev"); (case h1 => fail "ev"); (case h2 => fail "ev"); (case h3 => fail "st"); (case h4 => rfl)))
local macro_rules | `(tactic| fail "retC") => `(tactic| (refine' bk_retC ?h0 ?_; (case h0 => fail "evs")))
local macro_rules | `(tactic| fail "setC") => `(tactic| (refine' bk_setC ?h0 ?_; (case h0 => fail "evs")))
local macro_rules | `(tactic| fail "expC") => `(tactic| (refine' bk_expC ?h0 ?_; (case h0 => fail "evs")))
local macro_rules | `(tactic| fail "callE") => `(tactic| (refine' cps_call ?h0 ?_; (case h0 => fail "evs")))
local macro_rules | `(tactic| fail "exp") => `(tactic| (refine' bk_exp ?h0 ?_; (case h0 => fail "ev")))
local macro_rules | `(tactic| fail "con") => `(tactic| first | exact Z.con_MOST_ROWS | exact Z.con_MOST_COUNTERS | exact Z.con_PRIMES | rfl)
local macro_rules | `(tactic| fail "fn") => `(tactic| exact Z.int_ok (by fail "ty"))
namespace Z
open PySem Core L2
theorem inV_nats (r : Nat) : ∀ E : List Nat, inV (flV (.int (r : Nat))) ((natsP E).map flV) = decide (r ∈ E)
  | [] => rfl
  | x :: E => by
    have ih := inV_nats r E
    unfold inV at ih ⊢
    show (eqV (V.int (x : Nat)) (V.int (r : Nat)) || ((natsP E).map flV).any fun y => eqV y (flV (.int (r : Nat)))) = _
    rw [ih]
    show (((x : Nat) : Int) == ((r : Nat) : Int) || decide (r ∈ E)) = _
    by_cases h : r = x
    · subst h; simp
    · have h2 : ¬ ((x : Int) = (r : Int)) := by omega
      simp [h, h2]
theorem cmpv_inT {S : Store} {r : Nat} {E : List Nat} : CmpV .In (.int (r : Nat)) (.tup (natsP E)) S (decide (r ∈ E)) := .mk fun S' d Q q => by
  have fl : (natsP E).all flatP = true := by
    unfold natsP
    rw [List.all_map, List.all_eq_true]
    intro x hx; rfl
  unfold opCmp
  refine ⟨rfl, fl, ?_⟩
  rw [inV_nats]
  exact q
def hereP (x : CSt) : P := .tup [.int (x.1 : Nat), .tup (x.2.map P.int)]
theorem st2_good {C : Cn} (g : GoodC C) (k3 : C.k ≤ 3) {r N v : Nat} (h : r < (RofC C).length) : GoodX (twoC C) (st2 r N v) := ⟨h, rfl, fun x hx => by
  simp only [st2, List.mem_cons, List.not_mem_nil, or_false] at hx
  rcases hx with rfl | rfl <;> omega⟩
theorem ent_lt {C : Cn} (g : GoodC C) (k3 : C.k ≤ 3) {r : Nat} (h : r < C.rows.length) : FofC C r < (RofC C).length := by
  obtain ⟨o, ho⟩ : ∃ o, C.rows[r]? = some o := ⟨_, List.getElem?_eq_getElem h⟩
  have := (two_block g k3 ho).1
  have := size_pos (o := o)
  rw [two_len g k3]
  omega
theorem goes_no {k r N : Nat} {C : Cn} {S : Store} (g : GoodC C) (k3 : C.k ≤ 3) (n8 : C.rows.length ≤ 8) (hr : r < (RofC C).length) (hs : stepC (RofC C) (st2 r N 0) = none) : FnV ((envAt D (k + 3)).fn nf__law_goes) [(twoC C).toP, .tup (natsP (EofC C)), .int r, .int N, .non] S (.bl true) := by
  refine ⟨fun S' d Q E q => ?_⟩
  have big := PySem.sizeLine_eq
  have q : Q (.bl true) S' := q
  refine fn_start (d := ⟨5, 8, b__law_goes⟩) rfl rfl ?_
  show wpB _ b__law_goes [some (twoC C).toP, some (.tup (natsP (EofC C))), some (.int r), some (.int N), some .non, none, none, none] S' _
  have gx := st2_good (N := N) (v := 0) g k3 hr
  refine bk_set (p := hereP (st2 r N 0)) (ev_tup (evs_cons (ev_var rfl) (evs_cons (ev_tup (evs_cons (ev_var rfl) (evs_cons ev_lit evs_nil))) evs_nil))) ?_
  refine bk_for (List.range 6000) (fun (i : Nat) => P.int (i : Nat)) (fun i ρ' S2 => S2 = S' ∧ i = 0 ∧ ∃ x6 x7, ρ' = [some (twoC C).toP, some (.tup (natsP (EofC C))), some (.int r), some (.int N), some .non, some (hereP (st2 r N 0)), x6, x7]) (evs_cons (ev_lit (p := .int (6000 : Nat))) evs_nil) (it_range (n := 6000) (by rw [big]; decide)) up_any (fun _ _ _ _ => trivial) ⟨rfl, rfl, none, none, rfl⟩ ?_ ?_ (env_mono _ _)
  · rintro i j ρ' S2 hx ⟨rfl, rfl, x6, x7, rfl⟩
    have hj : j = 0 := by
      rw [List.getElem?_eq_some_iff] at hx
      obtain ⟨h1, h2⟩ := hx
      simp at h2; omega
    subst hj
    show wpB _ _ [some (twoC C).toP, some (.tup (natsP (EofC C))), some (.int r), some (.int N), some .non, some (hereP (st2 r N 0)), some (.int (0 : Nat)), x7] S2 _
    have i0 : IdxV (hereP (st2 r N 0)) (.int 0) S2 (.int (r : Nat)) := idxv_tup rfl
    have i1 : IdxV (hereP (st2 r N 0)) (.int 1) S2 (.tup ((st2 r N 0).2.map P.int)) := idxv_tup rfl
    have hl := law_step_ok (lv := k) (S := S2) (two_good g k3 n8) gx
    rw [show stepC (twoC C).rows (st2 r N 0) = none from hs] at hl
    refine bk_set (p := .non) (ev_call (ps := [(twoC C).toP, .int (r : Nat), .tup ((st2 r N 0).2.map P.int)]) (evs_cons (ev_var rfl) (evs_cons (ev_idx (ev_var rfl) ev_lit i0) (evs_cons (ev_idx (ev_var rfl) ev_lit i1) evs_nil))) hl) ?_
    refine bk_yesX (ev_cmp (ev_var rfl) ev_lit cmpv_isN) rfl ?_
    exact bk_ret (ev_andT (ev_val (ev_cmp (ev_var rfl) ev_lit cmpv_isN) (by rfl)) (ev_val (ev_cmp (ev_var rfl) ev_lit cmpv_eqI) (by rfl))) (fun S9 d9 => Wk.drop d9 (Wk.here q))
  · rintro ρ' S2 ⟨rfl, h, _⟩
    rw [List.length_range] at h
    cases h
theorem goes_ok {k r N t M n : Nat} {C : Cn} {z : CSt} {S : Store} (g : GoodC C) (k3 : C.k ≤ 3) (n8 : C.rows.length ≤ 8) (hr : r < (RofC C).length) (hn : n < 6000) (hrun : Run (RofC C) (hitE (EofC C)) n (st2 r N 0) z) (hz : stepC (RofC C) z = some (st2 t M 0)) (ht : t ∈ EofC C) : FnV ((envAt D (k + 3)).fn nf__law_goes) [(twoC C).toP, .tup (natsP (EofC C)), .int r, .int N, .tup [.int t, .int M]] S (.bl true) := by
  refine ⟨fun S' d Q E q => ?_⟩
  have big := PySem.sizeLine_eq
  have q : Q (.bl true) S' := q
  refine fn_start (d := ⟨5, 8, b__law_goes⟩) rfl rfl ?_
  show wpB _ b__law_goes [some (twoC C).toP, some (.tup (natsP (EofC C))), some (.int r), some (.int N), some (.tup [.int t, .int M]), none, none, none] S' _
  have gC := two_good g k3 n8
  have gx := st2_good (N := N) (v := 0) g k3 hr
  refine bk_set (p := hereP (st2 r N 0)) (ev_tup (evs_cons (ev_var rfl) (evs_cons (ev_tup (evs_cons (ev_var rfl) (evs_cons ev_lit evs_nil))) evs_nil))) ?_
  refine bk_for (List.range 6000) (fun (i : Nat) => P.int (i : Nat)) (fun i ρ' S2 => S2 = S' ∧ i ≤ n ∧ ∃ w x6 x7, itC (RofC C) i (st2 r N 0) = some w ∧ ρ' = [some (twoC C).toP, some (.tup (natsP (EofC C))), some (.int r), some (.int N), some (.tup [.int t, .int M]), some (hereP w), x6, x7]) (evs_cons (ev_lit (p := .int (6000 : Nat))) evs_nil) (it_range (n := 6000) (by rw [big]; decide)) up_any (fun _ _ _ _ => trivial) ⟨rfl, Nat.zero_le _, _, none, none, rfl, rfl⟩ ?_ ?_ (env_mono _ _)
  · rintro i j ρ' S2 hx ⟨rfl, hi, w, x6, x7, hw, rfl⟩
    have gw : GoodX (twoC C) w := it_good gC gx hw
    show wpB _ _ [some (twoC C).toP, some (.tup (natsP (EofC C))), some (.int r), some (.int N), some (.tup [.int t, .int M]), some (hereP w), some (.int (j : Nat)), x7] S2 _
    have i0 : ∀ {w : CSt} {S : Store}, IdxV (hereP w) (.int 0) S (.int (w.1 : Nat)) := idxv_tup rfl
    have i1 : ∀ {w : CSt} {S : Store}, IdxV (hereP w) (.int 1) S (.tup (w.2.map P.int)) := idxv_tup rfl
    have hl := law_step_ok (lv := k) (S := S2) gC gw
    obtain ⟨w', hw', hc⟩ : ∃ w', stepC (RofC C) w = some w' ∧ ((i < n ∧ ¬ hitE (EofC C) w' ∧ itC (RofC C) (i + 1) (st2 r N 0) = some w') ∨ w' = st2 t M 0) := by
      by_cases hin : i < n
      · have h1 : itC (RofC C) (i + 1) (st2 r N 0) = stepC (RofC C) w := by
          show (itC (RofC C) i (st2 r N 0)).bind _ = _
          rw [hw]; rfl
        cases hs : stepC (RofC C) w with
        | none =>
          rw [hs] at h1
          have := itC_none h1 (show i + 1 ≤ n by omega)
          rw [hrun.it] at this; cases this
        | some w' =>
          rw [hs] at h1
          exact ⟨w', rfl, .inl ⟨hin, hrun.ok (i + 1) (by omega) (by omega) w' h1, h1⟩⟩
      · have : i = n := by omega
        subst this
        have := hw.symm.trans hrun.it
        cases this
        exact ⟨_, hz, .inr rfl⟩
    have gw' : GoodX (twoC C) w' := step_good gC gw hw'
    rw [show stepC (twoC C).rows w = some w' from hw'] at hl
    refine bk_set (p := hereP w') (ev_call (ps := [(twoC C).toP, .int (w.1 : Nat), .tup (w.2.map P.int)]) (evs_cons (ev_var rfl) (evs_cons (ev_idx (ev_var rfl) ev_lit i0) (evs_cons (ev_idx (ev_var rfl) ev_lit i1) evs_nil))) hl) ?_
    refine bk_noX (ev_cmp (ev_var rfl) ev_lit cmpv_isN) rfl ?_
    refine bk_set (ev_var rfl) ?_
    show wpB _ _ [some (twoC C).toP, some (.tup (natsP (EofC C))), some (.int r), some (.int N), some (.tup [.int t, .int M]), some (hereP w'), some (.int (j : Nat)), some (hereP w')] S2 _
    have l2 : w'.2.length = 2 := gw'.v.len
    have ec : Ev (envAt D (k + 2)) (.and_ (.cmp .In (.idx (.var 5) (.lit (.int 0))) (.var 1)) (.cmp .Eq (.idx (.idx (.var 5) (.lit (.int 1))) (.lit (.int 1))) (.lit (.int 0)))) [some (twoC C).toP, some (.tup (natsP (EofC C))), some (.int r), some (.int N), some (.tup [.int t, .int M]), some (hereP w'), some (.int (j : Nat)), some (hereP w')] S2 (.bl (decide (w'.1 ∈ EofC C) && decide (w'.2.getD 1 0 = 0))) := ev_and (ev_cmp (ev_idx (ev_var rfl) ev_lit i0) (ev_var rfl) cmpv_inT) fun _ => ev_cmp (ev_idx (ev_idx (ev_var rfl) ev_lit i1) ev_lit (idxv_tup (at_vs (c := 1) (by omega)))) ev_lit cmpv_eqI
    rcases hc with ⟨hin, hnh, hit⟩ | rfl
    · refine bk_noX ec ?_ (bk_nil ⟨rfl, by omega, w', _, _, hit, rfl⟩)
      by_cases h1 : w'.1 ∈ EofC C
      · by_cases h2 : w'.2.getD 1 0 = 0
        · exact absurd ⟨h1, h2⟩ hnh
        · rw [decide_eq_false h2, Bool.and_false]
      · rw [decide_eq_false h1]; rfl
    · refine bk_yesX ec (by rw [decide_eq_true (show (st2 t M 0).1 ∈ EofC C from ht)]; rfl) ?_
      have j0 : IdxV (.tup [.int t, .int M]) (.int 0) S2 (.int t) := idxv_tup rfl
      have j1 : IdxV (.tup [.int t, .int M]) (.int 1) S2 (.int M) := idxv_tup rfl
      have c2 := cmpv_eqD (S := S2) (α := Int × List Int) ((t : Int), [(M : Int), 0]) ((t : Int), [(M : Int), 0]) (by decide)
      rw [decide_eq_true rfl] at c2
      exact bk_ret (ev_andT (ev_val (ev_cmp (ev_var rfl) ev_lit cmpv_isNN) (by rfl)) (ev_cmp (ev_var rfl) (ev_tup (evs_cons (ev_idx (ev_var rfl) ev_lit j0) (evs_cons (ev_tup (evs_cons (ev_idx (ev_var rfl) ev_lit j1) (evs_cons ev_lit evs_nil))) evs_nil))) c2)) (fun S9 d9 => Wk.drop d9 (Wk.here q))
  · rintro ρ' S2 ⟨rfl, hi, _⟩
    rw [List.length_range] at hi
    omega
end Z
end
section
set_option maxRecDepth 100000
set_option maxHeartbeats 4000000
/-! S7: one turn of a case. -/
open PySem Core L2
local macro_rules | `(tactic| fail "fn") => `(tactic| first
  | assumption)
local macro_rules | `(tactic| fail "num") => `(tactic| first
  | omega
  | decide
  | (simp only [List.length_append, List.length_cons, List.length_nil, List.length_map, List.length_replicate, List.length_singleton]; omega))
local macro_rules | `(tactic| fail "at") => `(tactic| first
  | rfl
  | assumption
  | exact atI_at (by first | assumption | rfl)
  | (refine atI_at ?_; simp; done))
local macro_rules | `(tactic| fail "st") => `(tactic| first
  | assumption
  | exact Store.upd_same)
local macro_rules | `(tactic| fail "ty") => `(tactic| first
  | rfl
  | assumption)
local macro_rules | `(tactic| fail "evs") => `(tactic| first
  | exact evs_nil
  | (refine' evs_cons ?h0 ?h1; (case h0 => fail "ev"); (case h1 => fail "evs")))
local macro_rules | `(tactic| fail "op") => `(tactic| first
  | exact opv_add
  | exact opv_sub
  | exact opv_pow ⟨by decide, by decide, by decide⟩
  | (refine' opv_cat ?h0; (case h0 => (have := PySem.sizeLine_eq; fail "num")))
  | (refine' opv_mod ?h0; (case h0 => fail "num"))
  | (refine' opv_div ?h0 ?h1; (case h0 => fail "num"); (case h1 => fail "num"))
  | (refine' opv_mulR ?h0 ?h1; (case h0 => fail "num"); (case h1 => fail "num"))
  | (refine' opv_mulL ?h0 ?h1; (case h0 => fail "num"); (case h1 => fail "num"))
  | (refine' opv_rep ?h0 ?h1 ?h2; (case h0 => fail "num"); (case h1 => fail "num"); (case h2 => (have := PySem.sizeLine_eq; fail "num")))
  | assumption)
local macro_rules | `(tactic| fail "cm") => `(tactic| first
  | exact cmpv_eqI
  | exact cmpv_neI
  | exact cmpv_lt
  | exact cmpv_le
  | exact cmpv_gt
  | exact cmpv_ge
  | exact cmpv_isN
  | exact cmpv_isNN
  | exact cmpv_isB
  | exact cmpv_isNB
  | assumption)
local macro_rules | `(tactic| fail "ix") => `(tactic| first
  | (refine' idxv_tup ?h0; (case h0 => fail "at"))
  | (refine' idxv_lst ?h0 ?h1; (case h0 => fail "st"); (case h1 => fail "at"))
  | (refine' idxv_frl ?h0; (case h0 => fail "at"))
  | assumption)
local macro_rules | `(tactic| fail "eo") => `(tactic| first
  | exact True.intro
  | (refine (show EvO _ (some _) _ _ (some _) from ?_); fail "ev"))
local macro_rules | `(tactic| fail "el") => `(tactic| first
  | (refine' evl_var ?h0 ?h1; (case h0 => rfl); (case h1 => fail "st"))
  | (refine EvF.l ?_; fail "ef")
  | assumption)
local macro_rules | `(tactic| fail "ef") => `(tactic| first
  | (refine' evf_lst ?h0; (case h0 => fail "evs"))
  | (refine' evf_list ?h0 ?h1 ?h2; (case h0 => fail "ev"); (case h1 => exact fun _ => rfl); (case h2 => exact fun _ => rfl))
  | (refine' evf_listL ?h0; (case h0 => fail "el"))
  | (refine' evf_rev ?h0; (case h0 => fail "el"))
  | (refine' evf_slc ?h0 ?h1 ?h2; (case h0 => fail "el"); (case h1 => fail "eo"); (case h2 => fail "eo"))
  | (refine' evf_add ?h0 ?h1 ?h2; (case h0 => fail "el"); (case h1 => fail "el"); (case h2 => (have := PySem.sizeLine_eq; fail "num")))
  | (refine' evf_call ?h0 ?h1; (case h0 => fail "evs"); (case h1 => fail "fn"))
  | assumption)
local macro_rules | `(tactic| fail "ev") => `(tactic| first
  | exact ev_lit
  | exact ev_var rfl
  | (refine' ev_con ?h0; (case h0 => fail "con"))
  | exact ev_fnv
  | (refine' ev_tup ?h0; (case h0 => fail "evs"))
  | (refine' ev_not ?h0; (case h0 => fail "ev"))
  | (refine' ev_and ?h0 ?h1; (case h0 => fail "ev"); (case h1 => first | ((refine (show _ = true → Ev _ _ _ _ (.bl false) from ?_)); intro h; exact absurd h (by decide)) | (intro hAnd; fail "ev")))
  | (refine' ev_or ?h0 ?h1; (case h0 => fail "ev"); (case h1 => first | ((refine (show _ = false → Ev _ _ _ _ (.bl false) from ?_)); intro h; exact absurd h (by decide)) | (intro hOr; fail "ev")))
  | (refine' ev_chn ?h0 ?h1 ?h2 ?h3 ?h4; (case h0 => fail "ev"); (case h1 => fail "ev"); (case h2 => fail "ev"); (case h3 => fail "cm"); (case h4 => fail "cm"))
  | (refine' ev_cmp ?h0 ?h1 ?h2; (case h0 => fail "ev"); (case h1 => fail "ev"); (case h2 => fail "cm"))
  | (refine' ev_bin ?h0 ?h1 ?h2; (case h0 => fail "ev"); (case h1 => fail "ev"); (case h2 => fail "op"))
  | (refine' ev_neg ?h0; (case h0 => fail "ev"))
  | (refine' ev_ife ?h0 ?h1 ?h2; (case h0 => fail "ev"); (case h1 => (intro hT; fail "ev")); (case h2 => (intro hF; fail "ev")))
  | (refine' ev_idx ?h0 ?h1 ?h2; (case h0 => fail "ev"); (case h1 => fail "ev"); (case h2 => fail "ix"))
  | (refine' ev_slc ?h0 ?h1 ?h2; (case h0 => fail "ev"); (case h1 => fail "eo"); (case h2 => fail "eo"))
  | (refine' ev_fld ?h0 ?h1 ?h2; (case h0 => fail "ev"); (case h1 => fail "st"); (case h2 => rfl))
  | (refine' ev_isi ?h0 ?h1; (case h0 => fail "ev"); (case h1 => fail "ty"))
  | (refine' ev_len ?h0 ?h1 ?h2; (case h0 => fail "ev"); (case h1 => exact fun _ => rfl); (case h2 => exact fun _ => rfl))
  | (refine' ev_lenL ?h0; (case h0 => fail "el"))
  | (refine' ev_int ?h0; (case h0 => fail "ev"))
  | (refine' ev_intB ?h0; (case h0 => fail "ev"))
  | (refine' ev_tuple ?h0 ?h1; (case h0 => fail "ev"); (case h1 => exact fun _ => rfl))
  | (refine' ev_tupleL ?h0; (case h0 => fail "el"))
  | (refine' ev_min2 ?h0 ?h1; (case h0 => fail "ev"); (case h1 => fail "ev"))
  | (refine' ev_max2 ?h0 ?h1; (case h0 => fail "ev"); (case h1 => fail "ev"))
  | (refine' ev_abs ?h0; (case h0 => fail "ev"))
  | (refine' ev_call ?h0 ?h1; (case h0 => fail "evs"); (case h1 => fail "fn"))
  | (refine' ev_cvar ?h0 ?h1 ?h2; (case h0 => rfl); (case h1 => fail "evs"); (case h2 => fail "fn"))
  | assumption)
local macro_rules | `(tactic| fail "tf") => `(tactic| first
  | decide
  | rfl
  | (simp; done)
  | (simp; omega))
local macro_rules | `(tactic| fail "no") => `(tactic| (refine' bk_noX ?h0 ?h1 ?_; (case h0 => fail "ev"); (case h1 => fail "tf")))
local macro_rules | `(tactic| fail "yes") => `(tactic| (refine' bk_yesX ?h0 ?h1 ?_; (case h0 => fail "ev"); (case h1 => fail "tf")))
local macro_rules | `(tactic| fail "ret") => `(tactic| (refine' bk_ret ?h0 (fun S9 d9 => Wk.drop d9 (Wk.here ?_)); (case h0 => fail "ev")))
local macro_rules | `(tactic| fail "set") => `(tactic| (refine' bk_set ?h0 ?_; (case h0 => fail "ev")))
local macro_rules | `(tactic| fail "setF") => `(tactic| (refine' bk_setF ?h0 ?_; (case h0 => fail "ef")))
local macro_rules | `(tactic| fail "if") => `(tactic| (refine' bk_if1 ?h0 ?_ ?_; (case h0 => fail "ev")))
local macro_rules | `(tactic| fail "if2") => `(tactic| (refine' bk_if ?h0 ?_ ?_; (case h0 => fail "ev")))
local macro_rules | `(tactic| fail "put") => `(tactic| (refine' bk_put ?h0 ?h1 ?h2 ?h3 ?h4 ?_; (case h0 => fail "ev"); (case h1 => fail "ev"); (case h2 => fail "ev"); (case h3 => fail "st"); (case h4 => rfl)))
local macro_rules | `(tactic| fail "retC") => `(tactic| (refine' bk_retC ?h0 ?_; (case h0 => fail "evs")))
local macro_rules | `(tactic| fail "setC") => `(tactic| (refine' bk_setC ?h0 ?_; (case h0 => fail "evs")))
local macro_rules | `(tactic| fail "expC") => `(tactic| (refine' bk_expC ?h0 ?_; (case h0 => fail "evs")))
local macro_rules | `(tactic| fail "callE") => `(tactic| (refine' cps_call ?h0 ?_; (case h0 => fail "evs")))
local macro_rules | `(tactic| fail "exp") => `(tactic| (refine' bk_exp ?h0 ?_; (case h0 => fail "ev")))
local macro_rules | `(tactic| fail "con") => `(tactic| first | exact Z.con_MOST_ROWS | exact Z.con_MOST_COUNTERS | exact Z.con_PRIMES | rfl)
local macro_rules | `(tactic| fail "fn") => `(tactic| exact Z.int_ok (by fail "ty"))
namespace Z
open PySem Core L2
def resD (o : Option CSt) : Option (Int × List Int) := o.map fun x => ((x.1 : Int), x.2)
theorem resP_dat (o : Option CSt) : resP o = Dat.toP (resD o) := by cases o <;> rfl
theorem ne_same {α : Type} [Dat α] [DecidableEq α] {k : Nat} {ρ : Core.Loc} {S : Store} {a b : CE} (x : α) (hd : Dat.dep α ≤ 62) (h1 : Ev (envAt D k) a ρ S (Dat.toP x)) (h2 : Ev (envAt D k) b ρ S (Dat.toP x)) : Ev (envAt D k) (.cmp .NotEq a b) ρ S (.bl false) := ev_val (ev_cmp h1 h2 (cmpv_neD x x hd)) (by simp)
theorem step_le {R : List Od} {x y : CSt} {m : Int} (hm : 0 ≤ m) (h : ∀ v ∈ x.2, v ≤ m) (hs : stepC R x = some y) : ∀ v ∈ y.2, v ≤ m + 1 := by
  have hg : ∀ c, x.2.getD c 0 ≤ m := fun c => by
    rw [List.getD_eq_getElem?_getD]
    cases e : x.2[c]? with
    | none => exact hm
    | some w => exact h w (List.mem_of_getElem? e)
  have ha : ∀ c (d : Int), d ≤ 1 → ∀ v ∈ addAt x.2 c d, v ≤ m + 1 := fun c d hd v hv => by
    rcases List.mem_or_eq_of_mem_set hv with hv | rfl
    · have := h v hv; omega
    · have := hg c; omega
  unfold stepC at hs
  cases hr : R[x.1]? with
  | none => rw [hr] at hs; cases hs
  | some o =>
    rw [hr] at hs
    cases o with
    | non => cases hs
    | up c a => cases hs; exact ha c 1 (by omega)
    | dn c a b =>
      dsimp only at hs
      split at hs
      · cases hs; intro v hv; have := h v hv; omega
      · cases hs; exact ha c (-1) (by omega)
def lcB : List CS := match b__law_case.drop 8 with
  | (.for_ _ _ _ b) :: _ => b
  | _ => []
theorem nats_vals {vs : List Int} (h : ∀ v ∈ vs, 0 ≤ v) : natsP (vs.map Int.toNat) = vs.map P.int := by
  unfold natsP
  rw [List.map_map]
  refine List.map_congr_left fun v hv => ?_
  show P.int (v.toNat : Nat) = P.int v
  rw [Int.toNat_of_nonneg (h v hv)]
theorem turn_ok {x0 x2 x5 x6 x7 x10 x11 x12 x13 : Option P} {C : Cn} {x : CSt} {i : Nat} {S : Store} {Q : P → Store → Prop} {D1 : DE} (g : GoodC C) (k3 : C.k ≤ 3) (n8 : C.rows.length ≤ 8) (gx : GoodX C x) (hi : i < 6) (hv : ∀ v ∈ x.2, v ≤ 2 + (i : Int)) (hr : ∀ S2, SubS S S2 → D1.rt (.bl true) S2)
    (hn : ∀ y x10 x11 x12, GoodX C y → (∀ v ∈ y.2, v ≤ 2 + ((i + 1 : Nat) : Int)) → D1.nx [x0, some C.toP, x2, some (twoC C).toP, some (.tup (natsP (EofC C))), x5, x6, x7, some (.int (y.1 : Nat)), some (.tup (y.2.map P.int)), x10, x11, x12, x13] S) :
    wpB (envAt D 59) lcB [x0, some C.toP, x2, some (twoC C).toP, some (.tup (natsP (EofC C))), x5, x6, x7, some (.int (x.1 : Nat)), some (.tup (x.2.map P.int)), x10, x11, x12, x13] S D1 := by
  have k0 := g.k0
  have lv := gx.v.len
  have vb : ∀ v ∈ x.2, 0 ≤ v ∧ v ≤ 100000 := fun v h => ⟨gx.v.pos v h, by have := hv v h; omega⟩
  have t1 := law_step_ok (lv := 57) (S := S) g gx
  have t2 := next_ok (lv := 54) (S := S) g gx
  refine bk_set (ev_call (by fail "evs") t1) ?_
  show wpB _ _ [x0, some C.toP, x2, some (twoC C).toP, some (.tup (natsP (EofC C))), x5, x6, x7, some (.int (x.1 : Nat)), some (.tup (x.2.map P.int)), x10, some (resP (stepC C.rows x)), x12, x13] S D1
  rw [resP_dat] at t2
  refine bk_no (ne_same (resD (stepC C.rows x)) (by decide) (by rw [← resP_dat]; exact ev_var rfl) (ev_call (by fail "evs") t2)) ?_
  have p1 := lpower_ok (k := 58) (vs := x.2) (S := S) (by omega) vb
  refine bk_set (ev_call (by fail "evs") p1) ?_
  show wpB _ _ [x0, some C.toP, x2, some (twoC C).toP, some (.tup (natsP (EofC C))), x5, x6, x7, some (.int (x.1 : Nat)), some (.tup (x.2.map P.int)), x10, some (resP (stepC C.rows x)), some (.int (pw primes x.2 : Nat)), x13] S D1
  have p2 := power_ok (k := 57) (vs := x.2) (S := S) (by omega) (by omega) vb
  have hN1 : 1 ≤ pw primes x.2 := pw_pos _ _ (by decide)
  have p3 := values_ok (k := 55) (kk := C.k) (n := pw primes x.2) (S := S) k0 (by omega) hN1
  have hd := divs_pw primes x.2 primes_apart (by rw [primes_len]; omega)
  rw [lv] at hd
  unfold valsR at p3
  rw [hd] at p3
  dsimp only at p3
  rw [if_pos rfl, nats_vals gx.v.pos] at p3
  have i1 : IdxV C.toP (.int 1) S (.int C.k) := idxv_tup rfl
  refine bk_no (ev_orF (ne_same ((pw primes x.2 : Nat) : Int) (by decide) (ev_call (by fail "evs") p2) (ev_var rfl)) (ne_same (α := List Int) x.2 (by decide) (EvR.v (evr_call (ps := [.int (pw primes x.2 : Nat), .int C.k]) (evs_cons (ev_var rfl) (evs_cons (ev_idx (ev_var rfl) ev_lit i1) evs_nil)) p3)) (ev_var rfl))) ?_
  have eF : ∀ {c : CE} {a : Nat} {ρ : Core.Loc}, ρ[4]? = some (some (.tup (natsP (EofC C)))) → a < C.rows.length → Ev (envAt D 59) c ρ S (.int (a : Nat)) → Ev (envAt D 59) (.idx (.var 4) c) ρ S (.int (FofC C a : Nat)) := fun h4 ha hc => ev_idx (ev_var h4) hc (idxv_tup (atI_at (by unfold natsP; rw [List.getElem?_map, ent_at ha]; rfl)))
  cases hs : stepC C.rows x with
  | none =>
    refine bk_yesX (ev_cmp (ev_var rfl) ev_lit cmpv_isN) rfl ?_
    have hg := goes_no (k := 56) (N := pw primes x.2) (S := S) g k3 n8 (ent_lt g k3 gx.r) (two_stops g k3 gx hs)
    exact bk_ret (ev_call (ps := [(twoC C).toP, .tup (natsP (EofC C)), .int (FofC C x.1 : Nat), .int (pw primes x.2 : Nat), .non]) (evs_cons (ev_var rfl) (evs_cons (ev_var rfl) (evs_cons (eF rfl gx.r (ev_var rfl)) (evs_cons (ev_var rfl) (evs_cons ev_lit evs_nil))))) hg) hr
  | some y =>
    have gy := step_good g gx hs
    have hvy := step_le (m := 2 + (i : Int)) (by omega) hv hs
    have lvy := gy.v.len
    refine bk_noX (ev_cmp (ev_var rfl) ev_lit cmpv_isN) rfl ?_
    refine bk_if1 (x := decide ((300 : Int) < (pw primes x.2 : Nat))) (ev_cmp (ev_var rfl) ev_lit cmpv_gt) (fun _ => bk_ret ev_lit hr) fun e => ?_
    have e := of_decide_eq_false e
    obtain ⟨n, z, h1, h2, h3⟩ := two_goes g k3 gx hs (by omega)
    have hg := goes_ok (k := 56) (S := S) g k3 n8 (ent_lt g k3 gx.r) h1 h2 h3 (ent_mem gy.r)
    have j0 : IdxV (resP (some y)) (.int 0) S (.int (y.1 : Nat)) := idxv_tup rfl
    have j1 : IdxV (resP (some y)) (.int 1) S (.tup (y.2.map P.int)) := idxv_tup rfl
    have p4 := lpower_ok (k := 58) (vs := y.2) (S := S) (by omega) fun v h => ⟨gy.v.pos v h, by have := hvy v h; omega⟩
    refine bk_no (ev_val (ev_not (ev_call (ps := [(twoC C).toP, .tup (natsP (EofC C)), .int (FofC C x.1 : Nat), .int (pw primes x.2 : Nat), .tup [.int (FofC C y.1 : Nat), .int (pw primes y.2 : Nat)]]) (evs_cons (ev_var rfl) (evs_cons (ev_var rfl) (evs_cons (eF rfl gx.r (ev_var rfl)) (evs_cons (ev_var rfl) (evs_cons (ev_tup (evs_cons (eF rfl gy.r (ev_idx (ev_var rfl) ev_lit j0)) (evs_cons (ev_call (evs_cons (ev_idx (ev_var rfl) ev_lit j1) evs_nil) p4) evs_nil))) evs_nil))))) hg)) (by rfl)) ?_
    refine bk_unpackN (ps := [.int (y.1 : Nat), .tup (y.2.map P.int)]) (ev_var rfl) rfl rfl (bk_nil (hn y _ _ _ gy fun v h => by have := hvy v h; omega))
end Z
end
section
set_option maxRecDepth 100000
set_option maxHeartbeats 4000000
/-! S8: one case. -/
open PySem Core L2
local macro_rules | `(tactic| fail "fn") => `(tactic| first
  | assumption)
local macro_rules | `(tactic| fail "num") => `(tactic| first
  | omega
  | decide
  | (simp only [List.length_append, List.length_cons, List.length_nil, List.length_map, List.length_replicate, List.length_singleton]; omega))
local macro_rules | `(tactic| fail "at") => `(tactic| first
  | rfl
  | assumption
  | exact atI_at (by first | assumption | rfl)
  | (refine atI_at ?_; simp; done))
local macro_rules | `(tactic| fail "st") => `(tactic| first
  | assumption
  | exact Store.upd_same)
local macro_rules | `(tactic| fail "ty") => `(tactic| first
  | rfl
  | assumption)
local macro_rules | `(tactic| fail "evs") => `(tactic| first
  | exact evs_nil
  | (refine' evs_cons ?h0 ?h1; (case h0 => fail "ev"); (case h1 => fail "evs")))
local macro_rules | `(tactic| fail "op") => `(tactic| first
  | exact opv_add
  | exact opv_sub
  | exact opv_pow ⟨by decide, by decide, by decide⟩
  | (refine' opv_cat ?h0; (case h0 => (have := PySem.sizeLine_eq; fail "num")))
  | (refine' opv_mod ?h0; (case h0 => fail "num"))
  | (refine' opv_div ?h0 ?h1; (case h0 => fail "num"); (case h1 => fail "num"))
  | (refine' opv_mulR ?h0 ?h1; (case h0 => fail "num"); (case h1 => fail "num"))
  | (refine' opv_mulL ?h0 ?h1; (case h0 => fail "num"); (case h1 => fail "num"))
  | (refine' opv_rep ?h0 ?h1 ?h2; (case h0 => fail "num"); (case h1 => fail "num"); (case h2 => (have := PySem.sizeLine_eq; fail "num")))
  | assumption)
local macro_rules | `(tactic| fail "cm") => `(tactic| first
  | exact cmpv_eqI
  | exact cmpv_neI
  | exact cmpv_lt
  | exact cmpv_le
  | exact cmpv_gt
  | exact cmpv_ge
  | exact cmpv_isN
  | exact cmpv_isNN
  | exact cmpv_isB
  | exact cmpv_isNB
  | assumption)
local macro_rules | `(tactic| fail "ix") => `(tactic| first
  | (refine' idxv_tup ?h0; (case h0 => fail "at"))
  | (refine' idxv_lst ?h0 ?h1; (case h0 => fail "st"); (case h1 => fail "at"))
  | (refine' idxv_frl ?h0; (case h0 => fail "at"))
  | assumption)
local macro_rules | `(tactic| fail "eo") => `(tactic| first
  | exact True.intro
  | (refine (show EvO _ (some _) _ _ (some _) from ?_); fail "ev"))
local macro_rules | `(tactic| fail "el") => `(tactic| first
  | (refine' evl_var ?h0 ?h1; (case h0 => rfl); (case h1 => fail "st"))
  | (refine EvF.l ?_; fail "ef")
  | assumption)
local macro_rules | `(tactic| fail "ef") => `(tactic| first
  | (refine' evf_lst ?h0; (case h0 => fail "evs"))
  | (refine' evf_list ?h0 ?h1 ?h2; (case h0 => fail "ev"); (case h1 => exact fun _ => rfl); (case h2 => exact fun _ => rfl))
  | (refine' evf_listL ?h0; (case h0 => fail "el"))
  | (refine' evf_rev ?h0; (case h0 => fail "el"))
  | (refine' evf_slc ?h0 ?h1 ?h2; (case h0 => fail "el"); (case h1 => fail "eo"); (case h2 => fail "eo"))
  | (refine' evf_add ?h0 ?h1 ?h2; (case h0 => fail "el"); (case h1 => fail "el"); (case h2 => (have := PySem.sizeLine_eq; fail "num")))
  | (refine' evf_call ?h0 ?h1; (case h0 => fail "evs"); (case h1 => fail "fn"))
  | assumption)
local macro_rules | `(tactic| fail "ev") => `(tactic| first
  | exact ev_lit
  | exact ev_var rfl
  | (refine' ev_con ?h0; (case h0 => fail "con"))
  | exact ev_fnv
  | (refine' ev_tup ?h0; (case h0 => fail "evs"))
  | (refine' ev_not ?h0; (case h0 => fail "ev"))
  | (refine' ev_and ?h0 ?h1; (case h0 => fail "ev"); (case h1 => first | ((refine (show _ = true → Ev _ _ _ _ (.bl false) from ?_)); intro h; exact absurd h (by decide)) | (intro hAnd; fail "ev")))
  | (refine' ev_or ?h0 ?h1; (case h0 => fail "ev"); (case h1 => first | ((refine (show _ = false → Ev _ _ _ _ (.bl false) from ?_)); intro h; exact absurd h (by decide)) | (intro hOr; fail "ev")))
  | (refine' ev_chn ?h0 ?h1 ?h2 ?h3 ?h4; (case h0 => fail "ev"); (case h1 => fail "ev"); (case h2 => fail "ev"); (case h3 => fail "cm"); (case h4 => fail "cm"))
  | (refine' ev_cmp ?h0 ?h1 ?h2; (case h0 => fail "ev"); (case h1 => fail "ev"); (case h2 => fail "cm"))
  | (refine' ev_bin ?h0 ?h1 ?h2; (case h0 => fail "ev"); (case h1 => fail "ev"); (case h2 => fail "op"))
  | (refine' ev_neg ?h0; (case h0 => fail "ev"))
  | (refine' ev_ife ?h0 ?h1 ?h2; (case h0 => fail "ev"); (case h1 => (intro hT; fail "ev")); (case h2 => (intro hF; fail "ev")))
  | (refine' ev_idx ?h0 ?h1 ?h2; (case h0 => fail "ev"); (case h1 => fail "ev"); (case h2 => fail "ix"))
  | (refine' ev_slc ?h0 ?h1 ?h2; (case h0 => fail "ev"); (case h1 => fail "eo"); (case h2 => fail "eo"))
  | (refine' ev_fld ?h0 ?h1 ?h2; (case h0 => fail "ev"); (case h1 => fail "st"); (case h2 => rfl))
  | (refine' ev_isi ?h0 ?h1; (case h0 => fail "ev"); (case h1 => fail "ty"))
  | (refine' ev_len ?h0 ?h1 ?h2; (case h0 => fail "ev"); (case h1 => exact fun _ => rfl); (case h2 => exact fun _ => rfl))
  | (refine' ev_lenL ?h0; (case h0 => fail "el"))
  | (refine' ev_int ?h0; (case h0 => fail "ev"))
  | (refine' ev_intB ?h0; (case h0 => fail "ev"))
  | (refine' ev_tuple ?h0 ?h1; (case h0 => fail "ev"); (case h1 => exact fun _ => rfl))
  | (refine' ev_tupleL ?h0; (case h0 => fail "el"))
  | (refine' ev_min2 ?h0 ?h1; (case h0 => fail "ev"); (case h1 => fail "ev"))
  | (refine' ev_max2 ?h0 ?h1; (case h0 => fail "ev"); (case h1 => fail "ev"))
  | (refine' ev_abs ?h0; (case h0 => fail "ev"))
  | (refine' ev_call ?h0 ?h1; (case h0 => fail "evs"); (case h1 => fail "fn"))
  | (refine' ev_cvar ?h0 ?h1 ?h2; (case h0 => rfl); (case h1 => fail "evs"); (case h2 => fail "fn"))
  | assumption)
local macro_rules | `(tactic| fail "tf") => `(tactic| first
  | decide
  | rfl
  | (simp; done)
  | (simp; omega))
local macro_rules | `(tactic| fail "no") => `(tactic| (refine' bk_noX ?h0 ?h1 ?_; (case h0 => fail "ev"); (case h1 => fail "tf")))
local macro_rules | `(tactic| fail "yes") => `(tactic| (refine' bk_yesX ?h0 ?h1 ?_; (case h0 => fail "ev"); (case h1 => fail "tf")))
local macro_rules | `(tactic| fail "ret") => `(tactic| (refine' bk_ret ?h0 (fun S9 d9 => Wk.drop d9 (Wk.here ?_)); (case h0 => fail "ev")))
local macro_rules | `(tactic| fail "set") => `(tactic| (refine' bk_set ?h0 ?_; (case h0 => fail "ev")))
local macro_rules | `(tactic| fail "setF") => `(tactic| (refine' bk_setF ?h0 ?_; (case h0 => fail "ef")))
local macro_rules | `(tactic| fail "if") => `(tactic| (refine' bk_if1 ?h0 ?_ ?_; (case h0 => fail "ev")))
local macro_rules | `(tactic| fail "if2") => `(tactic| (refine' bk_if ?h0 ?_ ?_; (case h0 => fail "ev")))
local macro_rules | `(tactic| fail "put") => `(tactic| (refine' bk_put ?h0 ?h1 ?h2 ?h3 ?h4 ?_; (case h0 => fail "ev"); (case h1 => fail "ev"); (case h2 => fail "ev"); (case h3 => fail "st"); (case h4 => rfl)))
local macro_rules | `(tactic| fail "retC") => `(tactic| (refine' bk_retC ?h0 ?_; (case h0 => fail "evs")))
local macro_rules | `(tactic| fail "setC") => `(tactic| (refine' bk_setC ?h0 ?_; (case h0 => fail "evs")))
local macro_rules | `(tactic| fail "expC") => `(tactic| (refine' bk_expC ?h0 ?_; (case h0 => fail "evs")))
local macro_rules | `(tactic| fail "callE") => `(tactic| (refine' cps_call ?h0 ?_; (case h0 => fail "evs")))
local macro_rules | `(tactic| fail "exp") => `(tactic| (refine' bk_exp ?h0 ?_; (case h0 => fail "ev")))
local macro_rules | `(tactic| fail "con") => `(tactic| first | exact Z.con_MOST_ROWS | exact Z.con_MOST_COUNTERS | exact Z.con_PRIMES | rfl)
local macro_rules | `(tactic| fail "fn") => `(tactic| exact Z.int_ok (by fail "ty"))
namespace Z
open PySem Core L2
theorem nats_dat {E : List Nat} : natsP E = (E.map fun (n : Nat) => (n : Int)).map Dat.toP := by
  unfold natsP; rw [List.map_map]; rfl
theorem txt_ne {G : Core.Env} {ρ : Core.Loc} {S : Store} {c : CE} {t : Str} (ht : PyData.strOk t = true) (h : Ev G c ρ S (.str t)) : Ev G (.cmp .NotEq c (.lit (.str t))) ρ S (.bl false) := by
  have := ev_cmp h ev_lit (cmpv_neS (S := S) ht ht)
  rw [decide_eq_true rfl] at this
  exact this
theorem case_ok {a : Addr} {S0 : Store} {Q : QP} {E : QE} (hb : S0 a = some (.any BagB)) (q : Q (.bl true) S0) : (envAt D 60).fn nf__law_case [.loc a] S0 Q E := by
  have big := PySem.sizeLine_eq
  refine fn_start (d := ⟨1, 14, b__law_case⟩) rfl rfl ?_
  show wpB _ b__law_case [some (.loc a), none, none, none, none, none, none, none, none, none, none, none, none, none] S0 _
  refine bk_setE (cps_call (ps := [.loc a]) (by fail "evs") (lawCounters_ok (lv := 57) hb fun C g k3 n8 => ?_))
  have k0 := g.k0
  have n0 := g.n0
  have n2 := g.n1
  have i1 : ∀ {S : Store}, IdxV C.toP (.int 1) S (.int C.k) := idxv_tup rfl
  have i2 : ∀ {S : Store}, IdxV C.toP (.int 2) S (.tup (C.rows.map Od.toP)) := idxv_tup rfl
  have t0 := two_ok (lv := 55) (S := S0) g k3 n8
  refine bk_unpackN (ps := [.str "two", (twoC C).toP, .tup (natsP (EofC C))]) (ev_call (ps := [C.toP]) (evs_cons (ev_var rfl) evs_nil) t0) rfl rfl ?_
  show wpB _ _ [some (.loc a), some C.toP, some (.str "two"), some (twoC C).toP, some (.tup (natsP (EofC C))), none, none, none, none, none, none, none, none, none] S0 _
  refine bk_setF (xs := natsP ((EofC C).take 0)) (evf_lst evs_nil) fun A hA => ?_
  have aA : a ≠ A := fun z => by rw [← z, hb] at hA; cases hA
  refine bk_set ev_lit ?_
  show wpB _ _ [some (.loc a), some C.toP, some (.str "two"), some (twoC C).toP, some (.tup (natsP (EofC C))), some (.loc A), some (.int 0), none, none, none, none, none, none, none] _ _
  refine bk_for C.rows Od.toP (fun i ρ' S2 => S2 = S0.upd A (.lst (natsP ((EofC C).take i))) ∧ ∃ x7, ρ' = [some (.loc a), some C.toP, some (.str "two"), some (twoC C).toP, some (.tup (natsP (EofC C))), some (.loc A), some (.int (total 0 (C.rows.take i) : Nat)), x7, none, none, none, none, none, none]) (evs_cons (ev_idx (ev_var rfl) ev_lit i2) evs_nil) it_tup up_any (fun _ _ _ _ => trivial) ⟨rfl, none, rfl⟩ ?_ ?_ (env_mono _ _)
  · rintro i o ρ' S2 hx ⟨rfl, x7, rfl⟩
    have hi := (List.getElem?_eq_some_iff.mp hx).1
    have ho := g.od o (List.mem_of_getElem? hx)
    show wpB _ _ [some (.loc a), some C.toP, some (.str "two"), some (twoC C).toP, some (.tup (natsP (EofC C))), some (.loc A), some (.int (total 0 (C.rows.take i) : Nat)), some o.toP, none, none, none, none, none, none] _ _
    refine bk_append (p := .int (total 0 (C.rows.take i) : Nat)) (ev_var rfl) (ev_var rfl) Store.upd_same (by unfold natsP; simp; omega) ?_
    rw [Store.upd_upd]
    refine bk_set (p := .int ((total 0 (C.rows.take i) + sizeO o : Nat) : Int)) (ev_bin (ev_var rfl) (ev_call (evs_cons (ev_var rfl) evs_nil) (lsize_ok (k := 58) ho g.k1)) opv_add) (bk_nil ⟨?_, some o.toP, ?_⟩)
    · rw [List.take_add_one, show (EofC C)[i]? = some (total 0 (C.rows.take i)) from ents_get C.rows 0 i hi]
      unfold natsP
      simp
    · rw [List.take_add_one, hx]
      show _ = [some (.loc a), some C.toP, some (.str "two"), some (twoC C).toP, some (.tup (natsP (EofC C))), some (.loc A), some (.int (total 0 (C.rows.take i ++ [o]) : Nat)), some o.toP, none, none, none, none, none, none]
      rw [total_snoc]
      rfl
  · rintro ρ' S2 ⟨rfl, x7, rfl⟩
    have hEl : (EofC C).length = C.rows.length := ents_len _ _
    rw [List.take_length, ← hEl, List.take_length]
    have hb1 : (S0.upd A (.lst (natsP (EofC C)))) a = some (.any BagB) := by rw [Store.upd_ne aA]; exact hb
    have hA1 : (S0.upd A (.lst (natsP (EofC C)))) A = some (.lst (natsP (EofC C))) := Store.upd_same
    have d0 : SubS S0 (S0.upd A (.lst (natsP (EofC C)))) := .upd hA
    generalize S0.upd A (.lst (natsP (EofC C))) = S1 at hb1 hA1 d0
    have gt := two_good g k3 n8
    have c0 := cnt_ok (lv := 56) (n := 1) (S := S1) (cn_dt (twoC C)) (by omega)
    rw [cn_good gt] at c0
    have m1 : IdxV (twoC C).toP (.int 1) S1 (.int (2 : Nat)) := idxv_tup rfl
    have e1 : Ev (envAt D 59) (.cmp .NotEq (.blt .list [.var 4]) (.var 5)) [some (.loc a), some C.toP, some (.str "two"), some (twoC C).toP, some (.tup (natsP (EofC C))), some (.loc A), some (.int (total 0 C.rows : Nat)), x7, none, none, none, none, none, none] S1 (.bl false) := by
      have l1 := evf_list (G := envAt D 59) (ρ := [some (.loc a), some C.toP, some (.str "two"), some (twoC C).toP, some (.tup (natsP (EofC C))), some (.loc A), some (.int (total 0 C.rows : Nat)), x7, none, none, none, none, none, none]) (S := S1) (a := .var 4) (xs := natsP (EofC C)) (ev_var rfl) (fun _ => rfl) (fun _ => rfl)
      have l2 := evl_var (G := envAt D 59) (ρ := [some (.loc a), some C.toP, some (.str "two"), some (twoC C).toP, some (.tup (natsP (EofC C))), some (.loc A), some (.int (total 0 C.rows : Nat)), x7, none, none, none, none, none, none]) (i := 5) rfl hA1
      rw [nats_dat] at l1 l2
      have := ev_neLL (α := Int) _ _ l1.l l2 (by decide)
      rw [decide_eq_true rfl] at this
      have e5 : some (P.tup ((List.map (fun (n : Nat) => (n : Int)) (EofC C)).map Dat.toP)) = some (P.tup (natsP (EofC C))) := by rw [← nats_dat]
      rw [e5] at this
      exact this
    have e2 : Ev (envAt D 59) (.cmp .NotEq (.blt .len [.idx (.var 3) (.lit (.int 2))]) (.var 6)) [some (.loc a), some C.toP, some (.str "two"), some (twoC C).toP, some (.tup (natsP (EofC C))), some (.loc A), some (.int (total 0 C.rows : Nat)), x7, none, none, none, none, none, none] S1 (.bl false) := by
      have := ev_cmp (len_rows (G := envAt D 59) (S := S1) (C := twoC C) (i := 3) (ρ := [some (.loc a), some C.toP, some (.str "two"), some (twoC C).toP, some (.tup (natsP (EofC C))), some (.loc A), some (.int (total 0 C.rows : Nat)), x7, none, none, none, none, none, none]) rfl) (ev_var (i := 6) rfl) (cmpv_neI (S := S1) (i := ((twoC C).rows.length : Int)) (j := (total 0 C.rows : Nat)))
      refine ev_val this (congrArg P.bl ?_)
      rw [show ((twoC C).rows.length : Int) = (total 0 C.rows : Nat) from congrArg Int.ofNat (two_len g k3)]
      simp
    refine bk_no (ev_orF (txt_ne (by decide +kernel) (ev_var rfl)) (ev_orF e1 (ev_orF (ev_val (ev_cmp (ev_call (ps := [(twoC C).toP]) (evs_cons (ev_var rfl) evs_nil) c0) ev_lit cmpv_isNB) (by rfl)) (ev_orF (ev_val (ev_cmp (ev_idx (ev_var rfl) ev_lit m1) ev_lit cmpv_neI) (by rfl)) e2)))) ?_
    have hlen := len_rows (G := envAt D 59) (S := S1) (C := C) (i := 1) (ρ := [some (.loc a), some C.toP, some (.str "two"), some (twoC C).toP, some (.tup (natsP (EofC C))), some (.loc A), some (.int (total 0 C.rows : Nat)), x7, none, none, none, none, none, none]) rfl
    refine bk_setE (cps_call (ps := [.loc a, .int C.rows.length]) (evs_cons (ev_var rfl) (evs_cons hlen evs_nil)) (draw_ok hb1 (by omega) (by omega) fun r r0 r1 => ?_))
    obtain ⟨r, rfl⟩ : ∃ n : Nat, r = n := ⟨r.toNat, (Int.toNat_of_nonneg r0).symm⟩
    show wpB _ _ [some (.loc a), some C.toP, some (.str "two"), some (twoC C).toP, some (.tup (natsP (EofC C))), some (.loc A), some (.int (total 0 C.rows : Nat)), x7, some (.int r), none, none, none, none, none] S1 _
    refine bk_setE (cps_blt (cps_cons (cps_cmpr (List.range C.k) (fun (i : Nat) => P.int i) (fun i acc => ∃ ws : List Int, acc = ws.map P.int ∧ ws.length = i ∧ ∀ x ∈ ws, 0 ≤ x ∧ x ≤ 2) (evs_cons (ev_idx (ev_var rfl) ev_lit i1) evs_nil) (it_range (by omega)) good_any ⟨[], rfl, rfl, fun _ h => by cases h⟩ ?_ ?_ (env_mono _ _))))
    · rintro i j acc S2 hj ⟨ws, rfl, hl, hw⟩ d2
      show wpE _ _ [some (.loc a), some C.toP, some (.str "two"), some (twoC C).toP, some (.tup (natsP (EofC C))), some (.loc A), some (.int (total 0 C.rows : Nat)), x7, some (.int r), none, none, none, none, some (.int j)] S2 _ _
      refine cps_call (ps := [.loc a, .int 3]) (by fail "evs") (draw_ok (d2 _ _ hb1) (by decide) (by decide) fun w w0 w1 => ⟨.refl S2, ws ++ [w], by simp, by simp [hl], fun y hy => ?_⟩)
      rcases List.mem_append.mp hy with hy | hy
      · exact hw y hy
      · rw [List.mem_singleton.mp hy]; omega
    · rintro acc l S2 ⟨ws, rfl, hl, hw⟩ d2 hn2 hl2
      rw [List.length_range] at hl
      refine cps_nil (bf_tuple hl2 (bk_drop d2 ?_))
      have gx : GoodX C (r, ws) := ⟨by show r < _; omega, ⟨hl, fun x hx => (hw x hx).1⟩⟩
      show wpB _ _ [some (.loc a), some C.toP, some (.str "two"), some (twoC C).toP, some (.tup (natsP (EofC C))), some (.loc A), some (.int (total 0 C.rows : Nat)), x7, some (.int r), some (.tup (ws.map P.int)), none, none, none, none] S1 _
      refine bk_for (List.range 6) (fun (i : Nat) => P.int (i : Nat)) (fun i ρ' S3 => S3 = S1 ∧ ∃ x x10 x11 x12, GoodX C x ∧ (∀ v ∈ x.2, v ≤ 2 + (i : Int)) ∧ ρ' = [some (.loc a), some C.toP, some (.str "two"), some (twoC C).toP, some (.tup (natsP (EofC C))), some (.loc A), some (.int (total 0 C.rows : Nat)), x7, some (.int (x.1 : Nat)), some (.tup (x.2.map P.int)), x10, x11, x12, none]) (evs_cons (ev_lit (p := .int (6 : Nat))) evs_nil) (it_range (n := 6) (by rw [big]; decide)) up_any (fun _ _ _ _ => trivial) ⟨rfl, (r, ws), none, none, none, gx, fun v h => by have := (hw v h).2; omega, rfl⟩ ?_ ?_ (env_mono _ _)
      · rintro i j ρ' S3 hx ⟨rfl, x, x10, x11, x12, gx, hv, rfl⟩
        have hi : i < 6 := by have := (List.getElem?_eq_some_iff.mp hx).1; simpa using this
        show wpB _ lcB [some (.loc a), some C.toP, some (.str "two"), some (twoC C).toP, some (.tup (natsP (EofC C))), some (.loc A), some (.int (total 0 C.rows : Nat)), x7, some (.int (x.1 : Nat)), some (.tup (x.2.map P.int)), some (.int (j : Nat)), x11, x12, none] S3 _
        refine turn_ok (Q := Q) g k3 n8 gx hi hv (fun S4 d4 => Wk.drop (d0.trans d4) (Wk.here q)) fun y y10 y11 y12 gy hvy => ⟨rfl, y, y10, y11, y12, gy, hvy, rfl⟩
      · rintro ρ' S3 ⟨rfl, x, x10, x11, x12, _, _, rfl⟩
        exact bk_ret ev_lit (fun S9 d9 => Wk.drop (d0.trans d9) (Wk.here q))
end Z
end
section
set_option maxRecDepth 100000
set_option maxHeartbeats 4000000
/-! S9: what is told. -/
open PySem Core L2
local macro_rules | `(tactic| fail "fn") => `(tactic| first
  | assumption)
local macro_rules | `(tactic| fail "num") => `(tactic| first
  | omega
  | decide
  | (simp only [List.length_append, List.length_cons, List.length_nil, List.length_map, List.length_replicate, List.length_singleton]; omega))
local macro_rules | `(tactic| fail "at") => `(tactic| first
  | rfl
  | assumption
  | exact atI_at (by first | assumption | rfl)
  | (refine atI_at ?_; simp; done))
local macro_rules | `(tactic| fail "st") => `(tactic| first
  | assumption
  | exact Store.upd_same)
local macro_rules | `(tactic| fail "ty") => `(tactic| first
  | rfl
  | assumption)
local macro_rules | `(tactic| fail "evs") => `(tactic| first
  | exact evs_nil
  | (refine' evs_cons ?h0 ?h1; (case h0 => fail "ev"); (case h1 => fail "evs")))
local macro_rules | `(tactic| fail "op") => `(tactic| first
  | exact opv_add
  | exact opv_sub
  | exact opv_pow ⟨by decide, by decide, by decide⟩
  | (refine' opv_cat ?h0; (case h0 => (have := PySem.sizeLine_eq; fail "num")))
  | (refine' opv_mod ?h0; (case h0 => fail "num"))
  | (refine' opv_div ?h0 ?h1; (case h0 => fail "num"); (case h1 => fail "num"))
  | (refine' opv_mulR ?h0 ?h1; (case h0 => fail "num"); (case h1 => fail "num"))
  | (refine' opv_mulL ?h0 ?h1; (case h0 => fail "num"); (case h1 => fail "num"))
  | (refine' opv_rep ?h0 ?h1 ?h2; (case h0 => fail "num"); (case h1 => fail "num"); (case h2 => (have := PySem.sizeLine_eq; fail "num")))
  | assumption)
local macro_rules | `(tactic| fail "cm") => `(tactic| first
  | exact cmpv_eqI
  | exact cmpv_neI
  | exact cmpv_lt
  | exact cmpv_le
  | exact cmpv_gt
  | exact cmpv_ge
  | exact cmpv_isN
  | exact cmpv_isNN
  | exact cmpv_isB
  | exact cmpv_isNB
  | assumption)
local macro_rules | `(tactic| fail "ix") => `(tactic| first
  | (refine' idxv_tup ?h0; (case h0 => fail "at"))
  | (refine' idxv_lst ?h0 ?h1; (case h0 => fail "st"); (case h1 => fail "at"))
  | (refine' idxv_frl ?h0; (case h0 => fail "at"))
  | assumption)
local macro_rules | `(tactic| fail "eo") => `(tactic| first
  | exact True.intro
  | (refine (show EvO _ (some _) _ _ (some _) from ?_); fail "ev"))
local macro_rules | `(tactic| fail "el") => `(tactic| first
  | (refine' evl_var ?h0 ?h1; (case h0 => rfl); (case h1 => fail "st"))
  | (refine EvF.l ?_; fail "ef")
  | assumption)
local macro_rules | `(tactic| fail "ef") => `(tactic| first
  | (refine' evf_lst ?h0; (case h0 => fail "evs"))
  | (refine' evf_list ?h0 ?h1 ?h2; (case h0 => fail "ev"); (case h1 => exact fun _ => rfl); (case h2 => exact fun _ => rfl))
  | (refine' evf_listL ?h0; (case h0 => fail "el"))
  | (refine' evf_rev ?h0; (case h0 => fail "el"))
  | (refine' evf_slc ?h0 ?h1 ?h2; (case h0 => fail "el"); (case h1 => fail "eo"); (case h2 => fail "eo"))
  | (refine' evf_add ?h0 ?h1 ?h2; (case h0 => fail "el"); (case h1 => fail "el"); (case h2 => (have := PySem.sizeLine_eq; fail "num")))
  | (refine' evf_call ?h0 ?h1; (case h0 => fail "evs"); (case h1 => fail "fn"))
  | assumption)
local macro_rules | `(tactic| fail "ev") => `(tactic| first
  | exact ev_lit
  | exact ev_var rfl
  | (refine' ev_con ?h0; (case h0 => fail "con"))
  | exact ev_fnv
  | (refine' ev_tup ?h0; (case h0 => fail "evs"))
  | (refine' ev_not ?h0; (case h0 => fail "ev"))
  | (refine' ev_and ?h0 ?h1; (case h0 => fail "ev"); (case h1 => first | ((refine (show _ = true → Ev _ _ _ _ (.bl false) from ?_)); intro h; exact absurd h (by decide)) | (intro hAnd; fail "ev")))
  | (refine' ev_or ?h0 ?h1; (case h0 => fail "ev"); (case h1 => first | ((refine (show _ = false → Ev _ _ _ _ (.bl false) from ?_)); intro h; exact absurd h (by decide)) | (intro hOr; fail "ev")))
  | (refine' ev_chn ?h0 ?h1 ?h2 ?h3 ?h4; (case h0 => fail "ev"); (case h1 => fail "ev"); (case h2 => fail "ev"); (case h3 => fail "cm"); (case h4 => fail "cm"))
  | (refine' ev_cmp ?h0 ?h1 ?h2; (case h0 => fail "ev"); (case h1 => fail "ev"); (case h2 => fail "cm"))
  | (refine' ev_bin ?h0 ?h1 ?h2; (case h0 => fail "ev"); (case h1 => fail "ev"); (case h2 => fail "op"))
  | (refine' ev_neg ?h0; (case h0 => fail "ev"))
  | (refine' ev_ife ?h0 ?h1 ?h2; (case h0 => fail "ev"); (case h1 => (intro hT; fail "ev")); (case h2 => (intro hF; fail "ev")))
  | (refine' ev_idx ?h0 ?h1 ?h2; (case h0 => fail "ev"); (case h1 => fail "ev"); (case h2 => fail "ix"))
  | (refine' ev_slc ?h0 ?h1 ?h2; (case h0 => fail "ev"); (case h1 => fail "eo"); (case h2 => fail "eo"))
  | (refine' ev_fld ?h0 ?h1 ?h2; (case h0 => fail "ev"); (case h1 => fail "st"); (case h2 => rfl))
  | (refine' ev_isi ?h0 ?h1; (case h0 => fail "ev"); (case h1 => fail "ty"))
  | (refine' ev_len ?h0 ?h1 ?h2; (case h0 => fail "ev"); (case h1 => exact fun _ => rfl); (case h2 => exact fun _ => rfl))
  | (refine' ev_lenL ?h0; (case h0 => fail "el"))
  | (refine' ev_int ?h0; (case h0 => fail "ev"))
  | (refine' ev_intB ?h0; (case h0 => fail "ev"))
  | (refine' ev_tuple ?h0 ?h1; (case h0 => fail "ev"); (case h1 => exact fun _ => rfl))
  | (refine' ev_tupleL ?h0; (case h0 => fail "el"))
  | (refine' ev_min2 ?h0 ?h1; (case h0 => fail "ev"); (case h1 => fail "ev"))
  | (refine' ev_max2 ?h0 ?h1; (case h0 => fail "ev"); (case h1 => fail "ev"))
  | (refine' ev_abs ?h0; (case h0 => fail "ev"))
  | (refine' ev_call ?h0 ?h1; (case h0 => fail "evs"); (case h1 => fail "fn"))
  | (refine' ev_cvar ?h0 ?h1 ?h2; (case h0 => rfl); (case h1 => fail "evs"); (case h2 => fail "fn"))
  | assumption)
local macro_rules | `(tactic| fail "tf") => `(tactic| first
  | decide
  | rfl
  | (simp; done)
  | (simp; omega))
local macro_rules | `(tactic| fail "no") => `(tactic| (refine' bk_noX ?h0 ?h1 ?_; (case h0 => fail "ev"); (case h1 => fail "tf")))
local macro_rules | `(tactic| fail "yes") => `(tactic| (refine' bk_yesX ?h0 ?h1 ?_; (case h0 => fail "ev"); (case h1 => fail "tf")))
local macro_rules | `(tactic| fail "ret") => `(tactic| (refine' bk_ret ?h0 (fun S9 d9 => Wk.drop d9 (Wk.here ?_)); (case h0 => fail "ev")))
local macro_rules | `(tactic| fail "set") => `(tactic| (refine' bk_set ?h0 ?_; (case h0 => fail "ev")))
local macro_rules | `(tactic| fail "setF") => `(tactic| (refine' bk_setF ?h0 ?_; (case h0 => fail "ef")))
local macro_rules | `(tactic| fail "if") => `(tactic| (refine' bk_if1 ?h0 ?_ ?_; (case h0 => fail "ev")))
local macro_rules | `(tactic| fail "if2") => `(tactic| (refine' bk_if ?h0 ?_ ?_; (case h0 => fail "ev")))
local macro_rules | `(tactic| fail "put") => `(tactic| (refine' bk_put ?h0 ?h1 ?h2 ?h3 ?h4 ?_; (case h0 => fail "ev"); (case h1 => fail "ev"); (case h2 => fail "ev"); (case h3 => fail "st"); (case h4 => rfl)))
local macro_rules | `(tactic| fail "retC") => `(tactic| (refine' bk_retC ?h0 ?_; (case h0 => fail "evs")))
local macro_rules | `(tactic| fail "setC") => `(tactic| (refine' bk_setC ?h0 ?_; (case h0 => fail "evs")))
local macro_rules | `(tactic| fail "expC") => `(tactic| (refine' bk_expC ?h0 ?_; (case h0 => fail "evs")))
local macro_rules | `(tactic| fail "callE") => `(tactic| (refine' cps_call ?h0 ?_; (case h0 => fail "evs")))
local macro_rules | `(tactic| fail "exp") => `(tactic| (refine' bk_exp ?h0 ?_; (case h0 => fail "ev")))
local macro_rules | `(tactic| fail "con") => `(tactic| first | exact Z.con_MOST_ROWS | exact Z.con_MOST_COUNTERS | exact Z.con_PRIMES | rfl)
local macro_rules | `(tactic| fail "fn") => `(tactic| exact Z.int_ok (by fail "ty"))
namespace Z
open PySem Core L2
def toldV : Res → P
  | .ok v => v
  | .error x => if x.cls = nk_NoSuch then .str "none" else if x.cls = nk_TooFar then .str "far" else (match x.fs.lookup na_word with
    | some (.str t) => .str ("bad " ++ t)
    | _ => .non)
theorem told_ok {k i : Nat} {v o : P} {args : List P} {S : Store} {r : Res} (ho : (o = .non ∧ args = [v]) ∨ ∃ m, o = .tup [m] ∧ args = [v, m]) (h : FnR ((envAt D k).fn i) args S r) (hr : ∀ x, r = .error x → (∃ t : Str, x = badE t ∧ t.length ≤ 1000) ∨ x = farE ∨ x = nsE) : FnV ((envAt D (k + 1)).fn nf__law_told) [.fn i, v, o] S (toldV r) := by
  refine ⟨fun S0 d Q E q => ?_⟩
  have big := PySem.sizeLine_eq
  have q : Q (toldV r) S0 := q
  refine fn_start (d := ⟨3, 4, b__law_told⟩) rfl rfl ?_
  show wpB _ b__law_told [some (.fn i), some v, some o, none] S0 _
  have last : ∀ (e : CE) (D2 : DE), EvR (envAt D k) e [some (.fn i), some v, some o, none] S0 r → D2.rt = (DE.fn Q E).rt → D2.ex = (fun ex S' => wpH [(nk_NoSuch, none, .lit (.str "none")), (nk_TooFar, none, .lit (.str "far")), (nk_BadPaper, some 3, .pre "bad " na_word)] { DE.fn Q E with nx := fun ρ' S' => wpB (envAt D k) [] ρ' S' (DE.fn Q E) } [some (.fn i), some v, some o, none] ex S') → wpB (envAt D k) [.ret e] [some (.fn i), some v, some o, none] S0 D2 := fun e D2 hc h1 h2 => by
    refine bk_retR hc fun S2 d2 => ?_
    cases r with
    | ok u => show D2.rt u S2; rw [h1]; exact Wk.drop d2 (Wk.here q)
    | error x =>
      show D2.ex x S2
      rw [h2]
      rcases hr x rfl with ⟨t, rfl, ht⟩ | rfl | rfl
      · unfold wpH
        rw [if_neg (show ¬ (badE t).cls = nk_NoSuch from (by decide : ¬ nk_BadPaper = nk_NoSuch))]
        unfold wpH
        rw [if_neg (show ¬ (badE t).cls = nk_TooFar from (by decide : ¬ nk_BadPaper = nk_TooFar))]
        unfold wpH
        rw [if_pos (show (badE t).cls = nk_BadPaper from rfl)]
        exact ⟨by show (4 : Nat) + t.length ≤ _; omega, Wk.drop d2 (Wk.here q)⟩
      · unfold wpH
        rw [if_neg (show ¬ farE.cls = nk_NoSuch by decide)]
        unfold wpH
        rw [if_pos (show farE.cls = nk_TooFar from rfl)]
        exact Wk.drop d2 (Wk.here q)
      · unfold wpH
        rw [if_pos (show nsE.cls = nk_NoSuch from rfl)]
        exact Wk.drop d2 (Wk.here q)
  refine bk_try ?_
  rcases ho with ⟨rfl, rfl⟩ | ⟨m, rfl, rfl⟩
  · refine bk_yesX (ev_cmp (ev_var rfl) ev_lit cmpv_isN) rfl ?_
    exact last _ _ (evr_cvar rfl (by fail "evs") (h.at d)) rfl rfl
  · refine bk_noX (ev_cmp (ev_var rfl) ev_lit cmpv_isN) rfl ?_
    exact last _ _ (evr_cvar rfl (evs_cons (ev_var rfl) (evs_cons (ev_idx (ev_var rfl) ev_lit (idxv_tup (i := 0) atI_0)) evs_nil)) (h.at d)) rfl rfl
def CW : Cn := ⟨5, List.replicate 20 (.dn 4 0 0)⟩
theorem cw_good : GoodC CW := ⟨by decide, by decide, by decide, by decide, fun o ho => by
  rw [(List.mem_replicate.mp ho).2]
  exact ⟨by decide, by decide, by decide⟩⟩
def bvT : Txt := ⟨"bad values", by decide +kernel⟩
def noT : Txt := ⟨"none", by decide +kernel⟩
theorem told_pw {S : Store} {v : P} (h : Dt S 8 v) (hv : okPw v = false) : FnV ((envAt D 60).fn nf__law_told) [.fn nf_power_of, v, .non] S (.str "bad values") := told_ok (k := 59) (r := .error (badE "values")) (.inl ⟨rfl, rfl⟩) (power_no (k := 55) (n := 6) h hv) fun x h => by cases h; exact .inl ⟨_, rfl, by decide⟩
theorem told_no {S : Store} {n kk : P} (h : FnR ((envAt D 59).fn nf_values_of) [n, kk] S (.error nsE)) : FnV ((envAt D 60).fn nf__law_told) [.fn nf_values_of, n, .tup [kk]] S (.str "none") := told_ok (k := 59) (r := .error nsE) (.inr ⟨kk, rfl, rfl⟩) h fun x h => by cases h; exact .inr (.inr rfl)
def oddsV : List (P × P) := [(.int 13, .int 5), (.int 0, .int 2), (.int (-4), .int 2), (.bl true, .int 2), (.int 9, .int 1), (.int 4, .int 0), (.int 4, .int 6), (.non, .int 2)]
theorem oddsV_ok {S : Store} : ∀ e ∈ oddsV, FnV ((envAt D 60).fn nf__law_told) [.fn nf_values_of, e.1, .tup [e.2]] S (.str "none") := by
  intro e he
  refine told_no ?_
  simp only [oddsV, List.mem_cons, List.not_mem_nil, or_false] at he
  rcases he with rfl | rfl | rfl | rfl | rfl | rfl | rfl | rfl
  · have := values_ok (k := 55) (kk := 5) (n := 13) (S := S) (by decide) (by decide) (by decide)
    rw [show valsR 5 13 = .error nsE from by unfold valsR; rw [if_neg (by decide)]] at this
    exact this
  · exact values_no (k := 55) (t := some .int) (u := some .int) rfl rfl rfl
  · exact values_no (k := 55) (t := some .int) (u := some .int) rfl rfl rfl
  · exact values_no (k := 55) (t := some .bool) (u := some .int) rfl rfl rfl
  · have := values_ok (k := 55) (kk := 1) (n := 9) (S := S) (by decide) (by decide) (by decide)
    rw [show valsR 1 9 = .error nsE from by unfold valsR; rw [if_neg (by decide)]] at this
    exact this
  · exact values_no (k := 55) (t := some .int) (u := some .int) rfl rfl rfl
  · exact values_no (k := 55) (t := some .int) (u := some .int) rfl rfl rfl
  · exact values_no (k := 55) (t := none) (u := some .int) rfl rfl rfl
end Z
end
section
set_option maxRecDepth 100000
set_option maxHeartbeats 4000000
/-! S: the law. -/
open PySem Core L2
local macro_rules | `(tactic| fail "fn") => `(tactic| first
  | assumption)
local macro_rules | `(tactic| fail "num") => `(tactic| first
  | omega
  | decide
  | (simp only [List.length_append, List.length_cons, List.length_nil, List.length_map, List.length_replicate, List.length_singleton]; omega))
local macro_rules | `(tactic| fail "at") => `(tactic| first
  | rfl
  | assumption
  | exact atI_at (by first | assumption | rfl)
  | (refine atI_at ?_; simp; done))
local macro_rules | `(tactic| fail "st") => `(tactic| first
  | assumption
  | exact Store.upd_same)
local macro_rules | `(tactic| fail "ty") => `(tactic| first
  | rfl
  | assumption)
local macro_rules | `(tactic| fail "evs") => `(tactic| first
  | exact evs_nil
  | (refine' evs_cons ?h0 ?h1; (case h0 => fail "ev"); (case h1 => fail "evs")))
local macro_rules | `(tactic| fail "op") => `(tactic| first
  | exact opv_add
  | exact opv_sub
  | exact opv_pow ⟨by decide, by decide, by decide⟩
  | (refine' opv_cat ?h0; (case h0 => (have := PySem.sizeLine_eq; fail "num")))
  | (refine' opv_mod ?h0; (case h0 => fail "num"))
  | (refine' opv_div ?h0 ?h1; (case h0 => fail "num"); (case h1 => fail "num"))
  | (refine' opv_mulR ?h0 ?h1; (case h0 => fail "num"); (case h1 => fail "num"))
  | (refine' opv_mulL ?h0 ?h1; (case h0 => fail "num"); (case h1 => fail "num"))
  | (refine' opv_rep ?h0 ?h1 ?h2; (case h0 => fail "num"); (case h1 => fail "num"); (case h2 => (have := PySem.sizeLine_eq; fail "num")))
  | assumption)
local macro_rules | `(tactic| fail "cm") => `(tactic| first
  | exact cmpv_eqI
  | exact cmpv_neI
  | exact cmpv_lt
  | exact cmpv_le
  | exact cmpv_gt
  | exact cmpv_ge
  | exact cmpv_isN
  | exact cmpv_isNN
  | exact cmpv_isB
  | exact cmpv_isNB
  | assumption)
local macro_rules | `(tactic| fail "ix") => `(tactic| first
  | (refine' idxv_tup ?h0; (case h0 => fail "at"))
  | (refine' idxv_lst ?h0 ?h1; (case h0 => fail "st"); (case h1 => fail "at"))
  | (refine' idxv_frl ?h0; (case h0 => fail "at"))
  | assumption)
local macro_rules | `(tactic| fail "eo") => `(tactic| first
  | exact True.intro
  | (refine (show EvO _ (some _) _ _ (some _) from ?_); fail "ev"))
local macro_rules | `(tactic| fail "el") => `(tactic| first
  | (refine' evl_var ?h0 ?h1; (case h0 => rfl); (case h1 => fail "st"))
  | (refine EvF.l ?_; fail "ef")
  | assumption)
local macro_rules | `(tactic| fail "ef") => `(tactic| first
  | (refine' evf_lst ?h0; (case h0 => fail "evs"))
  | (refine' evf_list ?h0 ?h1 ?h2; (case h0 => fail "ev"); (case h1 => exact fun _ => rfl); (case h2 => exact fun _ => rfl))
  | (refine' evf_listL ?h0; (case h0 => fail "el"))
  | (refine' evf_rev ?h0; (case h0 => fail "el"))
  | (refine' evf_slc ?h0 ?h1 ?h2; (case h0 => fail "el"); (case h1 => fail "eo"); (case h2 => fail "eo"))
  | (refine' evf_add ?h0 ?h1 ?h2; (case h0 => fail "el"); (case h1 => fail "el"); (case h2 => (have := PySem.sizeLine_eq; fail "num")))
  | (refine' evf_call ?h0 ?h1; (case h0 => fail "evs"); (case h1 => fail "fn"))
  | assumption)
local macro_rules | `(tactic| fail "ev") => `(tactic| first
  | exact ev_lit
  | exact ev_var rfl
  | (refine' ev_con ?h0; (case h0 => fail "con"))
  | exact ev_fnv
  | (refine' ev_tup ?h0; (case h0 => fail "evs"))
  | (refine' ev_not ?h0; (case h0 => fail "ev"))
  | (refine' ev_and ?h0 ?h1; (case h0 => fail "ev"); (case h1 => first | ((refine (show _ = true → Ev _ _ _ _ (.bl false) from ?_)); intro h; exact absurd h (by decide)) | (intro hAnd; fail "ev")))
  | (refine' ev_or ?h0 ?h1; (case h0 => fail "ev"); (case h1 => first | ((refine (show _ = false → Ev _ _ _ _ (.bl false) from ?_)); intro h; exact absurd h (by decide)) | (intro hOr; fail "ev")))
  | (refine' ev_chn ?h0 ?h1 ?h2 ?h3 ?h4; (case h0 => fail "ev"); (case h1 => fail "ev"); (case h2 => fail "ev"); (case h3 => fail "cm"); (case h4 => fail "cm"))
  | (refine' ev_cmp ?h0 ?h1 ?h2; (case h0 => fail "ev"); (case h1 => fail "ev"); (case h2 => fail "cm"))
  | (refine' ev_bin ?h0 ?h1 ?h2; (case h0 => fail "ev"); (case h1 => fail "ev"); (case h2 => fail "op"))
  | (refine' ev_neg ?h0; (case h0 => fail "ev"))
  | (refine' ev_ife ?h0 ?h1 ?h2; (case h0 => fail "ev"); (case h1 => (intro hT; fail "ev")); (case h2 => (intro hF; fail "ev")))
  | (refine' ev_idx ?h0 ?h1 ?h2; (case h0 => fail "ev"); (case h1 => fail "ev"); (case h2 => fail "ix"))
  | (refine' ev_slc ?h0 ?h1 ?h2; (case h0 => fail "ev"); (case h1 => fail "eo"); (case h2 => fail "eo"))
  | (refine' ev_fld ?h0 ?h1 ?h2; (case h0 => fail "ev"); (case h1 => fail "st"); (case h2 => rfl))
  | (refine' ev_isi ?h0 ?h1; (case h0 => fail "ev"); (case h1 => fail "ty"))
  | (refine' ev_len ?h0 ?h1 ?h2; (case h0 => fail "ev"); (case h1 => exact fun _ => rfl); (case h2 => exact fun _ => rfl))
  | (refine' ev_lenL ?h0; (case h0 => fail "el"))
  | (refine' ev_int ?h0; (case h0 => fail "ev"))
  | (refine' ev_intB ?h0; (case h0 => fail "ev"))
  | (refine' ev_tuple ?h0 ?h1; (case h0 => fail "ev"); (case h1 => exact fun _ => rfl))
  | (refine' ev_tupleL ?h0; (case h0 => fail "el"))
  | (refine' ev_min2 ?h0 ?h1; (case h0 => fail "ev"); (case h1 => fail "ev"))
  | (refine' ev_max2 ?h0 ?h1; (case h0 => fail "ev"); (case h1 => fail "ev"))
  | (refine' ev_abs ?h0; (case h0 => fail "ev"))
  | (refine' ev_call ?h0 ?h1; (case h0 => fail "evs"); (case h1 => fail "fn"))
  | (refine' ev_cvar ?h0 ?h1 ?h2; (case h0 => rfl); (case h1 => fail "evs"); (case h2 => fail "fn"))
  | assumption)
local macro_rules | `(tactic| fail "tf") => `(tactic| first
  | decide
  | rfl
  | (simp; done)
  | (simp; omega))
local macro_rules | `(tactic| fail "no") => `(tactic| (refine' bk_noX ?h0 ?h1 ?_; (case h0 => fail "ev"); (case h1 => fail "tf")))
local macro_rules | `(tactic| fail "yes") => `(tactic| (refine' bk_yesX ?h0 ?h1 ?_; (case h0 => fail "ev"); (case h1 => fail "tf")))
local macro_rules | `(tactic| fail "ret") => `(tactic| (refine' bk_ret ?h0 (fun S9 d9 => Wk.drop d9 (Wk.here ?_)); (case h0 => fail "ev")))
local macro_rules | `(tactic| fail "set") => `(tactic| (refine' bk_set ?h0 ?_; (case h0 => fail "ev")))
local macro_rules | `(tactic| fail "setF") => `(tactic| (refine' bk_setF ?h0 ?_; (case h0 => fail "ef")))
local macro_rules | `(tactic| fail "if") => `(tactic| (refine' bk_if1 ?h0 ?_ ?_; (case h0 => fail "ev")))
local macro_rules | `(tactic| fail "if2") => `(tactic| (refine' bk_if ?h0 ?_ ?_; (case h0 => fail "ev")))
local macro_rules | `(tactic| fail "put") => `(tactic| (refine' bk_put ?h0 ?h1 ?h2 ?h3 ?h4 ?_; (case h0 => fail "ev"); (case h1 => fail "ev"); (case h2 => fail "ev"); (case h3 => fail "st"); (case h4 => rfl)))
local macro_rules | `(tactic| fail "retC") => `(tactic| (refine' bk_retC ?h0 ?_; (case h0 => fail "evs")))
local macro_rules | `(tactic| fail "setC") => `(tactic| (refine' bk_setC ?h0 ?_; (case h0 => fail "evs")))
local macro_rules | `(tactic| fail "expC") => `(tactic| (refine' bk_expC ?h0 ?_; (case h0 => fail "evs")))
local macro_rules | `(tactic| fail "callE") => `(tactic| (refine' cps_call ?h0 ?_; (case h0 => fail "evs")))
local macro_rules | `(tactic| fail "exp") => `(tactic| (refine' bk_exp ?h0 ?_; (case h0 => fail "ev")))
local macro_rules | `(tactic| fail "con") => `(tactic| first | exact Z.con_MOST_ROWS | exact Z.con_MOST_COUNTERS | exact Z.con_PRIMES | rfl)
local macro_rules | `(tactic| fail "fn") => `(tactic| exact Z.int_ok (by fail "ty"))
namespace Z
open PySem Core L2
theorem clean (ns : List Int) (h : ns.length ≤ 63) : (envAt D 61).fn nf_law [.frl (ns.map P.int)] (fun _ => none) (fun p _ => p = .bl true) noE := by
  have big := PySem.sizeLine_eq
  refine fn_start (d := ⟨1, 5, b_law⟩) rfl rfl ?_
  show wpB _ b_law [some (.frl (ns.map P.int)), none, none, none, none] _ _
  have ew : Ev (envAt D 60) (.bin .Mult (.tup [.tup [.lit (.str "down"), .lit (.int 4), .lit (.int 0), .lit (.int 0)]]) (.lit (.int 20))) [some (.frl (ns.map P.int)), none, none, none, none] (fun _ => none) (.tup (CW.rows.map Od.toP)) := by
    have e : CW.rows.map Od.toP = (List.replicate (20 : Int).toNat [(Od.dn 4 0 0).toP]).flatten := rfl
    rw [e]
    exact ev_bin (ev_tup (evs_cons (by fail "ev") evs_nil)) ev_lit (opv_rep (xs := [(Od.dn 4 0 0).toP]) (k := 20) (by decide) (by decide) (by rw [big]; decide))
  refine bk_set (p := CW.toP) (ev_tup (evs_cons ev_lit (evs_cons ev_lit (evs_cons ew evs_nil)))) ?_
  have t1 := told_ok (k := 59) (r := .error farE) (.inl ⟨rfl, rfl⟩) (two_far (lv := 55) (S := fun _ => none) cw_good (by decide)) fun x h => by cases h; exact .inr (.inl rfl)
  have t2 := told_ok (k := 59) (r := .error (badE "counters")) (.inl ⟨rfl, rfl⟩) (two_no (lv := 55) (n := 5) (c := .non) (S := fun _ => none) Dt.non (by omega) rfl) fun x h => by cases h; exact .inl ⟨_, rfl, by decide⟩
  refine bk_no (ev_orF (txt_ne (t := "far") (by decide +kernel) (ev_call (ps := [.fn nf_two_of, CW.toP, .non]) (by fail "evs") t1)) (txt_ne (t := "bad counters") (by decide +kernel) (ev_call (ps := [.fn nf_two_of, .non, .non]) (by fail "evs") t2))) ?_
  show wpB _ _ [some (.frl (ns.map P.int)), some CW.toP, none, none, none] _ _
  have rest : ∀ S : Store, wpB (envAt D 60) (b_law.drop 3) [some (.frl (ns.map P.int)), some CW.toP, none, none, none] S (DE.fn (fun p _ => p = .bl true) noE) := fun S => by
    have e1 := evf_cmprL (G := envAt D 60) (ρ := [some (.frl (ns.map P.int)), some CW.toP, none, none, none]) (S := S) (own := [4, 2]) (arg := .lst [.tup [.lit (.int 13), .lit (.int 5)], .tup [.lit (.int 0), .lit (.int 2)], .tup [.neg (.lit (.int 4)), .lit (.int 2)], .tup [.lit (.bl true), .lit (.int 2)], .tup [.lit (.int 9), .lit (.int 1)], .tup [.lit (.int 4), .lit (.int 0)], .tup [.lit (.int 4), .lit (.int 6)], .tup [.lit .non, .lit (.int 2)]]) (tg := .tup [.nm 4, .nm 2]) (elt := .call nf__law_told [.fnv nf_values_of, .var 4, .tup [.var 2]]) oddsV (fun e => P.tup [e.1, e.2]) (fun _ => Dat.toP noT) (EvF.l (by
        show EvF _ _ _ _ [P.tup [.int 13, .int 5], P.tup [.int 0, .int 2], P.tup [.int (-4), .int 2], P.tup [.bl true, .int 2], P.tup [.int 9, .int 1], P.tup [.int 4, .int 0], P.tup [.int 4, .int 6], P.tup [.non, .int 2]]
        fail "ef")) fun e he => by
      show Ev _ _ [some (.frl (ns.map P.int)), some CW.toP, some e.2, none, some e.1] S _
      exact ev_call (ps := [.fn nf_values_of, e.1, .tup [e.2]]) (by fail "evs") (oddsV_ok e he)
    have e2 := evf_mul (G := envAt D 60) (ρ := [some (.frl (ns.map P.int)), some CW.toP, none, none, none]) (S := S) (a := .lst [.lit (.str "none")]) (b := .lit (.int 8)) (k := 8) (xs := [Dat.toP noT]) (EvF.l (evf_lst (evs_cons ev_lit evs_nil))) ev_lit (by decide) (by decide) (by rw [big]; decide)
    have e3 := ev_neLL (α := Txt) [noT, noT, noT, noT, noT, noT, noT, noT] [noT, noT, noT, noT, noT, noT, noT, noT] e1.l e2.l (by decide)
    rw [decide_eq_true rfl] at e3
    refine bk_no e3 ?_
    have hlen : Ev (envAt D 60) (.blt .min [.blt .max [.blt .len [.var 0], .lit (.int 1)], .lit (.int 4)]) [some (.frl (ns.map P.int)), some CW.toP, none, none, none] S (.int (min (max ((ns.map P.int).length : Int) 1) 4)) := ev_min2 (ev_max2 (ev_len (ev_var rfl) (fun _ => rfl) (fun _ => rfl)) ev_lit) ev_lit
    obtain ⟨N, hN, hN1⟩ : ∃ N : Nat, min (max ((ns.map P.int).length : Int) 1) 4 = N ∧ N ≤ 4 := ⟨(min (max ((ns.map P.int).length : Int) 1) 4).toNat, by omega, by omega⟩
    rw [hN] at hlen
    refine bk_for (List.range N) (fun (i : Nat) => P.int i) (fun i ρ' S' => ∃ x2, ρ' = [some (.frl (ns.map P.int)), some CW.toP, x2, none, none]) (evs_cons hlen evs_nil) (it_range (by omega)) up_any (fun _ _ _ _ => trivial) ⟨_, rfl⟩ ?_ ?_ (env_mono _ _)
    · rintro i x ρ' S0 hx ⟨x2, rfl⟩
      show wpB _ _ [some (.frl (ns.map P.int)), some CW.toP, some (.int x), none, none] _ _
      refine bk_ifE (cps_not (cps_callU (cps_cons ?_)))
      refine cps_call (ps := [.frl (ns.map P.int), .int x]) (by fail "evs") (bag_ok (ns := ns) (n := x) fun a ha => ?_)
      refine cps_nil (case_ok Store.upd_same ⟨true, rfl, _, rfl, (fun h => by cases h), fun _ => bk_nil (bk_nil (G := envAt D 60) ⟨_, rfl⟩)⟩)
    · rintro ρ' S' ⟨x2, rfl⟩
      exact bk_ret (p := .bl true) ev_lit (fun S9 d9 => Wk.drop d9 (Wk.here rfl))
  refine bk_ifE ?_
  unfold wpE
  unfold wpE
  refine cps_cmprN (cps_cons (cps_lst (cps_cons (cps_run (ev_tup evs_nil) fun S1 d1 => cps_cons (cps_run (ev_tup (evs_cons (ev_neg ev_lit) evs_nil)) fun S2 d2 => cps_cons (cps_lst (cps_cons (cps_run ev_lit fun S3 d3 => cps_nil fun b hb => ?_))))))))
  have e6 : ∀ {S : Store}, Ev (envAt D 60) (.bin .Mult (.tup [.lit (.int 0)]) (.lit (.int 6))) [some (.frl (ns.map P.int)), some CW.toP, none, none, none] S (.tup [.int 0, .int 0, .int 0, .int 0, .int 0, .int 0]) := fun {S} => ev_bin (ev_tup (evs_cons ev_lit evs_nil)) ev_lit (opv_rep (xs := [.int 0]) (k := 6) (by decide) (by decide) (by rw [big]; decide))
  refine cps_cons (cps_run ev_lit fun S4 d4 => cps_cons (cps_run e6 fun S5 d5 => cps_cons (cps_run (ev_tup (evs_cons ev_lit evs_nil)) fun S6 d6 => cps_nil fun c hc => cps_nil ?_)))
  have hb2 : (S6.upd c (.lst [.tup [], .tup [.int (-1)], .loc b, .non, .tup [.int 0, .int 0, .int 0, .int 0, .int 0, .int 0], .tup [.bl true]])) b = some (.lst [.int 0]) := SubS.upd hc _ _ (((d4.trans d5).trans d6) _ _ Store.upd_same)
  have hc2 : (S6.upd c (.lst [.tup [], .tup [.int (-1)], .loc b, .non, .tup [.int 0, .int 0, .int 0, .int 0, .int 0, .int 0], .tup [.bl true]])) c = some (.lst [.tup [], .tup [.int (-1)], .loc b, .non, .tup [.int 0, .int 0, .int 0, .int 0, .int 0, .int 0], .tup [.bl true]]) := Store.upd_same
  generalize S6.upd c (.lst [.tup [], .tup [.int (-1)], .loc b, .non, .tup [.int 0, .int 0, .int 0, .int 0, .int 0, .int 0], .tup [.bl true]]) = S7 at hb2 hc2
  have e1 := evf_cmpr (G := envAt D 60) (ρ := [some (.frl (ns.map P.int)), some CW.toP, none, none, none]) (S := S7) (own := [3]) (k := .seq) (args := [.lit (.loc c)]) (tg := .nm 3) (elt := .call nf__law_told [.fnv nf_power_of, .var 3, .lit .non]) [P.tup [], .tup [.int (-1)], .loc b, .non, .tup [.int 0, .int 0, .int 0, .int 0, .int 0, .int 0], .tup [.bl true]] id (fun _ => Dat.toP bvT) (evs_cons ev_lit evs_nil) (it_lstI hc2) (good_lst hc2) fun y hy => by
    show Ev _ _ [some (.frl (ns.map P.int)), some CW.toP, none, some y, none] S7 _
    have key : Dt S7 8 y ∧ okPw y = false := by
      simp only [List.mem_cons, List.not_mem_nil, or_false] at hy
      rcases hy with rfl | rfl | rfl | rfl | rfl | rfl
      · exact ⟨Dt.mk (fun x hx => by cases hx), rfl⟩
      · exact ⟨Dt.mk (fun x hx => by rw [List.mem_singleton.mp hx]; exact Dt.int), rfl⟩
      · exact ⟨Dt.lst hb2 (fun x hx => by rw [List.mem_singleton.mp hx]; exact Dt.int), rfl⟩
      · exact ⟨Dt.non, rfl⟩
      · refine ⟨Dt.mk (fun x hx => ?_), rfl⟩
        simp only [List.mem_cons, List.not_mem_nil, or_false, or_self] at hx
        subst hx; exact Dt.int
      · exact ⟨Dt.mk (fun x hx => by rw [List.mem_singleton.mp hx]; exact Dt.bl), rfl⟩
    exact ev_call (ps := [.fn nf_power_of, y, .non]) (by fail "evs") (told_pw key.1 key.2)
  have e2 := evf_mul (G := envAt D 60) (ρ := [some (.frl (ns.map P.int)), some CW.toP, none, none, none]) (S := S7) (a := .lst [.lit (.str "bad values")]) (b := .lit (.int 6)) (k := 6) (xs := [Dat.toP bvT]) (EvF.l (evf_lst (evs_cons ev_lit evs_nil))) ev_lit (by decide) (by decide) (by rw [big]; decide)
  have e3 := ev_neLL (α := Txt) [bvT, bvT, bvT, bvT, bvT, bvT] [bvT, bvT, bvT, bvT, bvT, bvT] e1.l e2.l (by decide)
  rw [decide_eq_true rfl] at e3
  have pk := power_ok (k := 58) (vs := [3, 2, 1, 1, 1]) (S := S7) (by decide) (by decide) (by decide)
  have e5 : Ev (envAt D 60) (.bin .Mult (.bin .Mult (.bin .Mult (.bin .Mult (.lit (.int 8)) (.lit (.int 9))) (.lit (.int 5))) (.lit (.int 7))) (.lit (.int 11))) [some (.frl (ns.map P.int)), some CW.toP, none, none, none] S7 (.int 27720) := ev_val (by fail "ev") (congrArg P.int (by decide))
  have e7 := ne_same (k := 60) (ρ := [some (.frl (ns.map P.int)), some CW.toP, none, none, none]) (S := S7) (a := .call nf_power_of [.tup [.lit (.int 3), .lit (.int 2), .lit (.int 1), .lit (.int 1), .lit (.int 1)]]) (b := .bin .Mult (.bin .Mult (.bin .Mult (.bin .Mult (.lit (.int 8)) (.lit (.int 9))) (.lit (.int 5))) (.lit (.int 7))) (.lit (.int 11))) (27720 : Int) (by decide) (ev_val (ev_call (ps := [.tup ([3, 2, 1, 1, 1].map P.int)]) (by fail "evs") pk) (congrArg P.int (by decide))) e5
  have fin := (ev_orF e3 e7).run (DE.fn (fun p _ => p = P.bl true) noE).ex S7 (.refl _) (fun p S' => ∃ x, p = .bl x ∧ (x = true → wpB (envAt D 60) [.ret (.lit (.bl false))] [some (.frl (ns.map P.int)), some CW.toP, none, none, none] S' { (DE.fn (fun p _ => p = P.bl true) noE) with nx := fun ρ' S' => wpB (envAt D 60) (b_law.drop 3) ρ' S' (DE.fn (fun p _ => p = P.bl true) noE) }) ∧ (x = false → wpB (envAt D 60) [] [some (.frl (ns.map P.int)), some CW.toP, none, none, none] S' { (DE.fn (fun p _ => p = P.bl true) noE) with nx := fun ρ' S' => wpB (envAt D 60) (b_law.drop 3) ρ' S' (DE.fn (fun p _ => p = P.bl true) noE) })) (fun S2 d2 => ⟨false, rfl, (fun h => by cases h), fun _ => bk_nil (rest S2)⟩)
  unfold wpE at fin
  unfold wpE at fin
  exact fin
end Z
end
section
set_option maxRecDepth 100000
set_option maxHeartbeats 0
namespace Z
open PySem PySem.W PyProof.Rows L2 Core
theorem law_end : PySem.Challenge.rw_neverstops_k66_whole_two_counters_are_en.Holds := by
  w_on; o_law; k_head; (case hw => w_witness2)
  k_fill
  refine Core.law_walk (D := D) (i := 23) (k := 61) (l := PySem.Challenge.rw_neverstops_k66_whole_two_counters_are_en) rfl rfl ⟨rfl, by decide, by decide⟩ (fun w h Y => PySem.W.kIn_of Y) ?F clean
  case F =>
    intro w mg fa h KX G hmg
    refine' (fun z => let ⟨fd, h1, h2⟩ := z; ⟨fd, h1, fun base => h2 60 base⟩) (Z.all_mk KX G hmg ?a_f0 ?l_f0 ?c_f0 ?k_f0 ?a_f1 ?l_f1 ?c_f1 ?k_f1 ?a_f2 ?l_f2 ?c_f2 ?k_f2 ?a_f3 ?l_f3 ?c_f3 ?k_f3 ?a_f4 ?l_f4 ?c_f4 ?k_f4 ?a_f5 ?l_f5 ?c_f5 ?k_f5 ?a_f6 ?l_f6 ?c_f6 ?k_f6 ?a_f7 ?l_f7 ?c_f7 ?k_f7 ?a_f8 ?l_f8 ?c_f8 ?k_f8 ?a_f9 ?l_f9 ?c_f9 ?k_f9 ?a_f10 ?l_f10 ?c_f10 ?k_f10 ?a_f11 ?l_f11 ?c_f11 ?k_f11 ?a_f12 ?l_f12 ?c_f12 ?k_f12 ?a_f13 ?l_f13 ?c_f13 ?k_f13 ?a_f14 ?l_f14 ?c_f14 ?k_f14 ?a_f15 ?l_f15 ?c_f15 ?k_f15 ?a_f16 ?l_f16 ?c_f16 ?k_f16 ?a_f17 ?l_f17 ?c_f17 ?k_f17 ?a_f18 ?l_f18 ?c_f18 ?k_f18 ?a_f19 ?l_f19 ?c_f19 ?k_f19 ?a_f20 ?l_f20 ?c_f20 ?k_f20 ?a_f21 ?l_f21 ?c_f21 ?k_f21 ?a_f22 ?l_f22 ?c_f22 ?k_f22 ?a_f23 ?l_f23 ?c_f23 ?k_f23 ?a_C0 ?k_C0 ?a_C1 ?k_C1 ?a_C2 ?k_C2 ?a_C3 ?k_C3 ?x_C1 ?n_C1 ?s_C1 ?y_C1 ?o_C1 ?r_C1 ?sa_C1 ?i_C1 ?t_I1 ?l_I1 ?c_I1 ?k_I1 ?x_C2 ?n_C2 ?s_C2 ?y_C2 ?e_C2 ?x_C3 ?n_C3 ?s_C3 ?y_C3 ?e_C3 ?ee_1_1 ?ee_1_2 ?ee_1_3 ?ee_2_1 ?ee_2_2 ?ee_2_3 ?ee_3_1 ?ee_3_2 ?ee_3_3 ?g_0 ?g_1 ?g_2 ?l_t2_0 ?blt)
    (case a_f0 => first | k_is | rfl | kernel_rfl)
    (case l_f0 => first | k_is | rfl | kernel_rfl)
    (case c_f0 => first | k_is | rfl | kernel_rfl)
    (case k_f0 => first | k_is | rfl | kernel_rfl)
    (case a_f1 => first | k_is | rfl | kernel_rfl)
    (case l_f1 => first | k_is | rfl | kernel_rfl)
    (case c_f1 => first | k_is | rfl | kernel_rfl)
    (case k_f1 => first | k_is | rfl | kernel_rfl)
    (case a_f2 => first | k_is | rfl | kernel_rfl)
    (case l_f2 => first | k_is | rfl | kernel_rfl)
    (case c_f2 => first | k_is | rfl | kernel_rfl)
    (case k_f2 => first | k_is | rfl | kernel_rfl)
    (case a_f3 => first | k_is | rfl | kernel_rfl)
    (case l_f3 => first | k_is | rfl | kernel_rfl)
    (case c_f3 => first | k_is | rfl | kernel_rfl)
    (case k_f3 => first | k_is | rfl | kernel_rfl)
    (case a_f4 => first | k_is | rfl | kernel_rfl)
    (case l_f4 => first | k_is | rfl | kernel_rfl)
    (case c_f4 => first | k_is | rfl | kernel_rfl)
    (case k_f4 => first | k_is | rfl | kernel_rfl)
    (case a_f5 => first | k_is | rfl | kernel_rfl)
    (case l_f5 => first | k_is | rfl | kernel_rfl)
    (case c_f5 => first | k_is | rfl | kernel_rfl)
    (case k_f5 => first | k_is | rfl | kernel_rfl)
    (case a_f6 => first | k_is | rfl | kernel_rfl)
    (case l_f6 => first | k_is | rfl | kernel_rfl)
    (case c_f6 => first | k_is | rfl | kernel_rfl)
    (case k_f6 => first | k_is | rfl | kernel_rfl)
    (case a_f7 => first | k_is | rfl | kernel_rfl)
    (case l_f7 => first | k_is | rfl | kernel_rfl)
    (case c_f7 => first | k_is | rfl | kernel_rfl)
    (case k_f7 => first | k_is | rfl | kernel_rfl)
    (case a_f8 => first | k_is | rfl | kernel_rfl)
    (case l_f8 => first | k_is | rfl | kernel_rfl)
    (case c_f8 => first | k_is | rfl | kernel_rfl)
    (case k_f8 => first | k_is | rfl | kernel_rfl)
    (case a_f9 => first | k_is | rfl | kernel_rfl)
    (case l_f9 => first | k_is | rfl | kernel_rfl)
    (case c_f9 => first | k_is | rfl | kernel_rfl)
    (case k_f9 => first | k_is | rfl | kernel_rfl)
    (case a_f10 => first | k_is | rfl | kernel_rfl)
    (case l_f10 => first | k_is | rfl | kernel_rfl)
    (case c_f10 => first | k_is | rfl | kernel_rfl)
    (case k_f10 => first | k_is | rfl | kernel_rfl)
    (case a_f11 => first | k_is | rfl | kernel_rfl)
    (case l_f11 => first | k_is | rfl | kernel_rfl)
    (case c_f11 => first | k_is | rfl | kernel_rfl)
    (case k_f11 => first | k_is | rfl | kernel_rfl)
    (case a_f12 => first | k_is | rfl | kernel_rfl)
    (case l_f12 => first | k_is | rfl | kernel_rfl)
    (case c_f12 => first | k_is | rfl | kernel_rfl)
    (case k_f12 => first | k_is | rfl | kernel_rfl)
    (case a_f13 => first | k_is | rfl | kernel_rfl)
    (case l_f13 => first | k_is | rfl | kernel_rfl)
    (case c_f13 => first | k_is | rfl | kernel_rfl)
    (case k_f13 => first | k_is | rfl | kernel_rfl)
    (case a_f14 => first | k_is | rfl | kernel_rfl)
    (case l_f14 => first | k_is | rfl | kernel_rfl)
    (case c_f14 => first | k_is | rfl | kernel_rfl)
    (case k_f14 => first | k_is | rfl | kernel_rfl)
    (case a_f15 => first | k_is | rfl | kernel_rfl)
    (case l_f15 => first | k_is | rfl | kernel_rfl)
    (case c_f15 => first | k_is | rfl | kernel_rfl)
    (case k_f15 => first | k_is | rfl | kernel_rfl)
    (case a_f16 => first | k_is | rfl | kernel_rfl)
    (case l_f16 => first | k_is | rfl | kernel_rfl)
    (case c_f16 => first | k_is | rfl | kernel_rfl)
    (case k_f16 => first | k_is | rfl | kernel_rfl)
    (case a_f17 => first | k_is | rfl | kernel_rfl)
    (case l_f17 => first | k_is | rfl | kernel_rfl)
    (case c_f17 => first | k_is | rfl | kernel_rfl)
    (case k_f17 => first | k_is | rfl | kernel_rfl)
    (case a_f18 => first | k_is | rfl | kernel_rfl)
    (case l_f18 => first | k_is | rfl | kernel_rfl)
    (case c_f18 => first | k_is | rfl | kernel_rfl)
    (case k_f18 => first | k_is | rfl | kernel_rfl)
    (case a_f19 => first | k_is | rfl | kernel_rfl)
    (case l_f19 => first | k_is | rfl | kernel_rfl)
    (case c_f19 => first | k_is | rfl | kernel_rfl)
    (case k_f19 => first | k_is | rfl | kernel_rfl)
    (case a_f20 => first | k_is | rfl | kernel_rfl)
    (case l_f20 => first | k_is | rfl | kernel_rfl)
    (case c_f20 => first | k_is | rfl | kernel_rfl)
    (case k_f20 => first | k_is | rfl | kernel_rfl)
    (case a_f21 => first | k_is | rfl | kernel_rfl)
    (case l_f21 => first | k_is | rfl | kernel_rfl)
    (case c_f21 => first | k_is | rfl | kernel_rfl)
    (case k_f21 => first | k_is | rfl | kernel_rfl)
    (case a_f22 => first | k_is | rfl | kernel_rfl)
    (case l_f22 => first | k_is | rfl | kernel_rfl)
    (case c_f22 => first | k_is | rfl | kernel_rfl)
    (case k_f22 => first | k_is | rfl | kernel_rfl)
    (case a_f23 => first | k_is | rfl | kernel_rfl)
    (case l_f23 => first | k_is | rfl | kernel_rfl)
    (case c_f23 => first | k_is | rfl | kernel_rfl)
    (case k_f23 => first | k_is | rfl | kernel_rfl)
    (case a_C0 => first | k_is | rfl | kernel_rfl)
    (case k_C0 => first | k_is | rfl | kernel_rfl)
    (case a_C1 => first | k_is | rfl | kernel_rfl)
    (case k_C1 => first | k_is | rfl | kernel_rfl)
    (case a_C2 => first | k_is | rfl | kernel_rfl)
    (case k_C2 => first | k_is | rfl | kernel_rfl)
    (case a_C3 => first | k_is | rfl | kernel_rfl)
    (case k_C3 => first | k_is | rfl | kernel_rfl)
    (case x_C1 => first | k_is | rfl | kernel_rfl)
    (case n_C1 => first | k_is | rfl | kernel_rfl)
    (case s_C1 => first | k_is | rfl | kernel_rfl)
    (case y_C1 => first | k_is | rfl | kernel_rfl)
    (case o_C1 => first | k_is | rfl | kernel_rfl)
    (case r_C1 => first | k_is | rfl | kernel_rfl)
    (case sa_C1 => first | k_is | rfl | kernel_rfl)
    (case i_C1 => first | k_is | rfl | kernel_rfl)
    (case t_I1 => first | k_is | rfl | kernel_rfl)
    (case l_I1 => first | k_is | rfl | kernel_rfl)
    (case c_I1 => first | k_is | rfl | kernel_rfl)
    (case k_I1 => first | k_is | rfl | kernel_rfl)
    (case x_C2 => first | k_is | rfl | kernel_rfl)
    (case n_C2 => first | k_is | rfl | kernel_rfl)
    (case s_C2 => first | k_is | rfl | kernel_rfl)
    (case y_C2 => first | k_is | rfl | kernel_rfl)
    (case e_C2 => first | k_is | rfl | kernel_rfl)
    (case x_C3 => first | k_is | rfl | kernel_rfl)
    (case n_C3 => first | k_is | rfl | kernel_rfl)
    (case s_C3 => first | k_is | rfl | kernel_rfl)
    (case y_C3 => first | k_is | rfl | kernel_rfl)
    (case e_C3 => first | k_is | rfl | kernel_rfl)
    (case ee_1_1 => first | k_is | rfl | kernel_rfl)
    (case ee_1_2 => first | k_is | rfl | kernel_rfl)
    (case ee_1_3 => first | k_is | rfl | kernel_rfl)
    (case ee_2_1 => first | k_is | rfl | kernel_rfl)
    (case ee_2_2 => first | k_is | rfl | kernel_rfl)
    (case ee_2_3 => first | k_is | rfl | kernel_rfl)
    (case ee_3_1 => first | k_is | rfl | kernel_rfl)
    (case ee_3_2 => first | k_is | rfl | kernel_rfl)
    (case ee_3_3 => first | k_is | rfl | kernel_rfl)
    (case g_0 => first | k_is | rfl | kernel_rfl)
    (case g_1 => first | k_is | rfl | kernel_rfl)
    (case g_2 => first | k_is | rfl | kernel_rfl)
    (case l_t2_0 => first | k_is | rfl | kernel_rfl)
    (case blt => first | k_is | rfl | kernel_rfl)
end Z
end
theorem PySem.Challenge.cw_neverstops_k66_whole_two_counters_are_en_holds : PySem.Challenge.rw_neverstops_k66_whole_two_counters_are_en.Holds :=
  Z.law_end
#print axioms PySem.Challenge.cw_neverstops_k66_whole_two_counters_are_en_holds
