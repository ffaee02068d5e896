import PyProof.Rows.All
import Wide.All
import OpenK.AllK
import Wide.FinOn
import PyProof.EqLayable
import PyProof.ReprReads
import KE.SortData
import HandS.Rev
import HandS.RevRange
import HandS.Conv
import HandS.TupAny
import HandS.TupMul
import HandS.Defaults
import HandS.ForMost
import HandS.Exc
import HandS.Deep
import HandS.IsInst
import HandS.Zip
import HandS.Style
import HandS.DictComp
import HandS.NoneIn
import HandS.MakeKw
import KE.DataCmp
import PyProof.Rows.IntBool
import PyProof.TupleOfSeq
import PyProof.Rows.SortWalk
import KE.SortCalls
import PyProof.ReprRoads
import HandS.Strs
import KE.GoesMore
import PyProof.EnumMake
import HandS.Ends
import HandS.HeadEnd
import HandS.HeadHook2
import HandS.Codes
import KE.KStateDown
import HandS.Head0
import HandS.Head1
import HandS.Head2
import HandS.Base
import PyProof.StrLawsRepr
import PyProof.FitsInt
import PyProof.P3Eq
import KE.KStrOpen
import KE.KStrBytes
import PyProof.Rows.StrFit
import PySem.Challenge.RW_elderways_k02_operations_on_permutations
set_option Elab.async false
set_option linter.all false
/-! A small language over values and a store of lists, dicts and objects: syntax and evaluation. -/
namespace MP
open PySem (Str PyData sizeLine)

inductive Val where
  | none
  | bool (b : Bool)
  | int (i : Int)
  | str (s : Str)
  | tup (xs : List Val)
  | frz (xs : List Val)
  | ref (n : Nat)
  deriving Inhabited

mutual
def Val.beq : Val → Val → Bool
  | .none, b => match b with | .none => true | _ => false
  | .bool a, b => match b with | .bool c => decide (a = c) | _ => false
  | .int a, b => match b with | .int c => decide (a = c) | _ => false
  | .str a, b => match b with | .str c => decide (a = c) | _ => false
  | .ref a, b => match b with | .ref c => decide (a = c) | _ => false
  | .tup a, b => match b with | .tup c => Val.beqs a c | _ => false
  | .frz a, b => match b with | .frz c => Val.beqs a c | _ => false
def Val.beqs : List Val → List Val → Bool
  | [], b => match b with | [] => true | _ => false
  | x :: a, b => match b with | y :: c => Val.beq x y && Val.beqs a c | _ => false
end
mutual
theorem Val.beq_self : ∀ a : Val, a.beq a = true
  | .none => rfl
  | .bool _ => by simp [Val.beq]
  | .int _ => by simp [Val.beq]
  | .str _ => by simp [Val.beq]
  | .ref _ => by simp [Val.beq]
  | .tup xs => by rw [Val.beq]; exact Val.beqs_self xs
  | .frz xs => by rw [Val.beq]; exact Val.beqs_self xs
theorem Val.beqs_self : ∀ a : List Val, Val.beqs a a = true
  | [] => rfl
  | x :: xs => by simp [Val.beqs, Val.beq_self x, Val.beqs_self xs]
end
mutual
theorem Val.eq_of_beq : ∀ a b : Val, a.beq b = true → a = b
  | .none, b, h => by cases b <;> simp_all [Val.beq]
  | .bool _, b, h => by cases b <;> simp_all [Val.beq]
  | .int _, b, h => by cases b <;> simp_all [Val.beq]
  | .str _, b, h => by cases b <;> simp_all [Val.beq]
  | .ref _, b, h => by cases b <;> simp_all [Val.beq]
  | .tup xs, b, h => by
    cases b with
    | tup ys => rw [Val.beq] at h; rw [Val.eqs_of_beqs xs ys h]
    | _ => simp [Val.beq] at h
  | .frz xs, b, h => by
    cases b with
    | frz ys => rw [Val.beq] at h; rw [Val.eqs_of_beqs xs ys h]
    | _ => simp [Val.beq] at h
theorem Val.eqs_of_beqs : ∀ a b : List Val, Val.beqs a b = true → a = b
  | [], b, h => by cases b <;> simp_all [Val.beqs]
  | x :: xs, b, h => by
    cases b with
    | nil => simp [Val.beqs] at h
    | cons y ys =>
      simp only [Val.beqs, Bool.and_eq_true] at h
      rw [Val.eq_of_beq x y h.1, Val.eqs_of_beqs xs ys h.2]
end
instance : DecidableEq Val := fun a b => if h : a.beq b = true then isTrue (Val.eq_of_beq a b h) else isFalse fun e => h (e ▸ Val.beq_self a)

inductive Ob where
  | lst (xs : List Val)
  | dct (kvs : List (Val × Val))
  deriving DecidableEq, Inhabited

abbrev Store := List Ob
inductive Res (α : Type) where
  | ok (a : α) (s : Store)
  | exc (C : Str) (v : Option Val) (s : Store)
  | bad
abbrev M (α : Type) := Store → Res α
def M.pure {α : Type} (a : α) : M α := fun s => .ok a s
def M.bind {α β : Type} (m : M α) (f : α → M β) : M β := fun s => match m s with
  | .ok a s' => f a s'
  | .exc C v s' => .exc C v s'
  | .bad => .bad
instance : Monad M where
  pure := M.pure
  bind := M.bind
def bad {α : Type} : M α := fun _ => .bad
def raise {α : Type} (C : Str) (v : Option Val) : M α := fun s => .exc C v s
def put (n : Nat) (o : Ob) (v : Val) : M Val := fun s => .ok v (s.set n o)
def new (o : Ob) : M Val := fun s => .ok (.ref s.length) (s ++ [o])
/-- the object n is a list, a dict, either -/
def onL {α : Type} (n : Nat) (f : List Val → M α) : M α := fun s => match s[n]? with
  | some (.lst xs) => f xs s
  | _ => .bad
def onD {α : Type} (n : Nat) (f : List (Val × Val) → M α) : M α := fun s => match s[n]? with
  | some (.dct kvs) => f kvs s
  | _ => .bad
def onO {α : Type} (n : Nat) (f : List Val → M α) (g : List (Val × Val) → M α) : M α := fun s => match s[n]? with
  | some (.lst xs) => f xs s
  | some (.dct kvs) => g kvs s
  | none => .bad
def need {α : Type} (b : Bool) (m : M α) : M α := fun s => if b = true then m s else .bad
def ofOpt {α β : Type} (o : Option α) (f : α → M β) : M β := match o with
  | some a => f a
  | none => bad

/-! ### data of values -/
def dat (st : Store) : Nat → Val → Option PyData
  | _, .none => some .none
  | _, .bool b => some (.bool b)
  | _, .int i => some (.int i)
  | _, .str s => some (.str s)
  | 0, .tup _ => none
  | 0, .ref _ => none
  | 0, .frz _ => none
  | d + 1, .tup xs => (xs.mapM (dat st d)).map .tuple
  | d + 1, .ref n => match st[n]? with
    | some (.lst xs) => (xs.mapM (dat st d)).map .list
    | _ => none
  | d + 1, .frz xs => (xs.mapM (dat st d)).map .list
def dDepth : Nat := 20
/-! ### operations -/
inductive Op where | add | sub | mul | mod | fdiv | pow
inductive Cmp where | eq | ne | lt | le | gt | ge | is | isnot | isin | notin
inductive Ty where | int | bool | str | list | tuple
inductive Bi where | len | sorted | tuple | list | all | any | abs | int | min | max | repr | str
inductive Mt where | append | insert | popAt | pop | extend | index | upper | setdef

mutual
/-- what may stand as a key: no bool in it -/
def keyOk : Val → Bool
  | .none => true
  | .bool _ => false
  | .int _ => true
  | .str _ => true
  | .tup xs => keysOk xs
  | .ref _ => false
  | .frz _ => false
def keysOk : List Val → Bool
  | [] => true
  | x :: xs => keyOk x && keysOk xs
end
def dget (kvs : List (Val × Val)) (k : Val) : Option Val := (kvs.find? fun p => decide (p.1 = k)).map (·.2)
def dput (kvs : List (Val × Val)) (k v : Val) : List (Val × Val) := if kvs.any (fun p => decide (p.1 = k)) then kvs.map fun p => if p.1 = k then (p.1, v) else p else kvs ++ [(k, v)]
/-- an int or a text; a tuple -/
def isTupV : Val → Bool
  | .tup _ => true
  | _ => false
def isFlatKey : Val → Bool
  | .int _ => true
  | .str _ => true
  | _ => false
/-- the key may go into this dict -/
def keyFits (kvs : List (Val × Val)) (k : Val) : Bool := isFlatKey k

def szOk (n : Nat) : Bool := decide (n ≤ sizeLine)
def small63 (k : Int) : Bool := decide (-(2 ^ 63) ≤ k ∧ k < 2 ^ 63)
def mulOk (i j : Int) : Bool := decide ((-(2 ^ 64) < i ∧ i < 2 ^ 64) ∨ (-(2 ^ 64) < j ∧ j < 2 ^ 64))
def reps (xs : List Val) (k : Int) : List Val := (List.replicate k.toNat xs).flatten
def b2i (b : Bool) : Int := if b = true then 1 else 0
def binop (op : Op) (x y : Val) : M Val := match op with
  | .add => match x, y with
    | .int i, .int j => pure (.int (i + j))
    | .bool i, .int j => pure (.int (b2i i + j))
    | .str a, .str b => need (szOk (a.length + b.length)) (pure (.str (a ++ b)))
    | .tup a, .tup b => need (szOk (a.length + b.length)) (pure (.tup (a ++ b)))
    | .ref n, .ref m => onL n fun a => onL m fun b => need (szOk (a.length + b.length)) (new (.lst (a ++ b)))
    | _, _ => bad
  | .sub => match x, y with
    | .int i, .int j => pure (.int (i - j))
    | .bool i, .int j => pure (.int (b2i i - j))
    | _, _ => bad
  | .mul => match x, y with
    | .int i, .int j => need (mulOk i j) (pure (.int (i * j)))
    | .ref n, .int k => onL n fun a => need (small63 k && szOk (a.length * k.toNat)) (new (.lst (reps a k)))
    | .tup a, .int k => need (decide (2 ≤ k ∧ k ≤ 1000 ∧ a.length ≠ 0 ∧ a.length ≤ 1000)) (pure (.tup (reps a k)))
    | _, _ => bad
  | .mod => match x, y with
    | .int i, .int j => need (decide (0 < j)) (pure (.int (i % j)))
    | _, _ => bad
  | .fdiv => match x, y with
    | .int i, .int j => need (decide (0 < j ∧ j < 1073741824)) (pure (.int (i / j)))
    | _, _ => bad
  | .pow => match x, y with
    | .int i, .int j => need (decide (0 ≤ j ∧ j ≤ 1000000 ∧ i.natAbs < 2 ^ 64)) (pure (.int (i ^ j.toNat)))
    | _, _ => bad

/-- the data of values that == can be asked of -/
def datS (st : Store) (v : Val) : Option PyData := match dat st dDepth v with
  | some d => if PySem.SeqAt.shaped d = true then some d else none
  | none => none
def eqV (st : Store) (x y : Val) : Option Bool := match datS st x, datS st y with
  | some a, some b => some (PyData.eqv a b)
  | _, _ => none
def ask {α β : Type} (f : Store → Option α) (k : α → M β) : M β := fun s => match f s with
  | some a => k a s
  | none => .bad
/-- the items of a list or tuple -/
def items {α : Type} (v : Val) (f : List Val → M α) : M α := match v with
  | .tup xs => f xs
  | .ref n => onL n f
  | .frz xs => f xs
  | _ => bad
/-- x in items -/
def inV (x : Val) (xs : List Val) (st : Store) : Option Bool := match datS st x, (xs.mapM (dat st dDepth)) with
  | some a, some ds => if PySem.SeqAt.shaped (.list ds) = true then some (ds.any fun d => PyData.eqv d a) else none
  | _, _ => none
def inO (x y : Val) (f : Bool → M Val) : M Val := match y with
  | .tup xs => ask (inV x xs) f
  | .frz xs => ask (inV x xs) f
  | .ref n => onO n (fun xs => ask (inV x xs) f) (fun kvs => need (keyFits kvs x) (f (dget kvs x).isSome))
  | _ => bad
def noNone : PyData → Bool
  | .none => false
  | _ => true
def ltV (st : Store) (x y : Val) : Option Bool := match datS st x, datS st y with
  | some a, some b => if (PySem.W.alike a b && noNone a) = true then some (PySem.W.dataLt a b) else none
  | _, _ => none
def cmpop (op : Cmp) (x y : Val) : M Val := match op with
  | .eq => ask (fun s => eqV s x y) fun b => pure (.bool b)
  | .ne => ask (fun s => eqV s x y) fun b => pure (.bool !b)
  | .lt => match x, y with
    | .int i, .int j => pure (.bool (decide (i < j)))
    | _, _ => ask (fun s => ltV s x y) fun b => pure (.bool b)
  | .le => match x, y with
    | .int i, .int j => pure (.bool (decide (i ≤ j)))
    | _, _ => bad
  | .gt => match x, y with
    | .int i, .int j => pure (.bool (decide (j < i)))
    | _, _ => bad
  | .ge => match x, y with
    | .int i, .int j => pure (.bool (decide (j ≤ i)))
    | _, _ => bad
  | .is => match y with
    | .none => pure (.bool (decide (x = .none)))
    | _ => bad
  | .isnot => match y with
    | .none => pure (.bool !(decide (x = .none)))
    | _ => bad
  | .isin => inO x y fun b => pure (.bool b)
  | .notin => inO x y fun b => pure (.bool !b)

def tyB (t u : Ty) : Bool := match t, u with
  | .int, .int => true | .bool, .bool => true | .str, .str => true | .list, .list => true | .tuple, .tuple => true
  | .int, .bool => true
  | _, _ => false
/-- isinstance(v, (t, ..)) -/
def isAny (ts : List Ty) (v : Val) : M Val := match v with
  | .none => pure (.bool false)
  | .bool _ => pure (.bool (ts.any fun t => tyB t .bool))
  | .int _ => pure (.bool (ts.any fun t => tyB t .int))
  | .str _ => pure (.bool (ts.any fun t => tyB t .str))
  | .tup _ => pure (.bool (ts.any fun t => tyB t .tuple))
  | .frz _ => pure (.bool (ts.any fun t => tyB t .list))
  | .ref n => onO n (fun _ => pure (.bool (ts.any fun t => tyB t .list))) (fun _ => pure (.bool false))

/-! ### subscripts, slices -/
def ixN (n : Nat) (i : Int) : Option Nat := if 0 ≤ i then (if i < n then some i.toNat else none) else if -(n : Int) ≤ i then some (i + n).toNat else none
def atV {α : Type} (xs : List α) (i : Int) : Option α := (ixN xs.length i).bind fun j => xs[j]?
def ixM (x y : Val) : M Val := match x with
  | .tup xs => (match y with
    | .int i => ofOpt (atV xs i) pure
    | _ => bad)
  | .frz xs => (match y with
    | .int i => ofOpt (atV xs i) pure
    | _ => bad)
  | .str s => (match y with
    | .int i => need (szOk s.length) (ofOpt (atV s.cps.toList i) fun c => pure (.str ⟨#[c]⟩))
    | _ => bad)
  | .ref n => onO n (fun xs => match y with
      | .int i => ofOpt (atV xs i) pure
      | _ => bad) (fun kvs => need (keyFits kvs y) (ofOpt (dget kvs y) pure))
  | _ => bad
def sIx (n d : Nat) : Option Int → Nat
  | none => d
  | some i => if i < 0 then (i + n).toNat else min i.toNat n
def cutV {α : Type} (xs : List α) (lo hi : Option Int) : List α := (xs.drop (sIx xs.length 0 lo)).take (sIx xs.length xs.length hi - sIx xs.length 0 lo)
def partM (o : Option Val) : Option (Option Int) := match o with
  | none => some none
  | some (.int i) => some (some i)
  | some _ => none
def slM (x : Val) (lo hi : Option Int) : M Val := match x with
  | .tup xs => pure (.tup (cutV xs lo hi))
  | .str s => need (szOk s.length) (pure (.str ⟨(cutV s.cps.toList lo hi).toArray⟩))
  | .ref n => onL n fun xs => new (.lst (cutV xs lo hi))
  | _ => bad
def revM (x : Val) : M Val := match x with
  | .ref n => onL n fun xs => new (.lst xs.reverse)
  | _ => bad

/-! ### built-ins -/
/-! the order that sorted has -/
def allAlikeB (ds : List PyData) : Bool := ds.all fun d => ds.all fun d' => PySem.W.alike d d'
def sortableB (ds : List PyData) : Bool := (ds.all fun d => match d with | .tuple (_ :: _) => true | _ => false) || (ds.all fun d => match d with | .none => false | .tuple _ => false | _ => true)
def sortO (xs : List Val) (st : Store) : Option (List Val) := match xs.mapM (dat st dDepth) with
  | some ds => if (allAlikeB ds && sortableB ds) = true then some (((xs.zip ds).mergeSort (PySem.W.dataLe false (·.2))).map (·.1)) else none
  | none => none
def allBools : List Val → Option (List Bool)
  | [] => some []
  | .bool b :: r => (allBools r).map (b :: ·)
  | _ :: _ => none
def strOfInt (i : Int) : Str := (toString i : String)
def bi (f : Bi) (vs : List Val) : M Val := match f with
  | .len => match vs with
    | [.str s] => need (szOk s.length) (pure (.int s.length))
    | [.tup xs] => pure (.int xs.length)
    | [.frz xs] => pure (.int xs.length)
    | [.ref n] => onO n (fun xs => pure (.int xs.length)) fun kvs => pure (.int kvs.length)
    | _ => bad
  | .list => match vs with
    | [.tup xs] => new (.lst xs)
    | [.ref n] => onO n (fun xs => new (.lst xs)) fun kvs => new (.lst (kvs.map (·.1)))
    | _ => bad
  | .tuple => match vs with
    | [.tup xs] => pure (.tup xs)
    | [.ref n] => onL n fun xs => pure (.tup xs)
    | _ => bad
  | .sorted => match vs with
    | [.tup xs] => ask (sortO xs) fun ys => new (.lst ys)
    | [.ref n] => onL n fun xs => ask (sortO xs) fun ys => new (.lst ys)
    | _ => bad
  | .all => match vs with
    | [.ref n] => onL n fun xs => ofOpt (allBools xs) fun bs => pure (.bool (bs.all id))
    | _ => bad
  | .any => match vs with
    | [.ref n] => onL n fun xs => ofOpt (allBools xs) fun bs => pure (.bool (bs.any id))
    | _ => bad
  | .abs => match vs with
    | [.int i] => pure (.int (if i < 0 then -i else i))
    | _ => bad
  | .int => match vs with
    | [.int i] => pure (.int i)
    | [.bool b] => pure (.int (if b then 1 else 0))
    | _ => bad
  | .min => match vs with
    | [.int i, .int j] => pure (.int (if j < i then j else i))
    | _ => bad
  | .max => match vs with
    | [.int i, .int j] => pure (.int (if j > i then j else i))
    | _ => bad
  | .str => match vs with
    | [.int i] => need (decide (i.natAbs.log2 < 1920)) (pure (.str (strOfInt i)))
    | [.bool b] => pure (.str (if b = true then "True" else "False"))
    | _ => bad
  | .repr => match vs with
    | [v] => ask (fun s => datS s v) fun d => need (d.showable && szOk d.shown.length) (pure (.str d.shown))
    | _ => bad
def insAt {α : Type} (xs : List α) (i : Nat) (x : α) : List α := xs.take i ++ x :: xs.drop i
/-- the first place of an equal item -/
def indexV (x : Val) (xs : List Val) (st : Store) : Option Nat := match datS st x, (xs.mapM (dat st dDepth)) with
  | some a, some ds => if PySem.SeqAt.shaped (.list ds) = true then ds.findIdx? fun d => PyData.eqv d a else none
  | _, _ => none
def mt (m : Mt) (o : Val) (vs : List Val) : M Val := match m with
  | .append => match o, vs with
    | .ref n, [v] => onL n fun xs => need (decide (xs.length < sizeLine)) (put n (.lst (xs ++ [v])) .none)
    | _, _ => bad
  | .insert => match o, vs with
    | .ref n, [.int i, v] => onL n fun xs => need (decide (xs.length < sizeLine) && decide (0 ≤ i ∧ i ≤ xs.length)) (put n (.lst (insAt xs i.toNat v)) .none)
    | _, _ => bad
  | .pop => match o, vs with
    | .ref n, [] => onL n fun xs => ofOpt xs[xs.length - 1]? fun y => put n (.lst xs.dropLast) y
    | _, _ => bad
  | .popAt => match o, vs with
    | .ref n, [.int i] => onL n fun xs => need (small63 i) (ofOpt (ixN xs.length i) fun j => ofOpt xs[j]? fun y => put n (.lst (xs.eraseIdx j)) y)
    | _, _ => bad
  | .extend => match o, vs with
    | .ref n, [.ref k] => onL n fun xs => onL k fun ys => need (szOk (xs.length + ys.length)) (put n (.lst (xs ++ ys)) .none)
    | _, _ => bad
  | .index => match vs with
    | [v] => items o fun xs => ask (indexV v xs) fun j => pure (.int j)
    | _ => bad
  | .setdef => match o, vs with
    | .ref n, [k, v] => onD n fun kvs => need (keyFits kvs k) (match dget kvs k with
        | some u => pure u
        | none => need (decide (kvs.length < sizeLine)) (put n (.dct (dput kvs k v)) v))
    | _, _ => bad
  | .upper => match o, vs with
    | .str a, [] => need (decide (a.length ≤ 5592405)) (pure (.str (PySem.Txt.upper a)))
    | _, _ => bad

def recvL {α : Type} (x : Val) (k : M α) : M α := match x with
  | .ref n => onL n fun _ => k
  | _ => bad
/-- the receiver is of the method's type when it is looked up -/
def mtTy {α : Type} (m : Mt) (x : Val) (k : M α) : M α := match m with
  | .upper => match x with
    | .str _ => k
    | _ => bad
  | .index => match x with
    | .tup _ => k
    | .ref n => onL n fun _ => k
    | _ => bad
  | .setdef => match x with
    | .ref n => onD n fun _ => k
    | _ => bad
  | _ => recvL x k

/-! ### syntax -/
inductive Tg where
  | nm (i : Nat)
  | tp (ts : List Tg)
mutual
inductive E where
  | var (i : Nat) | none | bool (b : Bool) | int (i : Int) | str (s : Str) | glob (x : Str)
  | tup (es : Es) | lst (es : Es) | dic0 | dic1 (k v : E)
  | bin (op : Op) (a b : E) | neg (a : E) | not (a : E)
  | cmp (op : Cmp) (a b : E) | chain (o1 o2 : Cmp) (a b c : E) | and (a b : E) | or (a b : E) | ite (c a b : E)
  | ix (a b : E) | sl (a : E) (lo hi : Oe) | rev (a : E)
  | call (f : Str) (es : Es) | callk (f : Str) (es ks : Es) (sel : List Nat)
  | bi (f : Bi) (es : Es) | lrng (r : Rg) | trng (r : Rg)
  | mt (m : Mt) (o : E) (es : Es)
  | isi (a : E) (ts : List Ty)
  | lc (t : Tg) (it : It) (c : Oe) (e : E) (own : List Nat)
  | dc (t : Tg) (it : It) (k v : E) (own : List Nat)
inductive Es where | nil | cons (e : E) (es : Es)
inductive Oe where | none | some (e : E)
inductive It where | val (e : E) | rng (r : Rg) | enum (e : E) | zip (a b : E) | rev (e : E) | items (e : E) | vals (e : E)
inductive Rg where | one (e : E) | two (a b : E) | three (a b c : E)
end
mutual
inductive S where
  | set (i : Nat) (e : E)
  | unp (ts : List Tg) (e : E)
  | par (is : List Nat) (es : Es)
  | setix (a i v : E)
  | aug (i : Nat) (op : Op) (e : E)
  | ex (e : E) | ret (e : E) | ret0 | ifs (c : E) (a b : Ss) | whl (c : E) (b : Ss) | loop (t : Tg) (it : It) (b : Ss)
  | raise (C : Str) (es : Es) | pass
inductive Ss where | nil | cons (s : S) (r : Ss)
end

/-! ### evaluation -/
abbrev En := List (Option Val)
mutual
def bindT : Tg → Val → En → M En
  | .nm i, v, env => pure (env.set i (some v))
  | .tp ts, v, env => items v fun xs => need (decide (xs.length = ts.length)) (bindTs ts xs env)
def bindTs : List Tg → List Val → En → M En
  | [], [], env => pure env
  | t :: ts, v :: vs, env => do
    let env' ← bindT t v env
    bindTs ts vs env'
  | [], _ :: _, _ => bad
  | _ :: _, [], _ => bad
end
/-- what a turn gives: a value, or a pair that is unpacked at once -/
inductive Itm where
  | one (v : Val)
  | many (vs : List Val)
def bindI : Tg → Itm → En → M En
  | t, .one v, env => bindT t v env
  | .tp ts, .many vs, env => need (decide (vs.length = ts.length)) (bindTs ts vs env)
  | .nm _, .many _, _ => bad
def wipe (env : En) : List Nat → En
  | [] => env
  | v :: vs => (wipe env vs).set v none
structure Src where
  items : List Itm
  chk : List (Nat × Ob)
/-- the objects that are walked stand as they stood -/
def chkM {α : Type} (l : List (Nat × Ob)) (m : M α) : M α := fun s => if l.all (fun p => decide (s[p.1]? = some p.2)) = true then m s else .bad
def srcOf (v : Val) : M Src := match v with
  | .tup xs => pure ⟨xs.map .one, []⟩
  | .frz xs => pure ⟨xs.map .one, []⟩
  | .str s => pure ⟨s.cps.toList.map fun c => .one (.str ⟨#[c]⟩), []⟩
  | .ref n => onL n fun xs => pure ⟨xs.map .one, [(n, .lst xs)]⟩
  | _ => bad
structure Sq where
  vals : List Val
  chk : List (Nat × Ob)
def seqOf (v : Val) : M Sq := match v with
  | .tup xs => pure ⟨xs, []⟩
  | .ref n => onL n fun xs => pure ⟨xs, [(n, .lst xs)]⟩
  | _ => bad
def enumV (i : Nat) : List Val → List Itm
  | [] => []
  | x :: xs => .many [.int i, x] :: enumV (i + 1) xs
def zipV : List Val → List Val → List Itm
  | x :: xs, y :: ys => .many [x, y] :: zipV xs ys
  | _, _ => []
structure RgV where
  lo : Int
  step : Int
  n : Nat
def rgV (g : RgV) : List Val := (List.range g.n).map fun (i : Nat) => .int (g.lo + (i : Int) * g.step)
def small62 (i : Int) : Bool := decide (-(2 ^ 62) ≤ i ∧ i < 2 ^ 62)
def rng2V (vs : List Val) : Option RgV := match vs with
  | [.int j] => if small62 j = true then some ⟨0, 1, j.toNat⟩ else none
  | [.int i, .int j] => if (small62 i && small62 j) = true then some ⟨i, 1, (j - i).toNat⟩ else none
  | _ => none
def rngV (vs : List Val) : Option RgV := match vs with
  | [.int i, .int j, .int c] => if (small62 i && small62 j && decide (c = -1)) = true then some ⟨i, -1, (i - j).toNat⟩ else none
  | _ => rng2V vs
abbrev Hd := Str → List Val → M Val
structure Cfg where
  call : Hd
  glob : Str → Option Val
def onB {α : Type} (v : Val) (f : Bool → M α) : M α := match v with
  | .bool b => f b
  | _ => bad

def lcGo (chk : List (Nat × Ob)) (body : Itm → M (Option Val)) : List Itm → M (List Val)
  | [] => chkM chk (pure [])
  | x :: xs => chkM chk do
    let r ← body x
    let ys ← lcGo chk body xs
    pure (match r with | some y => y :: ys | none => ys)
def dcGo (chk : List (Nat × Ob)) (body : Itm → M (Val × Val)) : List Itm → List (Val × Val) → M (List (Val × Val))
  | [], kvs => chkM chk (pure kvs)
  | x :: xs, kvs => chkM chk do
    let kv ← body x
    need (keyFits kvs kv.1) (dcGo chk body xs (dput kvs kv.1 kv.2))
def pickL {α : Type} (l : List α) (sel : List Nat) : List α := sel.filterMap fun i => l[i]?
def Es.len : Es → Nat
  | .nil => 0
  | .cons _ r => r.len + 1

section
variable (C : Cfg)
mutual
def evalE : E → En → M Val
  | .var i, env => ofOpt (env[i]?.join) pure
  | .none, _ => pure .none
  | .bool b, _ => pure (.bool b)
  | .int i, _ => pure (.int i)
  | .str s, _ => pure (.str s)
  | .glob x, _ => ofOpt (C.glob x) pure
  | .tup es, env => do let vs ← evalEs es env; need (szOk vs.length) (pure (.tup vs))
  | .lst es, env => do let vs ← evalEs es env; need (szOk vs.length) (new (.lst vs))
  | .dic0, _ => new (.dct [])
  | .dic1 k v, env => do let a ← evalE k env; let b ← evalE v env; need (keyFits [] a) (new (.dct [(a, b)]))
  | .bin op a b, env => do let x ← evalE a env; let y ← evalE b env; binop op x y
  | .neg a, env => do
    let x ← evalE a env
    match x with
    | .int i => pure (.int (-i))
    | _ => bad
  | .not a, env => do let x ← evalE a env; onB x fun b => pure (.bool !b)
  | .cmp op a b, env => do let x ← evalE a env; let y ← evalE b env; cmpop op x y
  | .chain o1 o2 a b c, env => do
    let x ← evalE a env
    let y ← evalE b env
    let r ← cmpop o1 x y
    onB r fun k => match k with
      | true => do let z ← evalE c env; cmpop o2 y z
      | false => pure (.bool false)
  | .and a b, env => do
    let x ← evalE a env
    onB x fun k => match k with
      | true => evalE b env
      | false => pure (.bool false)
  | .or a b, env => do
    let x ← evalE a env
    onB x fun k => match k with
      | true => pure (.bool true)
      | false => evalE b env
  | .ite c a b, env => do
    let x ← evalE c env
    onB x fun k => match k with
      | true => evalE a env
      | false => evalE b env
  | .ix a b, env => do let x ← evalE a env; let y ← evalE b env; ixM x y
  | .sl a lo hi, env => do
    let x ← evalE a env
    let l ← evalOe lo env
    ofOpt (partM l) fun l => do
      let h ← evalOe hi env
      ofOpt (partM h) fun h => slM x l h
  | .rev a, env => do let x ← evalE a env; revM x
  | .call f es, env => do let vs ← evalEs es env; need (decide (vs.length = es.len)) (C.call f vs)
  | .callk f es ks sel, env => do let vs ← evalEs es env; let ws ← evalEs ks env; need (decide (vs.length = es.len ∧ ws.length = ks.len)) (C.call f (pickL (vs ++ ws) sel))
  | .bi f es, env => do let vs ← evalEs es env; bi f vs
  | .lrng r, env => do let vs ← evalRg r env; ofOpt (rng2V vs) fun g => need (szOk g.n) (new (.lst (rgV g)))
  | .trng r, env => do let vs ← evalRg r env; ofOpt (rng2V vs) fun g => need (szOk g.n) (pure (.tup (rgV g)))
  | .mt m o es, env => do let x ← evalE o env; mtTy m x (do let vs ← evalEs es env; mt m x vs)
  | .isi a ts, env => do let x ← evalE a env; isAny ts x
  | .lc t it c e own, env => do
    let src ← evalIt it env
    need (szOk src.items.length) do
      let ys ← lcGo src.chk (fun v => do
        let env2 ← bindI t v (wipe env own)
        let k ← evalOe c env2
        match k with
        | Option.none => do let y ← evalE e env2; pure (some y)
        | some z => onB z fun k => match k with
          | true => do let y ← evalE e env2; pure (some y)
          | false => pure Option.none) src.items
      new (.lst ys)
  | .dc t it k v own, env => do
    let src ← evalIt it env
    need (szOk src.items.length) do
      let kvs ← dcGo src.chk (fun x => do
        let env2 ← bindI t x (wipe env own)
        let a ← evalE k env2
        let b ← evalE v env2
        pure (a, b)) src.items []
      new (.dct kvs)
def evalEs : Es → En → M (List Val)
  | .nil, _ => pure []
  | .cons e es, env => do let v ← evalE e env; let vs ← evalEs es env; pure (v :: vs)
def evalOe : Oe → En → M (Option Val)
  | .none, _ => pure Option.none
  | .some e, env => do let v ← evalE e env; pure (some v)
def evalIt : It → En → M Src
  | .val e, env => do let v ← evalE e env; srcOf v
  | .rng r, env => do let vs ← evalRg r env; ofOpt (rngV vs) fun g => pure ⟨(rgV g).map .one, []⟩
  | .enum e, env => do let v ← evalE e env; let s ← seqOf v; pure ⟨enumV 0 s.vals, s.chk⟩
  | .zip a b, env => do
    let x ← evalE a env
    let y ← evalE b env
    let s ← seqOf x
    let u ← seqOf y
    need (decide (s.chk.length = u.chk.length)) (pure ⟨zipV s.vals u.vals, s.chk ++ u.chk⟩)
  | .rev e, env => do let v ← evalE e env; let s ← seqOf v; pure ⟨s.vals.reverse.map .one, s.chk⟩
  | .items e, env => do
    let v ← evalE e env
    match v with
    | .ref n => onD n fun kvs => pure ⟨kvs.map fun p => .many [p.1, p.2], [(n, .dct kvs)]⟩
    | _ => bad
  | .vals e, env => do
    let v ← evalE e env
    match v with
    | .ref n => onD n fun kvs => pure ⟨kvs.map fun p => .one p.2, [(n, .dct kvs)]⟩
    | _ => bad
def evalRg : Rg → En → M (List Val)
  | .one a, env => do let x ← evalE a env; pure [x]
  | .two a b, env => do let x ← evalE a env; let y ← evalE b env; pure [x, y]
  | .three a b c, env => do let x ← evalE a env; let y ← evalE b env; let z ← evalE c env; pure [x, y, z]
end
end

/-! ### statements -/
inductive Fl where
  | nx | br | ct
  | rt (v : Val)
inductive RS where
  | ok (f : Fl) (env : En) (s : Store)
  | exc (C : Str) (v : Option Val) (env : En) (s : Store)
  | bad
/-- an expression, then -/
def RS.from {α : Type} (r : Res α) (env : En) (k : α → Store → RS) : RS := match r with
  | .ok a s => k a s
  | .exc C v s => .exc C v env s
  | .bad => .bad
/-- a statement, then -/
def RS.then (r : RS) (k : En → Store → RS) : RS := match r with
  | .ok .nx env s => k env s
  | .ok f env s => .ok f env s
  | .exc C v env s => .exc C v env s
  | .bad => .bad
/-- a loop's body, then the next turn -/
def RS.turn (r : RS) (k : En → Store → RS) : RS := match r with
  | .ok .nx env s => k env s
  | .ok .ct env s => k env s
  | .ok .br env s => .ok .nx env s
  | .ok (.rt v) env s => .ok (.rt v) env s
  | .exc C v env s => .exc C v env s
  | .bad => .bad
def setixM (a i v : Val) : M Val := match a with
  | .ref n => onO n (fun xs => match i with
      | .int k => ofOpt (ixN xs.length k) fun j => put n (.lst (xs.set j v)) .none
      | _ => bad) fun kvs => need (keyFits kvs i && decide (kvs.length < sizeLine)) (put n (.dct (dput kvs i v)) .none)
  | _ => bad
def augM (op : Op) (x y : Val) : M Val := match op with
  | .add => match x, y with
    | .int i, .int j => pure (.int (i + j))
    | _, _ => bad
  | .mul => match x, y with
    | .int i, .int j => need (mulOk i j) (pure (.int (i * j)))
    | _, _ => bad
  | _ => bad
def parSet (env : En) : List Nat → List Val → En
  | i :: is, v :: vs => parSet (env.set i (some v)) is vs
  | _, _ => env
def forGo (chk : List (Nat × Ob)) (body : Itm → En → Store → RS) : List Itm → En → Store → RS
  | [], env, st => RS.from (chkM chk (pure ()) st) env fun _ st => .ok .nx env st
  | x :: xs, env, st => RS.from (chkM chk (pure ()) st) env fun _ st => (body x env st).turn (forGo chk body xs)
def whlGo (c : En → M Val) (body : En → Store → RS) : Nat → En → Store → RS
  | 0, _, _ => .bad
  | n + 1, env, st => RS.from (c env st) env fun v st => match v with
    | .bool true => (body env st).turn (whlGo c body n)
    | .bool false => .ok .nx env st
    | _ => .bad
section
variable (C : Cfg) (F : Nat)
mutual
def exec : S → En → Store → RS
  | .set i e, env, st => RS.from (evalE C e env st) env fun v st => .ok .nx (env.set i (some v)) st
  | .unp ts e, env, st => RS.from (evalE C e env st) env fun v st => RS.from (bindT (.tp ts) v env st) env fun env' st => .ok .nx env' st
  | .par is es, env, st => RS.from (evalEs C es env st) env fun vs st => if vs.length = is.length then .ok .nx (parSet env is vs) st else .bad
  | .setix a i v, env, st => RS.from (evalE C v env st) env fun z st => RS.from (evalE C a env st) env fun x st => RS.from (evalE C i env st) env fun y st => RS.from (setixM x y z st) env fun _ st => .ok .nx env st
  | .aug i op e, env, st => match env[i]?.join with
    | some x => RS.from (evalE C e env st) env fun y st => RS.from (augM op x y st) env fun z st => .ok .nx (env.set i (some z)) st
    | none => .bad
  | .ex e, env, st => RS.from (evalE C e env st) env fun _ st => .ok .nx env st
  | .ret e, env, st => RS.from (evalE C e env st) env fun v st => .ok (.rt v) env st
  | .ret0, env, st => .ok (.rt .none) env st
  | .ifs c a b, env, st => RS.from (evalE C c env st) env fun v st => match v with
    | .bool true => execs a env st
    | .bool false => execs b env st
    | _ => .bad
  | .whl c b, env, st => whlGo (fun env => evalE C c env) (fun env st => execs b env st) F env st
  | .loop t it b, env, st => RS.from (evalIt C it env st) env fun src st => forGo src.chk (fun v env st => RS.from (bindI t v env st) env fun env' st => execs b env' st) src.items env st
  | .raise _ _, _, _ => .bad
  | .pass, env, st => .ok .nx env st
def execs : Ss → En → Store → RS
  | .nil, env, st => .ok .nx env st
  | .cons s r, env, st => (exec s env st).then fun env st => execs r env st
end
end

/-! ### programs -/
structure Fn where
  np : Nat
  ns : Nat
  body : Ss
structure Prog where
  fns : List (Str × Fn)
  glob : Str → Option Val
def runFn (C : Cfg) (F : Nat) (fd : Fn) (vs : List Val) : M Val := fun st =>
  if vs.length = fd.np then match execs C F fd.body (vs.map some ++ List.replicate (fd.ns - fd.np) none) st with
    | .ok .nx _ st' => .ok .none st'
    | .ok (.rt v) _ st' => .ok v st'
    | .ok _ _ _ => .bad
    | .exc C v _ st' => .exc C v st'
    | .bad => .bad
  else .bad
def callN (P : Prog) (F : Nat) : Nat → Hd
  | 0, _, _ => bad
  | d + 1, f, vs => match P.fns.lookup f with
    | some fd => runFn ⟨callN P F d, P.glob⟩ F fd vs
    | none => bad
end MP
set_option Elab.async false
set_option linter.all false
set_option maxRecDepth 100000
/-! New tuples whose objects are known. -/
namespace MP
open PySem PySem.Spec PyProof.Rows L2

/-- what is wanted behind a new tuple -/
def NewT (H : Hp) (xs : List V) (Q : VK) : Prop := ∀ p o, H p = none → o.dict = none → Q (.ref p) (upd H p (.frz o (.tup xs)))
section
variable {X : Cx} {pins : List (Addr × Obj)} {σ : L2.St} {H : Hp} {s : Shared} {Q : VK}
theorem layT (I : Inv X pins σ H s) {xs : List V} {its : List Value} (r : Vals xs its) (hz : xs.length ≤ sizeLine) (q : NewT H xs Q) (t : Nat := s.toks) :
    EP X pins σ Q (.ref s.heap.objs.size) { s with heap := s.heap.push { cls := .type "tuple", data := .seq its.toArray }, toks := t } :=
  ⟨.ref s.heap.objs.size, upd H s.heap.objs.size (.frz { cls := .type "tuple", data := .seq its.toArray } (.tup xs)), I.laid (t' := t) (fun b u e => Heap.get?_push_of_some _ e) (Nat.le_refl _)
    ⟨Heap.get?_push_size _ rfl, hz, its, r, IsTup.new _ _⟩, rfl, q _ _ (I.hok.fresh (Nat.le_refl _)) rfl⟩
end
section
variable {X : Cx}
def tTupF (t : TA) : TE := fun σ H Q => t σ H fun xs H1 => xs.length ≤ sizeLine ∧ NewT H1 xs Q
theorem pe_tupF {es : List Expr} {t : TA} {pos : Pos} {x1} (h : PA X es t) : PE X (.Tuple es x1 pos) (tTupF t) := by
  refine ⟨fun pins s σ H Q I hq => ?_⟩
  refine wpAny_Tuple_spliced (thn (h.run pos pins s σ H _ I hq) fun us s1 ⟨xs, H1, I1, r, z, q⟩ => ⟨by rw [← r.length]; exact z, ?_⟩)
  exact layT I1 r z q
theorem call_tuple_ofF : CallR X (.type "tuple") (fun xs H Q => ∃ p ys, xs = [.ref p] ∧ ((SqL X.K H p ys ∧ NewT H ys Q) ∨ (SqT X.K H p ys ∧ Q (.ref p) H))) := by
  intro pins s σ H xs us Q I r h
  obtain ⟨p, ys, rfl, h⟩ := h
  obtain ⟨u, rfl, rx⟩ := vals1 r
  cases rx
  rcases h with ⟨hq, q⟩ | ⟨hq, q⟩
  · obtain ⟨its, r', pl, hz⟩ := I.list hq
    have hlen := r'.length
    refine call_tuple_list pl.isList (fun h' kp => ?_) (by simp only [List.size_toArray] <;> omega)
    have I1 : Inv X pins σ H { s with heap := h' } := I.kept (t' := s.toks) kp
    exact layT I1 r' hz q
  · obtain ⟨its, r', pl, hz⟩ := I.tuple hq
    exact call_tuple_same pl ⟨.ref p, H, I, rfl, q⟩
def rCatF (K : PySem.W.Frag) : R2 := fun x y H Q => ∃ a b xs ys, x = .ref a ∧ y = .ref b ∧ SqT K H a xs ∧ SqT K H b ys ∧ xs.length + ys.length ≤ sizeLine ∧
  (xs = [] → Q (.ref b) H) ∧ (xs ≠ [] → ys = [] → Q (.ref a) H) ∧ (xs ≠ [] → ys ≠ [] → NewT H (xs ++ ys) Q)
theorem op_catF : OpR X (binaryOp .Add) (rCatF X.K) := by
  intro pins s σ H x y v u Q I rx ry h
  obtain ⟨a, b, xs, ys, rfl, rfl, ha, hb, hz, q0, q1, q2⟩ := h
  cases rx
  cases ry
  obtain ⟨its, r1, p1, _⟩ := I.tuple ha
  obtain ⟨its2, r2, p2, _⟩ := I.tuple hb
  by_cases hx : xs = []
  · subst hx
    cases r1
    exact cat_tup0 p1 p2 ⟨.ref b, H, I, rfl, q0 rfl⟩
  · refine HT.cat_tup p1 p2 (fun z => hx (r1.nil_iff.mp z)) (fun z => ⟨.ref a, H, I, rfl, q1 hx (r2.nil_iff.mp z)⟩) (fun z => ?_) (by rw [← r1.length, ← r2.length]; exact hz)
    exact layT I (r1.append r2) (by rw [List.length_append]; exact hz) (q2 hx fun w => z (r2.nil_iff.mpr w))
def rSlF (K : PySem.W.Frag) : V → Option Int → Option Int → Hp → VK → Prop := fun x lo hi H Q => ∃ a xs, x = .ref a ∧ SqT K H a xs ∧
  (HT.sIx xs.length 0 lo = 0 ∧ HT.sIx xs.length xs.length hi = xs.length → Q (.ref a) H) ∧ (¬ (HT.sIx xs.length 0 lo = 0 ∧ HT.sIx xs.length xs.length hi = xs.length) → NewT H (L2.cutV xs lo hi) Q)
theorem sl_tupF : SlR X (rSlF X.K) := by
  intro pins s σ H x v vl vu lo hi sl Q I rx hs pl pu h
  obtain ⟨a, xs, rfl, hx, q1, q2⟩ := h
  cases rx
  obtain ⟨its, r, ht, hz⟩ := I.tuple hx
  have hlen : its.toArray.size = xs.length := by rw [List.size_toArray]; exact r.length.symm
  refine ⟨"tuple", _, PyProof.Rows.slot_tuple_getitem.lookup, ht.typeIs, ?_⟩
  by_cases hw : HT.sIx xs.length 0 lo = 0 ∧ HT.sIx xs.length xs.length hi = xs.length
  · exact getItem_tuple_whole ht hs pl pu (by rw [hlen]; exact hw) ⟨.ref a, H, I, rfl, q1 hw⟩
  · refine HT.getItem_tuple_cut ht hs pl pu (by rw [hlen]; exact hw) ?_ (by rw [hlen]; exact hz)
    rw [hlen]
    exact layT (t := s.toks) I ((r.drop (HT.sIx xs.length 0 lo)).take (HT.sIx xs.length xs.length hi - HT.sIx xs.length 0 lo)) (Nat.le_trans (L2.cutV_length xs lo hi) hz) (q2 hw)
def rRepF (K : PySem.W.Frag) : R2 := fun x y H Q => ∃ l k xs, x = .ref l ∧ y = .int k ∧ SqT K H l xs ∧ xs ≠ [] ∧ 2 ≤ k ∧ k ≤ 1000 ∧ xs.length ≤ 1000 ∧ NewT H (List.replicate k.toNat xs).flatten Q
theorem op_repF : OpR X (binaryOp .Mult) (rRepF X.K) := by
  intro pins s σ H x y v u Q I rx ry h
  obtain ⟨l, k, xs, rfl, rfl, hT, hne, h1, h2, hz, q⟩ := h
  cases rx
  obtain ⟨t, rfl⟩ := ry
  obtain ⟨its, r, ⟨⟨cls, dd, data, sl⟩, ho, hc, n, hd⟩, hs⟩ := I.tuple hT
  simp only at hc hd
  subst hc hd
  have hle : its.length = xs.length := r.length.symm
  have hn : its ≠ [] := fun e => hne (by
    rw [e] at hle
    exact List.eq_nil_of_length_eq_zero hle.symm)
  have hi : its.toArray.isEmpty = false := by
    cases its with
    | nil => exact absurd rfl hn
    | cons a b => rfl
  have hsz0 : its.toArray.size = xs.length := by rw [List.size_toArray, hle]
  have hm : ((its.toArray.size : Nat) : Int) * k ≤ 1000000 := by
    rw [hsz0]
    have a1 : ((xs.length : Nat) : Int) * k ≤ 1000 * k := Int.mul_le_mul_of_nonneg_right (by omega) (by omega)
    omega
  have flen : (List.replicate k.toNat its).flatten.length ≤ sizeLine := by
    rw [PyProof.Rows.lm_len_rep_flat, hle, sizeLine_eq]
    have a1 : k.toNat * xs.length ≤ 1000 * 1000 := Nat.mul_le_mul (by omega) hz
    omega
  have c0 : (decide (k < -(2 ^ 63)) || decide (k ≥ 2 ^ 63)) = false := by
    rw [decide_eq_false (by omega), decide_eq_false (by omega)] <;> rfl
  have c1 : (its.toArray.isEmpty || k == 1) = false := by
    rw [hi, Bool.false_or]
    exact beq_eq_false_iff_ne.mpr (by omega)
  have c2 : (decide (k ≤ 0) || its.toArray.isEmpty) = false := by
    rw [hi, Bool.or_false]
    exact decide_eq_false (by omega)
  have c4 : Builtin.Tuple.tupleTooMany (((its.toArray.size : Nat) : Int) * k) = false := by
    unfold Builtin.Tuple.tupleTooMany
    rw [sizeLine_eq]
    exact decide_eq_false (by omega)
  refine wpAny_binaryOp_repeat_ref (T := "tuple") (U := "int") (by decide) ⟨_, ho, rfl⟩ (fun s' => typeIs_int s' k t) noFill_tuple_mul F.fills_int_mul F.slot_int_rmul repeat_tuple F.slot_int_index.lookup
    (call_meets F.slot_int_rmul (typeIs_int s k t) F.entry_int_rmul (F.args_int_rmul_2 _ _) (int_rmul_tuple k t l its.toArray n dd sl)
      ⟨ho, rfl, ⟨_, ho, rfl⟩, call_meets F.slot_tuple_mul ⟨_, ho, rfl⟩ F.entry_tuple_mul (F.args_tuple_mul_2 _ _) (tuple_mulW l its.toArray n dd sl k t c0 c1 c2 (by omega) c4 (by rw [size_rep, List.size_toArray]; exact flen)) ⟨ho, ?_⟩⟩)
  rw [size_rep]
  refine layT (t := s.toks) I (r.rep k.toNat) ?_ q
  rw [PyProof.Rows.lm_len_rep_flat, sizeLine_eq]
  have a1 : k.toNat * xs.length ≤ 1000 * 1000 := Nat.mul_le_mul (by omega) hz
  omega
def tTupRgF (te : L2.St → Hp → (Int → Int → Hp → Prop) → Prop) : TE := fun σ H Q => te σ H fun a b H1 => RgOk a b ∧ NewT H1 (L2.rgV a b) Q
theorem pe_tupRgF {e : Expr} {te : L2.St → Hp → (Int → Int → Hp → Prop) → Prop} {p pos : Pos} (hc : X.calm = true) (hg : Gl X "tuple") (hm : X.mg "tuple" = none) (he : PRg X e te) (na : starEach [e] X.env = (false, eval e X.env) :: starEach [] X.env) : PE X (.Call (.Name "tuple" p) [e] [] pos) (tTupRgF te) := by
  refine ⟨fun pins s σ H Q I h => ?_⟩
  refine Call_ (ld_blt I hg hm boot_tuple (PyProof.Rows.callWith_type1 (args_cons (thn (he pins s σ H _ I h) fun x s1 ⟨r, a, b, t, u, v, H1, ex, hr, I1, ok, q⟩ => args_nil ?_) na) na))
  subst ex
  obtain ⟨b1, b2, b3, b4, b5⟩ := ok
  refine call_tuple_range (n := (b - a).toNat) (I1.ok.hd hc) hr (small_one b1 b2 b3 b4) (rangeSize_nat a b) b5 fun h' tk acc hk hi => ?_
  have I2 : Inv X pins σ H1 { s1 with heap := h', toks := tk } := I1.kept hk
  have z := layT (t := tk) I2 (its := acc.toList) (vals_rg hi) (by rw [L2.rgV_length, sizeLine_eq]; omega) q
  rw [Array.toArray_toList] at z
  exact z
end
end MP
set_option Elab.async false
set_option linter.all false
set_option maxRecDepth 100000
/-! How the small language's values and stores lie in the model's abstract heap. -/
namespace MP
open PySem PySem.Spec PyProof.Rows L2

section
variable (K : PySem.W.Frag) (mp : List Addr) (H : Hp)
/-- a tuple, a locked list that stays -/
def TpR (a : Addr) (vs : List V) : Prop := (a ∉ mp ∧ ∃ o, H a = some (.frz o (.tup vs)) ∧ o.dict = none) ∨
  ∃ (o : PySem.Obj) (its : Array Value) (n : Nat), K.lookup a = some o ∧ o.cls = .type "tuple" ∧ o.dict = none ∧ o.data = .seq its n ∧ its.size ≤ sizeLine ∧ Vals vs its.toList
def LsR (a : Addr) (vs : List V) : Prop := (a ∉ mp ∧ ∃ o, H a = some (.frz o (.lst vs))) ∨
  ∃ (o : PySem.Obj) (its : Array Value) (n : Nat), K.lookup a = some o ∧ o.cls = .type "list" ∧ o.dict = none ∧ o.data = .seq its n ∧ its.size ≤ sizeLine ∧ Vals vs its.toList
mutual
inductive RV : Val → V → Prop
  | none : RV .none .non
  | bool (b) : RV (.bool b) (.bl b)
  | int (i) : RV (.int i) (.int i)
  | str (s) : RV (.str s) (.str s)
  | tup {a vs xs} : TpR K mp H a vs → RVs xs vs → RV (.tup xs) (.ref a)
  | frz {a vs xs} : LsR K mp H a vs → RVs xs vs → RV (.frz xs) (.ref a)
  | ref {n a} : mp[n]? = some a → RV (.ref n) (.ref a)
inductive RVs : List Val → List V → Prop
  | nil : RVs [] []
  | cons {x xs v vs} : RV x v → RVs xs vs → RVs (x :: xs) (v :: vs)
end
end

structure Grow (mp : List Addr) (H : Hp) (mp' : List Addr) (H' : Hp) : Prop where
  pre : ∃ t, mp' = mp ++ t
  frame : ∀ a o, H a = some o → a ∉ mp → H' a = some o ∧ a ∉ mp'

section
variable {K : PySem.W.Frag} {mp mp' mp'' : List Addr} {H H' H'' : Hp}
theorem Grow.refl : Grow mp H mp H := ⟨⟨[], by simp⟩, fun a o e n => ⟨e, n⟩⟩
theorem Grow.trans (g : Grow mp H mp' H') (g' : Grow mp' H' mp'' H'') : Grow mp H mp'' H'' := by
  obtain ⟨⟨t, rfl⟩, f⟩ := g
  obtain ⟨⟨t', rfl⟩, f'⟩ := g'
  refine ⟨⟨t ++ t', by simp⟩, fun a o e n => ?_⟩
  obtain ⟨e1, n1⟩ := f a o e n
  exact f' a o e1 n1
theorem Grow.at (g : Grow mp H mp' H') {n : Nat} {a : Addr} (e : mp[n]? = some a) : mp'[n]? = some a := by
  obtain ⟨t, rfl⟩ := g.pre
  rw [List.getElem?_append_left (List.getElem?_eq_some_iff.mp e).1]
  exact e
theorem TpR.grow (g : Grow mp H mp' H') {a : Addr} {vs : List V} : TpR K mp H a vs → TpR K mp' H' a vs
  | .inl ⟨n, o, e, d⟩ => let ⟨e1, n1⟩ := g.frame a _ e n; .inl ⟨n1, o, e1, d⟩
  | .inr h => .inr h
theorem LsR.grow (g : Grow mp H mp' H') {a : Addr} {vs : List V} : LsR K mp H a vs → LsR K mp' H' a vs
  | .inl ⟨n, o, e⟩ => let ⟨e1, n1⟩ := g.frame a _ e n; .inl ⟨n1, o, e1⟩
  | .inr h => .inr h
mutual
theorem RV.grow (g : Grow mp H mp' H') : ∀ (x : Val) (v : V), RV K mp H x v → RV K mp' H' x v
  | .none, _, h => by cases h; exact .none
  | .bool _, _, h => by cases h; exact .bool _
  | .int _, _, h => by cases h; exact .int _
  | .str _, _, h => by cases h; exact .str _
  | .tup xs, _, h => by
    cases h with
    | tup t r => exact .tup (t.grow g) (RVs.grow g xs _ r)
  | .frz xs, _, h => by
    cases h with
    | frz t r => exact .frz (t.grow g) (RVs.grow g xs _ r)
  | .ref n, _, h => by
    cases h with
    | ref e => exact .ref (g.at e)
theorem RVs.grow (g : Grow mp H mp' H') : ∀ (xs : List Val) (vs : List V), RVs K mp H xs vs → RVs K mp' H' xs vs
  | [], _, h => by cases h; exact .nil
  | x :: xs, _, h => by
    cases h with
    | cons a b => exact .cons (RV.grow g x _ a) (RVs.grow g xs _ b)
end
theorem RVs.length : ∀ {xs : List Val} {vs : List V}, RVs K mp H xs vs → xs.length = vs.length
  | [], _, h => by cases h; rfl
  | x :: xs, _, h => by
    cases h with
    | cons a b => simp [RVs.length b]
theorem RVs.get : ∀ {xs : List Val} {vs : List V} {i : Nat} {x : Val}, RVs K mp H xs vs → xs[i]? = some x → ∃ v, vs[i]? = some v ∧ RV K mp H x v
  | [], _, _, _, _, e => by simp at e
  | x :: xs, _, 0, y, h, e => by
    cases h with
    | cons a b =>
      simp at e; subst e; exact ⟨_, rfl, a⟩
  | x :: xs, _, i + 1, y, h, e => by
    cases h with
    | cons a b =>
      obtain ⟨v, h1, h2⟩ := RVs.get (i := i) (x := y) b (by simpa using e)
      exact ⟨v, by simpa using h1, h2⟩
theorem RVs.append : ∀ {xs ys : List Val} {vs ws : List V}, RVs K mp H xs vs → RVs K mp H ys ws → RVs K mp H (xs ++ ys) (vs ++ ws)
  | [], _, _, _, h, h' => by cases h; exact h'
  | x :: xs, _, _, _, h, h' => by
    cases h with
    | cons a b => exact .cons a (RVs.append b h')
theorem RVs.take : ∀ {xs : List Val} {vs : List V} (n : Nat), RVs K mp H xs vs → RVs K mp H (xs.take n) (vs.take n)
  | [], _, n, h => by cases h; simp; exact .nil
  | x :: xs, _, 0, h => by simp; exact .nil
  | x :: xs, _, n + 1, h => by
    cases h with
    | cons a b => exact .cons a (RVs.take n b)
theorem RVs.drop : ∀ {xs : List Val} {vs : List V} (n : Nat), RVs K mp H xs vs → RVs K mp H (xs.drop n) (vs.drop n)
  | [], _, n, h => by cases h; simp; exact .nil
  | x :: xs, _, 0, h => h
  | x :: xs, _, n + 1, h => by
    cases h with
    | cons a b => exact RVs.drop n b
theorem RVs.set : ∀ {xs : List Val} {vs : List V} {x : Val} {v : V} (n : Nat), RVs K mp H xs vs → RV K mp H x v → RVs K mp H (xs.set n x) (vs.set n v)
  | [], _, _, _, n, h, _ => by cases h; exact .nil
  | x :: xs, _, _, _, 0, h, r => by
    cases h with
    | cons a b => exact .cons r b
  | x :: xs, _, _, _, n + 1, h, r => by
    cases h with
    | cons a b => exact .cons a (RVs.set n b r)
theorem RVs.reverse : ∀ {xs : List Val} {vs : List V}, RVs K mp H xs vs → RVs K mp H xs.reverse vs.reverse
  | [], _, h => by cases h; exact .nil
  | x :: xs, _, h => by
    cases h with
    | cons a b =>
      rw [List.reverse_cons, List.reverse_cons]
      exact RVs.append (RVs.reverse b) (.cons a .nil)
theorem RVs.eraseIdx : ∀ {xs : List Val} {vs : List V} (n : Nat), RVs K mp H xs vs → RVs K mp H (xs.eraseIdx n) (vs.eraseIdx n)
  | [], _, n, h => by cases h; exact .nil
  | x :: xs, _, 0, h => by
    cases h with
    | cons a b => exact b
  | x :: xs, _, n + 1, h => by
    cases h with
    | cons a b => exact .cons a (RVs.eraseIdx n b)
theorem RVs.dropLast {xs : List Val} {vs : List V} (h : RVs K mp H xs vs) : RVs K mp H xs.dropLast vs.dropLast := by
  rw [List.dropLast_eq_take, List.dropLast_eq_take, ← h.length]
  exact h.take _
theorem RVs.reps {xs : List Val} {vs : List V} (h : RVs K mp H xs vs) : ∀ n : Nat, RVs K mp H (List.replicate n xs).flatten (List.replicate n vs).flatten
  | 0 => .nil
  | n + 1 => by
    rw [List.replicate_succ, List.replicate_succ, List.flatten_cons, List.flatten_cons]
    exact h.append (RVs.reps h n)

theorem TpR.sq {a : Addr} {vs : List V} : TpR K mp H a vs → SqT K H a vs
  | .inl ⟨_, o, e, _⟩ => .inl (.inr ⟨o, e⟩)
  | .inr ⟨o, its, n, h1, h2, _, h3⟩ => .inr ⟨o, its, n, h1, h2, h3⟩
theorem LsR.sq {a : Addr} {vs : List V} : LsR K mp H a vs → SqL K H a vs
  | .inl ⟨_, o, e⟩ => .inl (.inr ⟨o, e⟩)
  | .inr h => .inr h
end

/-! ### objects -/
/-- a flat key in the layer's words -/
def keyOf : Val → Option Key
  | .int i => some (.inl i)
  | .str s => some (.inr s)
  | _ => none
section
variable (K : PySem.W.Frag) (mp : List Addr) (H : Hp)
inductive OR (a : Addr) : Ob → Prop
  | lst {xs vs} : H a = some (.lst vs) → RVs K mp H xs vs → OR a (.lst xs)
  | dk {kvs kws} : H a = some (.dK kws) → Paired (fun (p : Val × Val) (q : Key × V) => keyOf p.1 = some q.1 ∧ RV K mp H p.2 q.2) kvs kws → OR a (.dct kvs)
structure SR (st : Store) : Prop where
  len : mp.length = st.length
  nd : mp.Nodup
  obj : ∀ (n : Nat) (a : Addr) (o : Ob), mp[n]? = some a → st[n]? = some o → OR K mp H a o
  no : ∀ a ∈ mp, ∀ vs, H a ≠ some (.tup vs) ∧ ∀ o u, H a ≠ some (.frz o u)
end

section
variable {K : PySem.W.Frag} {mp mp' : List Addr} {H H' : Hp} {st : Store}
theorem SR.at (s : SR K mp H st) {n : Nat} {o : Ob} (e : st[n]? = some o) : ∃ a, mp[n]? = some a ∧ OR K mp H a o := by
  have h1 := (List.getElem?_eq_some_iff.mp e).1
  have h2 : n < mp.length := by rw [s.len]; exact h1
  exact ⟨mp[n], List.getElem?_eq_getElem h2, s.obj n _ o (List.getElem?_eq_getElem h2) e⟩
theorem OR.some {a : Addr} {o : Ob} (h : OR K mp H a o) : ∃ u, H a = some u ∧ Mut (some u) := by
  cases h with
  | lst e _ => exact ⟨_, e, True.intro⟩
  | dk e _ => exact ⟨_, e, True.intro⟩
theorem SR.there (s : SR K mp H st) {a : Addr} (h : a ∈ mp) : ∃ u, H a = some u := by
  obtain ⟨n, hn, e⟩ := List.mem_iff_getElem.mp h
  have h2 : n < st.length := by rw [← s.len]; exact hn
  obtain ⟨u, hu, _⟩ := (s.obj n a st[n] (by rw [← e]; exact List.getElem?_eq_getElem hn) (List.getElem?_eq_getElem h2)).some
  exact ⟨u, hu⟩
theorem SR.notin (s : SR K mp H st) {a : Addr} (h : H a = none) : a ∉ mp := fun m => by
  obtain ⟨u, hu⟩ := s.there m
  rw [h] at hu; cases hu
theorem OR.grow (g : Grow mp H mp' H') {a : Addr} {o : Ob} (e : H' a = H a) (h : OR K mp H a o) : OR K mp' H' a o := by
  cases h with
  | lst h r => exact .lst (e.trans h) (r.grow g)
  | dk h r => exact .dk (e.trans h) (Paired.mapP r fun p q z => ⟨z.1, z.2.grow g⟩)
/-- a new object -/
theorem SR.new (s : SR K mp H st) {p : Addr} {u : HO} {o : Ob} (hp : H p = none) (nt : ∀ vs, u ≠ .tup vs) (nf : ∀ ob w, u ≠ .frz ob w) (ho : Grow mp H (mp ++ [p]) (upd H p u) → OR K (mp ++ [p]) (upd H p u) p o) :
    Grow mp H (mp ++ [p]) (upd H p u) ∧ SR K (mp ++ [p]) (upd H p u) (st ++ [o]) := by
  have np := s.notin hp
  have g : Grow mp H (mp ++ [p]) (upd H p u) := by
    refine ⟨⟨[p], rfl⟩, fun a x e n => ?_⟩
    have ne : a ≠ p := ne_of_none e hp
    exact ⟨by rw [upd_ne ne]; exact e, by simp [n, ne]⟩
  refine ⟨g, ⟨by simp [s.len], ?_, fun n a x e1 e2 => ?_, fun a m vs => ?_⟩⟩
  · rw [List.nodup_append]
    exact ⟨s.nd, by simp, fun a ha b hb => by
      have : b = p := by simpa using hb
      subst this
      intro e; subst e; exact np ha⟩
  · by_cases hn : n < st.length
    · rw [List.getElem?_append_left hn] at e2
      rw [List.getElem?_append_left (by rw [s.len]; exact hn)] at e1
      have z := s.obj n a x e1 e2
      have m : a ∈ mp := List.mem_of_getElem? e1
      have ne : a ≠ p := fun e => np (e ▸ m)
      exact z.grow g (by rw [upd_ne ne])
    · have h1 := (List.getElem?_eq_some_iff.mp e2).1
      simp at h1
      have en : n = st.length := by omega
      subst en
      rw [List.getElem?_append_right (Nat.le_refl _)] at e2
      rw [List.getElem?_append_right (by rw [s.len]; exact Nat.le_refl _)] at e1
      simp at e2
      rw [s.len] at e1
      simp at e1
      subst e1 e2
      exact ho g
  · rcases List.mem_append.mp m with m | m
    · have ne : a ≠ p := fun e => np (e ▸ m)
      rw [upd_ne ne]
      exact s.no a m vs
    · have : a = p := by simpa using m
      subst this
      rw [upd_same]
      exact ⟨fun e => nt _ (Option.some.inj e), fun ob w e => nf _ _ (Option.some.inj e)⟩
theorem SR.newLst (s : SR K mp H st) {p : Addr} {xs : List Val} {vs : List V} (hp : H p = none) (r : RVs K mp H xs vs) :
    Grow mp H (mp ++ [p]) (upd H p (.lst vs)) ∧ SR K (mp ++ [p]) (upd H p (.lst vs)) (st ++ [.lst xs]) ∧ RV K (mp ++ [p]) (upd H p (.lst vs)) (.ref st.length) (.ref p) := by
  obtain ⟨g, s'⟩ := s.new (u := .lst vs) (o := .lst xs) hp (fun _ e => nomatch e) (fun _ _ e => nomatch e) fun g => .lst upd_same (r.grow g)
  exact ⟨g, s', .ref (by rw [← s.len]; simp)⟩
/-- an object is changed -/
theorem SR.put (s : SR K mp H st) {n : Nat} {a : Addr} {u : HO} {o : Ob} (ha : mp[n]? = some a) (nt : ∀ vs, u ≠ .tup vs) (nf : ∀ ob w, u ≠ .frz ob w) (ho : Grow mp H mp (upd H a u) → OR K mp (upd H a u) a o) :
    Grow mp H mp (upd H a u) ∧ SR K mp (upd H a u) (st.set n o) := by
  have m : a ∈ mp := List.mem_of_getElem? ha
  have g : Grow mp H mp (upd H a u) := ⟨⟨[], by simp⟩, fun b x e k => ⟨by rw [upd_ne (fun (z : b = a) => k (by rw [z]; exact m))]; exact e, k⟩⟩
  refine ⟨g, ⟨by simp [s.len], s.nd, fun j b x e1 e2 => ?_, fun b mb vs => ?_⟩⟩
  · by_cases hj : j = n
    · subst hj
      rw [ha] at e1; cases e1
      have h1 : j < st.length := by rw [← s.len]; exact (List.getElem?_eq_some_iff.mp ha).1
      rw [List.getElem?_set_self h1] at e2
      cases e2
      exact ho g
    · rw [List.getElem?_set_ne (Ne.symm hj)] at e2
      have ne : b ≠ a := fun e => by
        subst e
        exact hj ((List.getElem?_inj (List.getElem?_eq_some_iff.mp e1).1 s.nd).mp (e1.trans ha.symm))
      exact (s.obj j b x e1 e2).grow g (by rw [upd_ne ne])
  · by_cases hb : b = a
    · subst hb
      rw [upd_same]
      exact ⟨fun e => nt _ (Option.some.inj e), fun ob w e => nf _ _ (Option.some.inj e)⟩
    · rw [upd_ne hb]; exact s.no b mb vs
/-- a tuple is laid -/
theorem SR.tup (s : SR K mp H st) {p : Addr} {o : Obj} {vs : List V} (hp : H p = none) (hd : o.dict = none) : Grow mp H mp (upd H p (.frz o (.tup vs))) ∧ SR K mp (upd H p (.frz o (.tup vs))) st ∧ TpR K mp (upd H p (.frz o (.tup vs))) p vs := by
  have np := s.notin hp
  have g : Grow mp H mp (upd H p (.frz o (.tup vs))) := ⟨⟨[], by simp⟩, fun b x e k => ⟨by rw [upd_ne (ne_of_none e hp)]; exact e, k⟩⟩
  refine ⟨g, ⟨s.len, s.nd, fun j b x e1 e2 => ?_, fun b mb ws => ?_⟩, .inl ⟨np, o, upd_same, hd⟩⟩
  · have m : b ∈ mp := List.mem_of_getElem? e1
    exact (s.obj j b x e1 e2).grow g (by rw [upd_ne (fun (z : b = p) => np (by rw [← z]; exact m))])
  · rw [upd_ne (fun (z : b = p) => np (by rw [← z]; exact mb))]; exact s.no b mb ws
/-- a pair that a loop lays: no one keeps it -/
theorem SR.pair (s : SR K mp H st) {p : Addr} {vs : List V} (hp : H p = none) : Grow mp H mp (upd H p (.tup vs)) ∧ SR K mp (upd H p (.tup vs)) st := by
  have np := s.notin hp
  have g : Grow mp H mp (upd H p (.tup vs)) := ⟨⟨[], by simp⟩, fun b x e k => ⟨by rw [upd_ne (ne_of_none e hp)]; exact e, k⟩⟩
  refine ⟨g, ⟨s.len, s.nd, fun j b x e1 e2 => ?_, fun b mb ws => ?_⟩⟩
  · have m : b ∈ mp := List.mem_of_getElem? e1
    exact (s.obj j b x e1 e2).grow g (by rw [upd_ne (fun (z : b = p) => np (by rw [← z]; exact m))])
  · rw [upd_ne (fun (z : b = p) => np (by rw [← z]; exact mb))]; exact s.no b mb ws
end

/-! ### behind a step -/
section
variable (K : PySem.W.Frag)
def Aft {α : Type} (mp : List Addr) (H : Hp) (r : Res α) (okP : List Addr → Hp → Store → α → Prop) (exP : List Addr → Hp → Store → Str → Option Val → Prop) : Prop := match r with
  | .ok v st => ∀ mp' H', Grow mp H mp' H' → SR K mp' H' st → okP mp' H' st v
  | .exc C v st => ∀ mp' H', Grow mp H mp' H' → SR K mp' H' st → exP mp' H' st C v
  | .bad => False
end
section
variable {K : PySem.W.Frag} {α β : Type} {mp mp' : List Addr} {H H' : Hp} {st : Store} {okP okP' : List Addr → Hp → Store → α → Prop} {exP exP' : List Addr → Hp → Store → Str → Option Val → Prop}
theorem Aft.grow (g : Grow mp H mp' H') {r : Res α} (h : Aft K mp H r okP exP) : Aft K mp' H' r okP exP := by
  cases r with
  | ok v s => exact fun m1 H1 g1 s1 => h m1 H1 (g.trans g1) s1
  | exc C v s => exact fun m1 H1 g1 s1 => h m1 H1 (g.trans g1) s1
  | bad => exact h
theorem Aft.mono {r : Res α} (h : Aft K mp H r okP exP) (h1 : ∀ m1 H1 s v, Grow mp H m1 H1 → SR K m1 H1 s → okP m1 H1 s v → okP' m1 H1 s v) (h2 : ∀ m1 H1 s C v, Grow mp H m1 H1 → SR K m1 H1 s → exP m1 H1 s C v → exP' m1 H1 s C v) : Aft K mp H r okP' exP' := by
  cases r with
  | ok v s => exact fun m1 H1 g1 s1 => h1 _ _ _ _ g1 s1 (h m1 H1 g1 s1)
  | exc C v s => exact fun m1 H1 g1 s1 => h2 _ _ _ _ _ g1 s1 (h m1 H1 g1 s1)
  | bad => exact h
theorem Aft.bind {m : M α} {f : α → M β} {okP : List Addr → Hp → Store → β → Prop} (h : Aft K mp H ((m >>= f) st) okP exP) :
    Aft K mp H (m st) (fun m1 H1 s1 v => Aft K m1 H1 (f v s1) okP exP) exP := by
  have e : (m >>= f) st = (match m st with
    | .ok a s' => f a s'
    | .exc C v s' => .exc C v s'
    | .bad => .bad) := rfl
  rw [e] at h
  cases hm : m st with
  | ok v s => rw [hm] at h; exact fun m1 H1 g1 s1 => h.grow g1
  | exc C v s => rw [hm] at h; exact h
  | bad => rw [hm] at h; exact h
theorem Aft.ok_now {v : α} {s : Store} (h : Aft K mp H (.ok v s) okP exP) (hs : SR K mp H s) : okP mp H s v := h mp H .refl hs
end
end MP
set_option Elab.async false
set_option linter.all false
set_option maxRecDepth 100000
/-! The operations of the small language are those of the model. -/
namespace MP
open PySem PySem.Spec PyProof.Rows L2

abbrev OkV (K : PySem.W.Frag) (Q : VK) : List Addr → Hp → Store → Val → Prop := fun m1 H1 _ z => ∀ zz, RV K m1 H1 z zz → Q zz H1
abbrev ExP := List Addr → Hp → Store → Str → Option Val → Prop
def Ask (K : PySem.W.Frag) (m : M Val) (mp : List Addr) (st : Store) (H : Hp) (Q : VK) : Prop := SR K mp H st ∧ ∃ exP : ExP, Aft K mp H (m st) (OkV K Q) exP
abbrev RB2 (K : PySem.W.Frag) (f : Val → Val → M Val) : R2 := fun x y H Q => ∃ mp st a b, RV K mp H a x ∧ RV K mp H b y ∧ Ask K (f a b) mp st H Q
abbrev RBs (K : PySem.W.Frag) (f : List Val → M Val) : List V → Hp → VK → Prop := fun xs H Q => ∃ mp st as, RVs K mp H as xs ∧ Ask K (f as) mp st H Q
abbrev RBm (K : PySem.W.Frag) (f : Val → List Val → M Val) : V → List V → Hp → VK → Prop := fun x xs H Q => ∃ mp st a as, RV K mp H a x ∧ RVs K mp H as xs ∧ Ask K (f a as) mp st H Q

section
variable {K : PySem.W.Frag} {α β : Type} {mp : List Addr} {H : Hp} {st : Store} {ok : List Addr → Hp → Store → α → Prop} {ex : ExP} {Q : VK}
theorem need_inv {b : Bool} {m : M α} (h : Aft K mp H (need b m st) ok ex) : b = true ∧ Aft K mp H (m st) ok ex := by
  cases b with
  | true => exact ⟨rfl, h⟩
  | false => exact False.elim h
theorem ofOpt_inv {o : Option β} {f : β → M α} (h : Aft K mp H (ofOpt o f st) ok ex) : ∃ a, o = some a ∧ Aft K mp H (f a st) ok ex := by
  cases o with
  | some a => exact ⟨a, rfl, h⟩
  | none => exact False.elim h
theorem ask_inv {g : Store → Option β} {f : β → M α} (h : Aft K mp H (ask g f st) ok ex) : ∃ a, g st = some a ∧ Aft K mp H (f a st) ok ex := by
  unfold ask at h
  cases e : g st with
  | some a => rw [e] at h; exact ⟨a, rfl, h⟩
  | none => rw [e] at h; exact False.elim h
theorem onL_inv {n : Nat} {a : Addr} {f : List Val → M α} (s : SR K mp H st) (ha : mp[n]? = some a) (h : Aft K mp H (onL n f st) ok ex) :
    ∃ xs vs, st[n]? = some (.lst xs) ∧ H a = some (.lst vs) ∧ RVs K mp H xs vs ∧ Aft K mp H (f xs st) ok ex := by
  unfold onL at h
  cases e : st[n]? with
  | none => rw [e] at h; exact False.elim h
  | some o =>
    rw [e] at h
    cases o with
    | lst xs =>
      have z := s.obj n a _ ha e
      cases z with
      | lst e1 r => exact ⟨xs, _, rfl, e1, r, h⟩
    | dct kvs => exact False.elim h
abbrev KR (K : PySem.W.Frag) (mp : List Addr) (H : Hp) : List (Val × Val) → List (Key × V) → Prop := Paired (fun (p : Val × Val) (q : Key × V) => keyOf p.1 = some q.1 ∧ RV K mp H p.2 q.2)
theorem onO_inv {n : Nat} {a : Addr} {f : List Val → M α} {g : List (Val × Val) → M α} (s : SR K mp H st) (ha : mp[n]? = some a) (h : Aft K mp H (onO n f g st) ok ex) :
    (∃ xs vs, st[n]? = some (.lst xs) ∧ H a = some (.lst vs) ∧ RVs K mp H xs vs ∧ Aft K mp H (f xs st) ok ex) ∨
    (∃ kvs kws, st[n]? = some (.dct kvs) ∧ H a = some (.dK kws) ∧ KR K mp H kvs kws ∧ Aft K mp H (g kvs st) ok ex) := by
  unfold onO at h
  cases e : st[n]? with
  | none => rw [e] at h; exact False.elim h
  | some o =>
    rw [e] at h
    cases o with
    | lst xs =>
      have z := s.obj n a _ ha e
      cases z with
      | lst e1 r => exact .inl ⟨xs, _, rfl, e1, r, h⟩
    | dct kvs =>
      have z := s.obj n a _ ha e
      cases z with
      | dk e1 r => exact .inr ⟨kvs, _, rfl, e1, r, h⟩
theorem pure_inv {v : Val} (s : SR K mp H st) (h : Aft K mp H ((pure v : M Val) st) (OkV K Q) ex) {x : V} (r : RV K mp H v x) : Q x H := h mp H .refl s x r
theorem new_inv {xs : List Val} {vs : List V} (s : SR K mp H st) (h : Aft K mp H (new (.lst xs) st) (OkV K Q) ex) (r : RVs K mp H xs vs) : ∀ p, H p = none → Q (.ref p) (upd H p (.lst vs)) := fun p hp => by
  obtain ⟨g, s', rr⟩ := s.newLst hp r
  exact h _ _ g s' _ rr
theorem tup_inv {xs : List Val} {vs : List V} (s : SR K mp H st) (h : Aft K mp H ((pure (.tup xs) : M Val) st) (OkV K Q) ex) (r : RVs K mp H xs vs) : NewT H vs Q := fun p o hp hd => by
  obtain ⟨g, s', t⟩ := s.tup (vs := vs) hp hd
  exact h _ _ g s' _ (.tup t (RVs.grow g _ _ r))
theorem put_inv {n : Nat} {a : Addr} {v : Val} {x : V} {ys : List Val} {ws : List V} (s : SR K mp H st) (ha : mp[n]? = some a) (h : Aft K mp H (put n (.lst ys) v st) (OkV K Q) ex) (r : RVs K mp H ys ws) (rx : RV K mp H v x) :
    Q x (upd H a (.lst ws)) := by
  obtain ⟨g, s'⟩ := s.put (u := .lst ws) (o := .lst ys) ha (fun _ e => nomatch e) (fun _ _ e => nomatch e) fun g => .lst upd_same (RVs.grow g _ _ r)
  exact h _ _ g s' _ (RV.grow g _ _ rx)
theorem RV.tupS {xs : List Val} {x : V} (r : RV K mp H (.tup xs) x) : ∃ a vs, x = .ref a ∧ TpR K mp H a vs ∧ RVs K mp H xs vs := by
  cases r with
  | tup t r => exact ⟨_, _, rfl, t, r⟩
theorem RV.frzS {xs : List Val} {x : V} (r : RV K mp H (.frz xs) x) : ∃ a vs, x = .ref a ∧ LsR K mp H a vs ∧ RVs K mp H xs vs := by
  cases r with
  | frz t r => exact ⟨_, _, rfl, t, r⟩
theorem RV.refS {n : Nat} {x : V} (r : RV K mp H (.ref n) x) : ∃ a, x = .ref a ∧ mp[n]? = some a := by
  cases r with
  | ref t => exact ⟨_, rfl, t⟩
theorem szOk_le {n : Nat} (h : szOk n = true) : n ≤ sizeLine := of_decide_eq_true h
end

theorem RVs.nil_iff {K : PySem.W.Frag} {mp : List Addr} {H : Hp} {xs : List Val} {vs : List V} (r : RVs K mp H xs vs) : vs = [] ↔ xs = [] := by
  cases r <;> simp

/-! ### data -/
section
variable {K : PySem.W.Frag} {mp : List Addr} {H : Hp} {st : Store}
theorem mapM_nil {α β : Type} {f : α → Option β} : ([] : List α).mapM f = some [] := rfl
theorem mapM_cons {α β : Type} {f : α → Option β} {x : α} {xs : List α} {r : List β} (h : (x :: xs).mapM f = some r) : ∃ y ys, f x = some y ∧ xs.mapM f = some ys ∧ r = y :: ys := by
  rw [List.mapM_cons] at h
  cases e : f x with
  | none => rw [e] at h; cases h
  | some y =>
    rw [e] at h
    cases e2 : xs.mapM f with
    | none => rw [e2] at h; cases h
    | some ys => rw [e2] at h; cases h; exact ⟨y, ys, rfl, rfl, rfl⟩
theorem dpAll_of (sr : SR K mp H st) {d : Nat} (ih : ∀ (v : Val) (x : V) (D : PyData), dat st d v = some D → RV K mp H v x → Dp K H x D) : ∀ (xs : List Val) (vs : List V) (ds : List PyData), xs.mapM (dat st d) = some ds → RVs K mp H xs vs → DpAll K H vs ds
  | [], _, _, h, r => by cases h; cases r; exact .nil
  | x :: xs, _, _, h, r => by
    obtain ⟨y, ys, h1, h2, rfl⟩ := mapM_cons h
    cases r with
    | cons a b => exact .cons (ih _ _ _ h1 a) (dpAll_of sr ih xs _ _ h2 b)
theorem dp_of (sr : SR K mp H st) : ∀ (d : Nat) (v : Val) (x : V) (D : PyData), dat st d v = some D → RV K mp H v x → Dp K H x D
  | d, .none, _, _, h, r => by cases r; cases d <;> (cases h; exact .non)
  | d, .bool b, _, _, h, r => by cases r; cases d <;> (cases h; exact .bl b)
  | d, .int i, _, _, h, r => by cases r; cases d <;> (cases h; exact .int i)
  | d, .str i, _, _, h, r => by cases r; cases d <;> (cases h; exact .str i)
  | 0, .tup _, _, _, h, _ => by cases h
  | 0, .ref _, _, _, h, _ => by cases h
  | 0, .frz _, _, _, h, _ => by cases h
  | d + 1, .tup xs, _, _, h, r => by
    obtain ⟨a, vs, rfl, t, r⟩ := r.tupS
    simp only [dat] at h
    cases e : xs.mapM (dat st d) with
    | none => rw [e] at h; cases h
    | some ds =>
      rw [e] at h; cases h
      exact .tup t.sq (dpAll_of sr (dp_of sr d) xs vs ds e r)
  | d + 1, .frz xs, _, _, h, r => by
    obtain ⟨a, vs, rfl, t, r⟩ := r.frzS
    simp only [dat] at h
    cases e : xs.mapM (dat st d) with
    | none => rw [e] at h; cases h
    | some ds =>
      rw [e] at h; cases h
      exact .lst t.sq (dpAll_of sr (dp_of sr d) xs vs ds e r)
  | d + 1, .ref n, _, _, h, r => by
    obtain ⟨a, rfl, ha⟩ := r.refS
    simp only [dat] at h
    cases e : st[n]? with
    | none => rw [e] at h; cases h
    | some o =>
      rw [e] at h
      cases o with
      | dct kvs => cases h
      | lst xs =>
        have z := sr.obj n a _ ha e
        cases z with
        | lst e1 r =>
          cases e2 : xs.mapM (dat st d) with
          | none => simp only [e2] at h; cases h
          | some ds =>
            simp only [e2] at h; cases h
            exact .lst (SqL.of e1) (dpAll_of sr (dp_of sr d) xs _ ds e2 r)
theorem datS_of (sr : SR K mp H st) {v : Val} {x : V} {D : PyData} (h : datS st v = some D) (r : RV K mp H v x) : Dp K H x D ∧ SeqAt.shaped D = true := by
  unfold datS at h
  cases e : dat st dDepth v with
  | none => rw [e] at h; cases h
  | some d =>
    rw [e] at h
    simp only at h
    split at h
    · cases h; exact ⟨dp_of sr _ _ _ _ e r, by assumption⟩
    · cases h
end

section
variable {X : Cx}
theorem op_addM : OpR X (binaryOp .Add) (RB2 X.K (binop .add)) := by
  intro pins s σ H x y v u Q I rx ry ⟨mp, st, a, b, ra, rb, sr, ex, h⟩
  cases a with
  | int i =>
    cases ra
    cases b with
    | int j => cases rb; exact op_add pins s σ H _ _ v u Q I rx ry ⟨i, j, rfl, rfl, pure_inv sr h (.int _)⟩
    | _ => exact False.elim h
  | str i =>
    cases ra
    cases b with
    | str j =>
      cases rb
      obtain ⟨z, h⟩ := need_inv h
      exact op_add_str pins s σ H _ _ v u Q I rx ry ⟨i, j, rfl, rfl, szOk_le z, pure_inv sr h (.str _)⟩
    | _ => exact False.elim h
  | tup xs =>
    obtain ⟨p, vs, rfl, t, r⟩ := ra.tupS
    cases b with
    | tup ys =>
      obtain ⟨q, ws, rfl, t', r'⟩ := rb.tupS
      obtain ⟨z, h⟩ := need_inv h
      have z' := szOk_le z
      rw [r.length, r'.length] at z'
      refine op_catF pins s σ H _ _ v u Q I rx ry ⟨p, q, vs, ws, rfl, rfl, t.sq, t'.sq, z', fun e => ?_, fun _ e => ?_, fun _ _ => tup_inv sr h (r.append r')⟩
      · have e' := r.nil_iff.mp e
        subst e'
        exact pure_inv sr h (.tup t' r')
      · have e' := r'.nil_iff.mp e
        subst e'
        rw [List.append_nil] at h
        exact pure_inv sr h (.tup t r)
    | _ => exact False.elim h
  | bool i =>
    cases ra
    cases b with
    | int j =>
      cases rb
      cases rx
      obtain ⟨t, rfl⟩ := ry
      exact PySem.IntBool.add_bool_int ⟨.int (b2i i + j), H, I.tok _, ⟨_, rfl⟩, pure_inv sr h (.int _)⟩
    | _ => exact False.elim h
  | ref n =>
    obtain ⟨p, rfl, hp⟩ := ra.refS
    cases b with
    | ref m =>
      obtain ⟨q, rfl, hq⟩ := rb.refS
      obtain ⟨xs, vs, e1, e2, r, h⟩ := onL_inv sr hp h
      obtain ⟨ys, ws, e3, e4, r', h⟩ := onL_inv sr hq h
      obtain ⟨z, h⟩ := need_inv h
      have z' := szOk_le z
      rw [r.length, r'.length] at z'
      exact op_cat pins s σ H _ _ v u Q I rx ry ⟨p, q, vs, ws, rfl, rfl, e2, e4, z', new_inv sr h (r.append r')⟩
    | _ => exact False.elim h
  | _ => cases b <;> exact False.elim h
theorem op_subM : OpR X (binaryOp .Sub) (RB2 X.K (binop .sub)) := by
  intro pins s σ H x y v u Q I rx ry ⟨mp, st, a, b, ra, rb, sr, ex, h⟩
  cases a with
  | int i =>
    cases ra
    cases b with
    | int j => cases rb; exact op_sub pins s σ H _ _ v u Q I rx ry ⟨i, j, rfl, rfl, pure_inv sr h (.int _)⟩
    | _ => exact False.elim h
  | bool i =>
    cases ra
    cases b with
    | int j =>
      cases rb
      cases rx
      obtain ⟨t, rfl⟩ := ry
      exact PySem.IntBool.sub_bool_int ⟨.int (b2i i - j), H, I.tok _, ⟨_, rfl⟩, pure_inv sr h (.int _)⟩
    | _ => exact False.elim h
  | _ => cases b <;> exact False.elim h
theorem op_modM : OpR X (binaryOp .Mod) (RB2 X.K (binop .mod)) := by
  intro pins s σ H x y v u Q I rx ry ⟨mp, st, a, b, ra, rb, sr, ex, h⟩
  cases a with
  | int i =>
    cases ra
    cases b with
    | int j =>
      cases rb
      obtain ⟨z, h⟩ := need_inv h
      exact op_mod pins s σ H _ _ v u Q I rx ry ⟨i, j, rfl, rfl, of_decide_eq_true z, pure_inv sr h (.int _)⟩
    | _ => exact False.elim h
  | _ => cases b <;> exact False.elim h
theorem op_fdivM : OpR X (binaryOp .FloorDiv) (RB2 X.K (binop .fdiv)) := by
  intro pins s σ H x y v u Q I rx ry ⟨mp, st, a, b, ra, rb, sr, ex, h⟩
  cases a with
  | int i =>
    cases ra
    cases b with
    | int j =>
      cases rb
      obtain ⟨z, h⟩ := need_inv h
      exact op_fdiv pins s σ H _ _ v u Q I rx ry ⟨i, j, rfl, rfl, (show 0 < j ∧ j < 1073741824 from of_decide_eq_true z), pure_inv sr h (.int _)⟩
    | _ => exact False.elim h
  | _ => cases b <;> exact False.elim h
theorem op_powM : OpR X (binaryOp .Pow) (RB2 X.K (binop .pow)) := by
  intro pins s σ H x y v u Q I rx ry ⟨mp, st, a, b, ra, rb, sr, ex, h⟩
  cases a with
  | int i =>
    cases ra
    cases b with
    | int j =>
      cases rb
      obtain ⟨z, h⟩ := need_inv h
      exact op_pow pins s σ H _ _ v u Q I rx ry ⟨i, j, rfl, rfl, (show 0 ≤ j ∧ j ≤ 1000000 ∧ i.natAbs < 2 ^ 64 from of_decide_eq_true z), pure_inv sr h (.int _)⟩
    | _ => exact False.elim h
  | _ => cases b <;> exact False.elim h
theorem mulOk_ok {i j : Int} (z : mulOk i j = true) : CMul i j := (show (-(2 ^ 64) < i ∧ i < 2 ^ 64) ∨ (-(2 ^ 64) < j ∧ j < 2 ^ 64) from of_decide_eq_true z)
theorem op_mulM : OpR X (binaryOp .Mult) (RB2 X.K (binop .mul)) := by
  intro pins s σ H x y v u Q I rx ry ⟨mp, st, a, b, ra, rb, sr, ex, h⟩
  cases a with
  | int i =>
    cases ra
    cases b with
    | int j =>
      cases rb
      obtain ⟨z, h⟩ := need_inv h
      exact op_mul pins s σ H _ _ v u Q I rx ry ⟨i, j, rfl, rfl, mulOk_ok z, pure_inv sr h (.int _)⟩
    | _ => exact False.elim h
  | ref n =>
    obtain ⟨p, rfl, hp⟩ := ra.refS
    cases b with
    | int k =>
      cases rb
      obtain ⟨xs, vs, e1, e2, r, h⟩ := onL_inv sr hp h
      obtain ⟨z, h⟩ := need_inv h
      obtain ⟨z1, z2⟩ := Bool.and_eq_true_iff.mp z
      have z3 := of_decide_eq_true z1
      have z4 := szOk_le z2
      rw [r.length] at z4
      exact op_rep pins s σ H _ _ v u Q I rx ry ⟨p, k, vs, rfl, rfl, e2, z3.1, z3.2, z4, new_inv sr h (r.reps _)⟩
    | _ => exact False.elim h
  | tup xs =>
    obtain ⟨p, vs, rfl, t, r⟩ := ra.tupS
    cases b with
    | int k =>
      cases rb
      obtain ⟨z, h⟩ := need_inv h
      obtain ⟨z1, z2, z3, z4⟩ := (show 2 ≤ k ∧ k ≤ 1000 ∧ xs.length ≠ 0 ∧ xs.length ≤ 1000 from of_decide_eq_true z)
      exact op_repF pins s σ H _ _ v u Q I rx ry ⟨p, k, vs, rfl, rfl, t.sq, (fun e => z3 (by rw [r.length, e]; rfl)), z1, z2, by rw [← r.length]; exact z4, tup_inv sr h (r.reps _)⟩
    | _ => exact False.elim h
  | _ => cases b <;> exact False.elim h
theorem op_eqM (hu : X.A.units + 64 < cLine) : OpR X (compareOp .Eq) (RB2 X.K (cmpop .eq)) := by
  intro pins s σ H x y v u Q I rx ry ⟨mp, st, a, b, ra, rb, sr, ex, h⟩
  have h : Aft X.K mp H (ask (fun s => eqV s a b) (fun b => pure (.bool b)) st) (OkV X.K Q) ex := h
  obtain ⟨r, e, h⟩ := ask_inv h
  unfold eqV at e
  cases e1 : datS st a with
  | none => rw [e1] at e; cases e
  | some d1 =>
    cases e2 : datS st b with
    | none => rw [e1, e2] at e; cases e
    | some d2 =>
      rw [e1, e2] at e; cases e
      obtain ⟨p1, p2⟩ := datS_of sr e1 ra
      obtain ⟨q1, q2⟩ := datS_of sr e2 rb
      exact op_eqD hu pins s σ H _ _ v u Q I rx ry ⟨d1, d2, p1, q1, p2, q2, pure_inv sr h (.bool _)⟩
theorem op_neM (hu : X.A.units + 64 < cLine) : OpR X (compareOp .NotEq) (RB2 X.K (cmpop .ne)) := by
  intro pins s σ H x y v u Q I rx ry ⟨mp, st, a, b, ra, rb, sr, ex, h⟩
  have h : Aft X.K mp H (ask (fun s => eqV s a b) (fun b => pure (.bool !b)) st) (OkV X.K Q) ex := h
  obtain ⟨r, e, h⟩ := ask_inv h
  unfold eqV at e
  cases e1 : datS st a with
  | none => rw [e1] at e; cases e
  | some d1 =>
    cases e2 : datS st b with
    | none => rw [e1, e2] at e; cases e
    | some d2 =>
      rw [e1, e2] at e; cases e
      obtain ⟨p1, p2⟩ := datS_of sr e1 ra
      obtain ⟨q1, q2⟩ := datS_of sr e2 rb
      exact op_neD hu pins s σ H _ _ v u Q I rx ry ⟨d1, d2, p1, q1, p2, q2, pure_inv sr h (.bool _)⟩
theorem op_ltM (hu : X.A.units + 64 < cLine) : OpR X (compareOp .Lt) (RB2 X.K (cmpop .lt)) := by
  intro pins s σ H x y v u Q I rx ry ⟨mp, st, a, b, ra, rb, sr, ex, h⟩
  have gen : Aft X.K mp H (ask (fun s => ltV s a b) (fun b => pure (.bool b)) st) (OkV X.K Q) ex → wpAny (model X.prog X.w) X.A (compareOp .Lt v u) (EP X pins σ Q) X.xe s := by
    intro h
    obtain ⟨r, e, h⟩ := ask_inv h
    unfold ltV at e
    cases e1 : datS st a with
    | none => rw [e1] at e; cases e
    | some d1 =>
      cases e2 : datS st b with
      | none => rw [e1, e2] at e; cases e
      | some d2 =>
        rw [e1, e2] at e
        simp only at e
        split at e
        · next hc =>
          cases e
          obtain ⟨c1, c2⟩ := Bool.and_eq_true_iff.mp hc
          obtain ⟨p1, p2⟩ := datS_of sr e1 ra
          obtain ⟨q1, q2⟩ := datS_of sr e2 rb
          obtain ⟨as, r1⟩ := Dp.reads I d1 x v p1 rx
          obtain ⟨bs, r2⟩ := Dp.reads I d2 y u q1 ry
          refine PySem.W.lt_data r1 r2 c1 (fun e => by rw [e] at c2; cases c2) (SeqAt.room_of_shaped p2 hu) ⟨.bl _, H, I, rfl, pure_inv sr h (.bool _)⟩
        · cases e
  cases a with
  | int i =>
    cases b with
    | int j => cases ra; cases rb; exact op_lt pins s σ H _ _ v u Q I rx ry ⟨i, j, rfl, rfl, pure_inv sr h (.bool _)⟩
    | _ => exact gen h
  | _ => exact gen h
theorem op_leM : OpR X (compareOp .LtE) (RB2 X.K (cmpop .le)) := by
  intro pins s σ H x y v u Q I rx ry ⟨mp, st, a, b, ra, rb, sr, ex, h⟩
  cases a with
  | int i =>
    cases ra
    cases b with
    | int j => cases rb; exact op_le pins s σ H _ _ v u Q I rx ry ⟨i, j, rfl, rfl, pure_inv sr h (.bool _)⟩
    | _ => exact False.elim h
  | _ => cases b <;> exact False.elim h
theorem op_gtM : OpR X (compareOp .Gt) (RB2 X.K (cmpop .gt)) := by
  intro pins s σ H x y v u Q I rx ry ⟨mp, st, a, b, ra, rb, sr, ex, h⟩
  cases a with
  | int i =>
    cases ra
    cases b with
    | int j => cases rb; exact op_gt pins s σ H _ _ v u Q I rx ry ⟨i, j, rfl, rfl, pure_inv sr h (.bool _)⟩
    | _ => exact False.elim h
  | _ => cases b <;> exact False.elim h
theorem op_geM : OpR X (compareOp .GtE) (RB2 X.K (cmpop .ge)) := by
  intro pins s σ H x y v u Q I rx ry ⟨mp, st, a, b, ra, rb, sr, ex, h⟩
  cases a with
  | int i =>
    cases ra
    cases b with
    | int j => cases rb; exact op_ge pins s σ H _ _ v u Q I rx ry ⟨i, j, rfl, rfl, pure_inv sr h (.bool _)⟩
    | _ => exact False.elim h
  | _ => cases b <;> exact False.elim h
theorem RV.none_iff {K : PySem.W.Frag} {mp : List Addr} {H : Hp} {a : Val} {x : V} (r : RV K mp H a x) : decide (x = .non) = decide (a = .none) := by
  cases r <;> simp
theorem op_isM : OpR X (compareOp .Is) (RB2 X.K (cmpop .is)) := by
  intro pins s σ H x y v u Q I rx ry ⟨mp, st, a, b, ra, rb, sr, ex, h⟩
  cases b with
  | none =>
    cases rb
    refine op_isN pins s σ H _ _ v u Q I rx ry ⟨rfl, ?_⟩
    rw [ra.none_iff]
    exact pure_inv sr h (.bool _)
  | _ => exact False.elim h
theorem op_isnotM : OpR X (compareOp .IsNot) (RB2 X.K (cmpop .isnot)) := by
  intro pins s σ H x y v u Q I rx ry ⟨mp, st, a, b, ra, rb, sr, ex, h⟩
  cases b with
  | none =>
    cases rb
    refine op_notN pins s σ H _ _ v u Q I rx ry ⟨rfl, ?_⟩
    rw [ra.none_iff]
    exact pure_inv sr h (.bool _)
  | _ => exact False.elim h
end
end MP
set_option Elab.async false
set_option linter.all false
set_option maxRecDepth 100000
/-! More operations of the small language. -/
namespace MP
open PySem PySem.Spec PyProof.Rows L2

section
variable {K : PySem.W.Frag} {mp : List Addr} {H : Hp} {st : Store}
/-- items that read as data -/
theorem dpAll_now (sr : SR K mp H st) {d : Nat} {xs : List Val} {vs : List V} {ds : List PyData} (h : xs.mapM (dat st d) = some ds) (r : RVs K mp H xs vs) : DpAll K H vs ds := dpAll_of sr (dp_of sr d) xs vs ds h r
theorem keyOf_flat {x : Val} (h : isFlatKey x = true) {v : V} (r : RV K mp H x v) : ∃ k, keyOf x = some k ∧ v = kV k := by
  cases x with
  | int i => cases r; exact ⟨.inl i, rfl, rfl⟩
  | str i => cases r; exact ⟨.inr i, rfl, rfl⟩
  | _ => cases h
theorem keyOf_inj {x y : Val} {k : Key} (hx : keyOf x = some k) (hy : keyOf y = some k) : x = y := by
  cases x with
  | int i =>
    cases hx
    cases y with
    | int j => cases hy; rfl
    | _ => cases hy
  | str i =>
    cases hx
    cases y with
    | str j => cases hy; rfl
    | _ => cases hy
  | _ => cases hx
theorem key_dec {x y : Val} {k l : Key} (hx : keyOf x = some k) (hy : keyOf y = some l) : decide (x = y) = decide (k = l) := by
  by_cases h : k = l
  · subst h
    rw [keyOf_inj hx hy]; simp
  · have : x ≠ y := fun e => h (by subst e; rw [hx] at hy; exact Option.some.inj hy)
    simp [h, this]
theorem dget_nil (k : Val) : dget [] k = none := rfl
theorem dget_cons (p : Val × Val) (kvs : List (Val × Val)) (k : Val) : dget (p :: kvs) k = if p.1 = k then some p.2 else dget kvs k := by
  unfold dget
  rw [List.find?_cons]
  by_cases h : p.1 = k <;> simp [h]
theorem valV_cons (p : Key × V) (kvs : List (Key × V)) (k : Key) : valV (p :: kvs) k = if p.1 = k then some p.2 else valV kvs k := by
  unfold valV
  rw [List.find?_cons]
  by_cases h : p.1 = k <;> simp [h]
/-- the same key, the same place -/
theorem dget_rel : ∀ {kvs : List (Val × Val)} {kws : List (Key × V)}, KR K mp H kvs kws → ∀ {x : Val} {k : Key}, keyOf x = some k →
    (dget kvs x = none ∧ valV kws k = none) ∨ ∃ u v, dget kvs x = some u ∧ valV kws k = some v ∧ RV K mp H u v
  | _, _, .nil, x, k, hk => .inl ⟨rfl, rfl⟩
  | p :: kvs, q :: kws, .cons h t, x, k, hk => by
    rw [dget_cons, valV_cons]
    by_cases e : q.1 = k
    · have e' : p.1 = x := keyOf_inj (h.1.trans (congrArg some e)) hk
      rw [if_pos e, if_pos e']
      exact .inr ⟨_, _, rfl, rfl, h.2⟩
    · have e' : p.1 ≠ x := fun z => e (by have := h.1; rw [z, hk] at this; exact (Option.some.inj this).symm)
      rw [if_neg e, if_neg e']
      exact dget_rel t hk
theorem any_rel : ∀ {kvs : List (Val × Val)} {kws : List (Key × V)}, KR K mp H kvs kws → ∀ {x : Val} {k : Key}, keyOf x = some k → (kvs.any fun p => decide (p.1 = x)) = kws.any fun p => decide (p.1 = k)
  | _, _, .nil, x, k, hk => rfl
  | _, _, .cons h t, x, k, hk => by
    rw [List.any_cons, List.any_cons, any_rel t hk, key_dec h.1 hk]
theorem map_rel : ∀ {kvs : List (Val × Val)} {kws : List (Key × V)}, KR K mp H kvs kws → ∀ {x u : Val} {k : Key} {v : V}, keyOf x = some k → RV K mp H u v → KR K mp H (kvs.map fun p => if p.1 = x then (p.1, u) else p) (kws.map fun q => if q.1 = k then (q.1, v) else q)
  | _, _, .nil, _, _, _, _, _, _ => .nil
  | p :: kvs, q :: kws, .cons h t, x, u, k, v, hk, ru => by
    rw [List.map_cons, List.map_cons]
    refine .cons ?_ (map_rel t hk ru)
    by_cases e : q.1 = k
    · have e' : p.1 = x := keyOf_inj (h.1.trans (congrArg some e)) hk
      rw [if_pos e, if_pos e']
      exact ⟨h.1, ru⟩
    · have e' : p.1 ≠ x := fun z => e (by have := h.1; rw [z, hk] at this; exact (Option.some.inj this).symm)
      rw [if_neg e, if_neg e']
      exact h
theorem app_rel : ∀ {kvs kvs' : List (Val × Val)} {kws kws' : List (Key × V)}, KR K mp H kvs kws → KR K mp H kvs' kws' → KR K mp H (kvs ++ kvs') (kws ++ kws')
  | _, _, _, _, .nil, h => h
  | _, _, _, _, .cons a b, h => .cons a (app_rel b h)
theorem put_rel {kvs : List (Val × Val)} {kws : List (Key × V)} (r : KR K mp H kvs kws) {x u : Val} {k : Key} {v : V} (hk : keyOf x = some k) (ru : RV K mp H u v) : KR K mp H (dput kvs x u) (putK kws k v) := by
  unfold dput putK
  rw [any_rel r hk]
  split
  · exact map_rel r hk ru
  · exact app_rel r (.cons ⟨hk, ru⟩ .nil)
end
end MP
set_option Elab.async false
set_option linter.all false
set_option maxRecDepth 100000
/-! in, subscripts, slices. -/
namespace MP
open PySem PySem.Spec PyProof.Rows L2

section
variable {X : Cx} {mp : List Addr} {H : Hp} {st : Store} {pins : List (Addr × Obj)} {s : Shared} {σ : L2.St}
/-- what `x in items` asks -/
theorem inV_inv (sr : SR X.K mp H st) {a : Val} {x : V} {xs : List Val} {vs : List V} {r : Bool} (ra : RV X.K mp H a x) (rs : RVs X.K mp H xs vs) (e : inV a xs st = some r) :
    ∃ d ds, Dp X.K H x d ∧ SeqAt.shaped d = true ∧ DpAll X.K H vs ds ∧ SeqAt.shaped (.list ds) = true ∧ r = ds.any fun z => PyData.eqv z d := by
  unfold inV at e
  cases e1 : datS st a with
  | none => rw [e1] at e; cases e
  | some d =>
    rw [e1] at e
    cases e2 : xs.mapM (dat st dDepth) with
    | none => rw [e2] at e; cases e
    | some ds =>
      rw [e2] at e
      simp only at e
      split at e
      · next hc =>
        cases e
        obtain ⟨p1, p2⟩ := datS_of sr e1 ra
        exact ⟨d, ds, p1, p2, dpAll_now sr e2 rs, hc, rfl⟩
      · cases e
theorem op_inM (hu : X.A.units + 65 < cLine) : OpR X (compareOp .In) (RB2 X.K (cmpop .isin)) := by
  intro pins s σ H x y v u Q I rx ry ⟨mp, st, a, b, ra, rb, sr, ex, h⟩
  have h : Aft X.K mp H (inO a b (fun b => pure (.bool b)) st) (OkV X.K Q) ex := h
  cases b with
  | tup xs =>
    obtain ⟨p, vs, rfl, t, r⟩ := rb.tupS
    obtain ⟨r1, e, h⟩ := ask_inv h
    obtain ⟨d, ds, p1, p2, p3, p4, rfl⟩ := inV_inv sr ra r e
    obtain ⟨as, r1⟩ := Dp.reads I d x v p1 rx
    obtain ⟨bs, r2⟩ := Dp.reads I (.tuple ds) _ u (.tup t.sq p3) ry
    exact SeqAt.in_tuple_reads r2 r1 (SeqAt.canLay_of_shaped p4) (SeqAt.canLay_of_shaped p2) (room_in_shaped p2 hu) ⟨.bl _, H, I, rfl, pure_inv sr h (.bool _)⟩
  | frz xs =>
    obtain ⟨p, vs, rfl, t, r⟩ := rb.frzS
    obtain ⟨r1, e, h⟩ := ask_inv h
    obtain ⟨d, ds, p1, p2, p3, p4, rfl⟩ := inV_inv sr ra r e
    exact op_inD hu pins s σ H _ _ v u Q I rx ry ⟨d, ds, p1, .lst t.sq p3, p2, p4, pure_inv sr h (.bool _)⟩
  | ref n =>
    obtain ⟨p, rfl, hp⟩ := rb.refS
    rcases onO_inv sr hp h with ⟨xs, vs, e1, e2, r, h⟩ | ⟨kvs, kws, e1, e2, r, h⟩
    · obtain ⟨r1, e, h⟩ := ask_inv h
      obtain ⟨d, ds, p1, p2, p3, p4, rfl⟩ := inV_inv sr ra r e
      exact op_inD hu pins s σ H _ _ v u Q I rx ry ⟨d, ds, p1, .lst (SqL.of e2) p3, p2, p4, pure_inv sr h (.bool _)⟩
    · obtain ⟨hk, h⟩ := need_inv h
      obtain ⟨k, hk1, rfl⟩ := keyOf_flat hk ra
      cases ry
      refine d_in (by omega) I (DGet.k e2) rx fun s' I' => ⟨.bl _, H, I', rfl, ?_⟩
      have e : (dget kvs a).isSome = (valV kws k).isSome := by
        rcases dget_rel r hk1 with ⟨g1, g2⟩ | ⟨_, _, g1, g2, _⟩ <;> rw [g1, g2] <;> rfl
      rw [← e]
      exact pure_inv sr h (.bool _)
  | _ => exact False.elim h
theorem op_notinM (hu : X.A.units + 65 < cLine) : OpR X (compareOp .NotIn) (RB2 X.K (cmpop .notin)) := by
  intro pins s σ H x y v u Q I rx ry ⟨mp, st, a, b, ra, rb, sr, ex, h⟩
  have h : Aft X.K mp H (inO a b (fun b => pure (.bool !b)) st) (OkV X.K Q) ex := h
  cases b with
  | tup xs =>
    obtain ⟨p, vs, rfl, t, r⟩ := rb.tupS
    obtain ⟨r1, e, h⟩ := ask_inv h
    obtain ⟨d, ds, p1, p2, p3, p4, rfl⟩ := inV_inv sr ra r e
    obtain ⟨as, r1⟩ := Dp.reads I d x v p1 rx
    obtain ⟨bs, r2⟩ := Dp.reads I (.tuple ds) _ u (.tup t.sq p3) ry
    exact SeqAt.notIn_tuple_reads r2 r1 (SeqAt.canLay_of_shaped p4) (SeqAt.canLay_of_shaped p2) (room_in_shaped p2 hu) ⟨.bl _, H, I, rfl, pure_inv sr h (.bool _)⟩
  | frz xs =>
    obtain ⟨p, vs, rfl, t, r⟩ := rb.frzS
    obtain ⟨r1, e, h⟩ := ask_inv h
    obtain ⟨d, ds, p1, p2, p3, p4, rfl⟩ := inV_inv sr ra r e
    exact op_notInD hu pins s σ H _ _ v u Q I rx ry ⟨d, ds, p1, .lst t.sq p3, p2, p4, pure_inv sr h (.bool _)⟩
  | ref n =>
    obtain ⟨p, rfl, hp⟩ := rb.refS
    rcases onO_inv sr hp h with ⟨xs, vs, e1, e2, r, h⟩ | ⟨kvs, kws, e1, e2, r, h⟩
    · obtain ⟨r1, e, h⟩ := ask_inv h
      obtain ⟨d, ds, p1, p2, p3, p4, rfl⟩ := inV_inv sr ra r e
      exact op_notInD hu pins s σ H _ _ v u Q I rx ry ⟨d, ds, p1, .lst (SqL.of e2) p3, p2, p4, pure_inv sr h (.bool _)⟩
    · obtain ⟨hk, h⟩ := need_inv h
      obtain ⟨k, hk1, rfl⟩ := keyOf_flat hk ra
      cases ry
      refine d_notIn (by omega) I (DGet.k e2) rx fun s' I' => ⟨.bl _, H, I', rfl, ?_⟩
      have e : (dget kvs a).isSome = (valV kws k).isSome := by
        rcases dget_rel r hk1 with ⟨g1, g2⟩ | ⟨_, _, g1, g2, _⟩ <;> rw [g1, g2] <;> rfl
      rw [← e]
      exact pure_inv sr h (.bool _)
  | _ => exact False.elim h

/-! ### subscripts -/
theorem atV_eq {α : Type} (xs : List α) (i : Int) : MP.atV xs i = L2.atI xs i := rfl
theorem at_rel {K : PySem.W.Frag} {xs : List Val} {vs : List V} {i : Int} {a : Val} (r : RVs K mp H xs vs) (h : MP.atV xs i = some a) : ∃ v, L2.atI vs i = some v ∧ RV K mp H a v := by
  rw [atV_eq] at h
  unfold L2.atI at h ⊢
  rw [r.length] at h
  cases e : L2.ixN vs.length i with
  | none => rw [e] at h; cases h
  | some j =>
    rw [e] at h
    exact r.get h
theorem ix_dict (hu : X.A.units + 1 < cLine) : IxR X (fun x y H Q => ∃ a v, x = .ref a ∧ DGet H a y (some v) ∧ Q v H) := by
  intro value slice pins s σ H x y v u Q I rx ry ⟨a, w, ex, g, q⟩ hs
  subst ex
  cases rx
  unfold subscriptTail
  have hT := dict_typeIs I g
  refine wpAny_bind ?_
  rw [getitemInPython_of_ne hT.not_modules]
  refine wpAny_bind (wpAny_specialOf hT PySem.F.slot_dict_getitem.lookup ?_)
  have fin : wpAny (model X.prog X.w) X.A (subscripted slice false (.ref a) u) (fun r s₃ => wpAny (model X.prog X.w) X.A (letTemporaryGo value (.ref a) r >>= fun _ => pure r) (EP X pins σ Q) X.xe s₃) X.xe s := by
    rw [hs]
    exact wpAny_operating (d_getItem hu I g ry fun w' s' I' rw' => wpAny_bind (wpAny_letTemporaryGo (wpAny_pure ⟨w, H, I', rw', q⟩)))
  first
    | exact wpAny_pure (wpAny_bind fin)
    | exact wpAny_bind (wpAny_pure (wpAny_bind fin))
    | exact wpAny_bind fin
theorem ixM_ok (hu : X.A.units + 1 < cLine) : IxR X (RB2 X.K ixM) := by
  intro value slice pins s σ H x y v u Q I rx ry ⟨mp, st, a, b, ra, rb, sr, ex, h⟩ hs
  cases a with
  | tup xs =>
    obtain ⟨p, vs, rfl, t, r⟩ := ra.tupS
    cases b with
    | int i =>
      cases rb
      obtain ⟨a, e, h⟩ := ofOpt_inv h
      obtain ⟨w, e1, rw1⟩ := at_rel r e
      exact ix_tup value slice pins s σ H _ _ v u Q I rx ry ⟨p, vs, i, w, rfl, rfl, t.sq, e1, pure_inv sr h rw1⟩ hs
    | _ => exact False.elim h
  | frz xs =>
    obtain ⟨p, vs, rfl, t, r⟩ := ra.frzS
    cases b with
    | int i =>
      cases rb
      obtain ⟨a, e, h⟩ := ofOpt_inv h
      obtain ⟨w, e1, rw1⟩ := at_rel r e
      exact ix_list value slice pins s σ H _ _ v u Q I rx ry ⟨p, vs, i, w, rfl, rfl, t.sq, e1, pure_inv sr h rw1⟩ hs
    | _ => exact False.elim h
  | str z =>
    cases ra
    cases b with
    | int i =>
      cases rb
      obtain ⟨z1, h⟩ := need_inv h
      obtain ⟨a, e, h⟩ := ofOpt_inv h
      exact ix_str value slice pins s σ H _ _ v u Q I rx ry ⟨z, i, a, rfl, rfl, szOk_le z1, e, pure_inv sr h (.str _)⟩ hs
    | _ => exact False.elim h
  | ref n =>
    obtain ⟨p, rfl, hp⟩ := ra.refS
    rcases onO_inv sr hp h with ⟨xs, vs, e1, e2, r, h⟩ | ⟨kvs, kws, e1, e2, r, h⟩
    · cases b with
      | int i =>
        cases rb
        obtain ⟨a, e, h⟩ := ofOpt_inv h
        obtain ⟨w, e1, rw1⟩ := at_rel r e
        exact ix_list value slice pins s σ H _ _ v u Q I rx ry ⟨p, vs, i, w, rfl, rfl, SqL.of e2, e1, pure_inv sr h rw1⟩ hs
      | _ => exact False.elim h
    · obtain ⟨hk, h⟩ := need_inv h
      obtain ⟨k, hk1, rfl⟩ := keyOf_flat hk rb
      obtain ⟨a, e, h⟩ := ofOpt_inv h
      rcases dget_rel r hk1 with ⟨g1, g2⟩ | ⟨_, w, g1, g2, g3⟩
      · rw [g1] at e; cases e
      · rw [g1] at e; cases e
        exact ix_dict hu value slice pins s σ H _ _ v u Q I rx ry ⟨p, w, rfl, by rw [← g2]; exact DGet.k e2, pure_inv sr h g3⟩ hs
  | _ => exact False.elim h

/-! ### slices -/
theorem cut_rel {K : PySem.W.Frag} {xs : List Val} {vs : List V} (lo hi : Option Int) (r : RVs K mp H xs vs) : RVs K mp H (MP.cutV xs lo hi) (L2.cutV vs lo hi) := by
  unfold MP.cutV L2.cutV
  rw [r.length]
  exact RVs.take _ (RVs.drop _ r)
abbrev RSl (K : PySem.W.Frag) : V → Option Int → Option Int → Hp → VK → Prop := fun x lo hi H Q => ∃ mp st a, RV K mp H a x ∧ Ask K (slM a lo hi) mp st H Q
theorem sl_ok : SlR X (RSl X.K) := by
  intro pins s σ H x v vl vu lo hi sl Q I rx hs pl pu ⟨mp, st, a, ra, sr, ex, h⟩
  cases a with
  | tup xs =>
    obtain ⟨p, vs, rfl, t, r⟩ := ra.tupS
    refine sl_tupF pins s σ H _ v vl vu lo hi sl Q I rx hs pl pu ⟨p, vs, rfl, t.sq, fun z => ?_, fun z => tup_inv sr h (cut_rel lo hi r)⟩
    have e : MP.cutV xs lo hi = xs := by
      have e1 : MP.sIx xs.length 0 lo = 0 := by rw [r.length]; exact z.1
      have e2 : MP.sIx xs.length xs.length hi = xs.length := by rw [r.length]; exact z.2
      unfold MP.cutV
      rw [e1, e2]; simp
    have h : Aft X.K mp H ((pure (.tup (MP.cutV xs lo hi)) : M Val) st) (OkV X.K Q) ex := h
    rw [e] at h
    exact pure_inv sr h (.tup t r)
  | str z =>
    cases ra
    obtain ⟨z1, h⟩ := need_inv h
    refine sl_str pins s σ H _ v vl vu lo hi sl Q I rx hs pl pu ⟨z, rfl, szOk_le z1, ?_⟩
    exact pure_inv sr h (.str _)
  | ref n =>
    obtain ⟨p, rfl, hp⟩ := ra.refS
    obtain ⟨xs, vs, e1, e2, r, h⟩ := onL_inv sr hp h
    exact sl_list pins s σ H _ v vl vu lo hi sl Q I rx hs pl pu ⟨p, vs, rfl, SqL.of e2, new_inv sr h (cut_rel lo hi r)⟩
  | _ => exact False.elim h
end
end MP
set_option Elab.async false
set_option linter.all false
set_option maxRecDepth 100000
/-! Built-in functions. -/
namespace MP
open PySem PySem.Spec PyProof.Rows L2

section
variable {K : PySem.W.Frag} {mp : List Addr} {H : Hp} {st : Store}
theorem RVs.one {xs : List Val} {x : V} {P : Prop} (h : RVs K mp H xs [x]) : ∃ a, xs = [a] ∧ RV K mp H a x := by
  cases h with
  | cons a b => cases b; exact ⟨_, rfl, a⟩
theorem RVs.nilV {vs : List V} (h : RVs K mp H [] vs) : vs = [] := by cases h; rfl
theorem RVs.consV {a : Val} {as : List Val} {vs : List V} (h : RVs K mp H (a :: as) vs) : ∃ x xs, vs = x :: xs ∧ RV K mp H a x ∧ RVs K mp H as xs := by
  cases h with
  | cons a b => exact ⟨_, _, rfl, a, b⟩
theorem RVs.oneV {a : Val} {vs : List V} (h : RVs K mp H [a] vs) : ∃ x, vs = [x] ∧ RV K mp H a x := by
  obtain ⟨x, xs, rfl, r, r2⟩ := h.consV
  cases r2
  exact ⟨_, rfl, r⟩
theorem RVs.twoV {a b : Val} {vs : List V} (h : RVs K mp H [a, b] vs) : ∃ x y, vs = [x, y] ∧ RV K mp H a x ∧ RV K mp H b y := by
  obtain ⟨x, xs, rfl, r, r2⟩ := h.consV
  obtain ⟨y, rfl, r3⟩ := r2.oneV
  exact ⟨_, _, rfl, r, r3⟩
end

section
variable {K : PySem.W.Frag} {mp : List Addr} {H : Hp} {st : Store}
theorem KR.length : ∀ {kvs : List (Val × Val)} {kws : List (Key × V)}, KR K mp H kvs kws → kvs.length = kws.length
  | _, _, .nil => rfl
  | _, _, .cons _ t => by simp [KR.length t]
theorem key_rv {x : Val} {k : Key} (h : keyOf x = some k) : RV K mp H x (kV k) := by
  cases x with
  | int i => cases h; exact .int i
  | str i => cases h; exact .str i
  | _ => cases h
theorem keys_rel : ∀ {kvs : List (Val × Val)} {kws : List (Key × V)}, KR K mp H kvs kws → RVs K mp H (kvs.map (·.1)) (kws.map fun kv => kV kv.1)
  | _, _, .nil => .nil
  | _, _, .cons h t => .cons (key_rv h.1) (keys_rel t)
end

section
variable {X : Cx}
theorem bi_len : CallR X (.builtin "len") (RBs X.K (bi .len)) := by
  intro pins s σ H xs us Q I r ⟨mp, st, as, ra, sr, ex, h⟩
  unfold bi at h
  match as, ra, h with
  | [], _, h => exact False.elim h
  | _ :: _ :: _, _, h => exact False.elim (by simp at h; exact h)
  | [a], ra, h =>
    obtain ⟨x, rfl, rx⟩ := ra.oneV
    cases a with
    | str z =>
      cases rx
      obtain ⟨z1, h⟩ := need_inv h
      exact call_len_str pins s σ H _ us Q I r ⟨z, rfl, szOk_le z1, pure_inv sr h (.int _)⟩
    | tup xs =>
      obtain ⟨p, vs, rfl, t, r'⟩ := rx.tupS
      refine call_len_seq pins s σ H _ us Q I r ⟨p, vs, rfl, .inr t.sq, ?_⟩
      rw [← r'.length]
      exact pure_inv sr h (.int _)
    | frz xs =>
      obtain ⟨p, vs, rfl, t, r'⟩ := rx.frzS
      refine call_len_seq pins s σ H _ us Q I r ⟨p, vs, rfl, .inl t.sq, ?_⟩
      rw [← r'.length]
      exact pure_inv sr h (.int _)
    | ref n =>
      obtain ⟨p, rfl, hp⟩ := rx.refS
      rcases onO_inv sr hp h with ⟨xs, vs, e1, e2, r', h⟩ | ⟨kvs, kws, e1, e2, r', h⟩
      · refine call_len_seq pins s σ H _ us Q I r ⟨p, vs, rfl, .inl (SqL.of e2), ?_⟩
        rw [← r'.length]
        exact pure_inv sr h (.int _)
      · obtain ⟨u, rfl, ru⟩ := vals1 r
        cases ru
        refine d_len I (.inl e2) fun t s' I' => ⟨.int _, H, I', ⟨t, rfl⟩, ?_⟩
        have e : kws.length = kvs.length := (KR.length r').symm
        rw [e]
        exact pure_inv sr h (.int _)
    | _ => exact False.elim h
theorem bi_list (hc : X.calm = true) : CallR X (.type "list") (RBs X.K (bi .list)) := by
  intro pins s σ H xs us Q I r ⟨mp, st, as, ra, sr, ex, h⟩
  unfold bi at h
  match as, ra, h with
  | [], _, h => exact False.elim h
  | _ :: _ :: _, _, h => exact False.elim (by simp at h; exact h)
  | [a], ra, h =>
    obtain ⟨x, rfl, rx⟩ := ra.oneV
    cases a with
    | tup xs =>
      obtain ⟨p, vs, rfl, t, r'⟩ := rx.tupS
      exact call_list_of pins s σ H _ us Q I r ⟨p, vs, rfl, .inr t.sq, new_inv sr h r'⟩
    | ref n =>
      obtain ⟨p, rfl, hp⟩ := rx.refS
      rcases onO_inv sr hp h with ⟨xs, vs, e1, e2, r', h⟩ | ⟨kvs, kws, e1, e2, r', h⟩
      · exact call_list_of pins s σ H _ us Q I r ⟨p, vs, rfl, .inl (SqL.of e2), new_inv sr h r'⟩
      · exact call_list_dK hc pins s σ H _ us Q I r ⟨p, kws, rfl, e2, new_inv sr h (keys_rel r')⟩
    | _ => exact False.elim h
theorem bi_tuple : CallR X (.type "tuple") (RBs X.K (bi .tuple)) := by
  intro pins s σ H xs us Q I r ⟨mp, st, as, ra, sr, ex, h⟩
  unfold bi at h
  match as, ra, h with
  | [], _, h => exact False.elim h
  | _ :: _ :: _, _, h => exact False.elim (by simp at h; exact h)
  | [a], ra, h =>
    obtain ⟨x, rfl, rx⟩ := ra.oneV
    cases a with
    | tup xs =>
      obtain ⟨p, vs, rfl, t, r'⟩ := rx.tupS
      exact call_tuple_ofF pins s σ H _ us Q I r ⟨p, vs, rfl, .inr ⟨t.sq, pure_inv sr h rx⟩⟩
    | ref n =>
      obtain ⟨p, rfl, hp⟩ := rx.refS
      obtain ⟨xs, vs, e1, e2, r', h⟩ := onL_inv sr hp h
      exact call_tuple_ofF pins s σ H _ us Q I r ⟨p, vs, rfl, .inl ⟨SqL.of e2, tup_inv sr h r'⟩⟩
    | _ => exact False.elim h
theorem bools_rel {K : PySem.W.Frag} {mp : List Addr} {H : Hp} : ∀ {xs : List Val} {vs : List V} {bs : List Bool}, RVs K mp H xs vs → allBools xs = some bs → vs = bs.map V.bl
  | [], _, _, r, e => by cases r; cases e; rfl
  | x :: xs, _, bs, r, e => by
    cases r with
    | cons a b =>
      cases x with
      | bool c =>
        unfold allBools at e
        cases e1 : allBools xs with
        | none => rw [e1] at e; cases e
        | some cs =>
          rw [e1] at e; cases e
          cases a
          rw [bools_rel b e1]; rfl
      | _ => cases e
theorem bi_all (hc : X.calm = true) : CallR X (.builtin "all") (RBs X.K (bi .all)) := by
  intro pins s σ H xs us Q I r ⟨mp, st, as, ra, sr, ex, h⟩
  unfold bi at h
  match as, ra, h with
  | [], _, h => exact False.elim h
  | _ :: _ :: _, _, h => exact False.elim (by simp at h; exact h)
  | [a], ra, h =>
    obtain ⟨x, rfl, rx⟩ := ra.oneV
    cases a with
    | ref n =>
      obtain ⟨p, rfl, hp⟩ := rx.refS
      obtain ⟨xs, vs, e1, e2, r', h⟩ := onL_inv sr hp h
      obtain ⟨bs, e3, h⟩ := ofOpt_inv h
      refine cr_all hc pins s σ H _ us Q I r ⟨p, bs, rfl, SqL.of (by rw [e2, bools_rel r' e3]), pure_inv sr h (.bool _)⟩
    | _ => exact False.elim h
theorem bi_any (hc : X.calm = true) : CallR X (.builtin "any") (RBs X.K (bi .any)) := by
  intro pins s σ H xs us Q I r ⟨mp, st, as, ra, sr, ex, h⟩
  unfold bi at h
  match as, ra, h with
  | [], _, h => exact False.elim h
  | _ :: _ :: _, _, h => exact False.elim (by simp at h; exact h)
  | [a], ra, h =>
    obtain ⟨x, rfl, rx⟩ := ra.oneV
    cases a with
    | ref n =>
      obtain ⟨p, rfl, hp⟩ := rx.refS
      obtain ⟨xs, vs, e1, e2, r', h⟩ := onL_inv sr hp h
      obtain ⟨bs, e3, h⟩ := ofOpt_inv h
      refine cr_any hc pins s σ H _ us Q I r ⟨p, bs, rfl, SqL.of (by rw [e2, bools_rel r' e3]), pure_inv sr h (.bool _)⟩
    | _ => exact False.elim h
theorem bi_abs : CallR X (.builtin "abs") (RBs X.K (bi .abs)) := by
  intro pins s σ H xs us Q I r ⟨mp, st, as, ra, sr, ex, h⟩
  unfold bi at h
  match as, ra, h with
  | [], _, h => exact False.elim h
  | _ :: _ :: _, _, h => exact False.elim (by simp at h; exact h)
  | [a], ra, h =>
    obtain ⟨x, rfl, rx⟩ := ra.oneV
    cases a with
    | int i => cases rx; exact call_abs pins s σ H _ us Q I r ⟨i, rfl, pure_inv sr h (.int _)⟩
    | _ => exact False.elim h
theorem bi_int : CallR X (.type "int") (RBs X.K (bi .int)) := by
  intro pins s σ H xs us Q I r ⟨mp, st, as, ra, sr, ex, h⟩
  unfold bi at h
  match as, ra, h with
  | [], _, h => exact False.elim h
  | _ :: _ :: _, _, h => exact False.elim (by simp at h; exact h)
  | [a], ra, h =>
    obtain ⟨x, rfl, rx⟩ := ra.oneV
    cases a with
    | int i => cases rx; exact call_int1 pins s σ H _ us Q I r (.inl ⟨i, rfl, pure_inv sr h (.int _)⟩)
    | bool i => cases rx; exact call_int1 pins s σ H _ us Q I r (.inr ⟨i, rfl, pure_inv sr h (.int _)⟩)
    | _ => exact False.elim h
theorem bi_str : CallR X (.type "str") (RBs X.K (bi .str)) := by
  intro pins s σ H xs us Q I r ⟨mp, st, as, ra, sr, ex, h⟩
  unfold bi at h
  match as, ra, h with
  | [], _, h => exact False.elim h
  | _ :: _ :: _, _, h => exact False.elim (by simp at h; exact h)
  | [a], ra, h =>
    obtain ⟨x, rfl, rx⟩ := ra.oneV
    cases a with
    | int i =>
      cases rx
      obtain ⟨z, h⟩ := need_inv h
      exact call_str_int pins s σ H _ us Q I r ⟨i, rfl, of_decide_eq_true z, pure_inv sr h (.str _)⟩
    | bool b =>
      cases rx
      obtain ⟨u, rfl, ru⟩ := vals1 r
      cases ru
      have q := pure_inv sr h (.str _)
      refine PySem.P.str_of_bool ⟨.str _, H, I.tok _, ⟨_, rfl⟩, ?_⟩
      cases b <;> exact q
    | _ => exact False.elim h
theorem bi_min (hc : X.calm = true) : CallR X (.builtin "min") (RBs X.K (bi .min)) := by
  intro pins s σ H xs us Q I r ⟨mp, st, as, ra, sr, ex, h⟩
  unfold bi at h
  match as, ra, h with
  | [], _, h => exact False.elim h
  | [a], _, h => exact False.elim (by cases a <;> exact h)
  | a :: b :: _ :: _, _, h => exact False.elim (by cases a <;> cases b <;> exact h)
  | [a, b], ra, h =>
    obtain ⟨x, y, rfl, rx, ry⟩ := ra.twoV
    cases a with
    | int i =>
      cases b with
      | int j => cases rx; cases ry; exact call_min2 hc pins s σ H _ us Q I r ⟨i, j, rfl, pure_inv sr h (.int _)⟩
      | _ => exact False.elim h
    | _ => cases b <;> exact False.elim h
theorem bi_max (hc : X.calm = true) : CallR X (.builtin "max") (RBs X.K (bi .max)) := by
  intro pins s σ H xs us Q I r ⟨mp, st, as, ra, sr, ex, h⟩
  unfold bi at h
  match as, ra, h with
  | [], _, h => exact False.elim h
  | [a], _, h => exact False.elim (by cases a <;> exact h)
  | a :: b :: _ :: _, _, h => exact False.elim (by cases a <;> cases b <;> exact h)
  | [a, b], ra, h =>
    obtain ⟨x, y, rfl, rx, ry⟩ := ra.twoV
    cases a with
    | int i =>
      cases b with
      | int j => cases rx; cases ry; exact call_max2 hc pins s σ H _ us Q I r ⟨i, j, rfl, pure_inv sr h (.int _)⟩
      | _ => exact False.elim h
    | _ => cases b <;> exact False.elim h
/-! ### sorted -/
/-- what an item is: the value and its data -/
def ItR (X : Cx) (mp : List Addr) (H : Hp) (s : Shared) (v : Value) (b : Val × PyData) : Prop := ∃ x, RelV x v ∧ RV X.K mp H b.1 x
theorem depth_le (st : Store) : ∀ (d : Nat) (v : Val) (D : PyData), dat st d v = some D → D.depth ≤ d
  | d, .none, _, h => by cases d <;> (cases h; simp [PyData.depth])
  | d, .bool b, _, h => by cases d <;> (cases h; simp [PyData.depth])
  | d, .int i, _, h => by cases d <;> (cases h; simp [PyData.depth])
  | d, .str i, _, h => by cases d <;> (cases h; simp [PyData.depth])
  | 0, .tup _, _, h => by cases h
  | 0, .ref _, _, h => by cases h
  | 0, .frz _, _, h => by cases h
  | d + 1, .tup xs, _, h => by
    simp only [dat] at h
    cases e : xs.mapM (dat st d) with
    | none => rw [e] at h; cases h
    | some ds => rw [e] at h; cases h; simp only [PyData.depth]; have := depths d xs ds e; omega
  | d + 1, .frz xs, _, h => by
    simp only [dat] at h
    cases e : xs.mapM (dat st d) with
    | none => rw [e] at h; cases h
    | some ds => rw [e] at h; cases h; simp only [PyData.depth]; have := depths d xs ds e; omega
  | d + 1, .ref n, _, h => by
    simp only [dat] at h
    cases e : st[n]? with
    | none => rw [e] at h; cases h
    | some o =>
      rw [e] at h
      cases o with
      | dct kvs => cases h
      | lst xs =>
        cases e2 : xs.mapM (dat st d) with
        | none => simp only [e2] at h; cases h
        | some ds => simp only [e2] at h; cases h; simp only [PyData.depth]; have := depths d xs ds e2; omega
where
  depths (d : Nat) : ∀ (xs : List Val) (ds : List PyData), xs.mapM (dat st d) = some ds → PyData.depthAll ds ≤ d
  | [], _, h => by cases h; simp [PyData.depthAll]
  | x :: xs, _, h => by
    obtain ⟨y, ys, h1, h2, rfl⟩ := mapM_cons h
    have a := depth_le st d x y h1
    have b := depths d xs ys h2
    simp only [PyData.depthAll]; omega
end
end MP
set_option Elab.async false
set_option linter.all false
set_option maxRecDepth 100000
/-! sorted, repr. -/
namespace MP
open PySem PySem.Spec PyProof.Rows PySem.W

theorem sorted_any {prog : Program} {w : World} {A : Around} {E : Value → Shared → Prop} {s : Shared} {Q : Value → Shared → Prop} {p : Addr} {T : String} {o : Obj} {its : List Value} {n : Nat} {β : Type} {bs : List β} {enc : β → PyData} {R : Value → β → Prop}
    (hT : T = "list" ∨ T = "tuple") (ho : s.heap.get? p = some o) (hc : o.cls = .type T) (hd : o.data = .seq its.toArray n) (hL : its.length ≤ sizeLine)
    (e : EachIs R its bs) (er : EachIs (fun v b => ∃ as, Reads s.heap v (enc b) as) its bs) (hal : AllAlike (bs.map enc)) (hk : Sortable (bs.map enc))
    (hu : ∀ b, b ∈ bs → A.units + 2 + (enc b).depth < cLine)
    (h : ∀ (h1 h' : Heap) (out : List Value) (c : Nat), (∀ b o, s.heap.get? b = some o → h1.get? b = some o) → (∀ b o, h1.get? b = some o → h'.get? b = some o) → h'.get? h1.objs.size = some (seqObj "list" (List.toArray out) c) → EachIs R out (bs.mergeSort (dataLe false enc)) → Q (.ref h1.objs.size) { s with heap := h' }) :
    wpAny (model prog w) A (call (.builtin "sorted") [.ref p]) Q E s := by
  refine Calls.call_function_entry kind_sorted plain_sorted entry_sorted (args_sorted1 _) ?_
  unfold Builtin.«sorted»
  refine wpAny_bind (m := checkCount "sorted" 1 1 _) (wpAny_pure ?_)
  refine wpAny_bind (wpAny_collect_seq p hT ho hc hd (fun h1 k1 => ?_) (by rw [List.size_toArray]; exact hL))
  refine wpAny_bind (wpAny_newList ?_ hL)
  have hoL : (h1.push (seqObj "list" its.toArray 0)).get? h1.objs.size = some (seqObj "list" its.toArray 0) := Heap.get?_push_size _ rfl
  have k2 : ∀ b o, s.heap.get? b = some o → (sortingHeap (h1.push (seqObj "list" its.toArray 0)) h1.objs.size its).get? b = some o := fun b o q =>
    sortingHeap_old (Nat.ne_of_lt (Heap.lt_size (k1 b o q))) (Heap.get?_push_of_some _ (k1 b o q))
  have er' : EachIs (fun v b => ∃ as, Reads (sortingHeap (h1.push (seqObj "list" its.toArray 0)) h1.objs.size its) v (enc b) as) its bs := er.mono fun _ _ ⟨as, r⟩ => ⟨as, PyProof.Rows.Reads.keeps k2 r⟩
  show wpAny _ _ _ _ _ { s with heap := h1.push (seqObj "list" its.toArray 0) }
  refine wpAny_bind (wpAny_holding (wpAny_call_entry slot_list_sort ⟨_, hoL, rfl⟩ entry_list_sort
    (list_sort_vals (κ := dataKind (sortingHeap (h1.push (seqObj "list" its.toArray 0)) h1.objs.size its) (bs.map enc)) (s := { s with heap := h1.push (seqObj "list" its.toArray 0) }) hoL
      (SortsAt.data (s := { s with heap := sortingHeap (h1.push (seqObj "list" its.toArray 0)) h1.objs.size its }) (each_map (R := fun v d => ∃ as, Reads (sortingHeap (h1.push (seqObj "list" its.toArray 0)) h1.objs.size its) v d as) enc er') hal hk (bound_map (A := A.in1.in1) hu)) hL ⟨.none, rfl, ?_⟩) (args_list_sort _)))
  obtain ⟨c, hc'⟩ := sortedHeap_at (vs := its) (out := (sortVals (dataKind (sortingHeap (h1.push (seqObj "list" its.toArray 0)) h1.objs.size its) (bs.map enc)) false its its).toArray) hoL
  exact wpAny_pure ⟨_, rfl, h h1 _ _ c k1 (fun b o q => (sortedHeap_old (Nat.ne_of_lt (Heap.lt_size q)) (by rw [size_push']; exact Nat.lt_succ_of_lt (Heap.lt_size q))).trans (Heap.get?_push_of_some _ q)) hc' (sortVals_data false e er' hal)⟩

theorem allAlike_of {ds : List PyData} (h : allAlikeB ds = true) : AllAlike ds := fun d hd d' hd' => List.all_eq_true.mp (List.all_eq_true.mp h d hd) d' hd'
theorem sortable_of {ds : List PyData} (h : sortableB ds = true) : Sortable ds := by
  rcases Bool.or_eq_true_iff.mp h with h | h
  · refine .inl fun d hd => ?_
    have := List.all_eq_true.mp h d hd
    cases d with
    | tuple xs =>
      cases xs with
      | nil => cases this
      | cons x r => exact ⟨x, r, rfl⟩
    | _ => cases this
  · refine .inr fun d hd => ?_
    have := List.all_eq_true.mp h d hd
    cases d <;> first | (cases this; done) | exact ⟨by simp, by simp⟩
open L2
theorem depth_mem : ∀ (xs : List PyData) (x : PyData), x ∈ xs → x.depth ≤ PyData.depthAll xs
  | y :: ys, x, h => by
    simp only [PyData.depthAll]
    rcases List.mem_cons.mp h with e | h
    · subst e; omega
    · have := depth_mem ys x h; omega
theorem zip_each {X : L2.Cx} {pins : List (Addr × Obj)} {σ : L2.St} {H : Hp} {s : Shared} {mp : List Addr} (I : L2.Inv X pins σ H s) : ∀ {xs : List Val} {vs : List V} {us : List Value} {ds : List PyData}, RVs X.K mp H xs vs → Vals vs us → DpAll X.K H vs ds →
    EachIs (ItR X mp H s) us (xs.zip ds) ∧ EachIs (fun v b => ∃ as, Reads s.heap v b.2 as) us (xs.zip ds) ∧ (xs.zip ds).map (·.2) = ds
  | [], _, _, _, a, b, c => by cases a; cases b; cases c; exact ⟨.nil, .nil, rfl⟩
  | x :: xs, _, _, _, a, b, c => by
    cases a with
    | cons a1 a2 =>
      cases b with
      | cons b1 b2 =>
        cases c with
        | cons c1 c2 =>
          obtain ⟨h1, h2, h3⟩ := zip_each I a2 b2 c2
          exact ⟨.cons ⟨_, b1, a1⟩ h1, .cons (Dp.reads I _ _ _ c1 b1) h2, by rw [List.zip_cons_cons, List.map_cons, h3]⟩
theorem each_back {X : L2.Cx} {mp : List Addr} {H : Hp} {s : Shared} : ∀ {us : List Value} {bs : List (Val × PyData)}, EachIs (ItR X mp H s) us bs → ∃ vs, Vals vs us ∧ RVs X.K mp H (bs.map (·.1)) vs
  | _, _, .nil => ⟨[], .nil, .nil⟩
  | _, _, .cons ⟨x, r1, r2⟩ t => by
    obtain ⟨vs, h1, h2⟩ := each_back t
    exact ⟨x :: vs, .cons r1 h1, .cons r2 h2⟩
theorem sorted_core {X : L2.Cx} {pins : List (Addr × Obj)} {σ : L2.St} {H : Hp} {s : Shared} {mp : List Addr} {st : Store} {Q : VK} {ex : ExP} (hu : X.A.units + 65 < cLine) (I : L2.Inv X pins σ H s) (sr : SR X.K mp H st) {p : Addr} {T : String} {o : Obj} {its : List Value} {n : Nat}
    (hT : T = "list" ∨ T = "tuple") (ho : s.heap.get? p = some o) (hc : o.cls = .type T) (hd : o.data = .seq its.toArray n) (hL : its.length ≤ sizeLine)
    {xs ys : List Val} {vs : List V} (r : RVs X.K mp H xs vs) (rv : Vals vs its) (hs : sortO xs st = some ys) (h : Aft X.K mp H (new (.lst ys) st) (OkV X.K Q) ex) :
    wpAny (model X.prog X.w) X.A (call (.builtin "sorted") [.ref p]) (EP X pins σ Q) X.xe s := by
  unfold sortO at hs
  cases e : xs.mapM (dat st dDepth) with
  | none => rw [e] at hs; cases hs
  | some ds =>
    rw [e] at hs
    simp only at hs
    split at hs
    · next hb =>
      cases hs
      obtain ⟨c1, c2⟩ := Bool.and_eq_true_iff.mp hb
      obtain ⟨z1, z2, z3⟩ := zip_each I r rv (dpAll_now sr e r)
      have hdep : PyData.depthAll ds ≤ dDepth := depth_le.depths st _ _ _ e
      refine sorted_any (enc := fun b : Val × PyData => b.2) hT ho hc hd hL z1 z2 (by rw [z3]; exact allAlike_of c1) (by rw [z3]; exact sortable_of c2) (fun b hb => ?_) fun h1 h' out c k1 k2 hq eo => ?_
      · have hm : b.2 ∈ ds := by rw [← z3]; exact List.mem_map.mpr ⟨b, hb, rfl⟩
        have := depth_mem _ _ hm
        unfold dDepth at hdep
        omega
      · obtain ⟨ws, w1, w2⟩ := each_back eo
        have I1 : L2.Inv X pins σ H { s with heap := h1 } := I.kept (t' := s.toks) k1
        have hlen : ws.length ≤ sizeLine := by
          have a1 := w2.length
          have a2 : ((xs.zip ds).mergeSort (dataLe false fun b => b.2)).length = (xs.zip ds).length := List.length_mergeSort _
          rw [List.length_map, a2, List.length_zip] at a1
          have a3 := r.length
          have a4 := rv.length
          omega
        exact ⟨.ref h1.objs.size, upd H h1.objs.size (.lst ws), I1.laid (t' := s.toks) k2 (Nat.le_refl _) (show ObjOk X.prog X.w _ h' _ (.lst ws) from ⟨hlen, out, c, w1, hq⟩), rfl, new_inv sr h w2 _ (I1.hok.fresh (Nat.le_refl _))⟩
    · cases hs
theorem bi_sorted {X : L2.Cx} (hu : X.A.units + 65 < cLine) : CallR X (.builtin "sorted") (RBs X.K (bi .sorted)) := by
  intro pins s σ H xs us Q I r ⟨mp, st, as, ra, sr, ex, h⟩
  unfold bi at h
  match as, ra, h with
  | [], _, h => exact False.elim h
  | _ :: _ :: _, _, h => exact False.elim (by simp at h; exact h)
  | [a], ra, h =>
    obtain ⟨x, rfl, rx⟩ := ra.oneV
    cases a with
    | tup xs =>
      obtain ⟨p, vs, rfl, t, r'⟩ := rx.tupS
      obtain ⟨ys, e, h⟩ := ask_inv h
      obtain ⟨u, rfl, ru⟩ := vals1 r
      cases ru
      obtain ⟨its, rv, ⟨o, ho, hc, n, hd⟩, hz⟩ := I.tuple t.sq
      exact sorted_core hu I sr (.inr rfl) ho hc hd (by rw [← rv.length]; exact hz) r' rv e h
    | ref n =>
      obtain ⟨p, rfl, hp⟩ := rx.refS
      obtain ⟨xs, vs, e1, e2, r', h⟩ := onL_inv sr hp h
      obtain ⟨ys, e, h⟩ := ask_inv h
      obtain ⟨u, rfl, ru⟩ := vals1 r
      cases ru
      obtain ⟨its, rv, pl, hz⟩ := I.list (SqL.of (K := X.K) e2)
      obtain ⟨o, ho, hc, n, hd⟩ := pl.isList
      exact sorted_core hu I sr (.inl rfl) ho hc hd (by rw [← rv.length]; exact hz) r' rv e h
    | _ => exact False.elim h
/-! ### repr -/
theorem bi_repr {X : L2.Cx} (hg : X.A.guards = some []) (hu : X.A.units + 65 < cLine) : CallR X (.builtin "repr") (RBs X.K (bi .repr)) := by
  intro pins s σ H xs us Q I r ⟨mp, st, as, ra, sr, ex, h⟩
  unfold bi at h
  match as, ra, h with
  | [], _, h => exact False.elim h
  | _ :: _ :: _, _, h => exact False.elim (by simp at h; exact h)
  | [a], ra, h =>
    obtain ⟨x, rfl, rx⟩ := ra.oneV
    obtain ⟨d, e, h⟩ := ask_inv h
    obtain ⟨z, h⟩ := need_inv h
    obtain ⟨z1, z2⟩ := Bool.and_eq_true_iff.mp z
    have z3 := szOk_le z2
    obtain ⟨p1, p2⟩ := datS_of sr e rx
    obtain ⟨u, rfl, ru⟩ := vals1 r
    obtain ⟨as, rd⟩ := Dp.reads I d x u p1 ru
    have hdep := SeqAt.depth_of_shaped p2
    have hq := pure_inv sr h (.str _)
    have atom : ∀ a', u = .ref a' → wpAny (model X.prog X.w) X.A (call (.builtin "repr") [u]) (EP X pins σ Q) X.xe s := fun a' e => by
      subst e
      refine repr_of_reads' rd z1 (PyData.noDict_hsm (PyData.hasDict_of_canLay d (SeqAt.canLay_of_shaped p2))) hg (by omega) (fun _ _ q => q) (fun h' t tk hk => ?_) z3
      exact ⟨.str _, H, I.kept (t' := tk) hk, ⟨_, rfl⟩, hq⟩
    cases rd with
    | none => exact PySem.P.repr_of_none ⟨.str _, H, I.tok _, ⟨_, rfl⟩, hq⟩
    | bool b => exact PySem.P.repr_of_bool ⟨.str _, H, I.tok _, ⟨_, rfl⟩, by simpa [PyData.shown] using hq⟩
    | int i t => exact PySem.P.repr_of_int (by simpa [PyData.showable] using z1) ⟨.str _, H, I.tok _, ⟨_, rfl⟩, by simpa [PyData.shown] using hq⟩
    | str b => exact PySem.P.repr_of_str ⟨.str _, H, I.tok _, ⟨_, rfl⟩, by simpa [PyData.shown] using hq⟩ (by simpa [PyData.shown] using z3)
    | list _ _ _ _ => exact atom _ rfl
    | tuple _ _ _ _ => exact atom _ rfl
    | dict _ _ _ _ _ => exact atom _ rfl
end MP
set_option Elab.async false
set_option linter.all false
set_option maxRecDepth 100000
/-! isinstance, methods, stores. -/
namespace MP
open PySem PySem.Spec PyProof.Rows L2

/-! ### isinstance -/
def tyS : Ty → String
  | .int => "int" | .bool => "bool" | .str => "str" | .list => "list" | .tuple => "tuple"
/-- the type's name of a value -/
inductive TyN (st : Store) : Val → String → Prop
  | none : TyN st .none "NoneType"
  | bool (b) : TyN st (.bool b) "bool"
  | int (b) : TyN st (.int b) "int"
  | str (b) : TyN st (.str b) "str"
  | tup (b) : TyN st (.tup b) "tuple"
  | frz (b) : TyN st (.frz b) "list"
  | lst {n xs} : st[n]? = some (.lst xs) → TyN st (.ref n) "list"
  | dct {n xs} : st[n]? = some (.dct xs) → TyN st (.ref n) "dict"
section
variable {K : PySem.W.Frag} {mp : List Addr} {H : Hp} {st : Store}
theorem ty_of (sr : SR K mp H st) {a : Val} {x : V} {T : String} (t : TyN st a T) (r : RV K mp H a x) : TyX K H x (.type T) := by
  cases t with
  | none => cases r; exact .base .non
  | bool => cases r; exact .base (.bl _)
  | int => cases r; exact .base (.int _)
  | str => cases r; exact .base (.str _)
  | tup =>
    obtain ⟨p, vs, rfl, t, _⟩ := r.tupS
    rcases t with ⟨_, o, e, _⟩ | ⟨o, its, n, e, hc, _⟩
    · exact .fTuple e
    · exact .kTuple e hc
  | frz =>
    obtain ⟨p, vs, rfl, t, _⟩ := r.frzS
    rcases t with ⟨_, o, e⟩ | ⟨o, its, n, e, hc, _⟩
    · exact .base (.frz e)
    · exact .kList e hc
  | lst e =>
    obtain ⟨p, rfl, hp⟩ := r.refS
    cases sr.obj _ _ _ hp e with
    | lst h _ => exact .base (.lst h)
  | dct e =>
    obtain ⟨p, rfl, hp⟩ := r.refS
    cases sr.obj _ _ _ hp e with
    | dk h _ => exact .base (.dK h)
def isT (T : String) (t : Ty) : Bool := match T with
    | "bool" => tyB t .bool | "int" => tyB t .int | "str" => tyB t .str | "tuple" => tyB t .tuple | "list" => tyB t .list | _ => false
/-- what isinstance answers -/
theorem kit1 (T : String) (t : Ty) (h : T = "NoneType" ∨ T = "bool" ∨ T = "int" ∨ T = "str" ∨ T = "tuple" ∨ T = "list" ∨ T = "dict") : kitB T (tyS t) = some (isT T t) := by
  rcases h with rfl | rfl | rfl | rfl | rfl | rfl | rfl <;> cases t <;> decide +kernel
theorem TyN.cases {a : Val} {T : String} (t : TyN st a T) : T = "NoneType" ∨ T = "bool" ∨ T = "int" ∨ T = "str" ∨ T = "tuple" ∨ T = "list" ∨ T = "dict" := by cases t <;> simp
theorem isAny_inv {a : Val} {ts : List Ty} {ok : List Addr → Hp → Store → Val → Prop} {ex : ExP} (h : Aft K mp H (isAny ts a st) ok ex) : ∃ T, TyN st a T ∧ Aft K mp H ((pure (.bool (ts.any fun t => isT T t)) : M Val) st) ok ex := by
  cases a with
  | none => exact ⟨_, .none, by
      have e : (ts.any fun t => isT "NoneType" t) = false := List.any_eq_false.mpr fun t _ => by cases t <;> simp [isT]
      rw [e]; exact h⟩
  | bool b => exact ⟨_, .bool b, h⟩
  | int b => exact ⟨_, .int b, h⟩
  | str b => exact ⟨_, .str b, h⟩
  | tup b => exact ⟨_, .tup b, h⟩
  | frz b => exact ⟨_, .frz b, h⟩
  | ref n =>
    unfold isAny onO at h
    cases e : st[n]? with
    | none => simp only [e] at h; exact False.elim h
    | some o =>
      cases o with
      | lst xs => simp only [e] at h; exact ⟨_, .lst e, h⟩
      | dct xs => simp only [e] at h; exact ⟨_, .dct e, by
          have e : (ts.any fun t => isT "dict" t) = false := List.any_eq_false.mpr fun t _ => by cases t <;> simp [isT]
          rw [e]; exact h⟩
theorem kitAll {T : String} (hT : T = "NoneType" ∨ T = "bool" ∨ T = "int" ∨ T = "str" ∨ T = "tuple" ∨ T = "list" ∨ T = "dict") : ∀ ts : List Ty, PySem.W.kitAny K (.type T) (ts.map fun t => .type (tyS t)) = some (ts.any fun t => isT T t)
  | [] => rfl
  | t :: ts => kitAny_cons (kit_ty (kit1 T t hT)) (fun e => by
      rw [kitAll hT ts, List.any_cons]
      have e' : isT T t = false := e
      rw [e', Bool.false_or]) fun e => by
      have e' : isT T t = true := e
      rw [List.any_cons, e', Bool.true_or]
end

/-! ### methods -/
section
variable {X : Cx}
theorem mt_appendM : MtR X "list.append" (RBm X.K (mt .append)) := by
  intro pins s σ H x xs v us Q I rx rxs ⟨mp, st, a, as, ra, ras, sr, ex, h⟩
  unfold mt at h
  cases a with
  | ref n =>
    obtain ⟨p, rfl, hp⟩ := ra.refS
    match as, ras, h with
    | [], _, h => exact False.elim h
    | _ :: _ :: _, _, h => exact False.elim h
    | [b], ras, h =>
      obtain ⟨y, rfl, ry⟩ := ras.oneV
      obtain ⟨xs, vs, e1, e2, r, h⟩ := onL_inv sr hp h
      obtain ⟨z, h⟩ := need_inv h
      exact mt_append pins s σ H _ _ v us Q I rx rxs ⟨p, vs, y, rfl, rfl, e2, by rw [← r.length]; exact of_decide_eq_true z, put_inv sr hp h (r.append (.cons ry .nil)) .none⟩
  | _ => exact False.elim h
theorem mt_insertM : MtR X "list.insert" (RBm X.K (mt .insert)) := by
  intro pins s σ H x xs v us Q I rx rxs ⟨mp, st, a, as, ra, ras, sr, ex, h⟩
  unfold mt at h
  cases a with
  | ref n =>
    obtain ⟨p, rfl, hp⟩ := ra.refS
    match as, ras, h with
    | [], _, h => exact False.elim h
    | [b], _, h => exact False.elim (by cases b <;> exact h)
    | b :: _ :: _ :: _, _, h => exact False.elim (by cases b <;> exact h)
    | [b, c], ras, h =>
      obtain ⟨y, z, rfl, ry, rz⟩ := ras.twoV
      cases b with
      | int i =>
        cases ry
        obtain ⟨xs, vs, e1, e2, r, h⟩ := onL_inv sr hp h
        obtain ⟨w, h⟩ := need_inv h
        obtain ⟨w1, w2⟩ := Bool.and_eq_true_iff.mp w
        have w1 : xs.length < sizeLine := of_decide_eq_true w1
        have w2 : 0 ≤ i ∧ i ≤ xs.length := of_decide_eq_true w2
        have hs := sizeLine_eq
        refine mt_insert pins s σ H _ _ v us Q I rx rxs ⟨p, vs, i, z, rfl, rfl, e2, by rw [← r.length]; exact w1, w2.1, by omega, put_inv sr hp h ?_ .none⟩
        rw [List.append_assoc]
        exact RVs.append (RVs.take _ r) (.cons rz (RVs.drop _ r))
      | _ => exact False.elim h
  | _ => exact False.elim h
theorem mt_popM : MtR X "list.pop" (fun x xs H Q => RBm X.K (mt .pop) x xs H Q ∨ RBm X.K (mt .popAt) x xs H Q) := by
  intro pins s σ H x xs v us Q I rx rxs h
  rcases h with ⟨mp, st, a, as, ra, ras, sr, ex, h⟩ | ⟨mp, st, a, as, ra, ras, sr, ex, h⟩
  · unfold mt at h
    cases a with
    | ref n =>
      obtain ⟨p, rfl, hp⟩ := ra.refS
      match as, ras, h with
      | _ :: _, _, h => exact False.elim h
      | [], ras, h =>
        have e := ras.nilV
        subst e
        obtain ⟨xs, vs, e1, e2, r, h⟩ := onL_inv sr hp h
        obtain ⟨y, hy, h⟩ := ofOpt_inv h
        obtain ⟨w, hw, rw1⟩ := r.get hy
        exact mt_pop pins s σ H _ _ v us Q I rx rxs ⟨p, vs, w, rfl, rfl, e2, by rw [← r.length]; exact hw, put_inv sr hp h r.dropLast rw1⟩
    | _ => exact False.elim h
  · unfold mt at h
    cases a with
    | ref n =>
      obtain ⟨p, rfl, hp⟩ := ra.refS
      match as, ras, h with
      | [], _, h => exact False.elim h
      | b :: _ :: _, _, h => exact False.elim (by cases b <;> exact h)
      | [b], ras, h =>
        obtain ⟨y, rfl, ry⟩ := ras.oneV
        cases b with
        | int i =>
          cases ry
          obtain ⟨xs, vs, e1, e2, r, h⟩ := onL_inv sr hp h
          obtain ⟨w, h⟩ := need_inv h
          have w := (show -(2 ^ 63) ≤ i ∧ i < 2 ^ 63 from of_decide_eq_true w)
          obtain ⟨j, hj, h⟩ := ofOpt_inv h
          obtain ⟨y, hy, h⟩ := ofOpt_inv h
          obtain ⟨q, hw, rw1⟩ := r.get hy
          have hj' : L2.ixN vs.length i = some j := by rw [← r.length]; exact hj
          exact mt_popAt pins s σ H _ _ v us Q I rx rxs ⟨p, vs, i, j, q, rfl, rfl, e2, w.1, w.2, (L2.ixN_seq hj').1, hw, put_inv sr hp h (r.eraseIdx j) rw1⟩
        | _ => exact False.elim h
    | _ => exact False.elim h
theorem mt_extendM : MtR X "list.extend" (RBm X.K (mt .extend)) := by
  intro pins s σ H x xs v us Q I rx rxs ⟨mp, st, a, as, ra, ras, sr, ex, h⟩
  unfold mt at h
  cases a with
  | ref n =>
    obtain ⟨p, rfl, hp⟩ := ra.refS
    match as, ras, h with
    | [], _, h => exact False.elim h
    | b :: _ :: _, _, h => exact False.elim (by cases b <;> exact h)
    | [b], ras, h =>
      obtain ⟨y, rfl, ry⟩ := ras.oneV
      cases b with
      | ref m =>
        obtain ⟨q, rfl, hq⟩ := ry.refS
        obtain ⟨xs, vs, e1, e2, r, h⟩ := onL_inv sr hp h
        obtain ⟨ys, ws, e3, e4, r', h⟩ := onL_inv sr hq h
        obtain ⟨z, h⟩ := need_inv h
        have z := szOk_le z
        exact mt_extend pins s σ H _ _ v us Q I rx rxs ⟨p, q, vs, ws, rfl, rfl, e2, e4, by rw [← r.length, ← r'.length]; exact z, put_inv sr hp h (r.append r') .none⟩
      | _ => exact False.elim h
  | _ => exact False.elim h
theorem mt_upperM : MtR X "str.upper" (RBm X.K (mt .upper)) := by
  intro pins s σ H x xs v us Q I rx rxs ⟨mp, st, a, as, ra, ras, sr, ex, h⟩
  unfold mt at h
  cases a with
  | str z =>
    cases ra
    match as, ras, h with
    | _ :: _, _, h => exact False.elim h
    | [], ras, h =>
      have e := ras.nilV
      subst e
      obtain ⟨w, h⟩ := need_inv h
      exact L2.mt_upper pins s σ H _ _ v us Q I rx rxs ⟨z, rfl, rfl, of_decide_eq_true w, pure_inv sr h (.str _)⟩
  | _ => exact False.elim h
end
end MP
set_option Elab.async false
set_option linter.all false
set_option maxRecDepth 100000
/-! index, stores, aug. -/
namespace MP
open PySem PySem.Spec PyProof.Rows L2

theorem findIdx_spec {α : Type} (p : α → Bool) : ∀ (xs : List α) (j : Nat), xs.findIdx? p = some j → (∃ z, xs[j]? = some z ∧ p z = true) ∧ ∀ m z, m < j → xs[m]? = some z → p z = false := by
  intro xs j h
  obtain ⟨h1, h2, h3⟩ := List.findIdx?_eq_some_iff_getElem.mp h
  refine ⟨⟨xs[j], List.getElem?_eq_getElem h1, h2⟩, fun m z hm e => ?_⟩
  have hl : m < xs.length := by omega
  rw [List.getElem?_eq_getElem hl] at e
  cases e
  have := h3 m hm
  simpa using this
section
variable {X : Cx}
theorem indexV_inv {mp : List Addr} {H : Hp} {st : Store} (sr : SR X.K mp H st) {a : Val} {x : V} {xs : List Val} {vs : List V} {j : Nat} (ra : RV X.K mp H a x) (rs : RVs X.K mp H xs vs) (e : indexV a xs st = some j) :
    ∃ d ds z, Dp X.K H x d ∧ SeqAt.shaped d = true ∧ DpAll X.K H vs ds ∧ SeqAt.shaped (.list ds) = true ∧ ds[j]? = some z ∧ PyData.eqv z d = true ∧ ∀ m z', m < j → ds[m]? = some z' → PyData.eqv z' d = false := by
  unfold indexV at e
  cases e1 : datS st a with
  | none => rw [e1] at e; cases e
  | some d =>
    rw [e1] at e
    cases e2 : xs.mapM (dat st dDepth) with
    | none => rw [e2] at e; cases e
    | some ds =>
      rw [e2] at e
      simp only at e
      split at e
      · next hc =>
        obtain ⟨p1, p2⟩ := datS_of sr e1 ra
        obtain ⟨⟨z, h1, h2⟩, h3⟩ := findIdx_spec _ _ _ e
        exact ⟨d, ds, z, p1, p2, dpAll_now sr e2 rs, hc, h1, h2, h3⟩
      · cases e
/-- t.index(x) of a tuple -/
def rIndexT (K : PySem.W.Frag) : V → List V → Hp → VK → Prop := fun x xs H Q => ∃ (a : Addr) (y : V) (d : PyData) (vs : List V) (ds : List PyData) (j : Nat) (z : PyData), x = V.ref a ∧ xs = [y] ∧ SqT K H a vs ∧ DpAll K H vs ds ∧ Dp K H y d ∧
  SeqAt.shaped (.list ds) = true ∧ SeqAt.shaped d = true ∧ ds[j]? = some z ∧ PyData.eqv z d = true ∧ (∀ (m : Nat) (z' : PyData), m < j → ds[m]? = some z' → PyData.eqv z' d = false) ∧ Q (.int (j : Nat)) H
theorem mt_indexT (hu : X.A.units + 65 < cLine) : MtR X "tuple.index" (rIndexT X.K) := by
  intro pins s σ H x xs v us Q I rx rxs h
  obtain ⟨a, y, d, vs, ds, j, z, rfl, rfl, hs, ha, hy, sl, sd, hz, hzj, hno, q⟩ := h
  cases rx
  cases rxs with
  | cons ry rt =>
    rename_i uy ut
    cases rt
    obtain ⟨bs, r1⟩ := Dp.reads I d y uy hy ry
    have hxs : PyData.canLayAll0 ds = true := SeqAt.canLay_of_shaped sl
    have hroom : X.A.units + 1 + min (PyData.depthAll ds) d.depth < cLine := room_in_shaped sd hu
    obtain ⟨its, rv, ⟨⟨cls, dd, data, sls⟩, ho, hc, n, hdt⟩, hlen⟩ := I.tuple hs
    simp only at hc hdt
    subst hc hdt
    obtain ⟨as, h4⟩ := Dp.readsAll I ds _ its ha rv
    have hn : its.length = ds.length := SeqAt.ReadsAll.length ds its as h4
    have hmap : its.map (SeqAt.readOf s.heap) = ds := SeqAt.readsAll_map ds its as hxs h4
    have hvl := rv.length
    have hsl := sizeLine_eq
    obtain ⟨hjd, _⟩ := List.getElem?_eq_some_iff.mp hz
    have hjl : j < its.length := by omega
    have hj : j < its.toArray.size := by simpa using hjl
    have at_ : ∀ (m : Nat) (hm : m < its.toArray.size) (z' : PyData), ds[m]? = some z' → SeqAt.readOf s.heap its.toArray[m] = z' := by
      intro m hm z' hz'
      have hml : m < its.length := by simpa using hm
      rw [← hmap, List.getElem?_map, List.getElem?_eq_getElem hml] at hz'
      have e1 : SeqAt.readOf s.heap its[m] = z' := Option.some.inj (show some (SeqAt.readOf s.heap its[m]) = some z' from hz')
      simpa using e1
    refine call_meets PySem.F.slot_tuple_index ⟨_, ho, rfl⟩ PySem.F.entry_tuple_index (PySem.F.args_tuple_index_2 _ _)
      (_root_.TI.tuple_indexAt a its.toArray n dd sls uy (fun u => PyData.eqv (SeqAt.readOf s.heap u) d) j hj ?_ ?_) ⟨ho, SeqAt.items_eqAt (vs := its.toArray) (show ReadsAll s.heap its.toArray.toList ds as from h4) r1 hxs (SeqAt.canLay_of_shaped sd) hroom, ?_⟩
    · show PyData.eqv (SeqAt.readOf s.heap its.toArray[j]) d = true
      rw [at_ j hj z hz]
      exact hzj
    · intro m hm hmj
      have hmd : m < ds.length := by omega
      have hz' : ds[m]? = some ds[m] := List.getElem?_eq_getElem hmd
      show PyData.eqv (SeqAt.readOf s.heap its.toArray[m]) d = false
      rw [at_ m hm _ hz']
      exact hno m _ hmj hz'
    · exact ⟨.int (j : Nat), H, I.tok _, ⟨_, rfl⟩, q⟩

/-! ### o[i] = v -/
abbrev RSet (K : PySem.W.Frag) : TSet := fun o i v H Q => ∃ mp st a b c, RV K mp H a o ∧ RV K mp H b i ∧ RV K mp H c v ∧ SR K mp H st ∧ ∃ ex : ExP, Aft K mp H (setixM a b c st) (fun m1 H1 _ _ => Q H1) ex
theorem setix_ok (hu : X.A.units + 1 < cLine) : PSet X (RSet X.K) := by
  intro pins s σ H o i v ov iv u Q I ro ri rv ⟨mp, st, a, b, c, ra, rb, rc, sr, ex, h⟩
  unfold setixM at h
  cases a with
  | ref n =>
    obtain ⟨p, rfl, hp⟩ := ra.refS
    have hp' := hp
    rcases onO_inv sr hp h with ⟨xs, vs, e1, e2, r, h⟩ | ⟨kvs, kws, e1, e2, r, h⟩
    · cases b with
      | int k =>
        cases rb
        obtain ⟨j, hj, h⟩ := ofOpt_inv h
        obtain ⟨g, s'⟩ := sr.put (u := .lst (vs.set j v)) (o := .lst (xs.set j c)) hp (fun _ e => nomatch e) (fun _ _ e => nomatch e) fun g => .lst upd_same (RVs.grow g _ _ (r.set j rc))
        exact set_list pins s σ H _ _ v ov iv u Q I ro ri rv ⟨p, vs, k, j, rfl, rfl, e2, by rw [← r.length]; exact hj, h _ _ g s'⟩
      | _ => exact False.elim h
    · obtain ⟨w, h⟩ := need_inv h
      obtain ⟨w1, w2⟩ := Bool.and_eq_true_iff.mp w
      have w2 : kvs.length < sizeLine := of_decide_eq_true w2
      obtain ⟨k, hk1, rfl⟩ := keyOf_flat w1 rb
      obtain ⟨g, s'⟩ := sr.put (u := .dK (putK kws k v)) (o := .dct (dput kvs b c)) hp (fun _ e => nomatch e) (fun _ _ e => nomatch e) fun g => .dk upd_same (Paired.mapP (put_rel r hk1 rc) fun p q z => ⟨z.1, z.2.grow g⟩)
      cases ro
      exact d_setItem hu I (DPut.k e2 (by rw [← KR.length r]; exact w2)) ri rv fun s4 I4 => ⟨_, I4, h _ _ g s'⟩
  | _ => exact False.elim h
/-! ### x op= y -/
theorem aug_add : PIp X .Add (RB2 X.K (augM .add)) := by
  intro pins s σ H x y v u Q I rx ry ⟨mp, st, a, b, ra, rb, sr, ex, h⟩
  cases a with
  | int i =>
    cases b with
    | int j => cases ra; cases rb; exact iop_add pins s σ H _ _ v u Q I rx ry ⟨i, j, rfl, rfl, pure_inv sr h (.int _)⟩
    | _ => exact False.elim h
  | _ => cases b <;> exact False.elim h
theorem aug_mul : PIp X .Mult (RB2 X.K (augM .mul)) := by
  intro pins s σ H x y v u Q I rx ry ⟨mp, st, a, b, ra, rb, sr, ex, h⟩
  cases a with
  | int i =>
    cases b with
    | int j =>
      cases ra; cases rb
      obtain ⟨z, h⟩ := need_inv h
      exact iop_mul pins s σ H _ _ v u Q I rx ry ⟨i, j, rfl, rfl, mulOk_ok z, pure_inv sr h (.int _)⟩
    | _ => exact False.elim h
  | _ => cases b <;> exact False.elim h
end
end MP
set_option Elab.async false
set_option linter.all false
set_option maxRecDepth 100000
/-! Readings of the small language's expressions; the context. -/
namespace MP
open PySem PySem.Spec PyProof.Rows L2

section
variable (K : PySem.W.Frag)
def ER (mp : List Addr) (H : Hp) (env : En) (σ : L2.St) : Prop := env.length = σ.length ∧ ∀ (i : Nat) (v : Val), env[i]? = some (some v) → ∃ x, σ[i]? = some (some x) ∧ RV K mp H v x
/-- no exception is wanted -/
abbrev NoX : ExP := fun _ _ _ _ _ => False
variable (C : Cfg)
def LE (e : E) : TE := fun σ H Q => ∃ env st mp, ER K mp H env σ ∧ SR K mp H st ∧ Aft K mp H (evalE C e env st) (OkV K Q) NoX
abbrev OkVs (Q : List V → Hp → Prop) : List Addr → Hp → Store → List Val → Prop := fun m1 H1 _ zs => ∀ zz, RVs K m1 H1 zs zz → Q zz H1
def LEs (es : Es) : TA := fun σ H Q => ∃ env st mp, ER K mp H env σ ∧ SR K mp H st ∧ Aft K mp H (evalEs C es env st) (OkVs K Q) NoX
abbrev OkB (Q : Bool → Hp → Prop) : List Addr → Hp → Store → Val → Prop := fun _ H1 _ z => ∃ b, z = .bool b ∧ Q b H1
def LB (e : E) : TT := fun σ H Q => ∃ env st mp, ER K mp H env σ ∧ SR K mp H st ∧ Aft K mp H (evalE C e env st) (OkB Q) NoX
end
section
variable {K : PySem.W.Frag} {C : Cfg} {mp mp' : List Addr} {H H' : Hp} {env : En} {σ : L2.St} {st : Store} {α : Type}
theorem ER.grow (g : Grow mp H mp' H') (h : ER K mp H env σ) : ER K mp' H' env σ := ⟨h.1, fun i v e => let ⟨x, h1, h2⟩ := h.2 i v e; ⟨x, h1, h2.grow g⟩⟩
theorem ER.set {i : Nat} {v : Val} {x : V} (h : ER K mp H env σ) (r : RV K mp H v x) : ER K mp H (env.set i (some v)) (σ.set i (some x)) := by
  refine ⟨by rw [List.length_set, List.length_set]; exact h.1, fun j w e => ?_⟩
  by_cases hj : i = j
  · subst hj
    have hl : i < env.length := by
      have := (List.getElem?_eq_some_iff.mp e).1
      rw [List.length_set] at this; exact this
    rw [List.getElem?_set_self hl] at e
    cases e
    exact ⟨x, List.getElem?_set_self (by rw [← h.1]; exact hl), r⟩
  · rw [List.getElem?_set_ne hj] at e
    rw [List.getElem?_set_ne hj]
    exact h.2 j w e
theorem ER.unset {i : Nat} (h : ER K mp H env σ) : ER K mp H (env.set i none) (σ.set i none) := by
  refine ⟨by rw [List.length_set, List.length_set]; exact h.1, fun j w e => ?_⟩
  by_cases hj : i = j
  · subst hj
    have hl : i < env.length := by
      have := (List.getElem?_eq_some_iff.mp e).1
      rw [List.length_set] at this; exact this
    rw [List.getElem?_set_self hl] at e
    cases e
  · rw [List.getElem?_set_ne hj] at e
    rw [List.getElem?_set_ne hj]
    exact h.2 j w e
theorem ER.wipe (h : ER K mp H env σ) : ∀ vs : List Nat, ER K mp H (MP.wipe env vs) (L2.wipe σ vs)
  | [] => h
  | v :: vs => by unfold MP.wipe L2.wipe; exact (ER.wipe h vs).unset
theorem ER.at (h : ER K mp H env σ) {i : Nat} {v : Val} (e : env[i]?.join = some v) : ∃ x, σ[i]? = some (some x) ∧ RV K mp H v x := by
  cases e2 : env[i]? with
  | none => rw [e2] at e; cases e
  | some o =>
    rw [e2] at e
    cases o with
    | none => cases e
    | some w => cases e; exact h.2 i v e2
/-- one expression, then the rest -/
theorem LE.bind {e : E} {k : Val → M α} {okP : List Addr → Hp → Store → α → Prop} {R : VK} (er : ER K mp H env σ) (sr : SR K mp H st) (h : Aft K mp H ((evalE C e env >>= k) st) okP NoX)
    (hR : ∀ m1 H1 s1 v x, Grow mp H m1 H1 → SR K m1 H1 s1 → ER K m1 H1 env σ → RV K m1 H1 v x → Aft K m1 H1 (k v s1) okP NoX → R x H1) : LE K C e σ H R :=
  ⟨env, st, mp, er, sr, (Aft.bind h).mono (fun m1 H1 s v g s' a x r => hR m1 H1 s v x g s' (er.grow g) r a) fun _ _ _ _ _ _ _ h => h⟩
theorem LEs.bind {es : Es} {k : List Val → M α} {okP : List Addr → Hp → Store → α → Prop} {R : List V → Hp → Prop} (er : ER K mp H env σ) (sr : SR K mp H st) (h : Aft K mp H ((evalEs C es env >>= k) st) okP NoX)
    (hR : ∀ m1 H1 s1 v x, Grow mp H m1 H1 → SR K m1 H1 s1 → ER K m1 H1 env σ → RVs K m1 H1 v x → Aft K m1 H1 (k v s1) okP NoX → R x H1) : LEs K C es σ H R :=
  ⟨env, st, mp, er, sr, (Aft.bind h).mono (fun m1 H1 s v g s' a x r => hR m1 H1 s v x g s' (er.grow g) r a) fun _ _ _ _ _ _ _ h => h⟩
/-- a test, then the rest -/
theorem LB.bind {e : E} {k : Bool → M α} {okP : List Addr → Hp → Store → α → Prop} {R : Bool → Hp → Prop} (er : ER K mp H env σ) (sr : SR K mp H st) (h : Aft K mp H ((evalE C e env >>= fun v => onB v k) st) okP NoX)
    (hR : ∀ m1 H1 s1 b, Grow mp H m1 H1 → SR K m1 H1 s1 → ER K m1 H1 env σ → Aft K m1 H1 (k b s1) okP NoX → R b H1) : LB K C e σ H R :=
  ⟨env, st, mp, er, sr, (Aft.bind h).mono (fun m1 H1 s v g s' a => by
    cases v with
    | bool b => exact ⟨b, rfl, hR m1 H1 s b g s' (er.grow g) a⟩
    | _ => exact False.elim a) fun _ _ _ _ _ _ _ h => h⟩
theorem onB_inv {v : Val} {k : Bool → M α} {okP : List Addr → Hp → Store → α → Prop} {exP : ExP} (h : Aft K mp H (onB v k st) okP exP) : ∃ b, v = .bool b ∧ Aft K mp H (k b st) okP exP := by
  cases v with
  | bool b => exact ⟨b, rfl, h⟩
  | _ => exact False.elim h
theorem bindEq {β : Type} (m : M α) (f : α → M β) (st : Store) : (m >>= f) st = (match m st with | .ok a s' => f a s' | .exc C v s' => .exc C v s' | .bad => .bad) := rfl
/-- the last thing -/
theorem Aft.ret {m : M α} {okP : List Addr → Hp → Store → α → Prop} (h : Aft K mp H (m st) okP NoX) : Aft K mp H ((m >>= fun v => pure v) st) okP NoX := by
  rw [bindEq]
  cases e : m st with
  | ok a s' => rw [e] at h; exact h
  | exc c v s' => rw [e] at h; exact h
  | bad => rw [e] at h; exact h
end

theorem weakE {X : Cx} {e : Expr} {t t' : TE} (h : PE X e t) (w : ∀ σ H Q, t' σ H Q → t σ H Q) : PE X e t' := ⟨fun pins s σ H Q I a => h.run pins s σ H Q I (w _ _ _ a)⟩
theorem weakT {X : Cx} {e : Expr} {t t' : TT} (h : PT X e t) (w : ∀ σ H Q, t' σ H Q → t σ H Q) : PT X e t' := ⟨fun pins s σ H Q I a => h.run pins s σ H Q I (w _ _ _ a)⟩
theorem weakW {X : Cx} {e : Expr} {t t' : TT} (h : PW X e t) (w : ∀ σ H Q, t' σ H Q → t σ H Q) : PW X e t' := ⟨fun wh pins s σ H Q I a => h.run wh pins s σ H Q I (w _ _ _ a)⟩
theorem weakA {X : Cx} {es : List Expr} {t t' : TA} (h : PA X es t) (w : ∀ σ H Q, t' σ H Q → t σ H Q) : PA X es t' := ⟨fun pos pins s σ H Q I a => h.run pos pins s σ H Q I (w _ _ _ a)⟩
theorem weakS {X : Cx} {s : Stmt} {t t' : TS} (h : PS X s t) (w : ∀ D σ H, t' D σ H → t D σ H) : PS X s t' := ⟨fun pins s σ H D I a => h.run pins s σ H D I (w _ _ _ a)⟩
theorem weakSs {X : Cx} {s : List Stmt} {t t' : TS} (h : PSs X s t) (w : ∀ D σ H, t' D σ H → t D σ H) : PSs X s t' := ⟨fun pins s σ H D I a => h.run pins s σ H D I (w _ _ _ a)⟩
theorem weakI {X : Cx} {tg e : Expr} {t t' : TI} (h : PI X tg e t) (w : ∀ σ H R, t' σ H R → t σ H R) : PI X tg e t' := ⟨fun pins s σ H R I a => h.run pins s σ H R I (w _ _ _ a)⟩

/-! ### plain expressions -/
section
variable {X : Cx} {C : Cfg} {a b c : Expr} {x y z : E} {pos : Pos}
theorem sn_var {i : Nat} {n : Str} (hN : X.N[i]? = some n) (hv : Vis X.env.scope n) (hd : (n == ("__debug__" : Str)) = false) (hcd : (n == ("__classdict__" : Str)) = false) : PE X (.Name n pos) (LE X.K C (.var i)) :=
  weakE (pe_var hN hv hd hcd) fun σ H Q ⟨env, st, mp, er, sr, h⟩ => by
    obtain ⟨v, e, h⟩ := ofOpt_inv (f := pure) h
    obtain ⟨x, h1, h2⟩ := er.at e
    exact ⟨x, h1, pure_inv sr h h2⟩
theorem sn_none {j} : PE X (.Constant .none j pos) (LE X.K C .none) := weakE pe_non fun σ H Q ⟨env, st, mp, er, sr, h⟩ => pure_inv sr h .none
theorem sn_bool {j b} : PE X (.Constant (.bool b) j pos) (LE X.K C (.bool b)) := weakE pe_bl fun σ H Q ⟨env, st, mp, er, sr, h⟩ => pure_inv sr h (.bool b)
theorem sn_int {j i} : PE X (.Constant (.int i) j pos) (LE X.K C (.int i)) := weakE pe_int fun σ H Q ⟨env, st, mp, er, sr, h⟩ => pure_inv sr h (.int i)
theorem sn_str {j s} : PE X (.Constant (.str s) j pos) (LE X.K C (.str s)) := weakE pe_str fun σ H Q ⟨env, st, mp, er, sr, h⟩ => pure_inv sr h (.str s)
/-- two operands -/
theorem two {f : Val → Val → M Val} {σ : L2.St} {H : Hp} {Q : VK} {mp : List Addr} {env : En} {st : Store} (er : ER X.K mp H env σ) (sr : SR X.K mp H st)
    (h : Aft X.K mp H ((evalE C x env >>= fun v => evalE C y env >>= fun u => f v u) st) (OkV X.K Q) NoX) : tOp (RB2 X.K f) (LE X.K C x) (LE X.K C y) σ H Q :=
  LE.bind er sr h fun m1 H1 s1 v v' g1 sr1 er1 rv h1 => LE.bind er1 sr1 h1 fun m2 H2 s2 u u' g2 sr2 er2 ru h2 => ⟨m2, s2, v, u, rv.grow g2, ru, sr2, NoX, h2⟩
theorem sn_bin {op : Op} {o : Operator} (ho : OpR X (binaryOp o) (RB2 X.K (binop op))) (ha : PE X a (LE X.K C x)) (hb : PE X b (LE X.K C y)) : PE X (.BinOp a o b pos) (LE X.K C (.bin op x y)) :=
  weakE (pe_op ho ha hb) fun σ H Q ⟨env, st, mp, er, sr, h⟩ => two er sr h
theorem sn_cmp {op : Cmp} {o : CmpOp} (ho : OpR X (compareOp o) (RB2 X.K (cmpop op))) (ha : PE X a (LE X.K C x)) (hb : PE X b (LE X.K C y)) (hm : behindInMarks o b = false) : PE X (.Compare a [o] [b] pos) (LE X.K C (.cmp op x y)) :=
  weakE (pe_cmpR ho ha hb hm) fun σ H Q ⟨env, st, mp, er, sr, h⟩ => two er sr h
theorem LB.le {e : E} {σ : L2.St} {H : Hp} {Q : Bool → Hp → Prop} (h : LB X.K C e σ H Q) : LE X.K C e σ H fun v H1 => ∃ b, v = .bl b ∧ Q b H1 := by
  obtain ⟨env, st, mp, er, sr, h⟩ := h
  refine ⟨env, st, mp, er, sr, h.mono (fun m1 H1 s v g s' ⟨b, e, q⟩ x r => ?_) fun _ _ _ _ _ _ _ h => h⟩
  subst e
  cases r
  exact ⟨b, rfl, q⟩
theorem cmp_bool (op : Cmp) (v u : Val) (st : Store) {K : PySem.W.Frag} {mp : List Addr} {H : Hp} {Q : Bool → Hp → Prop} (h : Aft K mp H (cmpop op v u st) (OkB Q) NoX) : Aft K mp H (cmpop op v u st) (OkV K fun z H1 => ∃ k, z = .bl k ∧ Q k H1) NoX :=
  h.mono (fun m1 H1 s v g s' ⟨b, e, q⟩ x r => by subst e; cases r; exact ⟨b, rfl, q⟩) fun _ _ _ _ _ _ _ h => h
theorem tt_cmp {op : Cmp} {o : CmpOp} (ho : OpR X (compareOp o) (RB2 X.K (cmpop op))) (ha : PE X a (LE X.K C x)) (hb : PE X b (LE X.K C y)) (hm : behindInMarks o b = false) : PT X (.Compare a [o] [b] pos) (LB X.K C (.cmp op x y)) :=
  weakT (pt_cmpR ho ha hb hm) fun σ H Q ⟨env, st, mp, er, sr, h⟩ =>
    LE.bind er sr h fun m1 H1 s1 v v' g1 sr1 er1 rv h1 => LE.bind er1 sr1 h1 fun m2 H2 s2 u u' g2 sr2 er2 ru h2 => ⟨m2, s2, v, u, rv.grow g2, ru, sr2, NoX, cmp_bool op v u s2 h2⟩
/-- what is no test form is a plain value -/
def plainTest : Expr → Bool
  | .UnaryOp .Not _ _ => false
  | .BoolOp _ _ _ => false
  | .IfExp _ _ _ _ => false
  | .Compare _ _ _ _ => false
  | _ => true
theorem isTrue_of_plain {e : Expr} (h : plainTest e = true) (env : Env) (whole : Sem Value) : isTrue e env whole = (do let v ← whole; standAt e.pos; holding [v] (truthy v)) := by
  cases e with
  | UnaryOp op e p => cases op <;> first | rfl | cases h
  | BoolOp _ _ _ => cases h
  | IfExp _ _ _ _ => cases h
  | Compare _ _ _ _ => cases h
  | _ => rfl
theorem tt_val (ha : PE X a (LE X.K C x)) (h : plainTest a = true) : PT X a (LB X.K C x) := weakT (pt_val ha (isTrue_of_plain h X.env)) fun σ H Q h => LB.le h
/-! and, or, not -/
theorem sn_and {bs : List Expr} {x y : E} (ha : PE X a (LE X.K C x)) (hb : PE X (.BoolOp .And (b :: bs) pos) (LE X.K C y)) : PE X (.BoolOp .And (a :: b :: bs) pos) (LE X.K C (.and x y)) :=
  weakE (pe_and ha hb) fun σ H Q ⟨env, st, mp, er, sr, h⟩ => LE.bind er sr h fun m1 H1 s1 v v' g1 sr1 er1 rv h1 => by
    obtain ⟨k, rfl, h1⟩ := onB_inv h1
    cases rv
    refine ⟨k, rfl, ?_⟩
    cases k with
    | true => exact ⟨env, s1, m1, er1, sr1, h1⟩
    | false => exact pure_inv sr1 h1 (.bool _)
theorem sn_or {bs : List Expr} {x y : E} (ha : PE X a (LE X.K C x)) (hb : PE X (.BoolOp .Or (b :: bs) pos) (LE X.K C y)) : PE X (.BoolOp .Or (a :: b :: bs) pos) (LE X.K C (.or x y)) :=
  weakE (pe_or ha hb) fun σ H Q ⟨env, st, mp, er, sr, h⟩ => LE.bind er sr h fun m1 H1 s1 v v' g1 sr1 er1 rv h1 => by
    obtain ⟨k, rfl, h1⟩ := onB_inv h1
    cases rv
    refine ⟨k, rfl, ?_⟩
    cases k with
    | false => exact ⟨env, s1, m1, er1, sr1, h1⟩
    | true => exact pure_inv sr1 h1 (.bool _)
theorem tt_and {bs : List Expr} {x y : E} (ha : PT X a (LB X.K C x)) (hb : PW X (.BoolOp .And (b :: bs) pos) (LB X.K C y)) : PW X (.BoolOp .And (a :: b :: bs) pos) (LB X.K C (.and x y)) :=
  weakW (pw_and ha hb) fun σ H Q ⟨env, st, mp, er, sr, h⟩ => LB.bind er sr h fun m1 H1 s1 k g1 sr1 er1 h1 => by
    cases k with
    | true => exact ⟨env, s1, m1, er1, sr1, h1⟩
    | false =>
      obtain ⟨b, e, q⟩ := Aft.ok_now h1 sr1
      cases e; exact q
theorem tt_or {bs : List Expr} {x y : E} (ha : PT X a (LB X.K C x)) (hb : PW X (.BoolOp .Or (b :: bs) pos) (LB X.K C y)) : PW X (.BoolOp .Or (a :: b :: bs) pos) (LB X.K C (.or x y)) :=
  weakW (pw_or ha hb) fun σ H Q ⟨env, st, mp, er, sr, h⟩ => LB.bind er sr h fun m1 H1 s1 k g1 sr1 er1 h1 => by
    cases k with
    | false => exact ⟨env, s1, m1, er1, sr1, h1⟩
    | true =>
      obtain ⟨b, e, q⟩ := Aft.ok_now h1 sr1
      cases e; exact q
theorem sn_not (ha : PE X a (LE X.K C x)) : PE X (.UnaryOp .Not a pos) (LE X.K C (.not x)) :=
  weakE (pe_not ha) fun σ H Q ⟨env, st, mp, er, sr, h⟩ => LE.bind er sr h fun m1 H1 s1 v v' g1 sr1 er1 rv h1 => by
    obtain ⟨k, rfl, h1⟩ := onB_inv h1
    cases rv
    exact ⟨k, rfl, pure_inv sr1 h1 (.bool _)⟩
theorem tt_not (ha : PT X a (LB X.K C x)) : PT X (.UnaryOp .Not a pos) (LB X.K C (.not x)) :=
  weakT (pt_not ha) fun σ H Q ⟨env, st, mp, er, sr, h⟩ => LB.bind er sr h fun m1 H1 s1 k g1 sr1 er1 h1 => by
    obtain ⟨b, e, q⟩ := Aft.ok_now h1 sr1
    cases e; exact q
theorem sn_ite (hc : PT X c (LB X.K C z)) (ha : PE X a (LE X.K C x)) (hb : PE X b (LE X.K C y)) : PE X (.IfExp c a b pos) (LE X.K C (.ite z x y)) :=
  weakE (pe_ifExp hc ha hb) fun σ H Q ⟨env, st, mp, er, sr, h⟩ => LB.bind er sr h fun m1 H1 s1 k g1 sr1 er1 h1 => by
    cases k with
    | true => exact ⟨env, s1, m1, er1, sr1, h1⟩
    | false => exact ⟨env, s1, m1, er1, sr1, h1⟩
theorem sn_chain {op1 op2 : Cmp} {o1 o2 : CmpOp} (h1 : OpR X (compareOp o1) (RB2 X.K (cmpop op1))) (h2 : OpR X (compareOp o2) (RB2 X.K (cmpop op2))) (ha : PE X a (LE X.K C x)) (hb : PE X b (LE X.K C y)) (hc : PE X c (LE X.K C z)) (hm : lastMarks [o1, o2] [b, c] = false) :
    PE X (.Compare a [o1, o2] [b, c] pos) (LE X.K C (.chain op1 op2 x y z)) :=
  weakE (pe_chain h1 h2 ha hb hc hm) fun σ H Q ⟨env, st, mp, er, sr, h⟩ => LE.bind er sr h fun m1 H1 s1 v v' g1 sr1 er1 rv h1 => LE.bind er1 sr1 h1 fun m2 H2 s2 u u' g2 sr2 er2 ru h2 =>
    ⟨m2, s2, v, u, rv.grow g2, ru, sr2, NoX, (Aft.bind h2).mono (fun m3 H3 s3 w g3 sr3 a3 w' rw' => by
      obtain ⟨k, rfl, a3⟩ := onB_inv a3
      cases rw'
      refine ⟨k, rfl, ?_⟩
      cases k with
      | false => exact pure_inv sr3 a3 (.bool _)
      | true => exact LE.bind (er2.grow g3) sr3 a3 fun m4 H4 s4 t t' g4 sr4 er4 rt h4 => ⟨m4, s4, u, t, (ru.grow g3).grow g4, rt, sr4, NoX, h4⟩) fun _ _ _ _ _ _ _ h => h⟩
theorem tt_chain {op1 op2 : Cmp} {o1 o2 : CmpOp} (h1 : OpR X (compareOp o1) (RB2 X.K (cmpop op1))) (h2 : OpR X (compareOp o2) (RB2 X.K (cmpop op2))) (ha : PE X a (LE X.K C x)) (hb : PE X b (LE X.K C y)) (hc : PE X c (LE X.K C z)) (hm : lastMarks [o1, o2] [b, c] = false) :
    PT X (.Compare a [o1, o2] [b, c] pos) (LB X.K C (.chain op1 op2 x y z)) :=
  weakT (pt_chain h1 h2 ha hb hc hm) fun σ H Q h => by
    obtain ⟨env, st, mp, er, sr, h⟩ := LB.le h
    exact LE.bind er sr h fun m1 H1 s1 v v' g1 sr1 er1 rv h1 => LE.bind er1 sr1 h1 fun m2 H2 s2 u u' g2 sr2 er2 ru h2 =>
      ⟨m2, s2, v, u, rv.grow g2, ru, sr2, NoX, (Aft.bind h2).mono (fun m3 H3 s3 w g3 sr3 a3 w' rw' => by
        obtain ⟨k, rfl, a3⟩ := onB_inv a3
        cases rw'
        refine ⟨k, rfl, ?_⟩
        cases k with
        | false => exact pure_inv sr3 a3 (.bool _)
        | true => exact LE.bind (er2.grow g3) sr3 a3 fun m4 H4 s4 t t' g4 sr4 er4 rt h4 => ⟨m4, s4, u, t, (ru.grow g3).grow g4, rt, sr4, NoX, h4⟩) fun _ _ _ _ _ _ _ h => h⟩
/-! displays -/
def notStar : Expr → Bool
  | .Starred _ _ => false
  | _ => true
theorem star_plain {e : Expr} (h : notStar e = true) (es : List Expr) (env : Env) : starEach (e :: es) env = (false, eval e env) :: starEach es env := by
  cases e <;> first | rfl | cases h
theorem sn_nil : PA X [] (LEs X.K C .nil) := weakA pa_nil fun σ H Q ⟨env, st, mp, er, sr, h⟩ => h mp H .refl sr _ .nil
theorem sn_cons {es : List Expr} {xs : Es} (ha : PE X a (LE X.K C x)) (hr : PA X es (LEs X.K C xs)) (hs : notStar a = true) : PA X (a :: es) (LEs X.K C (.cons x xs)) :=
  weakA (pa_cons ha hr (star_plain hs es X.env)) fun σ H Q ⟨env, st, mp, er, sr, h⟩ => LE.bind er sr h fun m1 H1 s1 v v' g1 sr1 er1 rv h1 =>
    LEs.bind er1 sr1 h1 fun m2 H2 s2 u u' g2 sr2 er2 ru h2 => h2 m2 H2 .refl sr2 _ (.cons (rv.grow g2) ru)
theorem sn_tup {es : List Expr} {xs : Es} {j} (h : PA X es (LEs X.K C xs)) : PE X (.Tuple es j pos) (LE X.K C (.tup xs)) :=
  weakE (pe_tupF h) fun σ H Q ⟨env, st, mp, er, sr, h⟩ => LEs.bind er sr h fun m1 H1 s1 v v' g1 sr1 er1 rv h1 => by
    obtain ⟨z, h1⟩ := need_inv h1
    exact ⟨by rw [← rv.length]; exact szOk_le z, tup_inv sr1 h1 rv⟩
theorem sn_lst {es : List Expr} {xs : Es} (h : PA X es (LEs X.K C xs)) : PE X (.List es pos) (LE X.K C (.lst xs)) :=
  weakE (pe_lst h) fun σ H Q ⟨env, st, mp, er, sr, h⟩ => LEs.bind er sr h fun m1 H1 s1 v v' g1 sr1 er1 rv h1 => by
    obtain ⟨z, h1⟩ := need_inv h1
    exact ⟨by rw [← rv.length]; exact szOk_le z, new_inv sr1 h1 rv⟩
/-! subscripts -/
def noSlice : Expr → Bool
  | .Slice _ _ _ _ => false
  | _ => true
theorem plainIx_of {b : Expr} (h : noSlice b = true) : PlainIx b := fun o i => by cases b <;> first | rfl | cases h
theorem sn_ix (hu : X.A.units + 1 < cLine) (ha : PE X a (LE X.K C x)) (hb : PE X b (LE X.K C y)) (hs : noSlice b = true) : PE X (.Subscript a b pos) (LE X.K C (.ix x y)) :=
  weakE (pe_ix (ixM_ok hu) ha hb (plainIx_of hs)) fun σ H Q ⟨env, st, mp, er, sr, h⟩ => two er sr h
end
end MP
set_option Elab.async false
set_option linter.all false
set_option maxRecDepth 100000
/-! Slices, built-ins, methods, ranges, isinstance. -/
namespace MP
open PySem PySem.Spec PyProof.Rows L2

section
variable {X : Cx} {C : Cfg} {a b c : Expr} {x y z : E} {pos : Pos}
/-! ### slices -/
def LP (K : PySem.W.Frag) (C : Cfg) (o : Oe) : TO := fun σ H Q => ∃ env st mp, ER K mp H env σ ∧ SR K mp H st ∧ Aft K mp H (evalOe C o env st) (fun m1 H1 _ v => ∃ p, partM v = some p ∧ Q p H1) NoX
theorem LP.bind {K : PySem.W.Frag} {α : Type} {o : Oe} {mp : List Addr} {H : Hp} {env : En} {σ : L2.St} {st : Store} {k : Option Val → M α} {okP : List Addr → Hp → Store → α → Prop} {R : Option Int → Hp → Prop} (er : ER K mp H env σ) (sr : SR K mp H st) (h : Aft K mp H ((evalOe C o env >>= k) st) okP NoX)
    (hR : ∀ m1 H1 s1 v, Grow mp H m1 H1 → SR K m1 H1 s1 → ER K m1 H1 env σ → Aft K m1 H1 (k v s1) okP NoX → ∃ p, partM v = some p ∧ R p H1) : LP K C o σ H R :=
  ⟨env, st, mp, er, sr, (Aft.bind h).mono (fun m1 H1 s v g s' a => hR m1 H1 s v g s' (er.grow g) a) fun _ _ _ _ _ _ _ h => h⟩
theorem sp_none : PO X none (LP X.K C .none) := ⟨fun pins s σ H Q I ⟨env, st, mp, er, sr, h⟩ => by
  obtain ⟨p, e, q⟩ := Aft.ok_now (s := st) (v := Option.none) h sr
  cases e
  exact po_none.run pins s σ H Q I q⟩
theorem sp_some (h : PE X a (LE X.K C x)) : PO X (some a) (LP X.K C (.some x)) := ⟨fun pins s σ H Q I ⟨env, st, mp, er, sr, hh⟩ => by
  refine (po_some h).run pins s σ H Q I ?_
  refine LE.bind er sr hh fun m1 H1 s1 v v' g sr1 er1 rv h1 => ?_
  obtain ⟨p, e, q⟩ := Aft.ok_now (s := s1) (v := some v) h1 sr1
  cases v with
  | int i => cases e; cases rv; exact ⟨i, rfl, q⟩
  | _ => cases e⟩
theorem sn_sl {lo hi : Option Expr} {l h : Oe} {p2 : Pos} (ha : PE X a (LE X.K C x)) (hl : PO X lo (LP X.K C l)) (hh : PO X hi (LP X.K C h)) : PE X (.Subscript a (.Slice lo hi none p2) pos) (LE X.K C (.sl x l h)) :=
  weakE (pe_slice sl_ok ha hl hh) fun σ H Q ⟨env, st, mp, er, sr, a0⟩ => LE.bind er sr a0 fun m1 H1 s1 v v' g1 sr1 er1 rv a1 => LP.bind er1 sr1 a1 fun m2 H2 s2 u g2 sr2 er2 a2 => by
    obtain ⟨p, e, a2⟩ := ofOpt_inv a2
    refine ⟨p, e, LP.bind er2 sr2 a2 fun m3 H3 s3 w g3 sr3 er3 a3 => ?_⟩
    obtain ⟨r, e3, a3⟩ := ofOpt_inv a3
    exact ⟨r, e3, m3, s3, v, (rv.grow g2).grow g3, sr3, NoX, a3⟩
theorem sn_rev {k : Nat} {p1 p2 p3 : Pos} (ha : PE X a (LE X.K C x)) : PE X (.Subscript a (.Slice none none (some (.UnaryOp .USub (.Constant (.int 1) k p1) p2)) p3) pos) (LE X.K C (.rev x)) :=
  weakE (pe_revL ha) fun σ H Q ⟨env, st, mp, er, sr, h⟩ => LE.bind er sr h fun m1 H1 s1 v v' g1 sr1 er1 rv h1 => by
    cases v with
    | ref n =>
      obtain ⟨p, rfl, hp⟩ := rv.refS
      obtain ⟨xs, vs, e1, e2, r, h1⟩ := onL_inv sr1 hp h1
      exact ⟨p, vs, rfl, SqL.of e2, new_inv sr1 h1 r.reverse⟩
    | _ => exact False.elim h1
/-! ### calls of built-ins -/
theorem noStars {es : List Expr} (h : es.all notStar = true) (env : Env) (pos : Pos) : (backTo pos (starEach es env)).any (·.1) = false := by
  induction es with
  | nil => rfl
  | cons e es ih =>
    obtain ⟨h1, h2⟩ := Bool.and_eq_true_iff.mp (show (notStar e && es.all notStar) = true from h)
    rw [star_plain h1 es env]
    show ((false : Bool) || (backTo pos (starEach es env)).any (·.1)) = false
    rw [ih h2]; rfl
theorem sn_bi {f : Bi} {id : String} {n : Str} {p : Pos} {es : List Expr} {xs : Es} (hc : CallR X (.builtin id) (RBs X.K (bi f))) (hg : Gl X n) (hm : X.mg n = none) (hv : bootBuiltins n = some (.builtin id)) (ha : PA X (a :: es) (LEs X.K C xs)) (hs : notStar a = true) (hs2 : es.all notStar = true)
    (hn : n ≠ "__name__") (hdb : (n == ("__debug__" : Str)) = false) : PE X (.Call (.Name n p) (a :: es) [] pos) (LE X.K C (.bi f xs)) :=
  weakE (pe_callB hc hg hm hv ha hn hdb (star_plain hs es X.env) (noStars hs2 X.env pos)) fun σ H Q ⟨env, st, mp, er, sr, h⟩ => LEs.bind er sr h fun m1 H1 s1 v v' g1 sr1 er1 rv h1 => ⟨m1, s1, v, rv, sr1, NoX, h1⟩
theorem sn_biT {f : Bi} {id : String} {n : Str} {p : Pos} {es : List Expr} {xs : Es} (hc : CallR X (.type id) (RBs X.K (bi f))) (hg : Gl X n) (hm : X.mg n = none) (hv : bootBuiltins n = some (.type id)) (ha : PA X (a :: es) (LEs X.K C xs)) (hs : notStar a = true) (hs2 : es.all notStar = true)
    (hn : n ≠ "__name__") (hdb : (n == ("__debug__" : Str)) = false) : PE X (.Call (.Name n p) (a :: es) [] pos) (LE X.K C (.bi f xs)) :=
  weakE (pe_callTy hc hg hm hv ha hn hdb (star_plain hs es X.env) (noStars hs2 X.env pos)) fun σ H Q ⟨env, st, mp, er, sr, h⟩ => LEs.bind er sr h fun m1 H1 s1 v v' g1 sr1 er1 rv h1 => ⟨m1, s1, v, rv, sr1, NoX, h1⟩
/-! ### list(range(..)), tuple(range(..)) -/
def LR (K : PySem.W.Frag) (C : Cfg) (r : Rg) : L2.St → Hp → (Int → Int → Hp → Prop) → Prop := fun σ H Q => ∃ env st mp, ER K mp H env σ ∧ SR K mp H st ∧ Aft K mp H (evalRg C r env st) (fun m1 H1 _ vs => ∃ i j, (vs = [.int j] ∧ i = 0 ∨ vs = [.int i, .int j]) ∧ Q i j H1) NoX
theorem LR.bind {K : PySem.W.Frag} {α : Type} {r : Rg} {mp : List Addr} {H : Hp} {env : En} {σ : L2.St} {st : Store} {k : List Val → M α} {okP : List Addr → Hp → Store → α → Prop} {R : Int → Int → Hp → Prop} (er : ER K mp H env σ) (sr : SR K mp H st) (h : Aft K mp H ((evalRg C r env >>= k) st) okP NoX)
    (hR : ∀ m1 H1 s1 vs, Grow mp H m1 H1 → SR K m1 H1 s1 → ER K m1 H1 env σ → Aft K m1 H1 (k vs s1) okP NoX → ∃ i j, (vs = [.int j] ∧ i = 0 ∨ vs = [.int i, .int j]) ∧ R i j H1) : LR K C r σ H R :=
  ⟨env, st, mp, er, sr, (Aft.bind h).mono (fun m1 H1 s v g s' a => hR m1 H1 s v g s' (er.grow g) a) fun _ _ _ _ _ _ _ h => h⟩
theorem sr_1 {p : Pos} (hg : Gl X "range") (hm : X.mg "range" = none) (ha : PE X a (LE X.K C x)) (hs : notStar a = true) : PRg X (.Call (.Name "range" p) [a] [] pos) (LR X.K C (.one x)) := fun pins s σ H Q I ⟨env, st, mp, er, sr, h⟩ => by
  refine prg_1 hg hm ha (star_plain hs [] X.env) pins s σ H Q I ?_
  refine LE.bind er sr h fun m1 H1 s1 v v' g1 sr1 er1 rv h1 => ?_
  obtain ⟨i, j, e, q⟩ := Aft.ok_now (s := s1) (v := [v]) h1 sr1
  rcases e with ⟨e, rfl⟩ | e
  · cases e; cases rv; exact ⟨_, rfl, q⟩
  · cases e
theorem sr_2 {p : Pos} (hg : Gl X "range") (hm : X.mg "range" = none) (ha : PE X a (LE X.K C x)) (hb : PE X b (LE X.K C y)) (hs : notStar a = true) (hs2 : notStar b = true) : PRg X (.Call (.Name "range" p) [a, b] [] pos) (LR X.K C (.two x y)) := fun pins s σ H Q I ⟨env, st, mp, er, sr, h⟩ => by
  refine prg_2 hg hm ha hb (star_plain hs [b] X.env) (star_plain hs2 [] X.env) (by rw [star_plain hs2 [] X.env]; rfl) pins s σ H Q I ?_
  refine LE.bind er sr h fun m1 H1 s1 v v' g1 sr1 er1 rv h1 => LE.bind er1 sr1 h1 fun m2 H2 s2 u u' g2 sr2 er2 ru h2 => ?_
  obtain ⟨i, j, e, q⟩ := Aft.ok_now (s := s2) (v := [v, u]) h2 sr2
  rcases e with ⟨e, rfl⟩ | e
  · cases e
  · cases e; cases rv; cases ru; exact ⟨_, _, rfl, rfl, q⟩
theorem rg_rel {K : PySem.W.Frag} {mp : List Addr} {H : Hp} (lo : Int) : ∀ n : Nat, ∀ k : Nat, RVs K mp H ((List.range' k n).map fun (i : Nat) => .int (lo + (i : Int) * 1)) ((List.range' k n).map fun i => V.int (lo + (i : Nat)))
  | 0, _ => .nil
  | n + 1, k => by
    rw [List.range'_succ, List.map_cons, List.map_cons]
    refine .cons ?_ (rg_rel lo n (k + 1))
    rw [Int.mul_one]; exact .int _
theorem rgV_rel {K : PySem.W.Frag} {mp : List Addr} {H : Hp} {i j : Int} : RVs K mp H (MP.rgV ⟨i, 1, (j - i).toNat⟩) (L2.rgV i j) := by
  unfold MP.rgV L2.rgV
  rw [List.range_eq_range']
  exact rg_rel i _ 0
theorem rng_inv {K : PySem.W.Frag} {mp : List Addr} {H : Hp} {st : Store} {vs : List Val} {f : RgV → M Val} {ok : List Addr → Hp → Store → Val → Prop} (h : Aft K mp H ((ofOpt (rng2V vs) fun g => need (szOk g.n) (f g)) st) ok NoX) :
    ∃ i j, (vs = [.int j] ∧ i = 0 ∨ vs = [.int i, .int j]) ∧ RgOk i j ∧ Aft K mp H (f ⟨i, 1, (j - i).toNat⟩ st) ok NoX := by
  obtain ⟨g, e, h⟩ := ofOpt_inv h
  obtain ⟨z, h⟩ := need_inv h
  have z := szOk_le z
  rw [sizeLine_eq] at z
  unfold rng2V at e
  split at e
  · next j =>
    split at e
    · next hj =>
      cases e
      have hj := (show -(2 ^ 62) ≤ j ∧ j < 2 ^ 62 from of_decide_eq_true hj)
      exact ⟨0, j, .inl ⟨rfl, rfl⟩, ⟨by decide, by decide, hj.1, hj.2, by simpa using z⟩, by simpa using h⟩
    · cases e
  · next i j =>
    split at e
    · next hj =>
      cases e
      obtain ⟨h1, h2⟩ := Bool.and_eq_true_iff.mp hj
      have h1 := (show -(2 ^ 62) ≤ i ∧ i < 2 ^ 62 from of_decide_eq_true h1)
      have h2 := (show -(2 ^ 62) ≤ j ∧ j < 2 ^ 62 from of_decide_eq_true h2)
      exact ⟨i, j, .inr rfl, ⟨h1.1, h1.2, h2.1, h2.2, by simpa using z⟩, h⟩
    · cases e
  · cases e
theorem sn_lrng {r : Rg} {p : Pos} (hc : X.calm = true) (hg : Gl X "list") (hm : X.mg "list" = none) (he : PRg X a (LR X.K C r)) (hs : notStar a = true) : PE X (.Call (.Name "list" p) [a] [] pos) (LE X.K C (.lrng r)) :=
  weakE (pe_listRg hc hg hm he (star_plain hs [] X.env)) fun σ H Q ⟨env, st, mp, er, sr, h⟩ => LR.bind er sr h fun m1 H1 s1 vs g1 sr1 er1 h1 => by
    obtain ⟨i, j, e, ok, h1⟩ := rng_inv h1
    exact ⟨i, j, e, ok, new_inv sr1 h1 rgV_rel⟩
theorem sn_trng {r : Rg} {p : Pos} (hc : X.calm = true) (hg : Gl X "tuple") (hm : X.mg "tuple" = none) (he : PRg X a (LR X.K C r)) (hs : notStar a = true) : PE X (.Call (.Name "tuple" p) [a] [] pos) (LE X.K C (.trng r)) :=
  weakE (pe_tupRgF hc hg hm he (star_plain hs [] X.env)) fun σ H Q ⟨env, st, mp, er, sr, h⟩ => LR.bind er sr h fun m1 H1 s1 vs g1 sr1 er1 h1 => by
    obtain ⟨i, j, e, ok, h1⟩ := rng_inv h1
    exact ⟨i, j, e, ok, tup_inv sr1 h1 rgV_rel⟩
/-! ### methods -/
/-- the value's type, its object without a dict of its own -/
def TyG (K : PySem.W.Frag) (T : String) (x : V) (H : Hp) : Prop := tyV K T x H ∨ (T = "tuple" ∧ ∃ p o vs, x = .ref p ∧ H p = some (.frz o (.tup vs)) ∧ o.dict = none)
theorem tyG_is {pins : List (Addr × Obj)} {σ : L2.St} {H : Hp} {s : Shared} {T : String} {x : V} {v : Value} (I : Inv X pins σ H s) (r : RelV x v) (ty : TyG X.K T x H) :
    s.TypeIs v T ∧ ∀ a, v = .ref a → ∃ ob, s.heap.get? a = some ob ∧ ob.dict = none := by
  rcases ty with ty | ⟨rfl, p, o, vs, rfl, hp, hd⟩
  · exact tyV_is I r ty
  · cases r
    obtain ⟨ho, _, its, rv, o', ho', hc, _⟩ := (show ObjOk X.prog X.w H s.heap p (.frz o (.tup vs)) from I.hok p _ hp)
    rw [ho] at ho'
    cases ho'
    exact ⟨⟨o, ho, hc⟩, fun a e => by cases e; exact ⟨o, ho, hd⟩⟩
def tBG0 (K : PySem.W.Frag) (T : String) (r : V → List V → Hp → VK → Prop) (to : TE) : TE := fun σ H Q => to σ H fun x H1 => TyG K T x H1 ∧ r x [] H1 Q
def tBG (K : PySem.W.Frag) (T : String) (r : V → List V → Hp → VK → Prop) (to : TE) (t : TA) : TE := fun σ H Q => to σ H fun x H1 => TyG K T x H1 ∧ t σ H1 fun xs H2 => r x xs H2 Q
section
variable {o e : Expr} {es : List Expr} {to : TE} {t : TA} {name : Str} {apos cpos : Pos} {T id : String} {r : V → List V → Hp → VK → Prop}
theorem pe_bg0 (pa : PlainAttrs T) (slot : Slot T name id) (hty : typeOf (.builtin id) = pure (.type "method_descriptor")) (hm : MtR X id r) (ho : PE X o to)
    (hbase : attributeBase o name X.env (eval o X.env) = eval o X.env) (hline : (apos.endLine == cpos.line) = true) : PE X (.Call (.Attribute o name apos) [] [] cpos) (tBG0 X.K T r to) := by
  refine ⟨fun pins s σ H Q I h => ?_⟩
  refine wpAny_Call_method0_late hbase hline (thn (ho.run pins s σ H _ I h) fun v s1 ⟨x, H1, I1, r1, ty, q1⟩ => ?_)
  obtain ⟨h1, h2⟩ := tyG_is I1 r1 ty
  exact ⟨T, id, pa, slot, hty, h1, h2, Calls.callWith_builtin rfl (PySem.evalArgs_none (hm pins s1 σ H1 x [] v [] Q I1 r1 .nil q1))⟩
theorem pe_bg (pa : PlainAttrs T) (slot : Slot T name id) (hty : typeOf (.builtin id) = pure (.type "method_descriptor")) (hm : MtR X id r) (ho : PE X o to) (ha : PA X (e :: es) t)
    (hbase : attributeBase o name X.env (eval o X.env) = eval o X.env)
    (hfew : ((backTo cpos (starEach (e :: es) X.env)).all (fun x => !x.1) && (backToKw cpos (keywordEach [] X.env)).all (fun x => x.1.isSome)
      && decide ((e :: es).length + ([] : List Keyword).length + (if ([] : List Keyword).isEmpty then 0 else 1) < 30)) = true)
    (hline : (apos.endLine == cpos.line) = true) (hs : starEach (e :: es) X.env = (false, eval e X.env) :: starEach es X.env) (hplain : (backTo cpos (starEach es X.env)).any (·.1) = false) :
    PE X (.Call (.Attribute o name apos) (e :: es) [] cpos) (tBG X.K T r to t) := by
  refine ⟨fun pins s σ H Q I h => ?_⟩
  refine wpAny_Call_method_late hbase hfew hline rfl (thn (ho.run pins s σ H _ I h) fun v s1 ⟨x, H1, I1, r1, ty, q1⟩ => ?_)
  obtain ⟨h1, h2⟩ := tyG_is I1 r1 ty
  refine ⟨T, id, pa, slot, hty, h1, h2, ?_⟩
  have hA := ha.run cpos pins s1 σ H1 _ I1 q1
  rw [hs] at hA ⊢
  refine Calls.callWith_builtin (by show (false || (backTo cpos (starEach es X.env)).any (·.1)) = false; rw [hplain] <;> rfl) (Calls.evalArgs_plain ?_)
  exact thn hA fun us s2 ⟨vs, H2, I2, r2, q2⟩ => hm pins s2 σ H2 x vs v us Q I2 r1 r2 q2
end
/-- the receiver of the method -/
def notCall : Expr → Bool
  | .Call (.Name _ _) [] [] _ => false
  | _ => true
theorem base_of {o : Expr} (h : notCall o = true) (n : Str) (env : Env) (wh : Sem Value) : attributeBase o n env wh = wh := by
  unfold attributeBase
  split
  · next => cases h
  · rfl
end
end MP
set_option Elab.async false
set_option linter.all false
set_option maxRecDepth 100000
/-! Methods, isinstance. -/
namespace MP
open PySem PySem.Spec PyProof.Rows L2

section
variable {X : Cx} {C : Cfg} {a b c : Expr} {x y z : E} {pos : Pos}
def lstMt : Mt → Bool
  | .append => true | .insert => true | .popAt => true | .pop => true | .extend => true
  | .index => false | .upper => false | .setdef => false
theorem mtTy_lst {α : Type} {K : PySem.W.Frag} {mp : List Addr} {H : Hp} {st : Store} {m : Mt} {v : Val} {v' : V} {k : M α} {ok : List Addr → Hp → Store → α → Prop} (hm : lstMt m = true) (sr : SR K mp H st) (rv : RV K mp H v v') (h : Aft K mp H (mtTy m v k st) ok NoX) :
    TyG K "list" v' H ∧ Aft K mp H (k st) ok NoX := by
  have h : Aft K mp H (recvL v k st) ok NoX := by
    cases m <;> first | exact h | cases hm
  cases v with
  | ref n =>
    obtain ⟨p, rfl, hp⟩ := rv.refS
    obtain ⟨xs, vs, e1, e2, r, h⟩ := onL_inv sr hp h
    exact ⟨.inl (.inl ⟨rfl, vs, SqL.of e2⟩), h⟩
  | _ => exact False.elim h
theorem few_of {es : List Expr} {e : Expr} (h1 : notStar e = true) (h2 : es.all notStar = true) (h3 : es.length < 20) (env : Env) (cpos : Pos) : ((backTo cpos (starEach (e :: es) env)).all (fun x => !x.1) && (backToKw cpos (keywordEach [] env)).all (fun x => x.1.isSome)
      && decide ((e :: es).length + ([] : List Keyword).length + (if ([] : List Keyword).isEmpty then 0 else 1) < 30)) = true := by
  have hs : ∀ es : List Expr, es.all notStar = true → (backTo cpos (starEach es env)).all (fun x => !x.1) = true := by
    intro es h
    induction es with
    | nil => rfl
    | cons e es ih =>
      obtain ⟨h1, h2⟩ := Bool.and_eq_true_iff.mp (show (notStar e && es.all notStar) = true from h)
      rw [star_plain h1 es env]
      show ((!false : Bool) && (backTo cpos (starEach es env)).all (fun x => !x.1)) = true
      rw [ih h2]; rfl
  rw [hs (e :: es) (by rw [List.all_cons, h1, h2]; rfl)]
  have : decide ((e :: es).length + ([] : List Keyword).length + (if ([] : List Keyword).isEmpty then 0 else 1) < 30) = true := by
    rw [decide_eq_true_eq, List.length_cons]; simp; omega
  rw [this]; rfl
/-- o.m(e, ..), m a list's method -/
theorem sn_mtL {m : Mt} {id : String} {n : Str} {apos : Pos} {es : List Expr} {xs : Es} (hml : lstMt m = true) (slot : Slot "list" n id) (hty : typeOf (.builtin id) = pure (.type "method_descriptor")) (hm : MtR X id (RBm X.K (mt m))) (ho : PE X b (LE X.K C y)) (ha : PA X (a :: es) (LEs X.K C xs)) (hb : notCall b = true)
    (hl : (apos.endLine == pos.line) = true) (hs : notStar a = true) (hs2 : es.all notStar = true) (h20 : es.length < 20) : PE X (.Call (.Attribute b n apos) (a :: es) [] pos) (LE X.K C (.mt m y xs)) :=
  weakE (pe_bg F.plainAttrs_list slot hty hm ho ha (base_of hb _ _ _) (few_of hs hs2 h20 X.env pos) hl (star_plain hs es X.env) (noStars hs2 X.env pos)) fun σ H Q ⟨env, st, mp, er, sr, h⟩ => LE.bind er sr h fun m1 H1 s1 v v' g1 sr1 er1 rv h1 => by
    obtain ⟨ty, h1⟩ := mtTy_lst hml sr1 rv h1
    exact ⟨ty, LEs.bind er1 sr1 h1 fun m2 H2 s2 u u' g2 sr2 er2 ru h2 => ⟨m2, s2, v, u, rv.grow g2, ru, sr2, NoX, h2⟩⟩
theorem sn_mtL0 {m : Mt} {id : String} {n : Str} {apos : Pos} (hml : lstMt m = true) (slot : Slot "list" n id) (hty : typeOf (.builtin id) = pure (.type "method_descriptor")) (hm : MtR X id (RBm X.K (mt m))) (ho : PE X b (LE X.K C y)) (hb : notCall b = true)
    (hl : (apos.endLine == pos.line) = true) : PE X (.Call (.Attribute b n apos) [] [] pos) (LE X.K C (.mt m y .nil)) :=
  weakE (pe_bg0 F.plainAttrs_list slot hty hm ho (base_of hb _ _ _) hl) fun σ H Q ⟨env, st, mp, er, sr, h⟩ => LE.bind er sr h fun m1 H1 s1 v v' g1 sr1 er1 rv h1 => by
    obtain ⟨ty, h1⟩ := mtTy_lst hml sr1 rv h1
    exact ⟨ty, m1, s1, v, [], rv, .nil, sr1, NoX, h1⟩
theorem MtR.left {id : String} {r r' : V → List V → Hp → VK → Prop} (h : MtR X id (fun x xs H Q => r x xs H Q ∨ r' x xs H Q)) : MtR X id r := fun pins s σ H x xs v us Q I rx rs q => h pins s σ H x xs v us Q I rx rs (.inl q)
theorem MtR.right {id : String} {r r' : V → List V → Hp → VK → Prop} (h : MtR X id (fun x xs H Q => r x xs H Q ∨ r' x xs H Q)) : MtR X id r' := fun pins s σ H x xs v us Q I rx rs q => h pins s σ H x xs v us Q I rx rs (.inr q)
theorem sn_upper {apos : Pos} (ho : PE X b (LE X.K C y)) (hb : notCall b = true) (hl : (apos.endLine == pos.line) = true) : PE X (.Call (.Attribute b "upper" apos) [] [] pos) (LE X.K C (.mt .upper y .nil)) :=
  weakE (pe_bg0 F.plainAttrs_str F.slot_str_upper F.type_str_upper mt_upperM ho (base_of hb _ _ _) hl) fun σ H Q ⟨env, st, mp, er, sr, h⟩ => LE.bind er sr h fun m1 H1 s1 v v' g1 sr1 er1 rv h1 => by
    cases v with
    | str z =>
      cases rv
      exact ⟨.inl rfl, m1, s1, .str z, [], .str z, .nil, sr1, NoX, h1⟩
    | _ => exact False.elim h1
/-- o.index(e), o a list or a tuple -/
theorem sn_index {apos : Pos} (hu : X.A.units + 65 < cLine) (ho : PE X b (LE X.K C y)) (ha : PA X [a] (LEs X.K C (.cons x .nil))) (hb : notCall b = true) (hl : (apos.endLine == pos.line) = true) (hs : notStar a = true) :
    PE X (.Call (.Attribute b "index" apos) [a] [] pos) (LE X.K C (.mt .index y (.cons x .nil))) := by
  refine ⟨fun pins s σ H Q I ⟨env, st, mp, er, sr, h⟩ => ?_⟩
  have h0 := LE.bind (R := fun x' H1 => (TyG X.K "list" x' H1 ∧ LEs X.K C (.cons x .nil) σ H1 fun xs H2 => rIndexD X.K x' xs H2 Q) ∨ (TyG X.K "tuple" x' H1 ∧ LEs X.K C (.cons x .nil) σ H1 fun xs H2 => rIndexT X.K x' xs H2 Q)) er sr h fun m1 H1 s1 v v' g1 sr1 er1 rv h1 => by
    have fin : ∀ {m2 H2 s2 u u'}, SR X.K m2 H2 s2 → RVs X.K m2 H2 u u' → Aft X.K m2 H2 (mt .index v u s2) (OkV X.K Q) NoX → RV X.K m2 H2 v v' → (∀ a, u ≠ [a]) → False := fun {m2 H2 s2 u u'} _ _ h2 _ hne => by
      unfold mt at h2
      match u, h2, hne with
      | [], h2, _ => exact h2
      | [a], _, hne => exact hne a rfl
      | _ :: _ :: _, h2, _ => exact h2
    cases v with
    | tup ys =>
      refine .inr ⟨?_, ?_⟩
      · obtain ⟨p, vs, rfl, t, r⟩ := rv.tupS
        rcases t with ⟨_, o, e, d⟩ | ⟨o, its, n, e, hc, hd, _⟩
        · exact .inr ⟨rfl, p, o, vs, rfl, e, d⟩
        · exact .inl (.inr (.inl ⟨rfl, o, e, hc, hd⟩))
      · refine LEs.bind er1 sr1 h1 fun m2 H2 s2 u u' g2 sr2 er2 ru h2 => ?_
        have rv2 := rv.grow g2
        match u, ru, h2 with
        | [], _, h2 => exact False.elim h2
        | _ :: _ :: _, _, h2 => exact False.elim h2
        | [w], ru, h2 =>
          obtain ⟨w', rfl, rw1⟩ := ru.oneV
          obtain ⟨p, vs, rfl, t, r⟩ := rv2.tupS
          obtain ⟨j, e, h2⟩ := ask_inv h2
          obtain ⟨d, ds, z, p1, p2, p3, p4, p5, p6, p7⟩ := indexV_inv sr2 rw1 r e
          exact ⟨p, w', d, vs, ds, j, z, rfl, rfl, t.sq, p3, p1, p4, p2, p5, p6, p7, pure_inv sr2 h2 (.int _)⟩
    | ref n =>
      obtain ⟨p, rfl, hp⟩ := rv.refS
      obtain ⟨xs, vs, e1, e2, r, h1⟩ := onL_inv sr1 hp h1
      refine .inl ⟨.inl (.inl ⟨rfl, vs, SqL.of e2⟩), LEs.bind er1 sr1 h1 fun m2 H2 s2 u u' g2 sr2 er2 ru h2 => ?_⟩
      have hp2 := g2.at hp
      match u, ru, h2 with
      | [], _, h2 => exact False.elim h2
      | _ :: _ :: _, _, h2 => exact False.elim h2
      | [w], ru, h2 =>
        obtain ⟨w', rfl, rw1⟩ := ru.oneV
        obtain ⟨xs, vs, e1, e2, r, h2⟩ := onL_inv sr2 hp2 h2
        obtain ⟨j, e, h2⟩ := ask_inv h2
        obtain ⟨d, ds, z, p1, p2, p3, p4, p5, p6, p7⟩ := indexV_inv sr2 rw1 r e
        exact ⟨p, w', d, ds, j, z, rfl, rfl, .lst (SqL.of e2) p3, p1, p4, p2, p5, p6, p7, pure_inv sr2 h2 (.int _)⟩
    | _ => exact False.elim h1
  refine wpAny_Call_method_late (base_of hb _ _ _) (few_of hs rfl (by decide) X.env pos) hl rfl (thn (ho.run pins s σ H _ I h0) fun v s1 ⟨x', H1, I1, r1, q1⟩ => ?_)
  have hst := star_plain hs [] X.env
  rcases q1 with ⟨ty, q1⟩ | ⟨ty, q1⟩
  · obtain ⟨h1, h2⟩ := tyG_is I1 r1 ty
    refine ⟨"list", "list.index", F.plainAttrs_list, F.slot_list_index, F.type_list_index, h1, h2, ?_⟩
    have hA := ha.run pos pins s1 σ H1 _ I1 q1
    rw [hst] at hA ⊢
    refine Calls.callWith_builtin (by rfl) (Calls.evalArgs_plain ?_)
    exact thn hA fun us s2 ⟨vs, H2, I2, r2, q2⟩ => mt_indexD hu pins s2 σ H2 x' vs v us Q I2 r1 r2 q2
  · obtain ⟨h1, h2⟩ := tyG_is I1 r1 ty
    refine ⟨"tuple", "tuple.index", F.plainAttrs_tuple, F.slot_tuple_index, F.type_tuple_index, h1, h2, ?_⟩
    have hA := ha.run pos pins s1 σ H1 _ I1 q1
    rw [hst] at hA ⊢
    refine Calls.callWith_builtin (by rfl) (Calls.evalArgs_plain ?_)
    exact thn hA fun us s2 ⟨vs, H2, I2, r2, q2⟩ => mt_indexT hu pins s2 σ H2 x' vs v us Q I2 r1 r2 q2
/-! ### isinstance -/
theorem sn_isi1 {t : Ty} {n : Str} {p p2 : Pos} (hg : Gl X "isinstance") (hm : X.mg "isinstance" = none) (hg2 : Gl X n) (hm2 : X.mg n = none) (hv : bootBuiltins n = some (.type (tyS t))) (hn : n ≠ "__name__") (hdb : (n == ("__debug__" : Str)) = false)
    (ha : PE X a (LE X.K C x)) (hs : notStar a = true) : PE X (.Call (.Name "isinstance" p) [a, .Name n p2] [] pos) (LE X.K C (.isi x [t])) :=
  weakE (pe_callB call_isi hg hm PyProof.Rows.boot_isinstance (pa_cons ha (pa_cons (pe_bltn hg2 hm2 hv (show RelV (.ty (tyS t)) _ from rfl) hn hdb) pa_nil) (star_plain hs _ X.env)) (by decide) (by decide) (star_plain hs _ X.env)) fun σ H Q ⟨env, st, mp, er, sr, h⟩ => LE.bind er sr h fun m1 H1 s1 v v' g1 sr1 er1 rv h1 => by
    obtain ⟨T, ty, h1⟩ := isAny_inv h1
    have e : ([t].any fun t => isT T t) = isT T t := by simp
    rw [e] at h1
    exact ⟨v', .ty (tyS t), .type T, .type (tyS t), isT T t, rfl, .ty _, ty_of sr1 ty rv, kit_ty (kit1 T t ty.cases), pure_inv sr1 h1 (.bool _)⟩
theorem paired_tys : ∀ ts : List Ty, Paired ClsV (ts.map fun t => V.ty (tyS t)) (ts.map fun t => Value.type (tyS t))
  | [] => .nil
  | t :: ts => .cons (.ty _) (paired_tys ts)
/-- the names of classes, written in a tuple -/
def tTys (ts : List Ty) : TA := fun _ H Q => Q (ts.map fun t => V.ty (tyS t)) H
theorem sn_isiT {ts : List Ty} {es : List Expr} {j} {p p2 : Pos} (hg : Gl X "isinstance") (hm : X.mg "isinstance" = none) (hts : PA X es (tTys ts)) (hlen : ts.length ≤ 10) (ha : PE X a (LE X.K C x)) (hs : notStar a = true) :
    PE X (.Call (.Name "isinstance" p) [a, .Tuple es j p2] [] pos) (LE X.K C (.isi x ts)) :=
  weakE (pe_callB call_isiT hg hm PyProof.Rows.boot_isinstance (pa_cons ha (pa_cons (pe_tup hts) pa_nil) (star_plain hs _ X.env)) (by decide) (by decide) (star_plain hs _ X.env)) fun σ H Q ⟨env, st, mp, er, sr, h⟩ => LE.bind er sr h fun m1 H1 s1 v v' g1 sr1 er1 rv h1 => by
    obtain ⟨T, ty, h1⟩ := isAny_inv h1
    have hsl := sizeLine_eq
    refine ⟨by rw [List.length_map]; omega, fun p hp => ?_⟩
    obtain ⟨g, sr2⟩ := sr1.pair (vs := ts.map fun t => V.ty (tyS t)) hp
    refine ⟨v', p, ts.map fun t => V.ty (tyS t), .type T, ts.map fun t => .type (tyS t), ts.any fun t => isT T t, rfl, upd_same, paired_tys ts, ty_of sr2 ty (rv.grow g), kitAll ty.cases ts, ?_⟩
    exact pure_inv sr2 (Aft.grow g h1) (.bool _)
end
end MP
set_option Elab.async false
set_option linter.all false
set_option maxRecDepth 100000
/-! enumerate(tuple). -/
namespace MP
open PySem PySem.Spec PyProof.Rows L2
set_option maxHeartbeats 1000000 in
theorem meets_enumerate_newT (l : Addr) (items : Array Value) :
    Meets (Builtin.«enumerate.__new__» ⟨[.type "enumerate", .ref l], []⟩) (fun _ R s => s.heap.IsTuple l items ∧
      R (.ok (.ret (.ref (s.heap.push { cls := .type "tuple_iterator", data := .fields #[.ref l, .int 0 0] }).objs.size)))
        { s with heap := (s.heap.push { cls := .type "tuple_iterator", data := .fields #[.ref l, .int 0 0] }).push { cls := .type "enumerate", data := .fields #[.none, .bool false, .ref s.heap.objs.size, rawInt 0, .none, .none] } }) :=
  .of_wp fun prog w A R s h => by
    obtain ⟨hp, g, d, tk, os⟩ := s
    obtain ⟨hl, h⟩ := h
    have hsub := sub_enumerate
    wp_walk
    refine wpAny_stack_any fun st => wpAny_pure ?_
    split
    · rename_i c _ _ _ _ _
      cases (c == Value.type "enumerate")
      · wp_walk using wpAny_pyIter_tuple hl
        exact ⟨_, rfl, h⟩
      · wp_walk using wpAny_pyIter_tuple hl
        exact ⟨_, rfl, h⟩
    · wp_walk using wpAny_pyIter_tuple hl
      exact ⟨_, rfl, h⟩
theorem call_enumerate_tuple {prog : Program} {w : World} {A : Around} {E : Value → Shared → Prop} {s : Shared} {l : Addr} {items : Array Value} {Q : Value → Shared → Prop} (hL : s.heap.IsTuple l items)
    (h : ∀ h', IsEnum h' (s.heap.objs.size + 1) s.heap.objs.size 0 .none → h'.IsTupleIter s.heap.objs.size l 0 → h'.objs.size = s.heap.objs.size + 2 →
      (∀ b o, s.heap.get? b = some o → h'.get? b = some o) → Q (.ref (s.heap.objs.size + 1)) { s with heap := h' }) :
    wpAny (model prog w) A (call (.type "enumerate") [.ref l]) Q E s := by
  refine callType_new F.called_enumerate (by decide) (F.typeCall_enumerate_1 _) (F.newCall_enumerate_1 _) (fun obj => F.args_object_init_2 obj _) F.entry_enumerate_new
    (meets_enumerate_newT l items) ⟨hL, ?_⟩
  have hz : (s.heap.push { cls := .type "tuple_iterator", data := .fields #[.ref l, .int 0 0] }).objs.size = s.heap.objs.size + 1 := Heap.size_push ..
  show _ ∧ _
  rw [hz]
  have he : IsEnum ((s.heap.push { cls := .type "tuple_iterator", data := .fields #[.ref l, .int 0 0] }).push
      { cls := .type "enumerate", data := .fields #[.none, .bool false, .ref s.heap.objs.size, rawInt 0, .none, .none] }) (s.heap.objs.size + 1) s.heap.objs.size 0 .none := by
    have := Heap.get?_push_size (s.heap.push { cls := .type "tuple_iterator", data := .fields #[.ref l, .int 0 0] })
      (o := { cls := .type "enumerate", data := .fields #[.none, .bool false, .ref s.heap.objs.size, rawInt 0, .none, .none] }) rfl
    rw [hz] at this; exact this
  refine ⟨⟨_, he, rfl⟩, h _ he ⟨_, Heap.get?_push_of_some _ (Heap.get?_push_size _ rfl), rfl, rfl⟩ (by rw [Heap.size_push, hz]) fun b o x => Heap.get?_push_of_some _ (Heap.get?_push_of_some _ x)⟩

def IteT (K : PySem.W.Frag) (a : Addr) : L2.It :=
  ⟨fun i H => ∃ (xs : List V) (x : V), SqT K H a xs ∧ xs[i]? = some x, fun i H v H' => ∃ T x, v = .ref T ∧ H T = none ∧ H' = upd H T (.tup [.int (i : Nat), x]) ∧ ∀ xs, SqT K H a xs → xs[i]? = some x, fun i H => ∃ xs : List V, SqT K H a xs ∧ xs.length ≤ i⟩
theorem tup_inj {X : Cx} {pins : List (Addr × Obj)} {σ : L2.St} {H : Hp} {s : Shared} {a : Addr} {xs ys : List V} (I : Inv X pins σ H s) (h : SqT X.K H a xs) (h' : SqT X.K H a ys) : xs = ys := by
  obtain ⟨its, r, ⟨o, e, _, n, d⟩, _⟩ := I.tuple h
  obtain ⟨its', r', ⟨o', e', _, n', d'⟩, _⟩ := I.tuple h'
  rw [e] at e'; cases e'
  rw [d] at d'
  injection d' with d1 _
  have : its = its' := by simpa using congrArg Array.toList d1
  subst this
  exact r.inj r'
theorem turn_enumT {P : Program} {w : World} {K : PySem.W.Frag} {elts : List Expr} {kk : Nat} {tpos : Pos} (a e it : Addr) (hae : a ≠ e) (hai : a ≠ it) :
    Turn P w K (.Tuple elts kk tpos) (IteT K a) [e, it] e (fun i h => (∃ old, IsEnum h e it ((i : Nat) : Int) old) ∧ h.IsTupleIter it a i ∧ e ≠ it) where
  mem := by simp
  obj := fun i h st b hb => by
    obtain ⟨⟨old, he⟩, ⟨o, ho, hc, hd⟩, _⟩ := st
    have e' : b = e ∨ b = it := by simpa using hb
    rcases e' with z | z
    · rw [z]; exact ⟨_, he, fun v q => nomatch q⟩
    · rw [z]; exact ⟨o, ho, fun v q => by rw [hd] at q; cases q⟩
  keep := fun i h h' st k => let ⟨⟨old, he⟩, hi, hne⟩ := st; ⟨⟨old, k e (by simp) _ he⟩, hi.at fun o q => k it (by simp) o q, hne⟩
  item := by
    intro X hP hw hK hc i pins s σ H E I hf st hg
    subst hP hw hK
    obtain ⟨⟨old, he⟩, hit, hne⟩ := st
    obtain ⟨xs, x, hq, hx⟩ := hg
    obtain ⟨its, rv, p, hz⟩ := I.tuple hq
    obtain ⟨u, hu, ru⟩ := rv.get hx
    have hel : e < s.heap.objs.size := Heap.lt_size he
    have hil : it < s.heap.objs.size := by obtain ⟨_, q, _⟩ := hit; exact Heap.lt_size q
    have D := Draws.tuple (prog := X.prog) (w := X.w) (A := X.A.in1) (I.ok.hd hc) it a hai its.toArray
    have hlt : i < its.toArray.size := by simpa using (List.getElem?_eq_some_iff.mp hu).1
    refine wpAny_pyNext_enum_itemD D he ⟨hit, p⟩ hlt hne (by simp [hne, Ne.symm hae]) fun y h' tk hy ho hit' hT hsz hk => ?_
    have hyu : y = u := by
      have hy : its.toArray[i]? = some y := hy
      have : its[i]? = some y := by simpa using hy
      rw [hu] at this; cases this; rfl
    subst hyu
    refine ⟨_, rfl, wpAny_letOwnedTupleGo_enum (s := { s with heap := h', toks := tk + 1 }) ho fun h'' he' sb => ?_⟩
    have hT2 : h''.get? s.heap.objs.size = some { cls := .type "tuple", data := .seq #[.int i tk, y] } := (sb.2 _ (Nat.ne_of_gt hel)).trans hT
    have new : ObjOk X.prog X.w (upd H s.heap.objs.size (.tup [.int (i : Nat), x])) h'' s.heap.objs.size (.tup [.int (i : Nat), x]) :=
      ⟨by show 2 ≤ sizeLine; decide, [.int i tk, y], .cons ⟨_, rfl⟩ (.cons ru .nil), ⟨_, hT2, rfl, _, rfl⟩⟩
    have I1 : Inv X pins σ (upd H s.heap.objs.size (.tup [.int (i : Nat), x])) { s with heap := h'', toks := tk + 1 } :=
      I.turnedNew (ch := [e, it]) (fun b ob hb q => (sb.2 b (fun z => hb (by simp [z]))).trans (hk b ob (fun z => hb (by simp [z])) (fun z => hb (by simp [z])) q)) hf (Nat.le_refl _) new
    refine ⟨.ref s.heap.objs.size, _, I1, rfl, ⟨_, x, rfl, I.hok.fresh (Nat.le_refl _), rfl, fun ys hy => by rw [tup_inj I hy hq]; exact hx⟩, ⟨⟨y, ?_⟩, hit'.1.at fun o q => (sb.2 it (Ne.symm hne)).trans q, hne⟩, fun b hb => ?_⟩
    · have e1 : ((i + 1 : Nat) : Int) = (i : Int) + 1 := by omega
      rw [e1]; exact he'
    · have hb' : b < s.heap.objs.size := by
        have e' : b = e ∨ b = it := by simpa using hb
        rcases e' with z | z
        · rw [z]; exact hel
        · rw [z]; exact hil
      rw [upd_ne (Nat.ne_of_lt hb')]
      exact (hf b hb).1
  done := by
    intro X hP hw hK hc i pins s σ H E I hf st hg
    subst hP hw hK
    obtain ⟨⟨old, he⟩, hit, hne⟩ := st
    obtain ⟨xs, hq, hx⟩ := hg
    obtain ⟨its, rv, p, hz⟩ := I.tuple hq
    obtain ⟨f0, f1, f2, f3, f4, f5⟩ := hf it (by simp)
    have hl := rv.length
    have hh := I.ok.hd hc
    have hx' : its.toArray[i]? = none := by simp; omega
    have hT : s.TypeIs (.ref e) "enumerate" := ⟨_, he, rfl⟩
    unfold pyNext
    refine wpAny_bind (wpAny_attempt (wpAny_callSpecial?_slot (name := Str.ofString "__next__") hT F.slot_enumerate_next
      (wpAny_call_entry F.slot_enumerate_next hT F.entry_enumerate_next ?_ (F.args_enumerate_next_1 _))))
    show wpAny _ _ (field (.ref e) 2 >>= _) _ _ _
    refine wpAny_bind (wpAny_field he rfl (x := .ref it) rfl ?_)
    refine wpAny_bind (wpAny_nextOf_tuple_end (A := X.A.in1) hh hit p hx' fun h' x he' hx' => ?_)
    obtain ⟨o, ho, hc⟩ := hx'
    refine wpAny_bind (wpAny_isInstance (T := "StopIteration") (b := true) ⟨o, ho, hc⟩ isSubtype_stop ?_)
    exact wpAny_pure ⟨rfl, I.turned (t' := s.toks) (fun b o hb q => he' b o hb q) f0 f1 f3 f4 f5⟩
  self := fun A i s Q E st h => let ⟨⟨_, he⟩, _⟩ := st; wpAny_pyIter_enum he h
def iEnumT (K : PySem.W.Frag) (te : TE) : TI := fun σ H R => te σ H fun v H1 => ∃ a xs, v = .ref a ∧ SqT K H1 a xs ∧ R (IteT K a) H1
theorem pi_enumT {X : Cx} {e : Expr} {te : TE} {p pos tpos : Pos} {elts : List Expr} {kk : Nat} (hg : Gl X "enumerate") (hm : X.mg "enumerate" = none) (he : PE X e te) (hs : starEach [e] X.env = (false, eval e X.env) :: starEach [] X.env) :
    PI X (.Tuple elts kk tpos) (.Call (.Name "enumerate" p) [e] [] pos) (iEnumT X.K te) := by
  refine ⟨fun pins s σ H R I h => ?_⟩
  refine Call_ (ld_blt I hg hm boot_enumerate (PyProof.Rows.callWith_type1 (args_cons (thn (he.run pins s σ H _ I h) fun v s1 ⟨x, H1, I1, r1, q1⟩ => args_nil ?_) hs) hs rfl))
  obtain ⟨a, xs, ex, hq, q⟩ := q1
  subst ex
  cases r1
  obtain ⟨its, rv, p', hz⟩ := I1.tuple hq
  have hal : a < s1.heap.objs.size := by obtain ⟨_, q, _⟩ := p'; exact Heap.lt_size q
  refine call_enumerate_tuple (show s1.heap.IsTuple a its.toArray from p') fun h' he hit hsz hk => wpAny_pyIter_enum he ?_
  have I2 : Inv X pins σ H1 { s1 with heap := h' } := I1.kept (t' := s1.toks) hk
  refine ⟨s1.heap.objs.size + 1, [s1.heap.objs.size + 1, s1.heap.objs.size], _, _, H1, rfl, I2, turn_enumT a (s1.heap.objs.size + 1) s1.heap.objs.size (Nat.ne_of_lt (Nat.lt_succ_of_lt hal)) (Nat.ne_of_lt hal), ⟨⟨.none, he⟩, hit, Nat.succ_ne_self _⟩, fun b hb => ?_, q⟩
  have e' : b = s1.heap.objs.size + 1 ∨ b = s1.heap.objs.size := by simpa using hb
  have hle : s1.heap.objs.size ≤ b := by
    rcases e' with z | z
    · rw [z]; exact Nat.le_add_right _ _
    · rw [z]; exact Nat.le_refl _
  exact I1.fpOk hle (I1.hok.fresh hle)
end MP
set_option Elab.async false
set_option linter.all false
set_option maxRecDepth 100000
/-! What loops walk; targets. -/
namespace MP
open PySem PySem.Spec PyProof.Rows L2

/-! ### items -/
def IR (K : PySem.W.Frag) (mp : List Addr) (H : Hp) : Itm → V → Prop
  | .one v, x => RV K mp H v x
  | .many vs, x => ∃ T ws, x = .ref T ∧ SqT K H T ws ∧ RVs K mp H vs ws
def chkOk (l : List (Nat × Ob)) (st : Store) : Prop := l.all (fun p => decide (st[p.1]? = some p.2)) = true
/-- the iterator gives these items, as long as what it walks stands -/
def Feeds (K : PySem.W.Frag) (mp0 : List Addr) (H0 : Hp) (J : L2.It) (src : Src) : Prop := ∀ mp H st, Grow mp0 H0 mp H → SR K mp H st → chkOk src.chk st → ∀ i : Nat,
  (src.items.length ≤ i → J.stop i H) ∧ ∀ it, src.items[i]? = some it → J.go i H ∧ ∀ x H', J.yld i H x H' → Grow mp H mp H' ∧ SR K mp H' st ∧ IR K mp H' it x
def LI (K : PySem.W.Frag) (C : Cfg) (it : MP.It) : TI := fun σ H R => ∃ env st mp, ER K mp H env σ ∧ SR K mp H st ∧ Aft K mp H (evalIt C it env st) (fun m1 H1 _ src => ∀ J, Feeds K m1 H1 J src → R J H1) NoX
section
variable {K : PySem.W.Frag} {C : Cfg} {mp mp0 : List Addr} {H H0 : Hp} {st : Store} {α : Type}
theorem chkM_inv {l : List (Nat × Ob)} {m : M α} {okP : List Addr → Hp → Store → α → Prop} {exP : ExP} (h : Aft K mp H (chkM l m st) okP exP) : chkOk l st ∧ Aft K mp H (m st) okP exP := by
  unfold chkM at h
  by_cases e : l.all (fun p => decide (st[p.1]? = some p.2)) = true
  · rw [if_pos e] at h; exact ⟨e, h⟩
  · rw [if_neg e] at h; exact False.elim h
theorem chkOk.at {n : Nat} {o : Ob} {l : List (Nat × Ob)} (h : chkOk l st) (hm : (n, o) ∈ l) : st[n]? = some o := of_decide_eq_true (List.all_eq_true.mp h _ hm)
theorem get_ones {xs : List Val} {i : Nat} {it : Itm} (h : (xs.map Itm.one)[i]? = some it) : ∃ v, xs[i]? = some v ∧ it = .one v := by
  rw [List.getElem?_map] at h
  cases e : xs[i]? with
  | none => rw [e] at h; cases h
  | some v => rw [e] at h; cases h; exact ⟨v, rfl, rfl⟩
theorem len_ones (xs : List Val) : (xs.map Itm.one).length = xs.length := List.length_map ..
theorem lst_at (sr : SR K mp H st) {n : Nat} {a : Addr} {xs : List Val} (ha : mp[n]? = some a) (e : st[n]? = some (.lst xs)) : ∃ vs, H a = some (.lst vs) ∧ RVs K mp H xs vs := by
  have z := sr.obj n a _ ha e
  cases z with
  | lst e1 r => exact ⟨_, e1, r⟩
theorem feeds_lst {n : Nat} {a : Addr} {xs : List Val} (hn : mp0[n]? = some a) : Feeds K mp0 H0 (Itl K a) ⟨xs.map .one, [(n, .lst xs)]⟩ := by
  intro mp H st g sr ck i
  obtain ⟨vs, e, r⟩ := lst_at sr (g.at hn) (ck.at (List.mem_singleton.mpr rfl))
  refine ⟨fun hi => ⟨vs, SqL.of e, by rw [← r.length]; simpa using hi⟩, fun it hit => ?_⟩
  obtain ⟨v, hv, rfl⟩ := get_ones hit
  obtain ⟨w, hw, rw1⟩ := r.get hv
  refine ⟨⟨vs, w, SqL.of e, hw⟩, fun x H' ⟨e2, y⟩ => ?_⟩
  subst e2
  have := y vs (SqL.of e)
  rw [hw] at this; cases this
  exact ⟨.refl, sr, rw1⟩
theorem feeds_frz {a : Addr} {xs : List Val} {vs : List V} (t : LsR K mp0 H0 a vs) (r : RVs K mp0 H0 xs vs) : Feeds K mp0 H0 (Itl K a) ⟨xs.map .one, []⟩ := by
  intro mp H st g sr ck i
  have e := (t.grow g).sq
  have r := r.grow g
  refine ⟨fun hi => ⟨vs, e, by rw [← r.length]; simpa using hi⟩, fun it hit => ?_⟩
  obtain ⟨v, hv, rfl⟩ := get_ones hit
  obtain ⟨w, hw, rw1⟩ := r.get hv
  refine ⟨⟨vs, w, e, hw⟩, fun x H' ⟨e2, y⟩ => ?_⟩
  subst e2
  have := y vs e
  rw [hw] at this; cases this
  exact ⟨.refl, sr, rw1⟩
theorem feeds_tup {a : Addr} {xs : List Val} {vs : List V} (t : TpR K mp0 H0 a vs) (r : RVs K mp0 H0 xs vs) : Feeds K mp0 H0 (Itt K a) ⟨xs.map .one, []⟩ := by
  intro mp H st g sr ck i
  have e := (t.grow g).sq
  have r := r.grow g
  refine ⟨fun hi => ⟨vs, e, by rw [← r.length]; simpa using hi⟩, fun it hit => ?_⟩
  obtain ⟨v, hv, rfl⟩ := get_ones hit
  obtain ⟨w, hw, rw1⟩ := r.get hv
  refine ⟨⟨vs, w, e, hw⟩, fun x H' ⟨e2, y⟩ => ?_⟩
  subst e2
  have := y vs e
  rw [hw] at this; cases this
  exact ⟨.refl, sr, rw1⟩
theorem feeds_str {s : Str} : Feeds K mp0 H0 (Its s) ⟨s.cps.toList.map fun c => .one (.str ⟨#[c]⟩), []⟩ := by
  intro mp H st g sr ck i
  refine ⟨fun hi => show s.cps.size ≤ i by simpa using hi, fun it hit => ?_⟩
  have hit : (s.cps.toList.map fun c => Itm.one (.str ⟨#[c]⟩))[i]? = some it := hit
  rw [List.getElem?_map] at hit
  cases e : s.cps.toList[i]? with
  | none => rw [e] at hit; cases hit
  | some c =>
    rw [e] at hit; cases hit
    have hc : s.cps[i]? = some c := by simpa using e
    refine ⟨(Array.getElem?_eq_some_iff.mp hc).1, fun x H' ⟨e2, c', hc', hx⟩ => ?_⟩
    rw [hc] at hc'; cases hc'
    subst e2 hx
    exact ⟨.refl, sr, .str _⟩
theorem rgV_get (g : RgV) (i : Nat) : ((MP.rgV g).map Itm.one)[i]? = if i < g.n then some (.one (.int (g.lo + (i : Int) * g.step))) else none := by
  unfold MP.rgV
  rw [List.map_map, List.getElem?_map]
  by_cases h : i < g.n
  · rw [if_pos h, List.getElem?_range h]; rfl
  · rw [if_neg h, List.getElem?_eq_none (by simpa using h)]; rfl
theorem rgV_len (g : RgV) : ((MP.rgV g).map Itm.one).length = g.n := by unfold MP.rgV; simp
theorem feeds_rng {lo : Int} {n : Nat} : Feeds K mp0 H0 (Itr lo n) ⟨(MP.rgV ⟨lo, 1, n⟩).map .one, []⟩ := by
  intro mp H st g sr ck i
  refine ⟨fun hi => by rw [rgV_len] at hi; exact hi, fun it hit => ?_⟩
  have hit : ((MP.rgV ⟨lo, 1, n⟩).map Itm.one)[i]? = some it := hit
  rw [rgV_get] at hit
  by_cases h : i < n
  · rw [if_pos h] at hit
    cases hit
    refine ⟨h, fun x H' ⟨e2, hx⟩ => ?_⟩
    subst e2 hx
    refine ⟨.refl, sr, ?_⟩
    show RV K mp H' (.int (lo + (i : Int) * 1)) (.int (lo + i))
    rw [Int.mul_one]; exact .int _
  · rw [if_neg h] at hit; cases hit
theorem feeds_rngC {lo c : Int} {n : Nat} : Feeds K mp0 H0 (Itc lo c n) ⟨(MP.rgV ⟨lo, c, n⟩).map .one, []⟩ := by
  intro mp H st g sr ck i
  refine ⟨fun hi => by rw [rgV_len] at hi; exact hi, fun it hit => ?_⟩
  have hit : ((MP.rgV ⟨lo, c, n⟩).map Itm.one)[i]? = some it := hit
  rw [rgV_get] at hit
  by_cases h : i < n
  · rw [if_pos h] at hit
    cases hit
    refine ⟨h, fun x H' ⟨e2, hx⟩ => ?_⟩
    subst e2 hx
    exact ⟨.refl, sr, .int _⟩
  · rw [if_neg h] at hit; cases hit
theorem enumV_get : ∀ (xs : List Val) (k i : Nat), (enumV k xs)[i]? = (xs[i]?).map fun x => .many [.int ((k + i : Nat) : Int), x]
  | [], _, _ => by simp [enumV]
  | x :: xs, k, 0 => by simp [enumV]
  | x :: xs, k, i + 1 => by
    rw [enumV, List.getElem?_cons_succ, List.getElem?_cons_succ, enumV_get xs (k + 1) i, show k + 1 + i = k + (i + 1) by omega]
theorem enumV_len : ∀ (xs : List Val) (k : Nat), (enumV k xs).length = xs.length
  | [], _ => rfl
  | x :: xs, k => by simp [enumV, enumV_len xs]
theorem zipV_get : ∀ (xs ys : List Val) (i : Nat) (it : Itm), (zipV xs ys)[i]? = some it → ∃ x y, xs[i]? = some x ∧ ys[i]? = some y ∧ it = .many [x, y]
  | [], _, _, _, h => by simp [zipV] at h
  | x :: xs, [], _, _, h => by simp [zipV] at h
  | x :: xs, y :: ys, 0, _, h => by simp [zipV] at h; exact ⟨x, y, rfl, rfl, h.symm⟩
  | x :: xs, y :: ys, i + 1, it, h => by
    rw [zipV, List.getElem?_cons_succ] at h
    exact zipV_get xs ys i it h
theorem zipV_len : ∀ (xs ys : List Val), (zipV xs ys).length = min xs.length ys.length
  | [], _ => by simp [zipV]
  | x :: xs, [] => by simp [zipV]
  | x :: xs, y :: ys => by simp [zipV, zipV_len xs ys]
theorem feeds_enumL {n : Nat} {a : Addr} {xs : List Val} (hn : mp0[n]? = some a) : Feeds K mp0 H0 (Ite K a) ⟨enumV 0 xs, [(n, .lst xs)]⟩ := by
  intro mp H st g sr ck i
  obtain ⟨vs, e, r⟩ := lst_at sr (g.at hn) (ck.at (List.mem_singleton.mpr rfl))
  refine ⟨fun hi => ⟨vs, SqL.of e, by rw [← r.length, ← enumV_len xs 0]; exact hi⟩, fun it hit => ?_⟩
  have hit : (enumV 0 xs)[i]? = some it := hit
  rw [enumV_get] at hit
  cases hv : xs[i]? with
  | none => rw [hv] at hit; cases hit
  | some v =>
    rw [hv] at hit; cases hit
    obtain ⟨w, hw, rw1⟩ := r.get hv
    refine ⟨⟨vs, w, SqL.of e, hw⟩, fun x H' ⟨T, x', e1, hT, e2, y⟩ => ?_⟩
    subst e1 e2
    have := y vs (SqL.of e)
    rw [hw] at this; cases this
    obtain ⟨g', sr'⟩ := sr.pair (vs := [.int (i : Nat), w]) hT
    refine ⟨g', sr', T, [.int (i : Nat), w], rfl, .inl (.inl upd_same), .cons ?_ (.cons (rw1.grow g') .nil)⟩
    have e0 : ((0 + i : Nat) : Int) = (i : Nat) := by omega
    rw [e0]
    exact .int _
theorem feeds_zipL {n m : Nat} {a b : Addr} {xs ys : List Val} (hn : mp0[n]? = some a) (hm : mp0[m]? = some b) : Feeds K mp0 H0 (Itz K a b) ⟨zipV xs ys, [(n, .lst xs)] ++ [(m, .lst ys)]⟩ := by
  intro mp H st g sr ck i
  obtain ⟨vs, e, r⟩ := lst_at (xs := xs) sr (g.at hn) (ck.at (l := [(n, Ob.lst xs)] ++ [(m, .lst ys)]) (by simp))
  obtain ⟨ws, e', r'⟩ := lst_at (xs := ys) sr (g.at hm) (ck.at (l := [(n, Ob.lst xs)] ++ [(m, .lst ys)]) (by simp))
  refine ⟨fun hi => ⟨vs, ws, SqL.of e, SqL.of e', ?_⟩, fun it hit => ?_⟩
  · have hi : (zipV xs ys).length ≤ i := hi
    rw [zipV_len, r.length, r'.length] at hi
    omega
  · obtain ⟨v, u, hv, hu, rfl⟩ := zipV_get xs ys i it hit
    obtain ⟨v', hv', rv⟩ := r.get hv
    obtain ⟨u', hu', ru⟩ := r'.get hu
    refine ⟨⟨vs, ws, v', u', SqL.of e, SqL.of e', hv', hu'⟩, fun x H' ⟨T, x', y', e1, hT, e2, y1, y2⟩ => ?_⟩
    subst e1 e2
    have q1 := y1 vs (SqL.of e)
    have q2 := y2 ws (SqL.of e')
    rw [hv'] at q1; cases q1
    rw [hu'] at q2; cases q2
    obtain ⟨g', sr'⟩ := sr.pair (vs := [v', u']) hT
    exact ⟨g', sr', T, _, rfl, .inl (.inl upd_same), .cons (rv.grow g') (.cons (ru.grow g') .nil)⟩
theorem feeds_zipT {a b : Addr} {xs ys : List Val} {vs ws : List V} (t : TpR K mp0 H0 a vs) (t' : TpR K mp0 H0 b ws) (r : RVs K mp0 H0 xs vs) (r' : RVs K mp0 H0 ys ws) : Feeds K mp0 H0 (RZ.ItzT K a b) ⟨zipV xs ys, [] ++ []⟩ := by
  intro mp H st g sr ck i
  have e := (t.grow g).sq
  have e' := (t'.grow g).sq
  have r := r.grow g
  have r' := r'.grow g
  refine ⟨fun hi => ⟨vs, ws, e, e', ?_⟩, fun it hit => ?_⟩
  · have hi : (zipV xs ys).length ≤ i := hi
    rw [zipV_len, r.length, r'.length] at hi
    omega
  · obtain ⟨v, u, hv, hu, rfl⟩ := zipV_get xs ys i it hit
    obtain ⟨v', hv', rv⟩ := r.get hv
    obtain ⟨u', hu', ru⟩ := r'.get hu
    refine ⟨⟨vs, ws, v', u', e, e', hv', hu'⟩, fun x H' ⟨T, x', y', e1, hT, e2, y1, y2⟩ => ?_⟩
    subst e1 e2
    have q1 := y1 vs e
    have q2 := y2 ws e'
    rw [hv'] at q1; cases q1
    rw [hu'] at q2; cases q2
    obtain ⟨g', sr'⟩ := sr.pair (vs := [v', u']) hT
    exact ⟨g', sr', T, _, rfl, .inl (.inl upd_same), .cons (rv.grow g') (.cons (ru.grow g') .nil)⟩
theorem rev_at {α : Type} {vs : List α} {i : Nat} (h : i < vs.length) : vs[vs.length - 1 - i]? = vs.reverse[i]? := by rw [List.getElem?_reverse h]
theorem feeds_revL {n : Nat} {a : Addr} {xs : List Val} (hn : mp0[n]? = some a) {k : Nat} (hk : xs.length = k) : Feeds K mp0 H0 (Itv K a k) ⟨xs.reverse.map .one, [(n, .lst xs)]⟩ := by
  intro mp H st g sr ck i
  subst hk
  obtain ⟨vs, e, r⟩ := lst_at sr (g.at hn) (ck.at (List.mem_singleton.mpr rfl))
  refine ⟨fun hi => show xs.length ≤ i by simpa using hi, fun it hit => ?_⟩
  obtain ⟨v, hv, rfl⟩ := get_ones hit
  obtain ⟨w, hw, rw1⟩ := r.reverse.get hv
  have hi : i < vs.length := by have := (List.getElem?_eq_some_iff.mp hw).1; simpa using this
  have hl := r.length
  rw [← rev_at hi] at hw
  rw [hl]
  refine ⟨⟨hi, vs, w, SqL.of e, hw⟩, fun x H' ⟨e2, y⟩ => ?_⟩
  subst e2
  have := y vs (SqL.of e)
  rw [hw] at this; cases this
  exact ⟨.refl, sr, rw1⟩
theorem feeds_revT {a : Addr} {xs : List Val} {vs : List V} (t : TpR K mp0 H0 a vs) (r : RVs K mp0 H0 xs vs) : Feeds K mp0 H0 (RT.ItvT K a vs.length) ⟨xs.reverse.map .one, []⟩ := by
  intro mp H st g sr ck i
  have e := (t.grow g).sq
  have r := r.grow g
  refine ⟨fun hi => by rw [len_ones, List.length_reverse, r.length] at hi; exact hi, fun it hit => ?_⟩
  obtain ⟨v, hv, rfl⟩ := get_ones hit
  obtain ⟨w, hw, rw1⟩ := r.reverse.get hv
  have hi : i < vs.length := by have := (List.getElem?_eq_some_iff.mp hw).1; simpa using this
  rw [← rev_at hi] at hw
  refine ⟨⟨hi, vs, w, e, hw⟩, fun x H' ⟨e2, y⟩ => ?_⟩
  subst e2
  have := y vs e
  rw [hw] at this; cases this
  exact ⟨.refl, sr, rw1⟩
end
/-- one expression whose value is known ahead -/
theorem LE.bindK {K : PySem.W.Frag} {C : Cfg} {mp : List Addr} {H : Hp} {st : Store} {env : En} {σ : L2.St} {α : Type} {e : E} {k : Val → M α} {okP : List Addr → Hp → Store → α → Prop} {R : VK} {v : Val} {s1 : Store} (hv : evalE C e env st = .ok v s1) (er : ER K mp H env σ) (sr : SR K mp H st) (h : Aft K mp H ((evalE C e env >>= k) st) okP NoX)
    (hR : ∀ m1 H1 x, Grow mp H m1 H1 → SR K m1 H1 s1 → ER K m1 H1 env σ → RV K m1 H1 v x → Aft K m1 H1 (k v s1) okP NoX → R x H1) : LE K C e σ H R :=
  ⟨env, st, mp, er, sr, by
    have h := Aft.bind h
    rw [hv] at h ⊢
    exact fun m1 H1 g s' x r => hR m1 H1 x g s' (er.grow g) r (h m1 H1 g s')⟩
section
variable {X : Cx} {C : Cfg} {tg a b c : Expr} {x y z : E} {pos : Pos}
theorem si_val (ha : PE X a (LE X.K C x)) : PI X tg a (LI X.K C (.val x)) := by
  refine ⟨fun pins s σ H R I ⟨env, st, mp, er, sr, h⟩ => ?_⟩
  have h : Aft X.K mp H ((evalE C x env >>= srcOf) st) (fun m1 H1 _ src => ∀ J, Feeds X.K m1 H1 J src → R J H1) NoX := h
  cases hv : evalE C x env st with
  | bad => rw [bindEq, hv] at h; exact False.elim h
  | exc _ _ _ =>
    refine (pi_tup ha).run pins s σ H R I ⟨env, st, mp, er, sr, ?_⟩
    rw [bindEq, hv] at h; rw [hv]; exact h
  | ok v s1 =>
    cases v with
    | tup xs =>
      refine (pi_tup ha).run pins s σ H R I (LE.bindK hv er sr h fun m1 H1 x' g sr1 er1 rv h1 => ?_)
      obtain ⟨p, vs, rfl, t, r⟩ := rv.tupS
      exact ⟨p, rfl, ⟨vs, t.sq⟩, h1 m1 H1 .refl sr1 _ (feeds_tup t r)⟩
    | frz xs =>
      refine (pi_list ha).run pins s σ H R I (LE.bindK hv er sr h fun m1 H1 x' g sr1 er1 rv h1 => ?_)
      obtain ⟨p, vs, rfl, t, r⟩ := rv.frzS
      exact ⟨p, rfl, ⟨vs, t.sq⟩, h1 m1 H1 .refl sr1 _ (feeds_frz t r)⟩
    | str z =>
      refine (pi_str ha).run pins s σ H R I (LE.bindK hv er sr h fun m1 H1 x' g sr1 er1 rv h1 => ?_)
      cases rv
      exact ⟨z, rfl, h1 m1 H1 .refl sr1 _ feeds_str⟩
    | ref n =>
      refine (pi_list ha).run pins s σ H R I (LE.bindK hv er sr h fun m1 H1 x' g sr1 er1 rv h1 => ?_)
      obtain ⟨p, rfl, hp⟩ := rv.refS
      obtain ⟨xs, vs, e1, e2, r, h1⟩ := onL_inv sr1 hp h1
      exact ⟨p, rfl, ⟨vs, SqL.of e2⟩, h1 m1 H1 .refl sr1 _ (feeds_lst hp)⟩
    | _ => rw [bindEq, hv] at h; exact False.elim h
theorem rngV1 {v : Val} {g : RgV} (h : rngV [v] = some g) : ∃ j, v = .int j ∧ -(2 ^ 62) ≤ j ∧ j < 2 ^ 62 ∧ g = ⟨0, 1, j.toNat⟩ := by
  cases v with
  | int j =>
    have h : (if small62 j = true then some (⟨0, 1, j.toNat⟩ : RgV) else none) = some g := h
    split at h
    · next hj =>
      cases h
      have hj := (show -(2 ^ 62) ≤ j ∧ j < 2 ^ 62 from of_decide_eq_true hj)
      exact ⟨j, rfl, hj.1, hj.2, rfl⟩
    · cases h
  | _ => cases h
theorem rngV2 {v u : Val} {g : RgV} (h : rngV [v, u] = some g) : ∃ i j, v = .int i ∧ u = .int j ∧ (-(2 ^ 62) ≤ i ∧ i < 2 ^ 62 ∧ -(2 ^ 62) ≤ j ∧ j < 2 ^ 62) ∧ g = ⟨i, 1, (j - i).toNat⟩ := by
  cases v with
  | int i =>
    cases u with
    | int j =>
      have h : (if (small62 i && small62 j) = true then some (⟨i, 1, (j - i).toNat⟩ : RgV) else none) = some g := h
      split at h
      · next hj =>
        cases h
        obtain ⟨h1, h2⟩ := Bool.and_eq_true_iff.mp hj
        have h1 := (show -(2 ^ 62) ≤ i ∧ i < 2 ^ 62 from of_decide_eq_true h1)
        have h2 := (show -(2 ^ 62) ≤ j ∧ j < 2 ^ 62 from of_decide_eq_true h2)
        exact ⟨i, j, rfl, rfl, ⟨h1.1, h1.2, h2.1, h2.2⟩, rfl⟩
      · cases h
    | _ => cases h
  | _ => cases u <;> cases h
theorem rngV3 {v u w : Val} {g : RgV} (h : rngV [v, u, w] = some g) : ∃ i j, v = .int i ∧ u = .int j ∧ w = .int (-1) ∧ (-(2 ^ 62) ≤ i ∧ i < 2 ^ 62 ∧ -(2 ^ 62) ≤ j ∧ j < 2 ^ 62) ∧ g = ⟨i, -1, (i - j).toNat⟩ := by
  cases v with
  | int i =>
    cases u with
    | int j =>
      cases w with
      | int c =>
        have h : (if (small62 i && small62 j && decide (c = -1)) = true then some (⟨i, -1, (i - j).toNat⟩ : RgV) else none) = some g := h
        split at h
        · next hj =>
          cases h
          obtain ⟨h1, h3⟩ := Bool.and_eq_true_iff.mp hj
          obtain ⟨h1, h2⟩ := Bool.and_eq_true_iff.mp h1
          have h1 := (show -(2 ^ 62) ≤ i ∧ i < 2 ^ 62 from of_decide_eq_true h1)
          have h2 := (show -(2 ^ 62) ≤ j ∧ j < 2 ^ 62 from of_decide_eq_true h2)
          have h3 := (show c = -1 from of_decide_eq_true h3)
          subst h3
          exact ⟨i, j, rfl, rfl, rfl, ⟨h1.1, h1.2, h2.1, h2.2⟩, rfl⟩
        · cases h
      | _ => cases h
    | _ => cases h
  | _ => cases u <;> cases w <;> cases h
theorem Aft.assoc {K : PySem.W.Frag} {mp : List Addr} {H : Hp} {st : Store} {α β γ : Type} {m : M α} {f : α → M β} {g : β → M γ} {okP : List Addr → Hp → Store → γ → Prop} {exP : ExP} (h : Aft K mp H (((m >>= f) >>= g) st) okP exP) : Aft K mp H ((m >>= fun v => f v >>= g) st) okP exP := by
  have e : ((m >>= f) >>= g) st = (m >>= fun v => f v >>= g) st := by
    rw [bindEq, bindEq, bindEq]
    cases m st <;> rfl
  rw [← e]; exact h
theorem si_rng1 {p : Pos} (hg : Gl X "range") (hm : X.mg "range" = none) (ha : PE X a (LE X.K C x)) (hs : notStar a = true) : PI X tg (.Call (.Name "range" p) [a] [] pos) (LI X.K C (.rng (.one x))) :=
  weakI (pi_range1 hg hm (pa_cons ha pa_nil (star_plain hs [] X.env)) (star_plain hs [] X.env)) fun σ H R ⟨env, st, mp, er, sr, h⟩ => LE.bind er sr (Aft.assoc h) fun m1 H1 s1 v v' g1 sr1 er1 rv h1 => by
    obtain ⟨g, e, h1⟩ := ofOpt_inv (st := s1) (o := rngV [v]) h1
    obtain ⟨j, rfl, j1, j2, rfl⟩ := rngV1 e
    cases rv
    exact ⟨j, rfl, j1, j2, h1 m1 H1 .refl sr1 _ feeds_rng⟩
theorem si_rng2 {p : Pos} (hg : Gl X "range") (hm : X.mg "range" = none) (ha : PE X a (LE X.K C x)) (hb : PE X b (LE X.K C y)) (hs : notStar a = true) (hs2 : notStar b = true) : PI X tg (.Call (.Name "range" p) [a, b] [] pos) (LI X.K C (.rng (.two x y))) :=
  weakI (pi_range2 hg hm (pa_cons ha (pa_cons hb pa_nil (star_plain hs2 [] X.env)) (star_plain hs [b] X.env)) (by rw [star_plain hs [b] X.env, star_plain hs2 [] X.env]; rfl) (star_plain hs2 [] X.env)) fun σ H R ⟨env, st, mp, er, sr, h⟩ => LE.bind er sr (Aft.assoc h) fun m1 H1 s1 v v' g1 sr1 er1 rv h1 =>
    LE.bind er1 sr1 (Aft.assoc h1) fun m2 H2 s2 u u' g2 sr2 er2 ru h2 => by
    obtain ⟨g, e, h2⟩ := ofOpt_inv (st := s2) (o := rngV [v, u]) h2
    obtain ⟨i, j, rfl, rfl, jj, rfl⟩ := rngV2 e
    cases rv; cases ru
    exact ⟨i, j, rfl, jj, h2 m2 H2 .refl sr2 _ feeds_rng⟩
theorem si_rng3 {p : Pos} (hg : Gl X "range") (hm : X.mg "range" = none) (ha : PE X a (LE X.K C x)) (hb : PE X b (LE X.K C y)) (hc : PE X c (LE X.K C z)) (hs : notStar a = true) (hs2 : notStar b = true) (hs3 : notStar c = true) :
    PI X tg (.Call (.Name "range" p) [a, b, c] [] pos) (LI X.K C (.rng (.three x y z))) :=
  weakI (pi_range3 hg hm (pa_cons ha (pa_cons hb (pa_cons hc pa_nil (star_plain hs3 [] X.env)) (star_plain hs2 [c] X.env)) (star_plain hs [b, c] X.env)) (star_plain hs [b, c] X.env) (by rw [star_plain hs2 [c] X.env, star_plain hs3 [] X.env]; rfl)) fun σ H R ⟨env, st, mp, er, sr, h⟩ =>
    LE.bind er sr (Aft.assoc h) fun m1 H1 s1 v v' g1 sr1 er1 rv h1 => LE.bind er1 sr1 (Aft.assoc h1) fun m2 H2 s2 u u' g2 sr2 er2 ru h2 => LE.bind er2 sr2 (Aft.assoc h2) fun m3 H3 s3 w w' g3 sr3 er3 rw3 h3 => by
    obtain ⟨g, e, h3⟩ := ofOpt_inv (st := s3) (o := rngV [v, u, w]) h3
    obtain ⟨i, j, rfl, rfl, rfl, jj, rfl⟩ := rngV3 e
    cases rv; cases ru; cases rw3
    exact ⟨i, j, -1, _, rfl, RgC.neg jj.1 jj.2.1 jj.2.2.1 jj.2.2.2, h3 m3 H3 .refl sr3 _ feeds_rngC⟩
theorem seqOf_inv {K : PySem.W.Frag} {mp : List Addr} {H : Hp} {st : Store} {α : Type} {v : Val} {f : Sq → M α} {okP : List Addr → Hp → Store → α → Prop} {v' : V} (sr : SR K mp H st) (rv : RV K mp H v v') (h : Aft K mp H ((seqOf v >>= f) st) okP NoX) :
    (∃ xs p vs, v = .tup xs ∧ v' = .ref p ∧ TpR K mp H p vs ∧ RVs K mp H xs vs ∧ Aft K mp H (f ⟨xs, []⟩ st) okP NoX) ∨ ∃ n xs p vs, v = .ref n ∧ v' = .ref p ∧ mp[n]? = some p ∧ H p = some (.lst vs) ∧ RVs K mp H xs vs ∧ st[n]? = some (.lst xs) ∧ Aft K mp H (f ⟨xs, [(n, .lst xs)]⟩ st) okP NoX := by
  cases v with
  | tup xs =>
    obtain ⟨p, vs, rfl, t, r⟩ := rv.tupS
    exact .inl ⟨xs, p, vs, rfl, rfl, t, r, h⟩
  | ref n =>
    obtain ⟨p, rfl, hp⟩ := rv.refS
    have h := Aft.bind h
    obtain ⟨xs, vs, e1, e2, r, h⟩ := onL_inv sr hp h
    exact .inr ⟨n, xs, p, vs, rfl, rfl, hp, e2, r, e1, h mp H .refl sr⟩
  | _ => exact False.elim h
theorem si_rev {p : Pos} (hg : Gl X "reversed") (hm : X.mg "reversed" = none) (ha : PE X a (LE X.K C x)) (hs : notStar a = true) : PI X tg (.Call (.Name "reversed" p) [a] [] pos) (LI X.K C (.rev x)) :=
  weakI (RT.pi_revA hg hm ha (star_plain hs [] X.env)) fun σ H R ⟨env, st, mp, er, sr, h⟩ => LE.bind er sr h fun m1 H1 s1 v v' g1 sr1 er1 rv h1 => by
    rcases seqOf_inv sr1 rv h1 with ⟨xs, p, vs, rfl, rfl, t, r, h1⟩ | ⟨n, xs, p, vs, rfl, rfl, hp, e, r, e2, h1⟩
    · exact ⟨p, vs, rfl, .inr ⟨t.sq, h1 m1 H1 .refl sr1 _ (feeds_revT t r)⟩⟩
    · exact ⟨p, vs, rfl, .inl ⟨SqL.of e, h1 m1 H1 .refl sr1 _ (feeds_revL hp r.length)⟩⟩
theorem si_zip {es : List Expr} {j : Nat} {tpos : Pos} {p : Pos} (hg : Gl X "zip") (hm : X.mg "zip" = none) (ha : PE X a (LE X.K C x)) (hb : PE X b (LE X.K C y)) (hs : notStar a = true) (hs2 : notStar b = true) : PI X (.Tuple es j tpos) (.Call (.Name "zip" p) [a, b] [] pos) (LI X.K C (.zip x y)) :=
  weakI (RZ.pi_zipA hg hm (pa_cons ha (pa_cons hb pa_nil (star_plain hs2 [] X.env)) (star_plain hs [b] X.env)) (star_plain hs [b] X.env) (by rw [star_plain hs2 [] X.env]; rfl)) fun σ H R ⟨env, st, mp, er, sr, h⟩ => LE.bind er sr h fun m1 H1 s1 v v' g1 sr1 er1 rv h1 =>
    LE.bind er1 sr1 h1 fun m2 H2 s2 u u' g2 sr2 er2 ru h2 => by
    have rv := rv.grow g2
    rcases seqOf_inv sr2 rv h2 with ⟨xs, p, vs, rfl, rfl, t, r, h2⟩ | ⟨n, xs, p, vs, rfl, rfl, hp, e, r, e2, h2⟩
    · rcases seqOf_inv sr2 ru h2 with ⟨ys, q, ws, rfl, rfl, t', r', h2⟩ | ⟨m, ys, q, ws, rfl, rfl, hq, e', r', e2', h2⟩
      · exact ⟨p, q, vs, ws, rfl, .inr ⟨t.sq, t'.sq, (need_inv h2).2 m2 H2 .refl sr2 _ (feeds_zipT t t' r r')⟩⟩
      · exact absurd (of_decide_eq_true (need_inv h2).1) (by simp)
    · rcases seqOf_inv sr2 ru h2 with ⟨ys, q, ws, rfl, rfl, t', r', h2⟩ | ⟨m, ys, q, ws, rfl, rfl, hq, e', r', e2', h2⟩
      · exact absurd (of_decide_eq_true (need_inv h2).1) (by simp)
      · exact ⟨p, q, vs, ws, rfl, .inl ⟨SqL.of e, SqL.of e', (need_inv h2).2 m2 H2 .refl sr2 _ (feeds_zipL hp hq)⟩⟩
theorem feeds_enumT {K : PySem.W.Frag} {mp0 : List Addr} {H0 : Hp} {a : Addr} {xs : List Val} {vs : List V} (t : TpR K mp0 H0 a vs) (r : RVs K mp0 H0 xs vs) : Feeds K mp0 H0 (IteT K a) ⟨enumV 0 xs, []⟩ := by
  intro mp H st g sr ck i
  have e := (t.grow g).sq
  have r := r.grow g
  refine ⟨fun hi => ⟨vs, e, by rw [← r.length, ← enumV_len xs 0]; exact hi⟩, fun it hit => ?_⟩
  have hit : (enumV 0 xs)[i]? = some it := hit
  rw [enumV_get] at hit
  cases hv : xs[i]? with
  | none => rw [hv] at hit; cases hit
  | some v =>
    rw [hv] at hit; cases hit
    obtain ⟨w, hw, rw1⟩ := r.get hv
    refine ⟨⟨vs, w, e, hw⟩, fun x H' ⟨T, x', e1, hT, e2, y⟩ => ?_⟩
    subst e1 e2
    have := y vs e
    rw [hw] at this; cases this
    obtain ⟨g', sr'⟩ := sr.pair (vs := [.int (i : Nat), w]) hT
    refine ⟨g', sr', T, [.int (i : Nat), w], rfl, .inl (.inl upd_same), .cons ?_ (.cons (rw1.grow g') .nil)⟩
    have e0 : ((0 + i : Nat) : Int) = (i : Nat) := by omega
    rw [e0]
    exact .int _
theorem si_enum {es : List Expr} {j : Nat} {tpos : Pos} {p : Pos} (hg : Gl X "enumerate") (hm : X.mg "enumerate" = none) (ha : PE X a (LE X.K C x)) (hs : notStar a = true) : PI X (.Tuple es j tpos) (.Call (.Name "enumerate" p) [a] [] pos) (LI X.K C (.enum x)) := by
  refine ⟨fun pins s σ H R I ⟨env, st, mp, er, sr, h⟩ => ?_⟩
  have h : Aft X.K mp H ((evalE C x env >>= fun v => seqOf v >>= fun s => pure ⟨enumV 0 s.vals, s.chk⟩) st) (fun m1 H1 _ src => ∀ J, Feeds X.K m1 H1 J src → R J H1) NoX := h
  have lists := (pi_enum (elts := es) (kk := j) (tpos := tpos) hg hm (pa_cons ha pa_nil (star_plain hs [] X.env)) (star_plain hs [] X.env) (p := p) (pos := pos)).run pins s σ H R I
  have tups := (pi_enumT (elts := es) (kk := j) (tpos := tpos) hg hm ha (star_plain hs [] X.env) (p := p) (pos := pos)).run pins s σ H R I
  cases hv : evalE C x env st with
  | bad => rw [bindEq, hv] at h; exact False.elim h
  | exc _ _ _ =>
    refine tups ⟨env, st, mp, er, sr, ?_⟩
    rw [bindEq, hv] at h; rw [hv]; exact h
  | ok v s1 =>
    cases v with
    | tup xs =>
      refine tups (LE.bindK hv er sr h fun m1 H1 x' g sr1 er1 rv h1 => ?_)
      rcases seqOf_inv sr1 rv h1 with ⟨xs, p, vs, e0, rfl, t, r, h1⟩ | ⟨n, xs, p, vs, e0, _⟩
      · cases e0
        exact ⟨p, vs, rfl, t.sq, h1 m1 H1 .refl sr1 _ (feeds_enumT t r)⟩
      · cases e0
    | ref n =>
      refine lists (LE.bindK hv er sr h fun m1 H1 x' g sr1 er1 rv h1 => ?_)
      rcases seqOf_inv sr1 rv h1 with ⟨xs, p, vs, e0, _⟩ | ⟨n, xs, p, vs, e0, rfl, hp, e, r, e2, h1⟩
      · cases e0
      · cases e0
        exact ⟨p, vs, rfl, SqL.of e, h1 m1 H1 .refl sr1 _ (feeds_enumL hp)⟩
    | _ => rw [bindEq, hv] at h; exact False.elim h
end
end MP
set_option Elab.async false
set_option linter.all false
set_option maxRecDepth 100000
/-! Targets, comprehensions. -/
namespace MP
open PySem PySem.Spec PyProof.Rows L2

/-! ### targets -/
mutual
def Tg.idx : Tg → List Nat
  | .nm i => [i]
  | .tp ts => idxs ts
def idxs : List Tg → List Nat
  | [] => []
  | t :: ts => t.idx ++ idxs ts
end
/-- only these slots are written -/
def Sets (ix : List Nat) (σ σ' : L2.St) : Prop := σ'.length = σ.length ∧ ∀ i, i ∉ ix → σ'[i]? = σ[i]?
theorem Sets.refl {ix : List Nat} {σ : L2.St} : Sets ix σ σ := ⟨rfl, fun _ _ => rfl⟩
theorem Sets.trans {ix jx : List Nat} {σ σ1 σ2 : L2.St} (a : Sets ix σ σ1) (b : Sets jx σ1 σ2) : Sets (ix ++ jx) σ σ2 :=
  ⟨b.1.trans a.1, fun i h => (b.2 i (fun z => h (List.mem_append_right _ z))).trans (a.2 i fun z => h (List.mem_append_left _ z))⟩
section
variable {K : PySem.W.Frag} {C : Cfg} {mp : List Addr} {H : Hp} {st : Store} {env : En} {σ : L2.St}
/-- what is wanted behind a target -/
abbrev OkT (K : PySem.W.Frag) (ix : List Nat) (σ : L2.St) (Q : L2.St → Hp → Prop) : List Addr → Hp → Store → En → Prop := fun m1 H1 _ env' => ∀ σ', ER K m1 H1 env' σ' → Sets ix σ σ' → Q σ' H1
def LG (K : PySem.W.Frag) (t : Tg) : TG := fun x σ H Q => ∃ env st mp it, IR K mp H it x ∧ ER K mp H env σ ∧ SR K mp H st ∧ Aft K mp H (bindI t it env st) (OkT K t.idx σ Q) NoX
def LGs (K : PySem.W.Frag) (ts : List Tg) : TGs := fun xs σ H Q => ∃ env st mp vs, RVs K mp H vs xs ∧ ER K mp H env σ ∧ SR K mp H st ∧ Aft K mp H (bindTs ts vs env st) (OkT K (idxs ts) σ Q) NoX
end
theorem weakG {X : Cx} {e : Expr} {t t' : TG} (h : PG X e t) (w : ∀ x σ H Q, t' x σ H Q → t x σ H Q) : PG X e t' := ⟨fun pins s σ H v u Q I r a => h.run pins s σ H v u Q I r (w _ _ _ _ a)⟩
theorem weakGs {X : Cx} {e : List Expr} {t t' : TGs} (h : PGs X e t) (w : ∀ x σ H Q, t' x σ H Q → t x σ H Q) : PGs X e t' := ⟨fun pins s σ H v u Q I r a => h.run pins s σ H v u Q I r (w _ _ _ _ a)⟩
section
variable {X : Cx} {pos : Pos}
theorem assignEach_plain {e : Expr} (h : notStar e = true) (es : List Expr) (env : Env) : assignEach (e :: es) env = (false, assign e env) :: assignEach es env := by
  cases e <;> first | rfl | cases h
theorem assignEach_len : ∀ (es : List Expr) (env : Env), (assignEach es env).length = es.length
  | [], _ => rfl
  | e :: es, env => by
    have : (assignEach (e :: es) env).length = (assignEach es env).length + 1 := by cases e <;> rfl
    rw [this, assignEach_len es env]; rfl
theorem assignEach_star : ∀ (es : List Expr) (env : Env), es.all notStar = true → (assignEach es env).findIdx? (·.1) = none
  | [], _, _ => rfl
  | e :: es, env, h => by
    obtain ⟨h1, h2⟩ := Bool.and_eq_true_iff.mp (show (notStar e && es.all notStar) = true from h)
    rw [assignEach_plain h1, List.findIdx?_cons, assignEach_star es env h2]; rfl
theorem sg_name {i : Nat} {n : Str} (nd : X.N.Nodup) (hi : X.N[i]? = some n) (hx : Loc X.env.scope n) (hf : X.fn n = true ∨ X.env.scope.names.lookup n = some .local) : PG X (.Name n pos) (LG X.K (.nm i)) :=
  weakG (pg_name nd hi hx hf) fun x σ H Q ⟨env, st, mp, it, ir, er, sr, h⟩ => by
    cases it with
    | one v =>
      have ir : RV X.K mp H v x := ir
      refine Aft.ok_now h sr _ (er.set ir) ⟨List.length_set, fun j hj => ?_⟩
      rw [List.getElem?_set_ne]
      intro e; subst e
      exact hj (by simp [Tg.idx])
    | many vs => exact False.elim h
theorem sg_nil : PGs X [] (LGs X.K []) := weakGs pgs_nil fun xs σ H Q ⟨env, st, mp, vs, rs, er, sr, h⟩ => by
  cases vs with
  | nil => cases rs; exact ⟨rfl, Aft.ok_now h sr _ er .refl⟩
  | cons v vs => exact False.elim h
theorem sg_cons {e : Expr} {es : List Expr} {t : Tg} {ts : List Tg} (h1 : PG X e (LG X.K t)) (h2 : PGs X es (LGs X.K ts)) (hs : notStar e = true) : PGs X (e :: es) (LGs X.K (t :: ts)) :=
  weakGs (pgs_cons h1 h2 (by rw [assignEach_plain hs]; rfl)) fun xs σ H Q ⟨env, st, mp, vs, rs, er, sr, h⟩ => by
    cases vs with
    | nil => exact False.elim h
    | cons v vs =>
      obtain ⟨x, xs, rfl, r, rs⟩ := rs.consV
      refine ⟨x, xs, rfl, env, st, mp, .one v, r, er, sr, (Aft.bind h).mono (fun m1 H1 s1 env1 g sr1 a σ1 er1 se1 => ?_) fun _ _ _ _ _ _ _ h => h⟩
      exact ⟨env1, s1, m1, vs, RVs.grow g _ _ rs, er1, sr1, a.mono (fun m2 H2 s2 env2 g2 sr2 q σ2 er2 se2 => q σ2 er2 (se1.trans se2)) fun _ _ _ _ _ _ _ h => h⟩
theorem sg_tup {es : List Expr} {ts : List Tg} {k : Nat} (hc : X.calm = true) (h : PGs X es (LGs X.K ts)) (hs : es.all notStar = true) (hl : es.length = ts.length) : PG X (.Tuple es k pos) (LG X.K (.tp ts)) := by
  have ht := pg_tup (pos := pos) (k := k) hc h (assignEach_len es X.env) (assignEach_star es X.env hs)
  have hu := pg_unl (pos := pos) (k := k) hc h (assignEach_len es X.env) (assignEach_star es X.env hs)
  refine ⟨fun pins s σ H v u Q I r ⟨env, st, mp, it, ir, er, sr, h⟩ => ?_⟩
  have lists : ∀ {p xs vs}, v = .ref p → SqL X.K H p vs → RVs X.K mp H xs vs → Aft X.K mp H (need (decide (xs.length = ts.length)) (bindTs ts xs env) st) (OkT X.K (Tg.tp ts).idx σ Q) NoX → wpAny (model X.prog X.w) X.A (assign (.Tuple es k pos) X.env u) (fun _ s' => ∃ σ' H', Inv X pins σ' H' s' ∧ Q σ' H') X.xe s := fun {p xs vs} e q rs h => by
    obtain ⟨z, h⟩ := need_inv h
    have z : xs.length = ts.length := of_decide_eq_true z
    exact hu.run pins s σ H v u Q I r ⟨p, vs, e, q, by rw [← rs.length, z, hl], env, st, mp, xs, rs, er, sr, h⟩
  have tups : ∀ {p xs vs}, v = .ref p → SqT X.K H p vs → RVs X.K mp H xs vs → Aft X.K mp H (need (decide (xs.length = ts.length)) (bindTs ts xs env) st) (OkT X.K (Tg.tp ts).idx σ Q) NoX → wpAny (model X.prog X.w) X.A (assign (.Tuple es k pos) X.env u) (fun _ s' => ∃ σ' H', Inv X pins σ' H' s' ∧ Q σ' H') X.xe s := fun {p xs vs} e q rs h => by
    obtain ⟨z, h⟩ := need_inv h
    have z : xs.length = ts.length := of_decide_eq_true z
    exact ht.run pins s σ H v u Q I r ⟨p, vs, e, q, by rw [← rs.length, z, hl], env, st, mp, xs, rs, er, sr, h⟩
  cases it with
  | many vs =>
    obtain ⟨T, ws, e, q, rs⟩ := ir
    exact tups e q rs h
  | one w =>
    have ir : RV X.K mp H w v := ir
    cases w with
    | tup xs =>
      obtain ⟨p, vs, rfl, t, rs⟩ := ir.tupS
      exact tups rfl t.sq rs h
    | frz xs =>
      obtain ⟨p, vs, rfl, t, rs⟩ := ir.frzS
      exact lists rfl t.sq rs h
    | ref n =>
      obtain ⟨p, rfl, hp⟩ := ir.refS
      obtain ⟨xs, vs, e1, e2, rs, h⟩ := onL_inv sr hp h
      exact lists rfl (SqL.of e2) rs h
    | _ => exact False.elim h
end

/-! ### the list that a comprehension lays: no one knows it till it is done -/
def hide (D : Addr) (H : Hp) : Hp := fun b => if b = D then none else H b
section
variable {K : PySem.W.Frag} {mp mp' : List Addr} {H H' : Hp} {st : Store} {D : Addr}
theorem hide_ne {b : Addr} (h : b ≠ D) : hide D H b = H b := by unfold hide; rw [if_neg h]
theorem hide_eq : hide D H D = none := by unfold hide; rw [if_pos rfl]
theorem hide_some {b : Addr} {o : HO} (h : hide D H b = some o) : b ≠ D ∧ H b = some o := by
  by_cases e : b = D
  · subst e; rw [hide_eq] at h; cases h
  · rw [hide_ne e] at h; exact ⟨e, h⟩
theorem hide_upd {u : HO} (h : H D = none) : hide D (upd H D u) = H := by
  funext b
  by_cases e : b = D
  · subst e; rw [hide_eq, h]
  · rw [hide_ne e, upd_ne e]
theorem upd_hide {u : HO} (h : H D = some u) : upd (hide D H) D u = H := by
  funext b
  by_cases e : b = D
  · subst e; rw [upd_same, h]
  · rw [upd_ne e, hide_ne e]
theorem hide_upd2 {u : HO} : hide D (upd H D u) = hide D H := by
  funext b
  by_cases e : b = D
  · subst e; rw [hide_eq, hide_eq]
  · rw [hide_ne e, hide_ne e, upd_ne e]
theorem Grow.unhide : Grow mp (hide D H) mp H := ⟨⟨[], by simp⟩, fun a o e n => ⟨(hide_some e).2, n⟩⟩
theorem Grow.hide (g : Grow mp H mp' H') : Grow mp (hide D H) mp' (hide D H') := ⟨g.pre, fun a o e n => by
  obtain ⟨h1, h2⟩ := hide_some e
  obtain ⟨h3, h4⟩ := g.frame a o h2 n
  exact ⟨by rw [hide_ne h1]; exact h3, h4⟩⟩
/-- an object that nothing of the store stands for -/
class Hid (o : HO) : Prop where
  tup : ∀ vs, o ≠ .tup vs
  frz : ∀ o' u, o ≠ .frz o' u
instance {acc : List V} : Hid (.lst acc) := ⟨(fun _ e => nomatch e), (fun _ _ e => nomatch e)⟩
instance {kvs : List (Key × V)} : Hid (.dK kvs) := ⟨(fun _ e => nomatch e), (fun _ _ e => nomatch e)⟩
mutual
theorem RV.hide {ho : HO} [Hid ho] (hD : H D = some ho) : ∀ (x : Val) (v : V), RV K mp H x v → RV K mp (MP.hide D H) x v
  | .none, _, h => by cases h; exact .none
  | .bool _, _, h => by cases h; exact .bool _
  | .int _, _, h => by cases h; exact .int _
  | .str _, _, h => by cases h; exact .str _
  | .tup xs, _, h => by
    cases h with
    | tup t r =>
      refine .tup ?_ (RVs.hide hD xs _ r)
      rcases t with ⟨n, o, e, d⟩ | t
      · exact .inl ⟨n, o, by rw [hide_ne (fun z => by subst z; rw [hD] at e; exact Hid.frz (o := ho) _ _ (Option.some.inj e))]; exact e, d⟩
      · exact .inr t
  | .frz xs, _, h => by
    cases h with
    | frz t r =>
      refine .frz ?_ (RVs.hide hD xs _ r)
      rcases t with ⟨n, o, e⟩ | t
      · exact .inl ⟨n, o, by rw [hide_ne (fun z => by subst z; rw [hD] at e; exact Hid.frz (o := ho) _ _ (Option.some.inj e))]; exact e⟩
      · exact .inr t
  | .ref n, _, h => by
    cases h with
    | ref e => exact .ref e
theorem RVs.hide {ho : HO} [Hid ho] (hD : H D = some ho) : ∀ (xs : List Val) (vs : List V), RVs K mp H xs vs → RVs K mp (MP.hide D H) xs vs
  | [], _, h => by cases h; exact .nil
  | x :: xs, _, h => by
    cases h with
    | cons a b => exact .cons (RV.hide hD x _ a) (RVs.hide hD xs _ b)
end
theorem SR.hide {ho : HO} [Hid ho] (s : SR K mp H st) (hD : H D = some ho) (hn : D ∉ mp) : SR K mp (MP.hide D H) st := by
  refine ⟨s.len, s.nd, fun n a o e1 e2 => ?_, fun a ha vs => ?_⟩
  · have m : a ∈ mp := List.mem_of_getElem? e1
    have ne : a ≠ D := fun z => hn (z ▸ m)
    cases s.obj n a o e1 e2 with
    | lst e r => exact .lst (by rw [hide_ne ne]; exact e) (RVs.hide hD _ _ r)
    | dk e r => exact .dk (by rw [hide_ne ne]; exact e) (Paired.mapP r fun p q z => ⟨z.1, RV.hide hD _ _ z.2⟩)
  · rw [hide_ne (fun z => by rw [z] at ha; exact hn ha)]; exact s.no a ha vs
theorem SR.unhide (s : SR K mp (MP.hide D H) st) (hn : D ∉ mp) : SR K mp H st := by
  refine ⟨s.len, s.nd, fun n a o e1 e2 => ?_, fun a ha vs => ?_⟩
  · have m : a ∈ mp := List.mem_of_getElem? e1
    exact (s.obj n a o e1 e2).grow Grow.unhide (hide_ne (fun z => by rw [z] at m; exact hn m)).symm
  · have := s.no a ha vs
    rw [hide_ne (fun z => by rw [z] at ha; exact hn ha)] at this; exact this
theorem Aft.hide {α : Type} {r : Res α} {okP : List Addr → Hp → Store → α → Prop} {ho : HO} [Hid ho] (h : Aft K mp (MP.hide D H) r okP NoX) (hD : H D = some ho) (hn : D ∉ mp) : Aft K mp H r (fun m1 H1 s v => H1 D = some ho ∧ D ∉ m1 ∧ okP m1 (MP.hide D H1) s v) NoX := by
  cases r with
  | ok v s =>
    intro mp' H' g s'
    obtain ⟨h1, h2⟩ := g.frame D _ hD hn
    exact ⟨h1, h2, h mp' _ g.hide (s'.hide h1 h2)⟩
  | exc C v s =>
    intro mp' H' g s'
    obtain ⟨h1, h2⟩ := g.frame D _ hD hn
    exact h mp' (MP.hide D H') g.hide (s'.hide h1 h2)
  | bad => exact h
end
section
variable {K : PySem.W.Frag} {C : Cfg} {mp mp' : List Addr} {H H' : Hp} {env : En} {σ : L2.St} {st : Store} {D : Addr} {ho : HO} [Hid ho] {α : Type}
theorem LE.hbind {e : E} {k : Val → M α} {okP : List Addr → Hp → Store → α → Prop} {R : VK} (er : ER K mp H env σ) (sr : SR K mp H st) (hD : H D = some ho) (hn : D ∉ mp) (h : Aft K mp (MP.hide D H) ((evalE C e env >>= k) st) okP NoX)
    (hR : ∀ m1 H1 s1 v x, Grow mp H m1 H1 → SR K m1 H1 s1 → ER K m1 H1 env σ → RV K m1 H1 v x → H1 D = some ho → D ∉ m1 → Aft K m1 (MP.hide D H1) (k v s1) okP NoX → R x H1) : LE K C e σ H R :=
  ⟨env, st, mp, er, sr, ((Aft.bind h).hide hD hn).mono (fun m1 H1 s v g s' ⟨a, b, c⟩ x r => hR m1 H1 s v x g s' (er.grow g) r a b c) fun _ _ _ _ _ _ _ h => h⟩
theorem LB.hbind {e : E} {k : Bool → M α} {okP : List Addr → Hp → Store → α → Prop} {R : Bool → Hp → Prop} (er : ER K mp H env σ) (sr : SR K mp H st) (hD : H D = some ho) (hn : D ∉ mp) (h : Aft K mp (MP.hide D H) ((evalE C e env >>= fun v => onB v k) st) okP NoX)
    (hR : ∀ m1 H1 s1 b, Grow mp H m1 H1 → SR K m1 H1 s1 → ER K m1 H1 env σ → H1 D = some ho → D ∉ m1 → Aft K m1 (MP.hide D H1) (k b s1) okP NoX → R b H1) : LB K C e σ H R :=
  ⟨env, st, mp, er, sr, ((Aft.bind h).hide hD hn).mono (fun m1 H1 s v g s' ⟨a, b, c⟩ => by
    obtain ⟨k, rfl, c⟩ := onB_inv c
    exact ⟨k, rfl, hR m1 H1 s k g s' (er.grow g) a b c⟩) fun _ _ _ _ _ _ _ h => h⟩
end

/-! ### list comprehensions -/
def LTs (K : PySem.W.Frag) (C : Cfg) (c : Oe) : TT := fun σ H Q => match c with
  | .none => Q true H
  | .some c => LB K C c σ H Q
theorem wipe_some {σ : L2.St} : ∀ {vs : List Nat} {i : Nat}, i ∈ vs → i < σ.length → (L2.wipe σ vs)[i]? = some none
  | v :: vs, i, h, hl => by
    unfold L2.wipe
    by_cases e : v = i
    · subst e; rw [List.getElem?_set_self (by rw [L2.wipe_length]; exact hl)]
    · rw [List.getElem?_set_ne e]
      rcases List.mem_cons.mp h with e2 | h
      · exact absurd e2.symm e
      · exact wipe_some h hl
theorem wipe_out {σ : L2.St} : ∀ {vs : List Nat} {i : Nat}, i ∉ vs → (L2.wipe σ vs)[i]? = σ[i]?
  | [], i, _ => rfl
  | v :: vs, i, h => by
    unfold L2.wipe
    rw [List.mem_cons, not_or] at h
    rw [List.getElem?_set_ne (Ne.symm h.1)]
    exact wipe_out h.2
theorem wipe_sets {σ σ2 : L2.St} {ix vs : List Nat} (h : Sets ix (L2.wipe σ vs) σ2) (hs : ∀ i ∈ ix, i ∈ vs) : L2.wipe σ2 vs = L2.wipe σ vs := by
  apply List.ext_getElem?
  intro i
  have hl : σ2.length = σ.length := by rw [h.1, L2.wipe_length]
  by_cases hi : i ∈ vs
  · by_cases hlt : i < σ.length
    · rw [wipe_some hi hlt, wipe_some hi (by rw [hl]; exact hlt)]
    · rw [List.getElem?_eq_none (by rw [L2.wipe_length]; omega), List.getElem?_eq_none (by rw [L2.wipe_length]; omega)]
  · rw [wipe_out hi, h.2 i (fun z => hi (hs i z))]
section
variable {X : Cx} {C : Cfg} {tg iter elt a b c : Expr} {x y z e : E} {pos : Pos} {t : Tg} {it : MP.It} {oc : Oe}
/-- the body of a comprehension -/
def lcBody (C : Cfg) (t : Tg) (c : Oe) (e : E) (own : List Nat) (env : En) (v : Itm) : M (Option Val) := do
  let env2 ← bindI t v (MP.wipe env own)
  let k ← evalOe C c env2
  match k with
  | Option.none => do let y ← evalE C e env2; pure (some y)
  | some z => onB z fun k => match k with
    | true => do let y ← evalE C e env2; pure (some y)
    | false => pure Option.none
/-- the rule's reading of a list comprehension -/
theorem lc_reads {K : PySem.W.Frag} {vs : List Nat} (hix : ∀ i ∈ t.idx, i ∈ vs) {σ : L2.St} {H : Hp} {Q : VK} (h : LE K C (.lc t it oc e vs) σ H Q) : tLc (LI K C it) (LG K t) (LTs K C oc) (LE K C e) vs σ H Q := by
  obtain ⟨env, st, mp, er, sr, h⟩ := h
  have h : Aft K mp H ((evalIt C it env >>= fun src => need (szOk src.items.length) (lcGo src.chk (lcBody C t oc e vs env) src.items >>= fun ys => new (.lst ys))) st) (OkV K Q) NoX := h
  refine ⟨env, st, mp, er, sr, (Aft.bind h).mono (fun m1 H1 s1 src g1 sr1 h1 J F D hD => ?_) fun _ _ _ _ _ _ _ h => h⟩
  obtain ⟨hsz, h1⟩ := need_inv h1
  have hsz := szOk_le hsz
  have er1 := er.grow g1
  refine ⟨fun i m H => ∃ mp st acc ys, Grow m1 H1 mp (MP.hide D H) ∧ SR K mp H st ∧ D ∉ mp ∧ H D = some (.lst acc) ∧ RVs K mp (MP.hide D H) ys acc ∧ ys.length ≤ i ∧ i ≤ src.items.length ∧ m = src.items.length - i ∧
    Aft K mp (MP.hide D H) (lcGo src.chk (lcBody C t oc e vs env) (src.items.drop i) st) (fun m2 H2 s2 zs => Aft K m2 H2 (new (.lst (ys ++ zs)) s2) (OkV K Q) NoX) NoX, ⟨src.items.length, m1, s1, [], [], ?_⟩, ?_⟩
  · have hn := sr1.notin hD
    refine ⟨by rw [hide_upd hD]; exact .refl, SR.unhide (by rw [hide_upd hD]; exact sr1) hn, hn, upd_same, .nil, Nat.zero_le _, Nat.zero_le _, rfl, ?_⟩
    rw [hide_upd hD]
    exact Aft.bind h1
  · rintro i m H2 ⟨mp, st, acc, ys, g2, sr2, hn, hD2, rys, hyi, hi, rfl, a2⟩
    have gH : Grow m1 H1 mp H2 := g2.trans .unhide
    by_cases hlt : i < src.items.length
    · rw [List.drop_eq_getElem_cons hlt] at a2
      obtain ⟨ck, a2⟩ := chkM_inv a2
      obtain ⟨-, go⟩ := F mp H2 st gH sr2 ck i
      obtain ⟨hgo, hy⟩ := go src.items[i] (List.getElem?_eq_getElem hlt)
      refine .inr ⟨hgo, fun H => ∃ mp st acc ys, Grow m1 H1 mp (MP.hide D H) ∧ SR K mp H st ∧ D ∉ mp ∧ H D = some (.lst acc) ∧ RVs K mp (MP.hide D H) ys acc ∧ ys.length ≤ i + 1 ∧
        Aft K mp (MP.hide D H) (lcGo src.chk (lcBody C t oc e vs env) (src.items.drop (i + 1)) st) (fun m2 H2 s2 zs => Aft K m2 H2 (new (.lst (ys ++ zs)) s2) (OkV K Q) NoX) NoX, ?_, ?_⟩
      · rintro H' ⟨mp, st, acc, ys, q1, q2, q3, q4, q5, q6, q7⟩
        exact ⟨_, (by omega : src.items.length - (i + 1) < src.items.length - i), mp, st, acc, ys, q1, q2, q3, q4, q5, q6, hlt, rfl, q7⟩
      · intro x H3 hy3
        obtain ⟨g3, sr3, ir⟩ := hy x H3 hy3
        have hD3 : H3 D = some (.lst acc) := (g3.frame D _ hD2 hn).1
        have a3 := a2.grow g3.hide
        have a3 := Aft.bind a3
        have a3 := Aft.bind a3
        -- what the body's value does
        have fin : ∀ {m4 H4 s4} {r : Option Val}, Grow mp H3 m4 H4 → SR K m4 H4 s4 → H4 D = some (.lst acc) → D ∉ m4 →
            Aft K m4 (MP.hide D H4) ((lcGo src.chk (lcBody C t oc e vs env) (src.items.drop (i + 1)) >>= fun zs => (pure (match r with | some y => y :: zs | none => zs) : M (List Val))) s4) (fun m2 H2 s2 zs => Aft K m2 H2 (new (.lst (ys ++ zs)) s2) (OkV K Q) NoX) NoX →
            Aft K m4 (MP.hide D H4) (lcGo src.chk (lcBody C t oc e vs env) (src.items.drop (i + 1)) s4) (fun m2 H2 s2 zs => Aft K m2 H2 (new (.lst (ys ++ (match r with | some y => y :: zs | none => zs))) s2) (OkV K Q) NoX) NoX := fun {m4 H4 s4 r} _ _ _ _ h =>
          (Aft.bind h).mono (fun m5 H5 s5 zs g5 sr5 q => q m5 H5 .refl sr5) fun _ _ _ _ _ _ _ h => h
        refine ⟨MP.wipe env vs, st, mp, src.items[i], ir, (((er1.grow gH).grow g3).wipe vs), sr3, (a3.hide hD3 hn).mono (fun m4 H4 s4 env2 g4 sr4 ⟨hD4, hn4, a4⟩ σ2 er2 se2 => ⟨wipe_sets se2 hix, ?_⟩) fun _ _ _ _ _ _ _ h => h⟩
        have gg : Grow mp H3 m4 H4 := g4
        -- the element
        have elem : ∀ {m5 H5 s5}, Grow mp H3 m5 H5 → SR K m5 H5 s5 → ER K m5 H5 env2 σ2 → H5 D = some (.lst acc) → D ∉ m5 →
            Aft K m5 (MP.hide D H5) ((evalE C e env2 >>= fun y => (pure (some y) : M (Option Val))) s5) (fun m2 H2 s2 r => Aft K m2 H2 ((lcGo src.chk (lcBody C t oc e vs env) (src.items.drop (i + 1)) >>= fun zs => (pure (match r with | some y => y :: zs | none => zs) : M (List Val))) s2) (fun m2 H2 s2 zs => Aft K m2 H2 (new (.lst (ys ++ zs)) s2) (OkV K Q) NoX) NoX) NoX →
            LE K C e σ2 H5 fun y H4 => ∃ acc, H4 D = some (.lst acc) ∧ acc.length < sizeLine ∧ (∃ mp st acc', ∃ ys, Grow m1 H1 mp (MP.hide D (upd H4 D (.lst (acc ++ [y])))) ∧ SR K mp (upd H4 D (.lst (acc ++ [y]))) st ∧ D ∉ mp ∧ (upd H4 D (.lst (acc ++ [y]))) D = some (.lst acc') ∧ RVs K mp (MP.hide D (upd H4 D (.lst (acc ++ [y])))) ys acc' ∧ ys.length ≤ i + 1 ∧
              Aft K mp (MP.hide D (upd H4 D (.lst (acc ++ [y])))) (lcGo src.chk (lcBody C t oc e vs env) (src.items.drop (i + 1)) st) (fun m2 H2 s2 zs => Aft K m2 H2 (new (.lst (ys ++ zs)) s2) (OkV K Q) NoX) NoX) := fun {m5 H5 s5} g5 sr5 er5 hD5 hn5 a5 =>
          LE.hbind er5 sr5 hD5 hn5 a5 fun m6 H6 s6 v w g6 sr6 er6 rv6 hD6 hn6 a6 => by
            have g36 : Grow mp H3 m6 H6 := g5.trans g6
            have a7 := a6 m6 (MP.hide D H6) .refl (sr6.hide hD6 hn6)
            have a8 := fin (r := some v) g36 sr6 hD6 hn6 a7
            refine ⟨acc, hD6, by have := rys.length; omega, m6, s6, acc ++ [w], ys ++ [v], ?_⟩
            rw [hide_upd2]
            have gh : Grow mp (MP.hide D H2) m6 (MP.hide D H6) := g3.hide.trans g36.hide
            refine ⟨g2.trans gh, SR.unhide (D := D) (by rw [hide_upd2]; exact sr6.hide hD6 hn6) hn6, hn6, upd_same, (RVs.grow gh _ _ rys).append (.cons (RV.hide hD6 _ _ rv6) .nil), by rw [List.length_append, List.length_singleton]; omega, ?_⟩
            refine a8.mono (fun m7 H7 s7 zs g7 sr7 q => ?_) fun _ _ _ _ _ _ _ h => h
            rw [List.append_assoc]; exact q
        cases oc with
        | none =>
          exact elem gg sr4 er2 hD4 hn4 a4
        | some c =>
          have a4 := Aft.assoc (m := evalE C c env2) (f := fun v => (pure (some v) : M (Option Val))) (g := fun k => match k with
              | Option.none => (evalE C e env2 >>= fun y => (pure (some y) : M (Option Val)))
              | some z => onB z fun k => match k with
                | true => (evalE C e env2 >>= fun y => (pure (some y) : M (Option Val)))
                | false => pure Option.none) a4
          refine LB.hbind (k := fun k => match k with
                | true => (evalE C e env2 >>= fun y => (pure (some y) : M (Option Val)))
                | false => pure Option.none) er2 sr4 hD4 hn4 a4 fun m5 H5 s5 b g5 sr5 er5 hD5 hn5 a5 => ?_
          cases b with
          | true =>
            rw [if_pos rfl]
            exact elem (gg.trans g5) sr5 er5 hD5 hn5 a5
          | false =>
            rw [if_neg (by decide)]
            have g35 : Grow mp H3 m5 H5 := gg.trans g5
            have a6 := a5 m5 (MP.hide D H5) .refl (sr5.hide hD5 hn5)
            have a7 := fin (r := none) g35 sr5 hD5 hn5 a6
            have gh : Grow mp (MP.hide D H2) m5 (MP.hide D H5) := g3.hide.trans g35.hide
            exact ⟨m5, s5, acc, ys, g2.trans gh, sr5, hn5, hD5, RVs.grow gh _ _ rys, by omega, a7⟩
    · have e0 : i = src.items.length := by omega
      subst e0
      rw [List.drop_length] at a2
      obtain ⟨ck, a2⟩ := chkM_inv a2
      obtain ⟨stop, -⟩ := F mp H2 st gH sr2 ck src.items.length
      refine .inl ⟨stop (Nat.le_refl _), ?_⟩
      have a3 := Aft.ok_now a2 (sr2.hide hD2 hn)
      rw [List.append_nil] at a3
      have q := new_inv (sr2.hide hD2 hn) a3 rys D hide_eq
      rw [upd_hide hD2] at q
      exact q
theorem sn_lc {ifs : List Expr} {scope : Scope} {own : List (Str × Nat)} (hc : X.calm = true) (hN : X.N.Nodup) (hi : PI X tg iter (LI X.K C it)) (ok : BlkOk X.N X.env.scope scope own)
    (hg : ∀ (s : Shared) (H : Hp) (D : Addr) (cl : List (Str × Addr)) (fp : List Addr), PG (X.blk s H scope (compEnvC scope cl D X.env) fp) tg (LG X.K t))
    (ht : ∀ (s : Shared) (H : Hp) (D : Addr) (cl : List (Str × Addr)) (fp : List Addr), PTs (X.blk s H scope (compEnvC scope cl D X.env) fp) ifs (LTs X.K C oc))
    (he : ∀ (s : Shared) (H : Hp) (D : Addr) (cl : List (Str × Addr)) (fp : List Addr), PE (X.blk s H scope (compEnvC scope cl D X.env) fp) elt (LE X.K C e)) (hs : ∀ x, foldedSetIterable iter X.env x = pure x) (hix : ∀ i ∈ t.idx, i ∈ own.map (·.2)) :
    PE X (.ListComp elt [⟨tg, iter, ifs, 0⟩] scope pos) (LE X.K C (.lc t it oc e (own.map (·.2)))) :=
  weakE (pe_lc hc hN hi ok hg ht he hs) fun σ H Q h => lc_reads hix h
end
end MP
set_option Elab.async false
set_option linter.all false
set_option maxRecDepth 100000
set_option maxHeartbeats 1000000
/-! Dict comprehensions. -/
namespace MP
open PySem PySem.Spec PyProof.Rows L2
theorem KR.grow {K : PySem.W.Frag} {mp mp' : List Addr} {H H' : Hp} (g : Grow mp H mp' H') {kvs : List (Val × Val)} {kws : List (Key × V)} (r : KR K mp H kvs kws) : KR K mp' H' kvs kws := Paired.mapP r fun p q z => ⟨z.1, z.2.grow g⟩
theorem new_invD {K : PySem.W.Frag} {mp : List Addr} {H : Hp} {st : Store} {Q : VK} {ex : ExP} {xs : List (Val × Val)} {vs : List (Key × V)} (s : SR K mp H st) (h : Aft K mp H (new (.dct xs) st) (OkV K Q) ex) (r : KR K mp H xs vs) : ∀ p, H p = none → Q (.ref p) (upd H p (.dK vs)) := fun p hp => by
  obtain ⟨g, s'⟩ := s.new (u := .dK vs) (o := .dct xs) hp (fun _ e => nomatch e) (fun _ _ e => nomatch e) fun g => .dk upd_same (KR.grow g r)
  exact h _ _ g s' _ (.ref (by rw [← s.len]; simp))
section
variable {X : Cx} {C : Cfg} {tg iter kx vx : Expr} {k v : E} {pos : Pos} {t : Tg} {it : MP.It}
def dcBody (C : Cfg) (t : Tg) (k v : E) (own : List Nat) (env : En) (x : Itm) : M (Val × Val) := do
  let env2 ← bindI t x (MP.wipe env own)
  let a ← evalE C k env2
  let b ← evalE C v env2
  pure (a, b)
theorem dcGo_len {C : Cfg} {t : Tg} {k v : E} : True := trivial
theorem putK_len (kvs : List (Key × V)) (k : Key) (v : V) : (putK kvs k v).length ≤ kvs.length + 1 := length_putK kvs k v
theorem dc_reads {K : PySem.W.Frag} {vs : List Nat} (hix : ∀ i ∈ t.idx, i ∈ vs) {σ : L2.St} {H : Hp} {Q : VK} (h : LE K C (.dc t it k v vs) σ H Q) : tDc (LI K C it) (LG K t) (fun _ H Q => Q true H) (LE K C k) (LE K C v) vs σ H Q := by
  obtain ⟨env, st, mp, er, sr, h⟩ := h
  have h : Aft K mp H ((evalIt C it env >>= fun src => need (szOk src.items.length) (dcGo src.chk (dcBody C t k v vs env) src.items [] >>= fun ys => new (.dct ys))) st) (OkV K Q) NoX := h
  refine ⟨env, st, mp, er, sr, (Aft.bind h).mono (fun m1 H1 s1 src g1 sr1 h1 J F D hD => ?_) fun _ _ _ _ _ _ _ h => h⟩
  obtain ⟨hsz, h1⟩ := need_inv h1
  have hsz := szOk_le hsz
  have er1 := er.grow g1
  refine ⟨fun i m H => ∃ mp st acc ys, Grow m1 H1 mp (MP.hide D H) ∧ SR K mp H st ∧ D ∉ mp ∧ H D = some (.dK acc) ∧ KR K mp (MP.hide D H) ys acc ∧ acc.length ≤ i ∧ i ≤ src.items.length ∧ m = src.items.length - i ∧
    Aft K mp (MP.hide D H) (dcGo src.chk (dcBody C t k v vs env) (src.items.drop i) ys st) (fun m2 H2 s2 zs => Aft K m2 H2 (new (.dct zs) s2) (OkV K Q) NoX) NoX, ⟨src.items.length, m1, s1, [], [], ?_⟩, ?_⟩
  · have hn := sr1.notin hD
    refine ⟨by rw [hide_upd hD]; exact .refl, SR.unhide (by rw [hide_upd hD]; exact sr1) hn, hn, upd_same, .nil, Nat.zero_le _, Nat.zero_le _, rfl, ?_⟩
    rw [hide_upd hD]
    exact Aft.bind h1
  · rintro i m H2 ⟨mp, st, acc, ys, g2, sr2, hn, hD2, rys, hyi, hi, rfl, a2⟩
    have gH : Grow m1 H1 mp H2 := g2.trans .unhide
    by_cases hlt : i < src.items.length
    · rw [List.drop_eq_getElem_cons hlt] at a2
      obtain ⟨ck, a2⟩ := chkM_inv a2
      obtain ⟨-, go⟩ := F mp H2 st gH sr2 ck i
      obtain ⟨hgo, hy⟩ := go src.items[i] (List.getElem?_eq_getElem hlt)
      refine .inr ⟨hgo, fun H => ∃ mp st acc ys, Grow m1 H1 mp (MP.hide D H) ∧ SR K mp H st ∧ D ∉ mp ∧ H D = some (.dK acc) ∧ KR K mp (MP.hide D H) ys acc ∧ acc.length ≤ i + 1 ∧
        Aft K mp (MP.hide D H) (dcGo src.chk (dcBody C t k v vs env) (src.items.drop (i + 1)) ys st) (fun m2 H2 s2 zs => Aft K m2 H2 (new (.dct zs) s2) (OkV K Q) NoX) NoX, ?_, ?_⟩
      · rintro H' ⟨mp, st, acc, ys, q1, q2, q3, q4, q5, q6, q7⟩
        exact ⟨_, (by omega : src.items.length - (i + 1) < src.items.length - i), mp, st, acc, ys, q1, q2, q3, q4, q5, q6, hlt, rfl, q7⟩
      · intro x H3 hy3
        obtain ⟨g3, sr3, ir⟩ := hy x H3 hy3
        have hD3 : H3 D = some (.dK acc) := (g3.frame D _ hD2 hn).1
        have a3 := a2.grow g3.hide
        have a3 := Aft.bind a3
        have a3 := Aft.bind a3
        refine ⟨MP.wipe env vs, st, mp, src.items[i], ir, (((er1.grow gH).grow g3).wipe vs), sr3, (a3.hide hD3 hn).mono (fun m4 H4 s4 env2 g4 sr4 ⟨hD4, hn4, a4⟩ σ2 er2 se2 => ⟨wipe_sets se2 hix, ?_⟩) fun _ _ _ _ _ _ _ h => h⟩
        simp only [if_true]
        refine LE.hbind er2 sr4 hD4 hn4 a4 fun m5 H5 s5 a x5 g5 sr5 er5 rv5 hD5 hn5 a5 => ?_
        refine LE.hbind er5 sr5 hD5 hn5 a5 fun m6 H6 s6 b x6 g6 sr6 er6 rv6 hD6 hn6 a6 => ?_
        have a7 := a6 m6 (MP.hide D H6) .refl (sr6.hide hD6 hn6)
        obtain ⟨w, a7⟩ := need_inv a7
        obtain ⟨ky, hk1, rfl⟩ := keyOf_flat w rv5
        have g36 : Grow mp H3 m6 H6 := (g4.trans g5).trans g6
        have gh : Grow mp (MP.hide D H2) m6 (MP.hide D H6) := g3.hide.trans g36.hide
        refine ⟨acc, ky, rfl, hD6, by omega, m6, s6, putK acc ky x6, dput ys a b, ?_⟩
        rw [hide_upd2]
        exact ⟨g2.trans gh, SR.unhide (D := D) (by rw [hide_upd2]; exact sr6.hide hD6 hn6) hn6, hn6, upd_same, put_rel (KR.grow gh rys) hk1 (RV.hide hD6 _ _ rv6), by have := length_putK acc ky x6; omega, a7⟩
    · have e0 : i = src.items.length := by omega
      subst e0
      rw [List.drop_length] at a2
      obtain ⟨ck, a2⟩ := chkM_inv a2
      obtain ⟨stop, -⟩ := F mp H2 st gH sr2 ck src.items.length
      refine .inl ⟨stop (Nat.le_refl _), ?_⟩
      have a3 := Aft.ok_now a2 (sr2.hide hD2 hn)
      have q := new_invD (sr2.hide hD2 hn) a3 rys D hide_eq
      rw [upd_hide hD2] at q
      exact q
theorem sn_dc {scope : Scope} {own : List (Str × Nat)} (hc : X.calm = true) (hN : X.N.Nodup) (hi : PI X tg iter (LI X.K C it)) (ok : BlkOk X.N X.env.scope scope own)
    (hg : ∀ (s : Shared) (H : Hp) (D : Addr) (cl : List (Str × Addr)) (fp : List Addr), PG (X.blk s H scope (compEnvC scope cl D X.env) fp) tg (LG X.K t))
    (hk : ∀ (s : Shared) (H : Hp) (D : Addr) (cl : List (Str × Addr)) (fp : List Addr), PE (X.blk s H scope (compEnvC scope cl D X.env) fp) kx (LE X.K C k))
    (he : ∀ (s : Shared) (H : Hp) (D : Addr) (cl : List (Str × Addr)) (fp : List Addr), PE (X.blk s H scope (compEnvC scope cl D X.env) fp) vx (LE X.K C v)) (hs : ∀ x, foldedSetIterable iter X.env x = pure x) (hix : ∀ i ∈ t.idx, i ∈ own.map (·.2)) :
    PE X (.DictComp kx vx [⟨tg, iter, [], 0⟩] scope pos) (LE X.K C (.dc t it k v (own.map (·.2)))) :=
  weakE (pe_dc hc hN hi ok hg (tt := fun _ H Q => Q true H) (fun s H D cl fp => ⟨fun pins s σ H Q I hw => pts_nil.run pins s σ H Q I hw⟩) hk he hs) fun σ H Q h => dc_reads hix h
theorem sn_dic0 : PE X (.Dict [] [] pos) (LE X.K C .dic0) :=
  weakE pe_dnewK fun σ H Q ⟨env, st, mp, er, sr, h⟩ => fun p hp => new_invD sr (xs := []) (vs := []) h .nil p hp
/-- name = {..} on one line, the name a local -/
theorem ps_setDc {i : Nat} {y : Str} {py : Pos} {kx vx tg iter : Expr} {ifs : List Expr} {scope : Scope} {own : List (Str × Nat)} {pos spos : Pos} {wi : TI} {g : TG} {tt : TT} {tk tv : TE} (hc : X.calm = true) (hN : X.N.Nodup) (hy : X.N[i]? = some y) (hyl : X.env.scope.names.lookup y = some .local)
    (hsw : swapsWith (.DictComp kx vx [⟨tg, iter, ifs, 0⟩] scope pos) (some (.Name y py)) spos.line X.env = pure true) (hi : PI X tg iter wi) (ok : BlkOk X.N X.env.scope scope own)
    (hg : ∀ (s : Shared) (H : Hp) (C : Addr) (cl : List (Str × Addr)) (fp : List Addr), PG (X.blk s H scope (compEnvC scope cl C X.env) fp) tg g) (ht : ∀ (s : Shared) (H : Hp) (C : Addr) (cl : List (Str × Addr)) (fp : List Addr), PTs (X.blk s H scope (compEnvC scope cl C X.env) fp) ifs tt)
    (hk : ∀ (s : Shared) (H : Hp) (C : Addr) (cl : List (Str × Addr)) (fp : List Addr), PE (X.blk s H scope (compEnvC scope cl C X.env) fp) kx tk)
    (he : ∀ (s : Shared) (H : Hp) (C : Addr) (cl : List (Str × Addr)) (fp : List Addr), PE (X.blk s H scope (compEnvC scope cl C X.env) fp) vx tv) (hs : ∀ x, foldedSetIterable iter X.env x = pure x) :
    PS X (.Assign [.Name y py] (.DictComp kx vx [⟨tg, iter, ifs, 0⟩] scope pos) spos) (tAsg (tDc wi g tt tk tv (own.map (·.2))) (gName i)) := by
  refine ⟨fun pins s σ H D I h => ?_⟩
  rw [exec_Assign_Name_used _ _ _ _ hsw]
  refine wpAny_bind (wpAny_standAt (wpAny_bind ?_))
  show wpAny _ X.A (do let _ ← comprehension (.DictComp kx vx [⟨tg, iter, ifs, 0⟩] scope pos) scope X.env (firstIterPos [⟨tg, iter, ifs, 0⟩] pos) newDict false (eval iter X.env) (some (assign (.Name y py) X.env))) _ _ s
  have h : tDc wi g tt tk tv (own.map (·.2)) σ H (fun x H1 => gName i x σ H1 D.nx) := h
  refine wpAny_bind (thn (dc_core (Qf := fun _ s' => SP X pins D .next s') hc hN I hi ok hg ht hk he hs h fun L C s' m H' I' q hn f => ?_) fun _ s' hq => wpAny_pure (wpAny_pure hq))
  show wpAny _ _ (assign (.Name y py) X.env (.ref L)) _ _ _
  refine wpAny_assign_Name (store_ok2 (v := V.ref L) I' hN hy (.inl hyl) rfl (fun s2 I2 ⟨a, sb, ha⟩ => ?_) (.inr hyl))
  obtain ⟨f0, f1, f2, f3, f4, f5⟩ := f
  have haC : C ≠ a := by
    rcases ha with z | z
    · rw [z]; exact f1
    · exact fun e => f4 y a z e.symm
  refine ⟨m, hn.sameBut sb haC, fun h3 sb3 => ?_⟩
  exact ⟨_, H', I2.turned (t' := s2.toks) (fun b o hb e => (sb3.2 b hb).trans e) f0 f1 f3 f4 f5, q⟩
theorem swd_true {kx vx : Expr} {gs : List Comprehension} {scope : Scope} {pos py : Pos} {y : Str} {l : Nat} {env : Env} (hk : env.scope.kind = .function) (hy : env.scope.names.lookup y = some .local) (hl : (py.line == pos.line) = true)
    (ha : (scope.names.any fun (n, k) => n == y && (k == .local || k == .cell)) = false) : swapsWith (.DictComp kx vx gs scope pos) (some (.Name y py)) l env = pure true := by
  have ky : env.kindOf y = some .local := hy
  have hb : env.blockKind = .function := by unfold Env.blockKind; rw [hk]; rfl
  unfold swapsWith
  simp only [hb, ky, ha, Expr.pos, hl]
  rfl
end
end MP
set_option Elab.async false
set_option linter.all false
set_option maxRecDepth 100000
/-! Statements. -/
namespace MP
open PySem PySem.Spec PyProof.Rows L2

section
variable (K : PySem.W.Frag)
def FlP (mp : List Addr) (H : Hp) (D : Ends) (σ : L2.St) : Fl → Prop
  | .nx => D.nx σ H
  | .br => D.bk σ H
  | .ct => D.ct σ H
  | .rt v => ∀ x, RV K mp H v x → D.rt x H
def AftS (mp : List Addr) (H : Hp) (r : RS) (D : Ends) : Prop := match r with
  | .ok f env st => ∀ mp' H', Grow mp H mp' H' → SR K mp' H' st → ∀ σ', ER K mp' H' env σ' → FlP K mp' H' D σ' f
  | .exc _ _ _ st => ∀ mp' H', Grow mp H mp' H' → SR K mp' H' st → False
  | .bad => False
variable (C : Cfg) (F : Nat)
def LS (s : S) : TS := fun D σ H => ∃ env st mp, ER K mp H env σ ∧ SR K mp H st ∧ AftS K mp H (exec C F s env st) D
def LSs (s : Ss) : TS := fun D σ H => ∃ env st mp, ER K mp H env σ ∧ SR K mp H st ∧ AftS K mp H (execs C F s env st) D
end
section
variable {K : PySem.W.Frag} {C : Cfg} {F : Nat} {mp mp' m1 : List Addr} {H H' H1 : Hp} {env : En} {σ : L2.St} {st : Store} {D D' : Ends} {α : Type}
theorem AftS.grow (g : Grow mp H mp' H') {r : RS} (h : AftS K mp H r D) : AftS K mp' H' r D := by
  cases r with
  | ok f env st => exact fun m1 H1 g1 s1 => h m1 H1 (g.trans g1) s1
  | exc _ _ _ st => exact fun m1 H1 g1 s1 => h m1 H1 (g.trans g1) s1
  | bad => exact h
theorem AftS.mono {r : RS} (h : AftS K mp H r D) (hn : ∀ mp' H' σ', Grow mp H mp' H' → D.nx σ' H' → D'.nx σ' H') (hb : ∀ mp' H' σ', Grow mp H mp' H' → D.bk σ' H' → D'.bk σ' H') (hc : ∀ mp' H' σ', Grow mp H mp' H' → D.ct σ' H' → D'.ct σ' H') (hr : ∀ x H', D.rt x H' → D'.rt x H') : AftS K mp H r D' := by
  cases r with
  | ok f env st =>
    intro mp' H' g s σ' er
    have := h mp' H' g s σ' er
    cases f with
    | nx => exact hn _ _ _ g this
    | br => exact hb _ _ _ g this
    | ct => exact hc _ _ _ g this
    | rt v => exact fun x r => hr x H' (this x r)
  | exc _ _ _ st => exact h
  | bad => exact h
theorem AftS.from {r : Res α} {k : α → Store → RS} (h : AftS K mp H (RS.from r env k) D) : Aft K mp H r (fun m1 H1 s1 a => AftS K m1 H1 (k a s1) D) NoX := by
  cases r with
  | ok a s => exact fun m1 H1 g1 s1 => AftS.grow g1 h
  | exc C v s => exact h
  | bad => exact h
theorem AftS.then {r : RS} {k : En → Store → RS} (h : AftS K mp H (r.then k) D) : AftS K mp H r { D with nx := fun σ' H' => ∃ env st mp, ER K mp H' env σ' ∧ SR K mp H' st ∧ AftS K mp H' (k env st) D } := by
  cases r with
  | ok f env st =>
    cases f with
    | nx => exact fun mp' H' g s σ' er => ⟨env, st, mp', er, s, AftS.grow g h⟩
    | br => exact h
    | ct => exact h
    | rt v => exact h
  | exc _ _ _ st => exact h
  | bad => exact h
/-- what the next turn of a loop finds -/
def Nxt (K : PySem.W.Frag) (m1 : List Addr) (H1 : Hp) (k : En → Store → RS) (D : Ends) (σ' : L2.St) (H' : Hp) : Prop := ∃ env st mp, Grow m1 H1 mp H' ∧ ER K mp H' env σ' ∧ SR K mp H' st ∧ AftS K mp H' (k env st) D
theorem AftS.turn (gb : Grow m1 H1 mp H) {r : RS} {k : En → Store → RS} (h : AftS K mp H (r.turn k) D) : AftS K mp H r { D with nx := Nxt K m1 H1 k D, ct := Nxt K m1 H1 k D, bk := D.nx } := by
  cases r with
  | ok f env st =>
    cases f with
    | nx => exact fun mp' H' g s σ' er => ⟨env, st, mp', gb.trans g, er, s, AftS.grow g h⟩
    | br => exact h
    | ct => exact fun mp' H' g s σ' er => ⟨env, st, mp', gb.trans g, er, s, AftS.grow g h⟩
    | rt v => exact h
  | exc _ _ _ st => exact h
  | bad => exact h
/-- an expression of a statement -/
theorem LE.from {e : E} {k : Val → Store → RS} {R : VK} (er : ER K mp H env σ) (sr : SR K mp H st) (h : AftS K mp H (RS.from (evalE C e env st) env k) D)
    (hR : ∀ m1 H1 s1 v x, Grow mp H m1 H1 → SR K m1 H1 s1 → ER K m1 H1 env σ → RV K m1 H1 v x → AftS K m1 H1 (k v s1) D → R x H1) : LE K C e σ H R :=
  ⟨env, st, mp, er, sr, (AftS.from h).mono (fun m1 H1 s v g s' a x r => hR m1 H1 s v x g s' (er.grow g) r a) fun _ _ _ _ _ _ _ h => h⟩
theorem LB.from {e : E} {k : Val → Store → RS} {R : Bool → Hp → Prop} (er : ER K mp H env σ) (sr : SR K mp H st) (h : AftS K mp H (RS.from (evalE C e env st) env k) D) (hk : ∀ v s, (∀ b, v ≠ .bool b) → k v s = .bad)
    (hR : ∀ m1 H1 s1 b, Grow mp H m1 H1 → SR K m1 H1 s1 → ER K m1 H1 env σ → AftS K m1 H1 (k (.bool b) s1) D → R b H1) : LB K C e σ H R :=
  ⟨env, st, mp, er, sr, (AftS.from h).mono (fun m1 H1 s v g s' a => by
    by_cases hb : ∃ b, v = .bool b
    · obtain ⟨b, rfl⟩ := hb
      exact ⟨b, rfl, hR m1 H1 s b g s' (er.grow g) a⟩
    · rw [hk v s fun b e => hb ⟨b, e⟩] at a
      exact False.elim a) fun _ _ _ _ _ _ _ h => h⟩
theorem AftS.now {f : Fl} (h : AftS K mp H (.ok f env st) D) (er : ER K mp H env σ) (sr : SR K mp H st) : FlP K mp H D σ f := h mp H .refl sr σ er
end

section
variable {X : Cx} {C : Cfg} {F : Nat} {a b c o v i tg iter : Expr} {x y z : E} {pos pos' p2 : Pos} {st rest : List Stmt} {s : S} {r r2 : Ss}
theorem ss_nil : PSs X [] (LSs X.K C F .nil) := weakSs pss_nil fun D σ H ⟨env, st, mp, er, sr, h⟩ => AftS.now (f := .nx) h er sr
theorem ss_cons {q : Stmt} (h1 : PS X q (LS X.K C F s)) (h2 : PSs X rest (LSs X.K C F r)) : PSs X (q :: rest) (LSs X.K C F (.cons s r)) :=
  weakSs (pss_cons h1 h2) fun D σ H ⟨env, st, mp, er, sr, h⟩ => ⟨env, st, mp, er, sr, AftS.then h⟩
/-! assignments -/
def isComp : Expr → Bool
  | .ListComp _ _ _ _ => true
  | .SetComp _ _ _ _ => true
  | .DictComp _ _ _ _ _ => true
  | _ => false
theorem sw_plain {e : Expr} (h : isComp e = false) (t : Option Expr) (l : Nat) (env : Env) : swapsWith e t l env = pure false := by
  cases e <;> first | rfl | cases h
def isNm : Expr → Bool
  | .Name _ _ => true
  | _ => false
theorem sw_target {t : Expr} (h : isNm t = false) (e : Expr) (l : Nat) (env : Env) : swapsWith e (some t) l env = pure false := by
  cases t <;> first | (cases h; done) | (cases e <;> rfl)
theorem sole_target {t : Expr} (h : isNm t = false) (e : Expr) (l : Nat) (env : Env) : swapsWithSole [t] e l env = pure false := sw_target h e l env
theorem ss_set {n : Str} {k : Nat} (nd : X.N.Nodup) (hi : X.N[k]? = some n) (hx : Loc X.env.scope n) (hf : X.fn n = true ∨ X.env.scope.names.lookup n = some .local) (ha : PE X a (LE X.K C x)) (hs : swapsWith a (some (.Name n p2)) pos.line X.env = pure false) :
    PS X (.Assign [.Name n p2] a pos) (LS X.K C F (.set k x)) :=
  weakS (ps_set nd hi hx ha hs hf) fun D σ H ⟨env, st, mp, er, sr, h⟩ => LE.from er sr h fun m1 H1 s1 v v' g1 sr1 er1 rv h1 => AftS.now (f := .nx) h1 (er1.set rv) sr1
theorem ss_setLc {n : Str} {k : Nat} {elt : Expr} {ifs : List Expr} {scope : Scope} {own : List (Str × Nat)} {cpos : Pos} {t : Tg} {it : MP.It} {oc : Oe} {e : E} (hc : X.calm = true) (nd : X.N.Nodup) (hk : X.N[k]? = some n) (hyl : X.env.scope.names.lookup n = some .local)
    (hsw : swapsWith (.ListComp elt [⟨tg, iter, ifs, 0⟩] scope cpos) (some (.Name n p2)) pos.line X.env = pure true) (hi : PI X tg iter (LI X.K C it)) (ok : BlkOk X.N X.env.scope scope own)
    (hg : ∀ (s : Shared) (H : Hp) (D : Addr) (cl : List (Str × Addr)) (fp : List Addr), PG (X.blk s H scope (compEnvC scope cl D X.env) fp) tg (LG X.K t))
    (ht : ∀ (s : Shared) (H : Hp) (D : Addr) (cl : List (Str × Addr)) (fp : List Addr), PTs (X.blk s H scope (compEnvC scope cl D X.env) fp) ifs (LTs X.K C oc))
    (he : ∀ (s : Shared) (H : Hp) (D : Addr) (cl : List (Str × Addr)) (fp : List Addr), PE (X.blk s H scope (compEnvC scope cl D X.env) fp) elt (LE X.K C e)) (hs : ∀ x, foldedSetIterable iter X.env x = pure x) (hix : ∀ i ∈ t.idx, i ∈ own.map (·.2)) :
    PS X (.Assign [.Name n p2] (.ListComp elt [⟨tg, iter, ifs, 0⟩] scope cpos) pos) (LS X.K C F (.set k (.lc t it oc e (own.map (·.2))))) :=
  weakS (ps_setLc hc nd hk hyl hsw hi ok hg ht he hs) fun D σ H ⟨env, st, mp, er, sr, h⟩ => lc_reads hix (LE.from er sr h fun m1 H1 s1 v v' g1 sr1 er1 rv h1 => AftS.now (f := .nx) h1 (er1.set rv) sr1)
theorem ss_setDc {n : Str} {k : Nat} {kx vx : Expr} {scope : Scope} {own : List (Str × Nat)} {cpos : Pos} {t : Tg} {it : MP.It} {ke ve : E} (hc : X.calm = true) (nd : X.N.Nodup) (hk : X.N[k]? = some n) (hyl : X.env.scope.names.lookup n = some .local)
    (hsw : swapsWith (.DictComp kx vx [⟨tg, iter, [], 0⟩] scope cpos) (some (.Name n p2)) pos.line X.env = pure true) (hi : PI X tg iter (LI X.K C it)) (ok : BlkOk X.N X.env.scope scope own)
    (hg : ∀ (s : Shared) (H : Hp) (D : Addr) (cl : List (Str × Addr)) (fp : List Addr), PG (X.blk s H scope (compEnvC scope cl D X.env) fp) tg (LG X.K t))
    (hk2 : ∀ (s : Shared) (H : Hp) (D : Addr) (cl : List (Str × Addr)) (fp : List Addr), PE (X.blk s H scope (compEnvC scope cl D X.env) fp) kx (LE X.K C ke))
    (he : ∀ (s : Shared) (H : Hp) (D : Addr) (cl : List (Str × Addr)) (fp : List Addr), PE (X.blk s H scope (compEnvC scope cl D X.env) fp) vx (LE X.K C ve)) (hs : ∀ x, foldedSetIterable iter X.env x = pure x) (hix : ∀ i ∈ t.idx, i ∈ own.map (·.2)) :
    PS X (.Assign [.Name n p2] (.DictComp kx vx [⟨tg, iter, [], 0⟩] scope cpos) pos) (LS X.K C F (.set k (.dc t it ke ve (own.map (·.2))))) :=
  weakS (ps_setDc hc nd hk hyl hsw hi ok hg (tt := fun _ H Q => Q true H) (fun s H D cl fp => ⟨fun pins s σ H Q I hw => pts_nil.run pins s σ H Q I hw⟩) hk2 he hs) fun D σ H ⟨env, st, mp, er, sr, h⟩ => dc_reads hix (LE.from er sr h fun m1 H1 s1 v v' g1 sr1 er1 rv h1 => AftS.now (f := .nx) h1 (er1.set rv) sr1)
def isTup : Expr → Bool
  | .Tuple _ _ _ => true
  | _ => false
theorem swst_plain {t e : Expr} (h : isTup e = false) (env : Env) : swappedStores [t] e env = pure none := by
  cases e <;> first | (cases h; done) | (cases t <;> rfl)
theorem ss_unp {es : List Expr} {ts : List Tg} {k : Nat} (hg : PG X (.Tuple es k p2) (LG X.K (.tp ts))) (ha : PE X a (LE X.K C x)) (hw : swappedStores [.Tuple es k p2] a X.env = pure none) : PS X (.Assign [.Tuple es k p2] a pos) (LS X.K C F (.unp ts x)) :=
  weakS (ps_asg ha hg (sole_target (t := .Tuple es k p2) rfl a _ _) hw) fun D σ H ⟨env, st, mp, er, sr, h⟩ => LE.from er sr h fun m1 H1 s1 v v' g1 sr1 er1 rv h1 =>
    ⟨env, s1, m1, .one v, rv, er1, sr1, (AftS.from h1).mono (fun m2 H2 s2 env2 g2 sr2 q σ2 er2 se2 => AftS.now (f := .nx) q er2 sr2) fun _ _ _ _ _ _ _ h => h⟩
theorem ss_setix (hu : X.A.units + 1 < cLine) (ho : PE X o (LE X.K C x)) (hi : PE X i (LE X.K C y)) (hv : PE X v (LE X.K C z)) (hs : noSlice i = true) : PS X (.Assign [.Subscript o i p2] v pos) (LS X.K C F (.setix x y z)) := by
  have ha : ∀ u, assign (.Subscript o i p2) X.env u = (do
      let ov ← holding [u] (eval o X.env)
      let iv ← holding [u, ov] (eval i X.env)
      standAt p2
      holding [u, ov, iv] (setItem ov iv u)
      release [u, ov, iv] []) := fun u => by
    cases i <;> first | rfl | cases hs
  refine weakS (ps_asg hv (pg_sub ho hi (setix_ok hu) ha) (sole_target (t := .Subscript o i p2) rfl v _ _) (by cases v <;> rfl)) fun D σ H ⟨env, st, mp, er, sr, h⟩ => ?_
  exact LE.from er sr h fun m1 H1 s1 v v' g1 sr1 er1 rv h1 => LE.from er1 sr1 h1 fun m2 H2 s2 u u' g2 sr2 er2 ru h2 => LE.from er2 sr2 h2 fun m3 H3 s3 w w' g3 sr3 er3 rw3 h3 =>
    ⟨m3, s3, u, w, v, ru.grow g3, rw3, (rv.grow g2).grow g3, sr3, NoX, (AftS.from h3).mono (fun m4 H4 s4 _ g4 sr4 q => AftS.now (f := .nx) q (er3.grow g4) sr4) fun _ _ _ _ _ _ _ h => h⟩
theorem ss_aug {n : Str} {k : Nat} {op : Op} {oo : Operator} (hop : PIp X oo (RB2 X.K (augM op))) (nd : X.N.Nodup) (hi : X.N[k]? = some n) (hx : Loc X.env.scope n) (hf : X.fn n = true ∨ X.env.scope.names.lookup n = some .local) (ha : PE X a (LE X.K C x)) :
    PS X (.AugAssign (.Name n p2) oo a pos) (LS X.K C F (.aug k op x)) :=
  weakS (ps_aug nd hi hx ha hop hf) fun D σ H ⟨env, st, mp, er, sr, h⟩ => by
    have h : AftS X.K mp H (match env[k]?.join with
      | some x' => RS.from (evalE C x env st) env fun y st => RS.from (augM op x' y st) env fun z st => .ok .nx (env.set k (some z)) st
      | none => .bad) D := h
    cases e : env[k]?.join with
    | none => rw [e] at h; exact False.elim h
    | some w =>
      rw [e] at h
      obtain ⟨w', h1, h2⟩ := er.at e
      refine ⟨w', h1, LE.from er sr h fun m1 H1 s1 v v' g1 sr1 er1 rv h1 => ⟨m1, s1, w, v, h2.grow g1, rv, sr1, NoX, (AftS.from h1).mono (fun m2 H2 s2 z g2 sr2 q z' rz => ?_) fun _ _ _ _ _ _ _ h => h⟩⟩
      exact AftS.now (f := .nx) q ((er1.grow g2).set rz) sr2
theorem ss_par2 {n1 n2 : Str} {i j : Nat} {px py pt pt2 : Pos} {kt k2 : Nat} (hc : X.calm = true) (nd : X.N.Nodup) (hi : X.N[i]? = some n1) (hj : X.N[j]? = some n2) (hij : i ≠ j) (hx : X.env.scope.names.lookup n1 = some .local) (hy : X.env.scope.names.lookup n2 = some .local)
    (ha : PE X a (LE X.K C x)) (hb : PE X b (LE X.K C y)) (hs : notStar a = true) (hs2 : notStar b = true) (hw : swappedStores [.Tuple [.Name n1 px, .Name n2 py] kt pt] (.Tuple [a, b] k2 pt2) X.env = pure (some [n1, n2])) :
    PS X (.Assign [.Tuple [.Name n1 px, .Name n2 py] kt pt] (.Tuple [a, b] k2 pt2) pos) (LS X.K C F (.par [i, j] (.cons x (.cons y .nil)))) :=
  weakS (ps_par hc nd hi hj hij hx hy (sn_cons ha (sn_cons hb sn_nil hs2) hs) hw) fun D σ H ⟨env, st, mp, er, sr, h⟩ => by
    refine ⟨env, st, mp, er, sr, (AftS.from h).mono (fun m1 H1 s1 vs g1 sr1 q zz rs => ?_) fun _ _ _ _ _ _ _ h => h⟩
    by_cases hl : vs.length = 2
    · match vs, hl, rs, q with
      | [v, w], _, rs, q =>
        obtain ⟨v', w', rfl, rv, rw1⟩ := rs.twoV
        have q : AftS X.K m1 H1 (.ok .nx ((env.set i (some v)).set j (some w)) s1) D := q
        exact ⟨v', w', rfl, AftS.now (f := .nx) q (((er.grow g1).set rv).set rw1) sr1⟩
    · have q : AftS X.K m1 H1 (if vs.length = 2 then .ok .nx (parSet env [i, j] vs) s1 else .bad) D := q
      rw [if_neg hl] at q
      exact False.elim q
theorem RVs.threeV {K : PySem.W.Frag} {mp : List Addr} {H : Hp} {a b c : Val} {vs : List V} (h : RVs K mp H [a, b, c] vs) : ∃ x y z, vs = [x, y, z] ∧ RV K mp H a x ∧ RV K mp H b y ∧ RV K mp H c z := by
  obtain ⟨x, xs, rfl, r, r2⟩ := h.consV
  obtain ⟨y, z, rfl, r3, r4⟩ := r2.twoV
  exact ⟨_, _, _, rfl, r, r3, r4⟩
theorem ss_par3 {n1 n2 n3 : Str} {i j l : Nat} {px py pz pt pt2 : Pos} {kt k2 : Nat} (hc : X.calm = true) (nd : X.N.Nodup) (hi : X.N[i]? = some n1) (hj : X.N[j]? = some n2) (hl : X.N[l]? = some n3) (hij : i ≠ j) (hil : i ≠ l) (hjl : j ≠ l) (hx : X.env.scope.names.lookup n1 = some .local) (hy : X.env.scope.names.lookup n2 = some .local)
    (hz : X.env.scope.names.lookup n3 = some .local) (ha : PE X a (LE X.K C x)) (hb : PE X b (LE X.K C y)) (hcc : PE X c (LE X.K C z)) (hs : notStar a = true) (hs2 : notStar b = true) (hs3 : notStar c = true)
    (hw : swappedStores [.Tuple [.Name n1 px, .Name n2 py, .Name n3 pz] kt pt] (.Tuple [a, b, c] k2 pt2) X.env = pure (some [n1, n2, n3])) :
    PS X (.Assign [.Tuple [.Name n1 px, .Name n2 py, .Name n3 pz] kt pt] (.Tuple [a, b, c] k2 pt2) pos) (LS X.K C F (.par [i, j, l] (.cons x (.cons y (.cons z .nil))))) :=
  weakS (ps_par3 hc nd hi hj hl hij hil hjl hx hy hz (sn_cons ha (sn_cons hb (sn_cons hcc sn_nil hs3) hs2) hs) hw) fun D σ H ⟨env, st, mp, er, sr, h⟩ => by
    refine ⟨env, st, mp, er, sr, (AftS.from h).mono (fun m1 H1 s1 vs g1 sr1 q zz rs => ?_) fun _ _ _ _ _ _ _ h => h⟩
    by_cases hlen : vs.length = 3
    · match vs, hlen, rs, q with
      | [v, w, t], _, rs, q =>
        obtain ⟨v', w', t', rfl, rv, rw1, rt⟩ := rs.threeV
        have q : AftS X.K m1 H1 (.ok .nx (((env.set i (some v)).set j (some w)).set l (some t)) s1) D := q
        exact ⟨v', w', t', rfl, AftS.now (f := .nx) q ((((er.grow g1).set rv).set rw1).set rt) sr1⟩
    · have q : AftS X.K m1 H1 (if vs.length = 3 then .ok .nx (parSet env [i, j, l] vs) s1 else .bad) D := q
      rw [if_neg hlen] at q
      exact False.elim q
/-! others -/
theorem ss_ex (ha : PE X a (LE X.K C x)) (hs : isComp a = false) : PS X (.Expr a pos) (LS X.K C F (.ex x)) :=
  weakS (ps_expr ha (sw_plain hs _ _ _)) fun D σ H ⟨env, st, mp, er, sr, h⟩ => LE.from er sr h fun m1 H1 s1 v v' g1 sr1 er1 rv h1 => AftS.now (f := .nx) h1 er1 sr1
theorem ss_doc {n : Str} {j} : PS X (.Expr (.Constant (.str n) j pos') pos) (LS X.K C F .pass) := weakS ps_doc fun D σ H ⟨env, st, mp, er, sr, h⟩ => AftS.now (f := .nx) h er sr
theorem ss_pass : PS X (.Pass pos) (LS X.K C F .pass) := weakS ps_pass fun D σ H ⟨env, st, mp, er, sr, h⟩ => AftS.now (f := .nx) h er sr
theorem ss_ret (ha : PE X a (LE X.K C x)) : PS X (.Return (some a) pos) (LS X.K C F (.ret x)) :=
  weakS (ps_ret ha) fun D σ H ⟨env, st, mp, er, sr, h⟩ => LE.from er sr h fun m1 H1 s1 v v' g1 sr1 er1 rv h1 => AftS.now (f := .rt v) h1 er1 sr1 v' rv
theorem ss_ret0 : PS X (.Return none pos) (LS X.K C F .ret0) := weakS ps_retN fun D σ H ⟨env, st, mp, er, sr, h⟩ => AftS.now (f := .rt .none) h er sr _ .none
theorem ss_if (hc : PT X c (LB X.K C x)) (ha : PSs X st (LSs X.K C F r)) (hb : PSs X rest (LSs X.K C F r2)) : PS X (.If c st rest pos) (LS X.K C F (.ifs x r r2)) :=
  weakS (ps_if hc ha hb) fun D σ H ⟨env, st, mp, er, sr, h⟩ => LB.from er sr h (fun v s hv => by cases v <;> first | rfl | exact absurd rfl (hv _)) fun m1 H1 s1 b g1 sr1 er1 h1 => by
    cases b with
    | true => exact ⟨env, s1, m1, er1, sr1, h1⟩
    | false => exact ⟨env, s1, m1, er1, sr1, h1⟩
theorem ss_while (hp : PassesOwn (model X.prog X.w) X.A X.env X.xe) (hc : PT X c (LB X.K C x)) (hb : PSs X st (LSs X.K C F r)) : PS X (.While c st [] pos) (LS X.K C F (.whl x r)) :=
  weakS (ps_while hp hc hb) fun D σ H ⟨env, st, mp, er, sr, h⟩ => by
    refine ⟨fun m σ H => ∃ env st mp, ER X.K mp H env σ ∧ SR X.K mp H st ∧ AftS X.K mp H (whlGo (fun env => evalE C x env) (fun env st => execs C F r env st) m env st) D, ⟨F, env, st, mp, er, sr, h⟩, ?_⟩
    rintro m σ H ⟨env, st, mp, er, sr, h⟩
    cases m with
    | zero => exact False.elim h
    | succ m =>
      refine LB.from er sr h (fun v s hv => by cases v <;> first | rfl | exact absurd rfl (hv _)) fun m1 H1 s1 b g1 sr1 er1 h1 => ?_
      cases b with
      | true =>
        rw [if_pos rfl]
        refine ⟨Nxt X.K m1 H1 (whlGo (fun env => evalE C x env) (fun env st => execs C F r env st) m) D, fun σ' H' ⟨env, st, mp, g, er, sr, h⟩ => ⟨m, Nat.lt_succ_self m, env, st, mp, er, sr, h⟩, env, s1, m1, er1, sr1, AftS.turn .refl h1⟩
      | false =>
        rw [if_neg (by decide)]
        exact AftS.now (f := .nx) h1 er1 sr1
theorem ss_for {t : Tg} {it : MP.It} (hp : PassesOwn (model X.prog X.w) X.A X.env X.xe) (hc : X.calm = true) (hi : PI X tg iter (LI X.K C it)) (hg : PG X tg (LG X.K t)) (hb : PSs X st (LSs X.K C F r)) (hs : ∀ x, foldedSetIterable iter X.env x = pure x) :
    PS X (.For tg iter st [] pos) (LS X.K C F (.loop t it r)) :=
  weakS (ps_for hp hc hi hg hb hs) fun D σ H ⟨env, st, mp, er, sr, h⟩ => by
    refine ⟨env, st, mp, er, sr, (AftS.from h).mono (fun m1 H1 s1 src g1 sr1 h1 J Fd => ?_) fun _ _ _ _ _ _ _ h => h⟩
    refine ⟨fun i m σ H => ∃ env st mp, Grow m1 H1 mp H ∧ ER X.K mp H env σ ∧ SR X.K mp H st ∧ i ≤ src.items.length ∧ m = src.items.length - i ∧ AftS X.K mp H (forGo src.chk (fun v env st => RS.from (bindI t v env st) env fun env' st => execs C F r env' st) (src.items.drop i) env st) D,
      ⟨src.items.length, env, s1, m1, .refl, er.grow g1, sr1, Nat.zero_le _, rfl, h1⟩, ?_⟩
    rintro i m σ H2 ⟨env, st, mp, g2, er2, sr2, hi, rfl, a2⟩
    by_cases hlt : i < src.items.length
    · rw [List.drop_eq_getElem_cons hlt] at a2
      obtain ⟨ck, a2⟩ := chkM_inv (AftS.from a2)
      have a2 := a2 mp H2 .refl sr2
      obtain ⟨-, go⟩ := Fd mp H2 st g2 sr2 ck i
      obtain ⟨hgo, hy⟩ := go src.items[i] (List.getElem?_eq_getElem hlt)
      refine .inr ⟨hgo, Nxt X.K m1 H1 (forGo src.chk (fun v env st => RS.from (bindI t v env st) env fun env' st => execs C F r env' st) (src.items.drop (i + 1))) D, ?_, ?_⟩
      · rintro σ' H' ⟨env, st, mp, g, er, sr, h⟩
        exact ⟨_, (by omega : src.items.length - (i + 1) < src.items.length - i), env, st, mp, g, er, sr, hlt, rfl, h⟩
      · intro x H3 hy3
        obtain ⟨g3, sr3, ir⟩ := hy x H3 hy3
        have a3 := AftS.turn (g2.trans g3) (AftS.grow g3 a2)
        refine ⟨env, st, mp, src.items[i], ir, er2.grow g3, sr3, (AftS.from a3).mono (fun m4 H4 s4 env4 g4 sr4 q σ4 er4 se4 => ⟨env4, s4, m4, er4, sr4, q⟩) fun _ _ _ _ _ _ _ h => h⟩
    · have e0 : i = src.items.length := by omega
      subst e0
      rw [List.drop_length] at a2
      obtain ⟨ck, a2⟩ := chkM_inv (AftS.from a2)
      obtain ⟨stop, -⟩ := Fd mp H2 st g2 sr2 ck src.items.length
      exact .inl ⟨stop (Nat.le_refl _), AftS.now (f := .nx) (a2 mp H2 .refl sr2) er2 sr2⟩
end
end MP
set_option Elab.async false
set_option linter.all false
set_option maxRecDepth 100000
/-! Functions. -/
namespace MP
open PySem PySem.Spec PyProof.Rows L2

/-- what a def promises, where no guard of a printed value stands -/
structure FnG (P : Program) (w : World) (K : PySem.W.Frag) (mg : Str → Option Value) (base : Heap) (k : Nat) (f : Addr) (fd : FuncData) (ps : List Str) (sp : Sp) : Prop where
  len : ∀ vs H Q E, sp vs H Q E → vs.length = ps.length
  run : ∀ (A : Around) (outer : List Env) (s : Shared) (H : Hp) (args : Args) (us : List Value) (vs : List V) (Q : VK) (E : XK), Room k A → A.guards = some [] → Env0 P w K mg base A outer s H → BindsTo s fd args (ps.zip us) → Vals vs us → sp vs H Q E →
    codeAny (model P w) A (.call (.ref f) args) (CR (L2.CX P w) outer P w H s Q E) s
theorem fnG_of {P : Program} {w : World} {K : PySem.W.Frag} {mg : Str → Option Value} {base : Heap} {x qual : Str} {params : Arguments} {body : List Stmt} {scope : Scope} {dvs : List V} {kws : List (Str × V)} {f : Addr} {fd : FuncData} {k : Nat} {N ps : List Str} {sp : Sp}
    (Fd : FunD K x qual params body scope dvs kws f fd) (S : FnScope N ps scope) (len : ∀ vs H Q E, sp vs H Q E → vs.length = ps.length)
    (hbody : ∀ (cdv : Value) (A : Around) (outer : List Env) (s : Shared) (H : Hp) (vs : List V) (Q : VK) (E : XK), Room k (A.deeper (envOfC qual scope s.heap.objs.size f cdv)) → A.guards = some [] → sp vs H Q E →
      ∃ t, PSs (cxOf (L2.CX P w) P w K mg base N qual scope f cdv A outer s H E) body t ∧ t { nx := fun _ H' => Q .non H', rt := Q } (start N vs) H) : FnG P w K mg base (k + 1) f fd ps sp := by
  obtain ⟨oc, od, dV, kV, doc, pm, an, cdv, ct, osl, rfl, lk, hcd, _, _⟩ := Fd.ex
  refine ⟨len, fun A outer s H args us vs Q E hr hg e0 hb r hsp => ?_⟩
  have hl := len _ _ _ _ hsp
  have KX : K.In s.heap := e0.mod.kin.keeps fun b o e => (e0.bs b o e).1
  have lim : s.heap.NoLimit := e0.mod.nolimit.keeps fun b o e => (e0.bs b o e).1
  have hkind : ∀ y ∈ ps.zip us, scope.names.lookup y.1 = some .local ∨ (scope.names.lookup y.1 = some .cell ∧ ((cellsFrom (s.heap.objs.size + 1) scope.names []).lookup y.1).isSome = true) := fun ⟨n, v⟩ hy => by
    rcases S.par n (List.of_mem_zip hy).1 with q | q
    · exact .inl q
    · exact .inr ⟨q, PySem.W.cellsFrom_some _ _ _ (.inl q)⟩
  refine codeAny_call_function hr.depth (KX _ _ lk) rfl S.co S.gen rfl (PySem.W.codeRec_of KX hcd) (hb _ _ _ _ ?_)
  refine wpAny_newFunctionEnv_cells S.kind hkind fun env he s1 x => ?_
  subst he
  refine ⟨lim.keeps x.toInCall.keep, codeAny_func ?_⟩
  obtain ⟨t, ht, hq⟩ := hbody cdv A outer s H vs Q E (hr.deeper _) hg hsp
  have I : Inv (cxOf (L2.CX P w) P w K mg base N qual scope f cdv A outer s H E) [] (start N vs) H s1 := inv_start S hr.hd e0 hl r x
  refine wpAny_mono (ht.run [] s1 (start N vs) H _ I hq) (fun fl s' hs => ?_) fun e s' hs => hs
  have fin : ∀ {σ' : L2.St} {H' : Hp} {v : V} {u : Value}, Inv (cxOf (L2.CX P w) P w K mg base N qual scope f cdv A outer s H E) [] σ' H' s' → RelV v u → Q v H' → CE outer P w H s Q u s' :=
    fun {σ' H' v u} J rv q => ⟨v, H', J.os, J.bare, J.base, J.hok, rv, q⟩
  cases fl with
  | ret u =>
    obtain ⟨v, σ', H', J, rv, q⟩ := hs
    exact fin J rv q
  | next =>
    obtain ⟨σ', H', J, q⟩ := hs
    exact fin (v := V.non) (u := Value.none) J rfl q
  | brk =>
    obtain ⟨_, _, _, q⟩ := hs
    exact False.elim q
  | cont =>
    obtain ⟨_, _, _, q⟩ := hs
    exact False.elim q
/-- what the small language's function says -/
def spC (hd : Hd) (K : PySem.W.Frag) (f : Str) (n : Nat) : Sp := fun vs H Q _ => ∃ mp st as, RVs K mp H as vs ∧ SR K mp H st ∧ Aft K mp H (hd f as st) (OkV K Q) NoX ∧ vs.length = n
section
variable {X : Cx} {k n : Nat} {f : Addr} {fd : FuncData} {ps ks : List Str} {sp : Sp} {x : Str} {p pos : Pos} {e : Expr} {es : List Expr} {kws : List Keyword} {t tk : TA} {g : List Value → List Value → List Value} {gV : List V → List V → List V}
abbrev NoE : XK := fun _ _ _ => False
theorem noE_passes {outer : List Env} {H : Hp} {s : Shared} {e : Value} {s' : Shared} (h : L2.CX X.prog X.w outer H s NoE e s') : False := by
  obtain ⟨_, _, _, _, _, _, _, _, _, _, _, _, h⟩ := h
  exact h
theorem run_fnG {pins : List (Addr × Obj)} {σ : L2.St} {H : Hp} {s : Shared} {Q : VK} {args : Args} {us : List Value} {vs : List V} (F : FnG X.prog X.w X.K X.mg X.base k f fd ps sp) (hr : Room k X.A) (hg : X.A.guards = some []) (I : Inv X pins σ H s) (hb : BindsTo s fd args (ps.zip us)) (r : Vals vs us) (h : sp vs H Q NoE) :
    wpAny (model X.prog X.w) X.A (call (.ref f) args.pos args.kw) (EP X pins σ Q) X.xe s := by
  refine wpAny_call (codeAny_mono (F.run X.A X.stack s H args us vs Q NoE hr hg I.env0 hb r h) fun r s' hq => ?_)
  cases r with
  | error e => exact False.elim (noE_passes hq)
  | ok fl =>
    cases fl with
    | ret u => exact I.after hq
    | next => exact False.elim hq
    | brk => exact False.elim hq
    | cont => exact False.elim hq
theorem pe_callG (F : FnG X.prog X.w X.K X.mg X.base k f fd ps sp) (hr : Room k X.A) (hgd : X.A.guards = some []) (hg : Gl X x) (hm : X.mg x = some (.ref f)) (hk : PySem.W.keepIn X.K (.ref f) = true) (hb : Binds X.K fd ps [])
    (ha : PA X (e :: es) t) (hdb : (x == ("__debug__" : Str)) = false) (he : starEach (e :: es) X.env = (false, eval e X.env) :: starEach es X.env) (hpl : (backTo pos (starEach es X.env)).any (·.1) = false) :
    PE X (.Call (.Name x p) (e :: es) [] pos) (fun σ H Q => t σ H fun vs H1 => sp vs H1 Q NoE) := by
  refine ⟨fun pins s σ H Q I h => ?_⟩
  refine wpAny_Call_Name_kw (ld_glob I hg hm ?_ hdb)
  refine PySem.W.callWith_K (h₀ := X.base) I.ok.mod.kin hk (thn (ha.run pos pins s σ H _ I h) fun us s1 ⟨vs, H1, I1, r, q⟩ => ⟨I1.kIn, ?_⟩) he hpl
  have hl : us.length = ps.length := by rw [← r.length]; exact F.len _ _ _ _ q
  have b := hb s1 us I1.kIn (by rw [List.append_nil]; exact hl)
  rw [List.append_nil] at b
  exact run_fnG (args := ⟨us, []⟩) F hr hgd I1 b r q
theorem pe_callG0 (F : FnG X.prog X.w X.K X.mg X.base k f fd ps sp) (hr : Room k X.A) (hgd : X.A.guards = some []) (hg : Gl X x) (hm : X.mg x = some (.ref f)) (hk : PySem.W.keepIn X.K (.ref f) = true) (hb : Binds X.K fd ps [])
    (hdb : (x == ("__debug__" : Str)) = false) : PE X (.Call (.Name x p) [] [] pos) (fun σ H Q => sp [] H Q NoE) := by
  refine ⟨fun pins s σ H Q I h => ?_⟩
  refine wpAny_Call_Name_kw (ld_glob I hg hm ?_ hdb)
  have hl : ([] : List Value).length = ps.length := F.len _ _ _ _ h
  have b := hb s [] I.kIn (by rw [List.append_nil]; exact hl)
  rw [List.append_nil] at b
  exact PySem.W.callWith_K0 I.kIn hk (run_fnG (args := ⟨[], []⟩) F hr hgd I b .nil h)
/-- f(k = v, ..) -/
theorem pe_callGK0 (F : FnG X.prog X.w X.K X.mg X.base k f fd ps sp) (hr : Room k X.A) (hgd : X.A.guards = some []) (hg : Gl X x) (hm : X.mg x = some (.ref f)) (hk : PySem.W.keepIn X.K (.ref f) = true) (hb : KBn X.K fd ps 0 ks g gV)
    (hkw : PK X kws tk) (hall : (backToKw pos (keywordEach kws X.env)).all (·.1.isSome) = true) (hks : (backToKw pos (keywordEach kws X.env)).filterMap (·.1) = ks) (hpl : ((backTo pos (starEach [] X.env)).any (·.1) || (backToKw pos (keywordEach kws X.env)).any (·.1.isNone)) = false) (hdb : (x == ("__debug__" : Str)) = false) :
    PE X (.Call (.Name x p) [] kws pos) (fun σ H Q => tk σ H fun zs H2 => zs.length = ks.length ∧ sp (gV [] zs) H2 Q NoE) := by
  refine ⟨fun pins s σ H Q I h => ?_⟩
  refine wpAny_Call_Name_kw (ld_glob I hg hm ?_ hdb)
  refine PySem.W.callWith_KW0 (h₀ := X.base) I.ok.mod.kin hk hall (thn (hkw.run pos pins s σ H _ I h) fun ws s2 ⟨zs, H2, I2, rz, l2, q2⟩ => ⟨I2.kIn, ?_⟩) hpl
  rw [hks]
  exact run_fnG (args := ⟨[], ks.zip ws⟩) F hr hgd I2 (hb.to s2 [] ws I2.kIn rfl (by rw [← rz.length]; exact l2)) (hb.rel .nil rz) q2
/-- f(e, .., k = v, ..) -/
theorem pe_callGK (F : FnG X.prog X.w X.K X.mg X.base k f fd ps sp) (hr : Room k X.A) (hgd : X.A.guards = some []) (hg : Gl X x) (hm : X.mg x = some (.ref f)) (hk : PySem.W.keepIn X.K (.ref f) = true) (hb : KBn X.K fd ps n ks g gV)
    (ha : PA X (e :: es) t) (hkw : PK X kws tk) (hall : (backToKw pos (keywordEach kws X.env)).all (·.1.isSome) = true) (hks : (backToKw pos (keywordEach kws X.env)).filterMap (·.1) = ks) (hdb : (x == ("__debug__" : Str)) = false) (he : starEach (e :: es) X.env = (false, eval e X.env) :: starEach es X.env)
    (hpl : ((backTo pos (starEach (e :: es) X.env)).any (·.1) || (backToKw pos (keywordEach kws X.env)).any (·.1.isNone)) = false) :
    PE X (.Call (.Name x p) (e :: es) kws pos) (fun σ H Q => t σ H fun vs H1 => tk σ H1 fun zs H2 => vs.length = n ∧ zs.length = ks.length ∧ sp (gV vs zs) H2 Q NoE) := by
  refine ⟨fun pins s σ H Q I h => ?_⟩
  refine wpAny_Call_Name_kw (ld_glob I hg hm ?_ hdb)
  refine PySem.W.callWith_KW (h₀ := X.base) I.ok.mod.kin hk hall (thn (ha.run pos pins s σ H _ I h) fun us s1 ⟨vs, H1, I1, r, q⟩ => ?_) hpl he
  refine thn (hkw.run pos pins s1 σ H1 _ I1 q) fun ws s2 ⟨zs, H2, I2, rz, l1, l2, q2⟩ => ⟨I2.kIn, ?_⟩
  rw [hks]
  exact run_fnG (args := ⟨us, ks.zip ws⟩) F hr hgd I2 (hb.to s2 us ws I2.kIn (by rw [← r.length]; exact l1) (by rw [← rz.length]; exact l2)) (hb.rel r rz) q2
end
/-! ### calls, read -/
section
variable {X : Cx} {C : Cfg} {k n m : Nat} {f : Addr} {fd : FuncData} {ps ks : List Str} {x : Str} {p pos : Pos} {a e : Expr} {es : List Expr} {kws : List Keyword} {xs ys : Es} {sel : List Nat} {y : E}
theorem sn_call (F : FnG X.prog X.w X.K X.mg X.base k f fd ps (spC C.call X.K x m)) (hr : Room k X.A) (hgd : X.A.guards = some []) (hg : Gl X x) (hm : X.mg x = some (.ref f)) (hk : PySem.W.keepIn X.K (.ref f) = true) (hb : Binds X.K fd ps [])
    (ha : PA X (a :: es) (LEs X.K C xs)) (hdb : (x == ("__debug__" : Str)) = false) (hs : notStar a = true) (hs2 : es.all notStar = true) (hn : xs.len = m) : PE X (.Call (.Name x p) (a :: es) [] pos) (LE X.K C (.call x xs)) :=
  weakE (pe_callG F hr hgd hg hm hk hb ha hdb (star_plain hs es X.env) (noStars hs2 X.env pos)) fun σ H Q ⟨env, st, mp, er, sr, h⟩ => LEs.bind er sr h fun m1 H1 s1 v v' g1 sr1 er1 rv h1 => by
    obtain ⟨z, h1⟩ := need_inv h1
    have z : v.length = xs.len := of_decide_eq_true z
    exact ⟨m1, s1, v, rv, sr1, h1, by rw [← rv.length, z, hn]⟩
theorem sn_call0 (F : FnG X.prog X.w X.K X.mg X.base k f fd ps (spC C.call X.K x 0)) (hr : Room k X.A) (hgd : X.A.guards = some []) (hg : Gl X x) (hm : X.mg x = some (.ref f)) (hk : PySem.W.keepIn X.K (.ref f) = true) (hb : Binds X.K fd ps [])
    (hdb : (x == ("__debug__" : Str)) = false) : PE X (.Call (.Name x p) [] [] pos) (LE X.K C (.call x .nil)) :=
  weakE (pe_callG0 F hr hgd hg hm hk hb hdb) fun σ H Q ⟨env, st, mp, er, sr, h⟩ => ⟨mp, st, [], .nil, sr, (need_inv (b := decide (([] : List Val).length = Es.nil.len)) (m := C.call x []) h).2, rfl⟩
theorem pick_rel {K : PySem.W.Frag} {mp : List Addr} {H : Hp} {xs : List Val} {vs : List V} (r : RVs K mp H xs vs) : ∀ sel : List Nat, RVs K mp H (pickL xs sel) (pickL vs sel)
  | [] => .nil
  | i :: sel => by
    unfold pickL
    rw [List.filterMap_cons, List.filterMap_cons]
    cases e : xs[i]? with
    | none =>
      have : vs[i]? = none := by
        rw [List.getElem?_eq_none_iff] at e ⊢
        rw [← r.length]; exact e
      rw [this]
      exact pick_rel r sel
    | some x =>
      obtain ⟨v, hv, rv⟩ := r.get e
      rw [hv]
      exact .cons rv (pick_rel r sel)
/-- all keywords are written with a name -/
def kwNames : List Keyword → Option (List Str)
  | [] => some []
  | ⟨some n, _, _⟩ :: r => (kwNames r).map (n :: ·)
  | ⟨none, _, _⟩ :: _ => none
theorem kw_facts : ∀ {kws : List Keyword} {ks : List Str} {env : Env} {pos : Pos}, kwNames kws = some ks → (backToKw pos (keywordEach kws env)).all (·.1.isSome) = true ∧ (backToKw pos (keywordEach kws env)).filterMap (·.1) = ks ∧ (backToKw pos (keywordEach kws env)).any (·.1.isNone) = false
  | [], _, _, _, h => by cases h; exact ⟨rfl, rfl, rfl⟩
  | ⟨some n, e, p⟩ :: r, ks, env, pos, h => by
    unfold kwNames at h
    cases e1 : kwNames r with
    | none => rw [e1] at h; cases h
    | some ks' =>
      rw [e1] at h; cases h
      obtain ⟨h1, h2, h3⟩ := kw_facts (env := env) (pos := pos) e1
      refine ⟨?_, ?_, ?_⟩
      · show (true && (backToKw pos (keywordEach r env)).all (·.1.isSome)) = true
        rw [h1]; rfl
      · show n :: (backToKw pos (keywordEach r env)).filterMap (·.1) = _
        rw [h2]
      · show (false || (backToKw pos (keywordEach r env)).any (·.1.isNone)) = false
        rw [h3]; rfl
  | ⟨none, _, _⟩ :: _, _, _, _, h => by cases h
theorem sk_nil : PK X [] (LEs X.K C .nil) := ⟨fun pos pins s σ H Q I ⟨env, st, mp, er, sr, h⟩ => pk_nil.run pos pins s σ H Q I (h mp H .refl sr _ .nil)⟩
theorem sk_cons {nm : Option Str} {kpos : Pos} (ha : PE X a (LE X.K C y)) (hr : PK X kws (LEs X.K C xs)) : PK X (⟨nm, a, kpos⟩ :: kws) (LEs X.K C (.cons y xs)) :=
  ⟨fun pos pins s σ H Q I ⟨env, st, mp, er, sr, h⟩ => (pk_cons ha hr).run pos pins s σ H Q I (LE.bind er sr h fun m1 H1 s1 v v' g1 sr1 er1 rv h1 =>
    LEs.bind er1 sr1 h1 fun m2 H2 s2 u u' g2 sr2 er2 ru h2 => h2 m2 H2 .refl sr2 _ (.cons (rv.grow g2) ru))⟩
theorem sn_callk (F : FnG X.prog X.w X.K X.mg X.base k f fd ps (spC C.call X.K x m)) (hr : Room k X.A) (hgd : X.A.guards = some []) (hg : Gl X x) (hm : X.mg x = some (.ref f)) (hk : PySem.W.keepIn X.K (.ref f) = true)
    (hb : KBn X.K fd ps n ks (fun us ws => pickL (us ++ ws) sel) (fun vs zs => pickL (vs ++ zs) sel)) (ha : PA X (a :: es) (LEs X.K C xs)) (hkw : PK X kws (LEs X.K C ys)) (hks : kwNames kws = some ks) (hdb : (x == ("__debug__" : Str)) = false) (hs : notStar a = true) (hs2 : es.all notStar = true)
    (h1 : xs.len = n) (h2 : ys.len = ks.length) (h3 : sel.length = m) (h4 : ∀ i ∈ sel, i < n + ks.length) : PE X (.Call (.Name x p) (a :: es) kws pos) (LE X.K C (.callk x xs ys sel)) := by
  obtain ⟨k1, k2, k3⟩ := kw_facts (env := X.env) (pos := pos) hks
  refine weakE (pe_callGK F hr hgd hg hm hk hb ha hkw k1 k2 hdb (star_plain hs es X.env) (by rw [k3, Bool.or_false]; exact noStars (es := a :: es) (by rw [List.all_cons, hs, hs2]; rfl) X.env pos)) fun σ H Q ⟨env, st, mp, er, sr, h⟩ => ?_
  exact LEs.bind er sr h fun m1 H1 s1 v v' g1 sr1 er1 rv h1' => LEs.bind er1 sr1 h1' fun m2 H2 s2 u u' g2 sr2 er2 ru h2' => by
    obtain ⟨z, h2'⟩ := need_inv h2'
    have z : v.length = xs.len ∧ u.length = ys.len := of_decide_eq_true z
    have rall := (RVs.grow g2 _ _ rv).append ru
    have l1 := rv.length
    have l2 := ru.length
    refine ⟨by omega, by omega, m2, s2, pickL (v ++ u) sel, pick_rel rall sel, sr2, h2', ?_⟩
    rw [← (pick_rel rall sel).length, pick_len, h3]
    intro i hi
    have := h4 i hi
    rw [List.length_append]; omega
where
  pick_len {α : Type} {l : List α} : ∀ {sel : List Nat}, (∀ i ∈ sel, i < l.length) → (pickL l sel).length = sel.length
  | [], _ => rfl
  | i :: sel, h => by
    unfold pickL
    rw [List.filterMap_cons, List.getElem?_eq_getElem (h i List.mem_cons_self)]
    show (pickL l sel).length + 1 = sel.length + 1
    rw [pick_len fun j hj => h j (List.mem_cons_of_mem _ hj)]
theorem sn_callk0 (F : FnG X.prog X.w X.K X.mg X.base k f fd ps (spC C.call X.K x m)) (hr : Room k X.A) (hgd : X.A.guards = some []) (hg : Gl X x) (hm : X.mg x = some (.ref f)) (hk : PySem.W.keepIn X.K (.ref f) = true)
    (hb : KBn X.K fd ps 0 ks (fun us ws => pickL (us ++ ws) sel) (fun vs zs => pickL (vs ++ zs) sel)) (hkw : PK X kws (LEs X.K C ys)) (hks : kwNames kws = some ks) (hdb : (x == ("__debug__" : Str)) = false)
    (h2 : ys.len = ks.length) (h3 : sel.length = m) (h4 : ∀ i ∈ sel, i < ks.length) : PE X (.Call (.Name x p) [] kws pos) (LE X.K C (.callk x .nil ys sel)) := by
  obtain ⟨k1, k2, k3⟩ := kw_facts (env := X.env) (pos := pos) hks
  refine weakE (pe_callGK0 F hr hgd hg hm hk hb hkw k1 k2 (by rw [k3, Bool.or_false]; rfl) hdb) fun σ H Q ⟨env, st, mp, er, sr, h⟩ => ?_
  exact LEs.bind er sr h fun m2 H2 s2 u u' g2 sr2 er2 ru h2' => by
    obtain ⟨z, h2'⟩ := need_inv h2'
    have z : ([] : List Val).length = Es.nil.len ∧ u.length = ys.len := of_decide_eq_true z
    have l2 := ru.length
    refine ⟨by omega, m2, s2, pickL u sel, pick_rel ru sel, sr2, h2', ?_⟩
    show (pickL ([] ++ u') sel).length = m
    rw [List.nil_append, ← (pick_rel ru sel).length, sn_callk.pick_len, h3]
    intro i hi
    have := h4 i hi
    omega
/-- the body's proof makes the function's -/
theorem fnG_body {P : Program} {w : World} {K : PySem.W.Frag} {mg : Str → Option Value} {base : Heap} {x qual : Str} {params : Arguments} {body : List Stmt} {scope : Scope} {dvs : List V} {kws : List (Str × V)} {f : Addr} {fd : FuncData} {k d : Nat} {N ps : List Str} {Pg : Prog} {Fu : Nat} {fn : Fn}
    (Fd : FunD K x qual params body scope dvs kws f fd) (S : FnScope N ps scope) (hl : Pg.fns.lookup x = some fn) (h1 : fn.np = ps.length) (h2 : fn.ns = N.length)
    (hbody : ∀ (cdv : Value) (A : Around) (outer : List Env) (s : Shared) (H : Hp) (E : XK), Room k (A.deeper (envOfC qual scope s.heap.objs.size f cdv)) → A.guards = some [] →
      PSs (cxOf (L2.CX P w) P w K mg base N qual scope f cdv A outer s H E) body (LSs K ⟨callN Pg Fu d, Pg.glob⟩ Fu fn.body)) : FnG P w K mg base (k + 1) f fd ps (spC (callN Pg Fu (d + 1)) K x ps.length) := by
  refine fnG_of Fd S (fun vs H Q E ⟨_, _, _, _, _, _, h⟩ => h) fun cdv A outer s H vs Q E hr hg ⟨mp, st, as, ra, sr, h, hlen⟩ => ⟨_, hbody cdv A outer s H E hr hg, ?_⟩
  have h : Aft K mp H ((match Pg.fns.lookup x with
    | some fd => runFn ⟨callN Pg Fu d, Pg.glob⟩ Fu fd as
    | none => bad) st) (OkV K Q) NoX := h
  rw [hl] at h
  have hla : as.length = fn.np := by rw [ra.length, hlen, h1]
  have h : Aft K mp H (if as.length = fn.np then match execs ⟨callN Pg Fu d, Pg.glob⟩ Fu fn.body (as.map some ++ List.replicate (fn.ns - fn.np) none) st with
    | .ok .nx _ st' => .ok .none st'
    | .ok (.rt v) _ st' => .ok v st'
    | .ok _ _ _ => .bad
    | .exc C v _ st' => .exc C v st'
    | .bad => .bad
  else .bad) (OkV K Q) NoX := h
  rw [if_pos hla] at h
  refine ⟨as.map some ++ List.replicate (fn.ns - fn.np) none, st, mp, ⟨?_, fun i v e => ?_⟩, sr, ?_⟩
  · unfold L2.start
    rw [List.length_append, List.length_append, List.length_map, List.length_map, List.length_replicate, List.length_replicate, ra.length, h2, ← h1.symm, hlen]
  · by_cases hi : i < as.length
    · rw [List.getElem?_append_left (by simpa using hi), List.getElem?_map] at e
      cases e2 : as[i]? with
      | none => rw [e2] at e; cases e
      | some w =>
        rw [e2] at e
        cases e
        obtain ⟨x', hx, rx⟩ := ra.get e2
        refine ⟨x', ?_, rx⟩
        unfold L2.start
        rw [List.getElem?_append_left (by rw [List.length_map, ← ra.length]; exact hi), List.getElem?_map, hx]; rfl
    · rw [List.getElem?_append_right (by simpa using hi), List.getElem?_replicate] at e
      split at e <;> cases e
  · unfold AftS
    cases e : execs ⟨callN Pg Fu d, Pg.glob⟩ Fu fn.body (as.map some ++ List.replicate (fn.ns - fn.np) none) st with
    | bad => rw [e] at h; exact h
    | exc _ _ _ st' => rw [e] at h; exact h
    | ok fl env' st' =>
      rw [e] at h
      cases fl with
      | nx => exact fun mp' H' g s' σ' er => h mp' H' g s' _ .none
      | rt v => exact fun mp' H' g s' σ' er => fun x r => h mp' H' g s' x r
      | br => exact False.elim h
      | ct => exact False.elim h
end
end MP
set_option Elab.async false
set_option linter.all false
set_option maxRecDepth 100000
/-! The checker: the program's text is the small language's. -/
namespace MP
open PySem PySem.Spec PyProof.Rows L2

structure FnSig where
  name : Str
  np : Nat
  kws : List (Nat × List Str × List Nat)
structure Tab where
  fns : List FnSig
  blts : List Str
  ci : List (Str × Int)
  cs : List (Str × Str)
structure Cv where
  N : List Str
  sc : Scope
  own : Option Scope
def Cv.vis (c : Cv) (n : Str) : Bool := match c.sc.names.lookup n with
  | some .local => true
  | some .cell => true
  | some .free => true
  | _ => false
def Cv.gl (c : Cv) (n : Str) : Bool := decide (c.sc.names.lookup n = some .globalImplicit)
def Cv.loc (c : Cv) (n : Str) : Bool := decide (c.sc.names.lookup n = some .local)
/-- the name may be stored into -/
def Cv.sto (c : Cv) (n : Str) : Bool := decide (c.sc.names.lookup n = some .local) || (decide (c.sc.names.lookup n = some .cell) && (match c.own with
  | none => true
  | some s => s.names.lookup n == some .cell))
def dbg (n : Str) : Bool := (n == ("__debug__" : Str)) || (n == ("__classdict__" : Str)) || decide (n = ("__name__" : Str))
structure At (T : Tab) (C : Cfg) (k : Nat) (X : Cx) (c : Cv) : Prop where
  N : X.N = c.N
  nd : X.N.Nodup
  sc : X.env.scope = c.sc
  fn : ∀ x, X.fn x = match c.own with
    | none => true
    | some s => s.names.lookup x == some .cell
  calm : X.calm = true
  gd : X.A.guards = some []
  room : Room k X.A
  blt : ∀ n ∈ T.blts, X.mg n = none
  ci_ : ∀ q ∈ T.ci, ∃ t, X.mg q.1 = some (.int q.2 t)
  cs_ : ∀ q ∈ T.cs, ∃ t, X.mg q.1 = some (.str q.2 t)
  call : ∀ q ∈ T.fns, ∃ f fd ps, X.mg q.name = some (.ref f) ∧ PySem.W.keepIn X.K (.ref f) = true ∧ FnG X.prog X.w X.K X.mg X.base k f fd ps (spC C.call X.K q.name q.np) ∧ Binds X.K fd ps [] ∧
    ∀ z ∈ q.kws, KBn X.K fd ps z.1 z.2.1 (fun us ws => pickL (us ++ ws) z.2.2) (fun vs zs => pickL (vs ++ zs) z.2.2)
section
variable {T : Tab} {C : Cfg} {k : Nat} {X : Cx} {c : Cv}
theorem At.units (h : At T C k X c) : X.A.units + 200 < cLine := by have := h.room.un; omega
theorem At.vis_ (h : At T C k X c) {n : Str} (v : c.vis n = true) : Vis X.env.scope n := by
  unfold Cv.vis at v
  rw [h.sc]
  cases e : c.sc.names.lookup n with
  | none => rw [e] at v; cases v
  | some q =>
    rw [e] at v
    cases q with
    | «local» => exact .inl e
    | cell => exact .inr (.inl e)
    | free => exact .inr (.inr e)
    | globalExplicit => cases v
    | globalImplicit => cases v
theorem At.gl_ (h : At T C k X c) {n : Str} (v : c.gl n = true) : Gl X n := by
  have v : c.sc.names.lookup n = some .globalImplicit := of_decide_eq_true v
  show X.env.scope.names.lookup n = _
  rw [h.sc]; exact v
theorem At.loc_ (h : At T C k X c) {n : Str} (v : c.loc n = true) : X.env.scope.names.lookup n = some .local := by
  rw [h.sc]; exact of_decide_eq_true v
theorem At.sto_ (h : At T C k X c) {n : Str} (v : c.sto n = true) : Loc X.env.scope n ∧ (X.fn n = true ∨ X.env.scope.names.lookup n = some .local) := by
  rw [h.sc]
  rcases Bool.or_eq_true_iff.mp v with v | v
  · have v := of_decide_eq_true v
    exact ⟨.inl v, .inr v⟩
  · obtain ⟨v1, v2⟩ := Bool.and_eq_true_iff.mp v
    refine ⟨.inr (of_decide_eq_true v1), .inl ?_⟩
    rw [h.fn n]
    cases e : c.own with
    | none => rfl
    | some s => rw [e] at v2; exact v2
theorem At.blk (h : At T C k X c) (s : Shared) (H : Hp) (scope : Scope) (D : Addr) (cl : List (Str × Addr)) (fp : List Addr) : At T C k (X.blk s H scope (compEnvC scope cl D X.env) fp) ⟨c.N, relS scope c.sc, some scope⟩ where
  N := h.N
  nd := h.nd
  sc := by
    show relS scope X.env.scope = relS scope c.sc
    rw [h.sc]
  fn := fun x => rfl
  calm := h.calm
  gd := h.gd
  room := h.room
  blt := h.blt
  ci_ := h.ci_
  cs_ := h.cs_
  call := h.call
end

/-! ### the checks -/
def opB : Operator → Op → Bool
  | .Add, .add => true | .Sub, .sub => true | .Mult, .mul => true | .Mod, .mod => true | .FloorDiv, .fdiv => true | .Pow, .pow => true
  | _, _ => false
def cmB : CmpOp → Cmp → Bool
  | .Eq, .eq => true | .NotEq, .ne => true | .Lt, .lt => true | .LtE, .le => true | .Gt, .gt => true | .GtE, .ge => true
  | .Is, .is => true | .IsNot, .isnot => true | .In, .isin => true | .NotIn, .notin => true
  | _, _ => false
def biS : Bi → Str
  | .len => "len" | .sorted => "sorted" | .tuple => "tuple" | .list => "list" | .all => "all" | .any => "any" | .abs => "abs" | .int => "int" | .min => "min" | .max => "max" | .repr => "repr" | .str => "str"
def tyStr : Ty → Str
  | .int => "int" | .bool => "bool" | .str => "str" | .list => "list" | .tuple => "tuple"
def mtS : Mt → Str
  | .append => "append" | .insert => "insert" | .popAt => "pop" | .pop => "pop" | .extend => "extend" | .index => "index" | .upper => "upper" | .setdef => "setdefault"
def notIf : Expr → Bool
  | .IfExp _ _ _ _ => false
  | _ => true
abbrev Rec := Cv → Expr → E → Bool
section
variable (T : Tab) (rec : Rec)
def ckEs (c : Cv) : List Expr → Es → Bool
  | [], .nil => true
  | e :: es, .cons x xs => notStar e && rec c e x && ckEs c es xs
  | _, _ => false
def ckOe (c : Cv) : Option Expr → Oe → Bool
  | none, .none => true
  | some e, .some x => rec c e x
  | _, _ => false
def ckKs (c : Cv) : List Keyword → Es → Bool
  | [], .nil => true
  | ⟨_, e, _⟩ :: es, .cons x xs => rec c e x && ckKs c es xs
  | _, _ => false
def ckBool (c : Cv) (op : BoolOp) : List Expr → E → Bool
  | [], _ => false
  | [e], x => notIf e && rec c e x
  | e :: es, x => match op, x with
    | .And, .and y z => notIf e && rec c e y && ckBool c op es z
    | .Or, .or y z => notIf e && rec c e y && ckBool c op es z
    | _, _ => false
def ckTys : List Expr → List Ty → Cv → Bool
  | [], [], _ => true
  | .Name n _ :: es, t :: ts, c => decide (n = tyStr t) && c.gl n && T.blts.contains n && ckTys es ts c
  | _, _, _ => false
def gb (c : Cv) (n m : Str) : Bool := decide (n = m) && c.gl n && T.blts.contains n
def ckRg (c : Cv) : Expr → Rg → Bool
  | .Call (.Name n _) [a] [] _, .one x => gb T c n "range" && notStar a && rec c a x
  | .Call (.Name n _) [a, b] [] _, .two x y => gb T c n "range" && notStar a && rec c a x && notStar b && rec c b y
  | _, _ => false
def ckTg (c : Cv) : Nat → Expr → Tg → Bool
  | 0, _, _ => false
  | m + 1, e, t => match e, t with
    | .Name n _, .nm i => decide (c.N[i]? = some n) && c.sto n
    | .Tuple es _ _, .tp ts => decide (es.length = ts.length) && es.all notStar && (es.zip ts).all fun p => ckTg c m p.1 p.2
    | _, _ => false
def isTg : Tg → Bool
  | .tp _ => true
  | _ => false
def ckIt (c : Cv) (tg : Expr) : Expr → MP.It → Bool
  | e, .val x => rec c e x
  | e, .rng r => (match e, r with
    | .Call (.Name n _) [a] [] _, .one x => gb T c n "range" && notStar a && rec c a x
    | .Call (.Name n _) [a, b] [] _, .two x y => gb T c n "range" && notStar a && rec c a x && notStar b && rec c b y
    | .Call (.Name n _) [a, b, d] [] _, .three x y z => gb T c n "range" && notStar a && rec c a x && notStar b && rec c b y && notStar d && rec c d z
    | _, _ => false)
  | e, .enum x => (match e with
    | .Call (.Name n _) [a] [] _ => gb T c n "enumerate" && isTup tg && notStar a && rec c a x
    | _ => false)
  | e, .zip x y => (match e with
    | .Call (.Name n _) [a, b] [] _ => gb T c n "zip" && isTup tg && notStar a && rec c a x && notStar b && rec c b y
    | _ => false)
  | e, .rev x => (match e with
    | .Call (.Name n _) [a] [] _ => gb T c n "reversed" && notStar a && rec c a x
    | _ => false)
  | _, .items _ => false
  | _, .vals _ => false
def notSet : Expr → Bool
  | .Set _ _ _ => false
  | _ => true
/-- a list comprehension -/
def ckLc (c : Cv) (elt tg iter : Expr) (ifs : List Expr) (scope : Scope) (t : Tg) (it : MP.It) (oc : Oe) (e : E) (own : List Nat) : Bool :=
  let c2 : Cv := ⟨c.N, relS scope c.sc, some scope⟩
  let ow := own.map fun i => (c.N.getD i "", i)
  blkC c.N c.sc scope ow && notSet iter && ckIt T rec c tg iter it && ckTg c2 5 tg t && rec c2 elt e && (t.idx.all fun i => own.contains i) &&
    (match ifs, oc with
      | [], .none => true
      | [q], .some x => notIf q && rec c2 q x
      | _, _ => false)
/-- a dict comprehension -/
def ckDc (c : Cv) (kx vx tg iter : Expr) (scope : Scope) (t : Tg) (it : MP.It) (k v : E) (own : List Nat) : Bool := ckLc T rec c kx tg iter [] scope t it .none k own && rec ⟨c.N, relS scope c.sc, some scope⟩ vx v
def stepE (c : Cv) (e : Expr) (x : E) : Bool := match e with
  | .Name n _ => (match x with
    | .var i => decide (c.N[i]? = some n) && c.vis n && !dbg n
    | .int j => c.gl n && !dbg n && decide ((n, j) ∈ T.ci)
    | .str z => c.gl n && !dbg n && decide ((n, z) ∈ T.cs)
    | _ => false)
  | .Constant v _ _ => (match v, x with
    | .none, .none => true
    | .bool b, .bool d => b == d
    | .int i, .int j => decide (i = j)
    | .str s, .str t => decide (s = t)
    | _, _ => false)
  | .Tuple es _ _ => (match x with
    | .tup xs => ckEs rec c es xs
    | _ => false)
  | .List es _ => (match x with
    | .lst xs => ckEs rec c es xs
    | _ => false)
  | .BinOp a op b _ => (match x with
    | .bin o y z => opB op o && rec c a y && rec c b z
    | _ => false)
  | .UnaryOp op a _ => (match op, x with
    | .Not, .not y => notIf a && rec c a y
    | .USub, .neg y => rec c a y
    | _, _ => false)
  | .BoolOp op es _ => ckBool rec c op es x
  | .Compare a ops bs _ => (match ops, bs, x with
    | [op], [b], .cmp o y z => cmB op o && notSet b && rec c a y && rec c b z
    | [op, op2], [b, d], .chain o o2 y z w => cmB op o && cmB op2 o2 && notSet b && notSet d && rec c a y && rec c b z && rec c d w
    | _, _, _ => false)
  | .IfExp q a b _ => (match x with
    | .ite y z w => notIf q && rec c q y && rec c a z && rec c b w
    | _ => false)
  | .Subscript a i _ => (match x with
    | .ix y z => noSlice i && rec c a y && rec c i z
    | .sl y lo hi => (match i with
      | .Slice l h none _ => rec c a y && ckOe rec c l lo && ckOe rec c h hi
      | _ => false)
    | .rev y => (match i with
      | .Slice none none (some (.UnaryOp .USub (.Constant (.int 1) _ _) _)) _ => rec c a y
      | _ => false)
    | _ => false)
  | .Call (.Name n _) args kws _ => (match x with
    | .call f xs => decide (n = f) && c.gl n && !dbg n && kws.isEmpty && ckEs rec c args xs && (T.fns.any fun q => decide (q.name = n ∧ q.np = xs.len))
    | .callk f xs ys sel => decide (n = f) && c.gl n && !dbg n && ckEs rec c args xs && ckKs rec c kws ys && (match kwNames kws with
      | none => false
      | some ks => decide (ys.len = ks.length) && (sel.all fun i => decide (i < xs.len + ks.length)) && (T.fns.any fun q => decide (q.name = n ∧ q.np = sel.length) && q.kws.any fun z => decide (z = (xs.len, ks, sel))))
    | .bi f xs => gb T c n (biS f) && kws.isEmpty && !args.isEmpty && ckEs rec c args xs
    | .lrng r => gb T c n "list" && kws.isEmpty && (match args with
      | [a] => ckRg T rec c a r
      | _ => false)
    | .trng r => gb T c n "tuple" && kws.isEmpty && (match args with
      | [a] => ckRg T rec c a r
      | _ => false)
    | .isi y ts => gb T c n "isinstance" && kws.isEmpty && (match args with
      | [a, b] => notStar a && rec c a y && (match b, ts with
        | .Name m _, [t] => decide (m = tyStr t) && c.gl m && T.blts.contains m
        | .Tuple es _ _, ts => ckTys T es ts c && decide (ts.length ≤ 10)
        | _, _ => false)
      | _ => false)
    | _ => false)
  | .Call (.Attribute o m apos) args kws pos => (match x with
    | .mt mt y xs => decide (m = mtS mt) && kws.isEmpty && notCall o && (apos.endLine == pos.line) && rec c o y && ckEs rec c args xs && (match mt with
      | .append => decide (args.length = 1)
      | .insert => decide (args.length = 2)
      | .popAt => decide (args.length = 1)
      | .pop => args.isEmpty
      | .extend => decide (args.length = 1)
      | .index => decide (args.length = 1)
      | .upper => args.isEmpty
      | .setdef => false)
    | _ => false)
  | .ListComp elt gs scope _ => (match gs, x with
    | [⟨tg, iter, ifs, a⟩], .lc t it oc e own => (a == 0) && ckLc T rec c elt tg iter ifs scope t it oc e own
    | _, _ => false)
  | .Dict ks vs _ => ks.isEmpty && vs.isEmpty && (match x with
    | .dic0 => true
    | _ => false)
  | .DictComp kx vx gs scope _ => (match gs, x with
    | [⟨tg, iter, ifs, a⟩], .dc t it k v own => (a == 0) && ifs.isEmpty && ckDc T rec c kx vx tg iter scope t it k v own
    | _, _ => false)
  | _ => false
end
def ckE (T : Tab) : Nat → Rec
  | 0 => fun _ _ _ => false
  | n + 1 => stepE T (ckE T n)
end MP
set_option Elab.async false
set_option linter.all false
set_option maxRecDepth 100000
/-! The checker is right. -/
namespace MP
open PySem PySem.Spec PyProof.Rows L2

def Snd (X : Cx) (C : Cfg) (e : Expr) (x : E) : Prop := PE X e (LE X.K C x) ∧ (notIf e = true → PT X e (LB X.K C x))
def RecOk (T : Tab) (C : Cfg) (k : Nat) (rec : Rec) : Prop := ∀ X c e x, At T C k X c → rec c e x = true → Snd X C e x
theorem and2 {a b : Bool} (h : (a && b) = true) : a = true ∧ b = true := Bool.and_eq_true_iff.mp h
section
variable {T : Tab} {C : Cfg} {k : Nat} {X : Cx} {c : Cv} {rec : Rec}
theorem es_ok (A : At T C k X c) (R : RecOk T C k rec) : ∀ {es : List Expr} {xs : Es}, ckEs rec c es xs = true → PA X es (LEs X.K C xs) ∧ es.all notStar = true ∧ xs.len = es.length
  | [], .nil, _ => ⟨sn_nil, rfl, rfl⟩
  | [], .cons _ _, h => nomatch h
  | _ :: _, .nil, h => nomatch h
  | e :: es, .cons x xs, h => by
    obtain ⟨h, h3⟩ := and2 h
    obtain ⟨h1, h2⟩ := and2 h
    obtain ⟨p1, p2, p3⟩ := es_ok A R h3
    exact ⟨sn_cons (R _ _ _ _ A h2).1 p1 h1, by rw [List.all_cons, h1, p2]; rfl, by rw [List.length_cons, ← p3]; rfl⟩
theorem oe_ok (A : At T C k X c) (R : RecOk T C k rec) {o : Option Expr} {x : Oe} (h : ckOe rec c o x = true) : PO X o (LP X.K C x) := by
  cases o with
  | none =>
    cases x with
    | none => exact sp_none
    | some x => cases h
  | some e =>
    cases x with
    | none => cases h
    | some x => exact sp_some (R _ _ _ _ A h).1
theorem ks_ok (A : At T C k X c) (R : RecOk T C k rec) : ∀ {es : List Keyword} {xs : Es}, ckKs rec c es xs = true → PK X es (LEs X.K C xs)
  | [], .nil, _ => sk_nil
  | [], .cons _ _, h => nomatch h
  | ⟨_, _, _⟩ :: _, .nil, h => nomatch h
  | ⟨_, _, _⟩ :: _, .cons x xs, h => by
    obtain ⟨h1, h2⟩ := and2 h
    exact sk_cons (R _ _ _ _ A h1).1 (ks_ok A R h2)
theorem bool_ok (A : At T C k X c) (R : RecOk T C k rec) {op : BoolOp} {pos : Pos} : ∀ {es : List Expr} {x : E}, ckBool rec c op es x = true → PE X (.BoolOp op es pos) (LE X.K C x) ∧ PW X (.BoolOp op es pos) (LB X.K C x)
  | [], _, h => nomatch h
  | [e], x, h => by
    obtain ⟨h1, h2⟩ := and2 h
    obtain ⟨p1, p2⟩ := R _ _ _ _ A h2
    refine ⟨pe_one p1, ?_⟩
    cases op with
    | And => exact pw_and1 (p2 h1)
    | Or => exact pw_or1 (p2 h1)
  | e :: e2 :: es, x, h => by
    cases op with
    | And =>
      cases x with
      | and y z =>
        obtain ⟨h, h3⟩ := and2 h
        obtain ⟨h1, h2⟩ := and2 h
        obtain ⟨p1, p2⟩ := R _ _ _ _ A h2
        obtain ⟨q1, q2⟩ := bool_ok A R (op := .And) (pos := pos) h3
        exact ⟨sn_and p1 q1, tt_and (p2 h1) q2⟩
      | _ => cases h
    | Or =>
      cases x with
      | or y z =>
        obtain ⟨h, h3⟩ := and2 h
        obtain ⟨h1, h2⟩ := and2 h
        obtain ⟨p1, p2⟩ := R _ _ _ _ A h2
        obtain ⟨q1, q2⟩ := bool_ok A R (op := .Or) (pos := pos) h3
        exact ⟨sn_or p1 q1, tt_or (p2 h1) q2⟩
      | _ => cases h
theorem blt_ (A : At T C k X c) {n : Str} (h : T.blts.contains n = true) : X.mg n = none := A.blt n (by simpa using h)
theorem gb_ (A : At T C k X c) {n m : Str} (h : gb T c n m = true) : n = m ∧ Gl X n ∧ X.mg n = none := by
  obtain ⟨h, h3⟩ := and2 h
  obtain ⟨h1, h2⟩ := and2 h
  exact ⟨of_decide_eq_true h1, A.gl_ h2, blt_ A h3⟩
theorem boot_ty (t : Ty) : bootBuiltins (tyStr t) = some (.type (tyS t)) := by cases t <;> decide +kernel
theorem ty_name (t : Ty) : tyStr t ≠ ("__name__" : Str) ∧ (tyStr t == ("__debug__" : Str)) = false := by cases t <;> decide +kernel
theorem tys_ok (A : At T C k X c) : ∀ {es : List Expr} {ts : List Ty}, ckTys T es ts c = true → PA X es (tTys ts)
  | [], [], _ => weakA pa_nil fun σ H Q h => h
  | [], _ :: _, h => nomatch h
  | e :: es, [], h => by cases e <;> cases h
  | e :: es, t :: ts, h => by
    cases e with
    | Name n p =>
      obtain ⟨h, h4⟩ := and2 h
      obtain ⟨h, h3⟩ := and2 h
      obtain ⟨h1, h2⟩ := and2 h
      have h1 : n = tyStr t := of_decide_eq_true h1
      subst h1
      exact weakA (pa_cons (pe_bltn (A.gl_ h2) (blt_ A h3) (boot_ty t) (show RelV (.ty (tyS t)) _ from rfl) (ty_name t).1 (ty_name t).2) (tys_ok A h4)) fun σ H Q h => h
    | _ => cases h
theorem rg_ok (A : At T C k X c) (R : RecOk T C k rec) {e : Expr} {r : Rg} (h : ckRg T rec c e r = true) : PRg X e (LR X.K C r) ∧ notStar e = true := by
  unfold ckRg at h
  split at h
  · obtain ⟨h, h3⟩ := and2 h
    obtain ⟨h1, h2⟩ := and2 h
    obtain ⟨rfl, g1, g2⟩ := gb_ A h1
    exact ⟨sr_1 g1 g2 (R _ _ _ _ A h3).1 h2, rfl⟩
  · obtain ⟨h, h5⟩ := and2 h
    obtain ⟨h, h4⟩ := and2 h
    obtain ⟨h, h3⟩ := and2 h
    obtain ⟨h1, h2⟩ := and2 h
    obtain ⟨rfl, g1, g2⟩ := gb_ A h1
    exact ⟨sr_2 g1 g2 (R _ _ _ _ A h3).1 (R _ _ _ _ A h5).1 h2 h4, rfl⟩
  · cases h
theorem tg_ok (A : At T C k X c) : ∀ (m : Nat) {e : Expr} {t : Tg}, ckTg c m e t = true → PG X e (LG X.K t)
  | 0, _, _, h => nomatch h
  | m + 1, e, t, h => by
    cases e with
    | Name n p =>
      cases t with
      | nm i =>
        obtain ⟨h1, h2⟩ := and2 h
        have h1 : c.N[i]? = some n := of_decide_eq_true h1
        obtain ⟨s1, s2⟩ := A.sto_ h2
        exact sg_name A.nd (by rw [A.N]; exact h1) s1 s2
      | tp ts => cases h
    | Tuple es j p =>
      cases t with
      | nm i => cases h
      | tp ts =>
        obtain ⟨h, h3⟩ := and2 h
        obtain ⟨h1, h2⟩ := and2 h
        have h1 : es.length = ts.length := of_decide_eq_true h1
        refine sg_tup A.calm (tgs A m h1 h2 h3) h2 h1
    | _ => cases h
where
  tgs (A : At T C k X c) (m : Nat) : ∀ {es : List Expr} {ts : List Tg}, es.length = ts.length → es.all notStar = true → ((es.zip ts).all fun p => ckTg c m p.1 p.2) = true → PGs X es (LGs X.K ts)
    | [], [], _, _, _ => sg_nil
    | [], _ :: _, h, _, _ => nomatch h
    | _ :: _, [], h, _, _ => nomatch h
    | e :: es, t :: ts, hl, hs, h => by
      obtain ⟨h1, h2⟩ := and2 h
      obtain ⟨s1, s2⟩ := and2 hs
      exact sg_cons (tg_ok A m h1) (tgs A m (Nat.succ.inj hl) s2 h2) s1
theorem it_ok (A : At T C k X c) (R : RecOk T C k rec) {tg e : Expr} {it : MP.It} (h : ckIt T rec c tg e it = true) : PI X tg e (LI X.K C it) := by
  cases it with
  | val x => exact si_val (R _ _ _ _ A h).1
  | items _ => cases h
  | vals _ => cases h
  | rng r =>
    simp only [ckIt] at h
    split at h
    · obtain ⟨h, h3⟩ := and2 h
      obtain ⟨h1, h2⟩ := and2 h
      obtain ⟨rfl, g1, g2⟩ := gb_ A h1
      exact si_rng1 g1 g2 (R _ _ _ _ A h3).1 h2
    · obtain ⟨h, h5⟩ := and2 h
      obtain ⟨h, h4⟩ := and2 h
      obtain ⟨h, h3⟩ := and2 h
      obtain ⟨h1, h2⟩ := and2 h
      obtain ⟨rfl, g1, g2⟩ := gb_ A h1
      exact si_rng2 g1 g2 (R _ _ _ _ A h3).1 (R _ _ _ _ A h5).1 h2 h4
    · obtain ⟨h, h7⟩ := and2 h
      obtain ⟨h, h6⟩ := and2 h
      obtain ⟨h, h5⟩ := and2 h
      obtain ⟨h, h4⟩ := and2 h
      obtain ⟨h, h3⟩ := and2 h
      obtain ⟨h1, h2⟩ := and2 h
      obtain ⟨rfl, g1, g2⟩ := gb_ A h1
      exact si_rng3 g1 g2 (R _ _ _ _ A h3).1 (R _ _ _ _ A h5).1 (R _ _ _ _ A h7).1 h2 h4 h6
    · cases h
  | enum x =>
    simp only [ckIt] at h
    split at h
    · obtain ⟨h, h4⟩ := and2 h
      obtain ⟨h, h3⟩ := and2 h
      obtain ⟨h1, h2⟩ := and2 h
      obtain ⟨rfl, g1, g2⟩ := gb_ A h1
      cases tg with
      | Tuple es j p => exact si_enum g1 g2 (R _ _ _ _ A h4).1 h3
      | _ => cases h2
    · cases h
  | zip x y =>
    simp only [ckIt] at h
    split at h
    · obtain ⟨h, h6⟩ := and2 h
      obtain ⟨h, h5⟩ := and2 h
      obtain ⟨h, h4⟩ := and2 h
      obtain ⟨h, h3⟩ := and2 h
      obtain ⟨h1, h2⟩ := and2 h
      obtain ⟨rfl, g1, g2⟩ := gb_ A h1
      cases tg with
      | Tuple es j p => exact si_zip g1 g2 (R _ _ _ _ A h4).1 (R _ _ _ _ A h6).1 h3 h5
      | _ => cases h2
    · cases h
  | rev x =>
    simp only [ckIt] at h
    split at h
    · obtain ⟨h, h3⟩ := and2 h
      obtain ⟨h1, h2⟩ := and2 h
      obtain ⟨rfl, g1, g2⟩ := gb_ A h1
      exact si_rev g1 g2 (R _ _ _ _ A h3).1 h2
    · cases h
theorem fold_of {e : Expr} (h : notSet e = true) (env : Env) (x : Value) : foldedSetIterable e env x = pure x := by
  cases e <;> first | rfl | cases h
/-- what a list comprehension's check gives -/
structure LcOk (X : Cx) (C : Cfg) (elt tg iter : Expr) (ifs : List Expr) (scope : Scope) (t : Tg) (it : MP.It) (oc : Oe) (e : E) (own : List (Str × Nat)) : Prop where
  hi : PI X tg iter (LI X.K C it)
  ok : BlkOk X.N X.env.scope scope own
  hg : ∀ (s : Shared) (H : Hp) (D : Addr) (cl : List (Str × Addr)) (fp : List Addr), PG (X.blk s H scope (compEnvC scope cl D X.env) fp) tg (LG X.K t)
  ht : ∀ (s : Shared) (H : Hp) (D : Addr) (cl : List (Str × Addr)) (fp : List Addr), PTs (X.blk s H scope (compEnvC scope cl D X.env) fp) ifs (LTs X.K C oc)
  he : ∀ (s : Shared) (H : Hp) (D : Addr) (cl : List (Str × Addr)) (fp : List Addr), PE (X.blk s H scope (compEnvC scope cl D X.env) fp) elt (LE X.K C e)
  hs : ∀ x, foldedSetIterable iter X.env x = pure x
  hix : ∀ i ∈ t.idx, i ∈ own.map (·.2)
theorem lc_ok (A : At T C k X c) (R : RecOk T C k rec) {elt tg iter : Expr} {ifs : List Expr} {scope : Scope} {t : Tg} {it : MP.It} {oc : Oe} {e : E} {own : List Nat} (h : ckLc T rec c elt tg iter ifs scope t it oc e own = true) :
    LcOk X C elt tg iter ifs scope t it oc e (own.map fun i => (c.N.getD i "", i)) := by
  obtain ⟨h, h7⟩ := and2 h
  obtain ⟨h, h6⟩ := and2 h
  obtain ⟨h, h5⟩ := and2 h
  obtain ⟨h, h4⟩ := and2 h
  obtain ⟨h, h3⟩ := and2 h
  obtain ⟨h1, h2⟩ := and2 h
  have B : ∀ (s : Shared) (H : Hp) (D : Addr) (cl : List (Str × Addr)) (fp : List Addr), At T C k (X.blk s H scope (compEnvC scope cl D X.env) fp) ⟨c.N, relS scope c.sc, some scope⟩ := fun s H D cl fp => A.blk s H scope D cl fp
  refine ⟨it_ok A R h3, ?_, fun s H D cl fp => tg_ok (B s H D cl fp) 5 h4, fun s H D cl fp => ?_, fun s H D cl fp => (R _ _ _ _ (B s H D cl fp) h5).1, fold_of h2 _, fun i hi => ?_⟩
  · rw [A.N, A.sc]; exact blkOk_by h1
  · cases ifs with
    | nil =>
      cases oc with
      | none => exact ⟨fun pins s σ H Q I hw => pts_nil.run pins s σ H Q I hw⟩
      | some x => cases h7
    | cons q qs =>
      cases qs with
      | nil =>
        cases oc with
        | none => cases h7
        | some x =>
          obtain ⟨a1, a2⟩ := and2 h7
          exact pts_one ((R _ _ _ _ (B s H D cl fp) a2).2 a1)
      | cons _ _ => cases oc <;> cases h7
  · have := List.all_eq_true.mp h6 i hi
    rw [List.map_map]
    have e : (own.map ((fun p : Str × Nat => p.2) ∘ fun i => (c.N.getD i "", i))) = own := by
      have : ((fun p : Str × Nat => p.2) ∘ fun i => (c.N.getD i "", i)) = id := rfl
      rw [this, List.map_id]
    rw [e]
    simpa using this
theorem dc_ok (A : At T C k X c) (R : RecOk T C k rec) {kx vx tg iter : Expr} {scope : Scope} {t : Tg} {it : MP.It} {ke ve : E} {own : List Nat} (h : ckDc T rec c kx vx tg iter scope t it ke ve own = true) :
    LcOk X C kx tg iter [] scope t it .none ke (own.map fun i => (c.N.getD i "", i)) ∧ ∀ (s : Shared) (H : Hp) (D : Addr) (cl : List (Str × Addr)) (fp : List Addr), PE (X.blk s H scope (compEnvC scope cl D X.env) fp) vx (LE X.K C ve) := by
  obtain ⟨h1, h2⟩ := and2 h
  have B : ∀ (s : Shared) (H : Hp) (D : Addr) (cl : List (Str × Addr)) (fp : List Addr), At T C k (X.blk s H scope (compEnvC scope cl D X.env) fp) ⟨c.N, relS scope c.sc, some scope⟩ := fun s H D cl fp => A.blk s H scope D cl fp
  exact ⟨lc_ok A R h1, fun s H D cl fp => (R _ _ _ _ (B s H D cl fp) h2).1⟩
theorem own_map {own : List Nat} {N : List Str} : (own.map fun i => (N.getD i "", i)).map (·.2) = own := by
  rw [List.map_map]
  have : ((fun p : Str × Nat => p.2) ∘ fun i => (N.getD i "", i)) = id := rfl
  rw [this, List.map_id]
theorem bin_ok (A : At T C k X c) {op : Operator} {o : Op} (h : opB op o = true) : OpR X (binaryOp op) (RB2 X.K (binop o)) := by
  cases op <;> cases o <;> first | (cases h; done) | exact op_addM | exact op_subM | exact op_mulM | exact op_modM | exact op_fdivM | exact op_powM
theorem cmp_ok (A : At T C k X c) {op : CmpOp} {o : Cmp} (h : cmB op o = true) : OpR X (compareOp op) (RB2 X.K (cmpop o)) := by
  have hu := A.units
  cases op <;> cases o <;> first | (cases h; done) | exact op_eqM (by omega) | exact op_neM (by omega) | exact op_ltM (by omega) | exact op_leM | exact op_gtM | exact op_geM | exact op_isM | exact op_isnotM | exact op_inM (by omega) | exact op_notinM (by omega)
theorem marks_of {op : CmpOp} {b : Expr} (h : notSet b = true) : behindInMarks op b = false := by
  cases b <;> first | rfl | cases h
theorem boot_bi (f : Bi) : biS f ≠ ("__name__" : Str) ∧ (biS f == ("__debug__" : Str)) = false := by cases f <;> decide +kernel
theorem sn_biA (A : At T C k X c) {f : Bi} {a : Expr} {es : List Expr} {xs : Es} {p pos : Pos} (hg : Gl X (biS f)) (hm : X.mg (biS f) = none) (ha : PA X (a :: es) (LEs X.K C xs)) (hs : notStar a = true) (hs2 : es.all notStar = true) : PE X (.Call (.Name (biS f) p) (a :: es) [] pos) (LE X.K C (.bi f xs)) := by
  have hu := A.units
  obtain ⟨n1, n2⟩ := boot_bi f
  cases f with
  | len => exact sn_bi bi_len hg hm (by decide +kernel) ha hs hs2 n1 n2
  | sorted => exact sn_bi (bi_sorted (by omega)) hg hm (by decide +kernel) ha hs hs2 n1 n2
  | tuple => exact sn_biT bi_tuple hg hm (by decide +kernel) ha hs hs2 n1 n2
  | list => exact sn_biT (bi_list A.calm) hg hm (by decide +kernel) ha hs hs2 n1 n2
  | all => exact sn_bi (bi_all A.calm) hg hm (by decide +kernel) ha hs hs2 n1 n2
  | any => exact sn_bi (bi_any A.calm) hg hm (by decide +kernel) ha hs hs2 n1 n2
  | abs => exact sn_bi bi_abs hg hm (by decide +kernel) ha hs hs2 n1 n2
  | int => exact sn_biT bi_int hg hm (by decide +kernel) ha hs hs2 n1 n2
  | min => exact sn_bi (bi_min A.calm) hg hm (by decide +kernel) ha hs hs2 n1 n2
  | max => exact sn_bi (bi_max A.calm) hg hm (by decide +kernel) ha hs hs2 n1 n2
  | repr => exact sn_bi (bi_repr A.gd (by omega)) hg hm (by decide +kernel) ha hs hs2 n1 n2
  | str => exact sn_biT bi_str hg hm (by decide +kernel) ha hs hs2 n1 n2
theorem sn_neg {a : Expr} {y : E} {pos : Pos} (ha : PE X a (LE X.K C y)) : PE X (.UnaryOp .USub a pos) (LE X.K C (.neg y)) :=
  weakE (pe_un un_neg ha) fun σ H Q ⟨env, st, mp, er, sr, h⟩ => LE.bind er sr h fun m1 H1 s1 v v' g1 sr1 er1 rv h1 => by
    cases v with
    | int i => cases rv; exact ⟨i, rfl, pure_inv sr1 h1 (.int _)⟩
    | _ => exact False.elim h1
end
end MP
set_option Elab.async false
set_option linter.all false
set_option maxRecDepth 100000
/-! The checker is right: expressions. -/
namespace MP
open PySem PySem.Spec PyProof.Rows L2

section
variable {T : Tab} {C : Cfg} {k : Nat} {X : Cx} {c : Cv} {rec : Rec}
theorem Snd.val {e : Expr} {x : E} (h : PE X e (LE X.K C x)) (p : plainTest e = true) : Snd X C e x := ⟨h, fun _ => tt_val h p⟩
theorem dbg_ {n : Str} (h : (!dbg n) = true) : (n == ("__debug__" : Str)) = false ∧ (n == ("__classdict__" : Str)) = false ∧ n ≠ ("__name__" : Str) := by
  unfold dbg at h
  rw [Bool.not_eq_true', Bool.or_eq_false_iff, Bool.or_eq_false_iff] at h
  exact ⟨h.1.1, h.1.2, of_decide_eq_false h.2⟩
theorem call_ok (A : At T C k X c) (R : RecOk T C k rec) {n : Str} {p pos : Pos} {args : List Expr} {kws : List Keyword} {x : E} (h : stepE T rec c (.Call (.Name n p) args kws pos) x = true) : PE X (.Call (.Name n p) args kws pos) (LE X.K C x) := by
  cases x with
  | call f xs =>
    obtain ⟨h, h6⟩ := and2 h
    obtain ⟨h, h5⟩ := and2 h
    obtain ⟨h, h4⟩ := and2 h
    obtain ⟨h, h3⟩ := and2 h
    obtain ⟨h1, h2⟩ := and2 h
    have h1 : n = f := of_decide_eq_true h1
    subst h1
    have h4 : kws = [] := by simpa using h4
    subst h4
    obtain ⟨d1, d2, d3⟩ := dbg_ h3
    obtain ⟨q, hq, hq2⟩ := List.any_eq_true.mp h6
    have hq2 : q.name = n ∧ q.np = xs.len := of_decide_eq_true hq2
    obtain ⟨g, fd, ps, c1, c2, c3, c4, c5⟩ := A.call q hq
    rw [hq2.1] at c1
    rw [hq2.1, hq2.2] at c3
    obtain ⟨p1, p2, p3⟩ := es_ok A R h5
    cases args with
    | nil =>
      cases xs with
      | nil => exact sn_call0 c3 A.room A.gd (A.gl_ h2) c1 c2 c4 d1
      | cons _ _ => cases h5
    | cons a es =>
      obtain ⟨s1, s2⟩ := and2 (show (notStar a && es.all notStar) = true from p2)
      exact sn_call c3 A.room A.gd (A.gl_ h2) c1 c2 c4 p1 d1 s1 s2 rfl
  | callk f xs ys sel =>
    obtain ⟨h, h6⟩ := and2 h
    obtain ⟨h, h5⟩ := and2 h
    obtain ⟨h, h4⟩ := and2 h
    obtain ⟨h, h3⟩ := and2 h
    obtain ⟨h1, h2⟩ := and2 h
    have h1 : n = f := of_decide_eq_true h1
    subst h1
    obtain ⟨d1, d2, d3⟩ := dbg_ h3
    cases hk : kwNames kws with
    | none => rw [hk] at h6; cases h6
    | some ks =>
      rw [hk] at h6
      obtain ⟨h6, h9⟩ := and2 h6
      obtain ⟨h7, h8⟩ := and2 h6
      have h7 : ys.len = ks.length := of_decide_eq_true h7
      have h8 : ∀ i ∈ sel, i < xs.len + ks.length := fun i hi => of_decide_eq_true (List.all_eq_true.mp h8 i hi)
      obtain ⟨q, hq, hq2⟩ := List.any_eq_true.mp h9
      obtain ⟨hqa, hq3⟩ := and2 hq2
      have hqn : q.name = n ∧ q.np = sel.length := of_decide_eq_true hqa
      obtain ⟨z, hz, hz2⟩ := List.any_eq_true.mp hq3
      have hz2 : z = (xs.len, ks, sel) := of_decide_eq_true hz2
      subst hz2
      obtain ⟨g, fd, ps, c1, c2, c3, c4, c5⟩ := A.call q hq
      rw [hqn.1] at c1
      rw [hqn.1] at c3
      have c5 := c5 _ hz
      obtain ⟨p1, p2, p3⟩ := es_ok A R h4
      cases args with
      | nil =>
        cases xs with
        | nil => exact sn_callk0 c3 A.room A.gd (A.gl_ h2) c1 c2 c5 (ks_ok A R h5) hk d1 h7 hqn.2.symm (fun i hi => show i < ks.length by have := h8 i hi; have e : Es.nil.len = 0 := rfl; simp only [e] at this; omega)
        | cons _ _ => cases h4
      | cons a es =>
        obtain ⟨s1, s2⟩ := and2 (show (notStar a && es.all notStar) = true from p2)
        exact sn_callk c3 A.room A.gd (A.gl_ h2) c1 c2 c5 p1 (ks_ok A R h5) hk d1 s1 s2 rfl h7 hqn.2.symm h8
  | bi f xs =>
    obtain ⟨h, h4⟩ := and2 h
    obtain ⟨h, h3⟩ := and2 h
    obtain ⟨h1, h2⟩ := and2 h
    obtain ⟨rfl, g1, g2⟩ := gb_ A h1
    have h2 : kws = [] := by simpa using h2
    subst h2
    obtain ⟨p1, p2, p3⟩ := es_ok A R h4
    cases args with
    | nil => cases h3
    | cons a es =>
      obtain ⟨s1, s2⟩ := and2 (show (notStar a && es.all notStar) = true from p2)
      exact sn_biA A g1 g2 p1 s1 s2
  | lrng r =>
    obtain ⟨h, h3⟩ := and2 h
    obtain ⟨h1, h2⟩ := and2 h
    obtain ⟨rfl, g1, g2⟩ := gb_ A h1
    have h2 : kws = [] := by simpa using h2
    subst h2
    match args, h3 with
    | [], h3 => cases h3
    | _ :: _ :: _, h3 => cases h3
    | [a], h3 =>
      obtain ⟨r1, r2⟩ := rg_ok A R h3
      exact sn_lrng A.calm g1 g2 r1 r2
  | trng r =>
    obtain ⟨h, h3⟩ := and2 h
    obtain ⟨h1, h2⟩ := and2 h
    obtain ⟨rfl, g1, g2⟩ := gb_ A h1
    have h2 : kws = [] := by simpa using h2
    subst h2
    match args, h3 with
    | [], h3 => cases h3
    | _ :: _ :: _, h3 => cases h3
    | [a], h3 =>
      obtain ⟨r1, r2⟩ := rg_ok A R h3
      exact sn_trng A.calm g1 g2 r1 r2
  | isi y ts =>
    obtain ⟨h, h3⟩ := and2 h
    obtain ⟨h1, h2⟩ := and2 h
    obtain ⟨rfl, g1, g2⟩ := gb_ A h1
    have h2 : kws = [] := by simpa using h2
    subst h2
    match args, h3 with
    | [], h3 => cases h3
    | [_], h3 => cases h3
    | _ :: _ :: _ :: _, h3 => cases h3
    | [a, b], h3 =>
      obtain ⟨h34, h5⟩ := and2 h3
      obtain ⟨hns, h4⟩ := and2 h34
      cases b with
      | Name m p2 =>
        match ts, h5 with
        | [], h5 => cases h5
        | _ :: _ :: _, h5 => cases h5
        | [t], h5 =>
          obtain ⟨h5, h8⟩ := and2 h5
          obtain ⟨h6, h7⟩ := and2 h5
          have h6 : m = tyStr t := of_decide_eq_true h6
          subst h6
          exact sn_isi1 g1 g2 (A.gl_ h7) (blt_ A h8) (boot_ty t) (ty_name t).1 (ty_name t).2 (R _ _ _ _ A h4).1 hns
      | Tuple es j p2 =>
        have h5 : (ckTys T es ts c && decide (ts.length ≤ 10)) = true := by
          match ts, h5 with
          | [], h5 => exact h5
          | [_], h5 => exact h5
          | _ :: _ :: _, h5 => exact h5
        obtain ⟨h6, h7⟩ := and2 h5
        exact sn_isiT g1 g2 (tys_ok A h6) (of_decide_eq_true h7) (R _ _ _ _ A h4).1 hns
      | _ => cases h5
  | _ => cases h
theorem meth_ok (A : At T C k X c) (R : RecOk T C k rec) {o : Expr} {m : Str} {apos pos : Pos} {args : List Expr} {kws : List Keyword} {x : E} (h : stepE T rec c (.Call (.Attribute o m apos) args kws pos) x = true) : PE X (.Call (.Attribute o m apos) args kws pos) (LE X.K C x) := by
  have hu := A.units
  cases x with
  | mt mt y xs =>
    obtain ⟨h, h7⟩ := and2 h
    obtain ⟨h, h6⟩ := and2 h
    obtain ⟨h, h5⟩ := and2 h
    obtain ⟨h, h4⟩ := and2 h
    obtain ⟨h, h3⟩ := and2 h
    obtain ⟨h1, h2⟩ := and2 h
    have h1 : m = mtS mt := of_decide_eq_true h1
    subst h1
    have h2 : kws = [] := by simpa using h2
    subst h2
    have ho := (R _ _ _ _ A h5).1
    obtain ⟨p1, p2, p3⟩ := es_ok A R h6
    have one : ∀ {P : Prop}, decide (args.length = 1) = true → (∀ a, args = [a] → P) → P := fun hl f => by
      have hl := of_decide_eq_true hl
      match args, hl with
      | [a], _ => exact f a rfl
    cases mt with
    | append =>
      refine one h7 fun a e => ?_
      subst e
      obtain ⟨s1, s2⟩ := and2 (show (notStar a && List.all [] notStar) = true from p2)
      exact sn_mtL rfl F.slot_list_append F.type_list_append mt_appendM ho p1 h3 h4 s1 s2 (by decide)
    | insert =>
      have hl : args.length = 2 := of_decide_eq_true h7
      match args, hl, p1, p2 with
      | [a, b], _, p1, p2 =>
        obtain ⟨s1, s2⟩ := and2 (show (notStar a && List.all [b] notStar) = true from p2)
        exact sn_mtL rfl F.slot_list_insert F.type_list_insert mt_insertM ho p1 h3 h4 s1 s2 (by simp)
    | popAt =>
      refine one h7 fun a e => ?_
      subst e
      obtain ⟨s1, s2⟩ := and2 (show (notStar a && List.all [] notStar) = true from p2)
      exact sn_mtL rfl F.slot_list_pop F.type_list_pop (MtR.right mt_popM) ho p1 h3 h4 s1 s2 (by decide)
    | pop =>
      have e : args = [] := by simpa using h7
      subst e
      cases xs with
      | nil => exact sn_mtL0 rfl F.slot_list_pop F.type_list_pop (MtR.left mt_popM) ho h3 h4
      | cons _ _ => cases h6
    | extend =>
      refine one h7 fun a e => ?_
      subst e
      obtain ⟨s1, s2⟩ := and2 (show (notStar a && List.all [] notStar) = true from p2)
      exact sn_mtL rfl F.slot_list_extend F.type_list_extend mt_extendM ho p1 h3 h4 s1 s2 (by decide)
    | index =>
      refine one h7 fun a e => ?_
      subst e
      obtain ⟨s1, s2⟩ := and2 (show (notStar a && List.all [] notStar) = true from p2)
      match xs, h6, p1 with
      | .nil, h6, _ => cases h6
      | .cons x .nil, _, p1 => exact sn_index (by omega) ho p1 h3 h4 s1
      | .cons x (.cons _ _), h6, _ =>
        obtain ⟨_, h6⟩ := and2 h6
        cases h6
    | upper =>
      have e : args = [] := by simpa using h7
      subst e
      cases xs with
      | nil => exact sn_upper ho h3 h4
      | cons _ _ => cases h6
    | setdef => cases h7
  | _ => cases h
theorem stepE_ok (R : RecOk T C k rec) : RecOk T C k (stepE T rec) := by
  intro X c e x A h
  have hu := A.units
  cases e with
  | Name n p =>
    cases x with
    | var i =>
      obtain ⟨h, h3⟩ := and2 h
      obtain ⟨h1, h2⟩ := and2 h
      have h1 : c.N[i]? = some n := of_decide_eq_true h1
      obtain ⟨d1, d2, d3⟩ := dbg_ h3
      exact .val (sn_var (by rw [A.N]; exact h1) (A.vis_ h2) d1 d2) rfl
    | int j =>
      obtain ⟨h, h3⟩ := and2 h
      obtain ⟨h1, h2⟩ := and2 h
      obtain ⟨d1, d2, d3⟩ := dbg_ h2
      obtain ⟨t, ht⟩ := A.ci_ _ (of_decide_eq_true h3)
      exact .val (weakE (pe_glob (v := .int j) (A.gl_ h1) ht ⟨t, rfl⟩ d1) fun σ H Q ⟨env, st, mp, er, sr, h⟩ => pure_inv sr h (.int j)) rfl
    | str z =>
      obtain ⟨h, h3⟩ := and2 h
      obtain ⟨h1, h2⟩ := and2 h
      obtain ⟨d1, d2, d3⟩ := dbg_ h2
      obtain ⟨t, ht⟩ := A.cs_ _ (of_decide_eq_true h3)
      exact .val (weakE (pe_glob (v := .str z) (A.gl_ h1) ht ⟨t, rfl⟩ d1) fun σ H Q ⟨env, st, mp, er, sr, h⟩ => pure_inv sr h (.str z)) rfl
    | _ => cases h
  | Constant v j p =>
    cases v with
    | none => cases x <;> first | exact .val sn_none rfl | cases h
    | bool b =>
      cases x with
      | bool d =>
        have h : (b == d) = true := h
        have h : b = d := by simpa using h
        subst h
        exact .val sn_bool rfl
      | _ => cases h
    | int i =>
      cases x with
      | int d =>
        have h : i = d := of_decide_eq_true h
        subst h
        exact .val sn_int rfl
      | _ => cases h
    | str i =>
      cases x with
      | str d =>
        have h : i = d := of_decide_eq_true h
        subst h
        exact .val sn_str rfl
      | _ => cases h
    | _ => cases x <;> cases h
  | Tuple es j p =>
    cases x with
    | tup xs => exact .val (sn_tup (es_ok A R h).1) rfl
    | _ => cases h
  | List es p =>
    cases x with
    | lst xs => exact .val (sn_lst (es_ok A R h).1) rfl
    | _ => cases h
  | BinOp a op b p =>
    cases x with
    | bin o y z =>
      obtain ⟨h, h3⟩ := and2 h
      obtain ⟨h1, h2⟩ := and2 h
      exact .val (sn_bin (bin_ok A h1) (R _ _ _ _ A h2).1 (R _ _ _ _ A h3).1) rfl
    | _ => cases h
  | UnaryOp op a p =>
    cases op with
    | Not =>
      cases x with
      | not y =>
        obtain ⟨h1, h2⟩ := and2 h
        obtain ⟨p1, p2⟩ := R _ _ _ _ A h2
        exact ⟨sn_not p1, fun _ => tt_not (p2 h1)⟩
      | _ => cases h
    | USub =>
      cases x with
      | neg y => exact .val (sn_neg (R _ _ _ _ A h).1) rfl
      | _ => cases h
    | _ => cases x <;> cases h
  | BoolOp op es p =>
    obtain ⟨p1, p2⟩ := bool_ok A R (pos := p) h
    exact ⟨p1, fun _ => p2.pt⟩
  | Compare a ops bs p =>
    match ops, bs, x, h with
    | [op], [b], .cmp o y z, h =>
      obtain ⟨h, h4⟩ := and2 h
      obtain ⟨h, h3⟩ := and2 h
      obtain ⟨h1, h2⟩ := and2 h
      have ho := cmp_ok A h1
      exact ⟨sn_cmp ho (R _ _ _ _ A h3).1 (R _ _ _ _ A h4).1 (marks_of h2), fun _ => tt_cmp ho (R _ _ _ _ A h3).1 (R _ _ _ _ A h4).1 (marks_of h2)⟩
    | [op, op2], [b, d], .chain o o2 y z w, h =>
      obtain ⟨h, h7⟩ := and2 h
      obtain ⟨h, h6⟩ := and2 h
      obtain ⟨h, h5⟩ := and2 h
      obtain ⟨h, h4⟩ := and2 h
      obtain ⟨h, h3⟩ := and2 h
      obtain ⟨h1, h2⟩ := and2 h
      have hm : lastMarks [op, op2] [b, d] = false := marks_of h4
      exact ⟨sn_chain (cmp_ok A h1) (cmp_ok A h2) (R _ _ _ _ A h5).1 (R _ _ _ _ A h6).1 (R _ _ _ _ A h7).1 hm, fun _ => tt_chain (cmp_ok A h1) (cmp_ok A h2) (R _ _ _ _ A h5).1 (R _ _ _ _ A h6).1 (R _ _ _ _ A h7).1 hm⟩
  | IfExp q a b p =>
    cases x with
    | ite y z w =>
      obtain ⟨h, h4⟩ := and2 h
      obtain ⟨h, h3⟩ := and2 h
      obtain ⟨h1, h2⟩ := and2 h
      exact ⟨sn_ite ((R _ _ _ _ A h2).2 h1) (R _ _ _ _ A h3).1 (R _ _ _ _ A h4).1, fun z => nomatch z⟩
    | _ => cases h
  | Subscript a i p =>
    cases x with
    | ix y z =>
      obtain ⟨h, h3⟩ := and2 h
      obtain ⟨h1, h2⟩ := and2 h
      exact .val (sn_ix (by omega) (R _ _ _ _ A h2).1 (R _ _ _ _ A h3).1 h1) rfl
    | sl y lo hi =>
      cases i with
      | Slice l hh st p2 =>
        cases st with
        | none =>
          obtain ⟨h, h3⟩ := and2 h
          obtain ⟨h1, h2⟩ := and2 h
          exact .val (sn_sl (R _ _ _ _ A h1).1 (oe_ok A R h2) (oe_ok A R h3)) rfl
        | some _ => cases h
      | _ => cases h
    | rev y =>
      simp only [stepE] at h
      split at h
      · exact .val (sn_rev (R _ _ _ _ A h).1) rfl
      · cases h
    | _ => cases h
  | Call f args kws p =>
    cases f with
    | Name n p2 => exact .val (call_ok A R h) rfl
    | Attribute o m p2 => exact .val (meth_ok A R h) rfl
    | _ => cases h
  | ListComp elt gs scope p =>
    match gs, x, h with
    | [⟨tg, iter, ifs, a⟩], .lc t it oc e own, h =>
      obtain ⟨h1, h2⟩ := and2 h
      have h1 : a = 0 := by simpa using h1
      subst h1
      have L := lc_ok A R h2
      have z := sn_lc (pos := p) A.calm A.nd L.hi L.ok L.hg L.ht L.he L.hs L.hix
      rw [own_map] at z
      exact .val z rfl
  | Dict ks vs p =>
    obtain ⟨h, h3⟩ := and2 h
    obtain ⟨h1, h2⟩ := and2 h
    obtain rfl := List.isEmpty_iff.mp h1
    obtain rfl := List.isEmpty_iff.mp h2
    cases x with
    | dic0 => exact .val sn_dic0 rfl
    | _ => cases h3
  | DictComp kx vx gs scope p =>
    match gs, x, h with
    | [⟨tg, iter, ifs, a⟩], .dc t it ke ve own, h =>
      obtain ⟨h, h3⟩ := and2 h
      obtain ⟨h1, h2⟩ := and2 h
      have h1 : a = 0 := by simpa using h1
      subst h1
      obtain rfl := List.isEmpty_iff.mp h2
      obtain ⟨L, he⟩ := dc_ok A R h3
      have z := sn_dc (pos := p) A.calm A.nd L.hi L.ok L.hg L.he he L.hs L.hix
      rw [own_map] at z
      exact .val z rfl
  | _ => cases h
theorem ckE_ok : ∀ n : Nat, RecOk T C k (ckE T n)
  | 0 => fun X c e x A h => nomatch h
  | n + 1 => stepE_ok (ckE_ok n)
end
end MP
set_option Elab.async false
set_option linter.all false
set_option maxRecDepth 100000
/-! The checker: statements. -/
namespace MP
open PySem PySem.Spec PyProof.Rows L2

/-- a plain local name, on that line -/
def locAt (c : Cv) (l : Nat) : Expr → Bool
  | .Name n p => c.loc n && (p.line == l)
  | _ => false
/-- nothing is exchanged -/
def swNone (c : Cv) (ts : List Expr) (v : Expr) : Bool := match v with
  | .Tuple vs _ _ => !(ts.length == 2 || ts.length == 3) || !(ts.all (locAt c ((ts.head?.map (·.pos.line)).getD 0))) || vs.all (foldedForSure 8)
  | _ => true
def litOk (vs : List Expr) : Bool := !vs.all (foldedForSure 8) && !vs.all (constantsAlone 8)
def noShadow (scope : Scope) (n : Str) : Bool := !(scope.names.any fun (m, k) => m == n && (k == .local || k == .cell))
section
variable (T : Tab) (rec : Rec) (recS : Cv → List Stmt → Ss → Bool)
def stepS (c : Cv) (s : Stmt) (x : S) : Bool := match s with
  | .Assign ts v pos => (match ts, x with
    | [.Name n p], .set i e => decide (c.N[i]? = some n) && c.sto n && (match v, e with
      | .ListComp elt gs scope cp, .lc t it oc e own => (match gs with
        | [⟨tg, iter, ifs, a⟩] => (a == 0) && ckLc T rec c elt tg iter ifs scope t it oc e own && ((!c.loc n) || !(p.line == cp.line) || noShadow scope n)
        | _ => false)
      | .DictComp kx vx gs scope cp, .dc t it ke ve own => (match gs with
        | [⟨tg, iter, ifs, a⟩] => (a == 0) && ifs.isEmpty && ckDc T rec c kx vx tg iter scope t it ke ve own && ((!c.loc n) || !(p.line == cp.line) || noShadow scope n)
        | _ => false)
      | v, e => !isComp v && rec c v e)
    | [.Tuple es _ _], .unp tg e => ckTg c 5 (.Tuple es 0 pos) (.tp tg) && rec c v e && swNone c es v
    | [.Tuple [.Name n1 p1, .Name n2 p2] _ _], .par [i, j] (.cons y (.cons z .nil)) => (match v with
      | .Tuple [a, b] _ _ => decide (c.N[i]? = some n1) && decide (c.N[j]? = some n2) && decide (n1 ≠ n2) && c.loc n1 && c.loc n2 && (p2.line == p1.line) && litOk [a, b] && notStar a && notStar b && rec c a y && rec c b z
      | _ => false)
    | [.Tuple [.Name n1 p1, .Name n2 p2, .Name n3 p3] _ _], .par [i, j, l] (.cons y (.cons z (.cons w .nil))) => (match v with
      | .Tuple [a, b, d] _ _ => decide (c.N[i]? = some n1) && decide (c.N[j]? = some n2) && decide (c.N[l]? = some n3) && decide (n1 ≠ n2) && decide (n1 ≠ n3) && decide (n2 ≠ n3) && c.loc n1 && c.loc n2 && c.loc n3 && (p2.line == p1.line) && (p3.line == p1.line) && litOk [a, b, d] && notStar a && notStar b && notStar d && rec c a y && rec c b z && rec c d w
      | _ => false)
    | [.Subscript o i _], .setix y z w => noSlice i && rec c o y && rec c i z && rec c v w
    | _, _ => false)
  | .AugAssign (.Name n _) op v _ => (match op, x with
    | .Add, .aug i .add y => decide (c.N[i]? = some n) && c.sto n && rec c v y
    | .Mult, .aug i .mul y => decide (c.N[i]? = some n) && c.sto n && rec c v y
    | _, _ => false)
  | .Expr e _ => (match x with
    | .ex y => !isComp e && rec c e y
    | .pass => (match e with
      | .Constant (.str _) _ _ => true
      | _ => false)
    | _ => false)
  | .Pass _ => (match x with
    | .pass => true
    | _ => false)
  | .Raise _ _ _ => (match x with
    | .raise _ _ => true
    | _ => false)
  | .Return o _ => (match o, x with
    | some e, .ret y => rec c e y
    | none, .ret0 => true
    | _, _ => false)
  | .If q a b _ => (match x with
    | .ifs y r r2 => notIf q && rec c q y && recS c a r && recS c b r2
    | _ => false)
  | .While q b o _ => (match x with
    | .whl y r => o.isEmpty && notIf q && rec c q y && recS c b r
    | _ => false)
  | .For tg it b o _ => (match x with
    | .loop t i r => o.isEmpty && notSet it && ckIt T rec c tg it i && ckTg c 5 tg t && recS c b r
    | _ => false)
  | _ => false
def ckLs (c : Cv) : List Stmt → Ss → Bool
  | [], .nil => true
  | s :: r, .cons x y => stepS T rec recS c s x && ckLs c r y
  | _, _ => false
end
def ckS (T : Tab) (n : Nat) : Nat → Cv → List Stmt → Ss → Bool
  | 0 => fun _ _ _ => false
  | m + 1 => fun c ss x => ckLs T (ckE T n) (ckS T n m) c ss x

section
variable {T : Tab} {C : Cfg} {F k : Nat} {X : Cx} {c : Cv} {rec : Rec}
theorem kindOf_ (A : At T C k X c) {n : Str} : X.env.kindOf n = c.sc.names.lookup n := by
  show X.env.scope.names.lookup n = _
  rw [A.sc]
theorem block_ (A : At T C k X c) (hk : c.sc.kind = .function) : X.env.blockKind = .function := by
  unfold Env.blockKind
  rw [A.sc, hk]; rfl
theorem filterMap_short {α β : Type} {f : α → Option β} : ∀ {l : List α}, (∃ a ∈ l, f a = none) → (l.filterMap f).length < l.length
  | [], h => by obtain ⟨a, h, _⟩ := h; cases h
  | a :: l, h => by
    obtain ⟨b, hb, e⟩ := h
    rw [List.filterMap_cons]
    rcases List.mem_cons.mp hb with rfl | hb
    · rw [e]
      exact Nat.lt_succ_of_le (List.length_filterMap_le f l)
    · have ih := filterMap_short ⟨b, hb, e⟩
      cases f a with
      | none => show (l.filterMap f).length < l.length + 1; omega
      | some y => show (l.filterMap f).length + 1 < l.length + 1; omega
theorem swNone_ok (A : At T C k X c) {es : List Expr} {j : Nat} {p : Pos} {v : Expr} (h : swNone c es v = true) : swappedStores [.Tuple es j p] v X.env = pure none := by
  cases v with
  | Tuple vs j2 p2 =>
    unfold swNone at h
    unfold swappedStores
    simp only [pure_bind]
    split
    · rfl
    · next h1 =>
      split
      · rfl
      · split
        · rfl
        · next h3 =>
          split
          · rfl
          · next h4 =>
            exfalso
            rcases Bool.or_eq_true_iff.mp h with h | h
            · rcases Bool.or_eq_true_iff.mp h with h | h
              · rw [h] at h1
                exact h1 rfl
              · have h : es.all (locAt c ((es.head?.map (·.pos.line)).getD 0)) = false := by simpa using h
                obtain ⟨e, he, hl⟩ := List.all_eq_false.mp h
                have hs := filterMap_short (f := fun (e : Expr) => match e with
                  | .Name id pos => if (X.env.kindOf id == some .local && pos.line == (es.head?.map (·.pos.line)).getD 0) = true then some id else none
                  | _ => none) (l := es) ⟨e, he, by
                    cases e with
                    | Name n q =>
                      have hl : ¬ (c.loc n && (q.line == (es.head?.map (·.pos.line)).getD 0)) = true := hl
                      show (if (X.env.kindOf n == some .local && q.line == (es.head?.map (·.pos.line)).getD 0) = true then some n else none) = none
                      rw [if_neg]
                      intro hz
                      obtain ⟨z1, z2⟩ := and2 hz
                      have z1 : X.env.kindOf n = some .local := by simpa using z1
                      rw [kindOf_ A] at z1
                      exact hl (by unfold Cv.loc; rw [z1, z2]; rfl)
                    | _ => rfl⟩
                refine h3 (Bool.or_eq_true_iff.mpr (.inl ?_))
                rw [bne_iff_ne]
                exact Nat.ne_of_lt hs
            · exact h4 h
  | _ => rfl
theorem sw2_ok (A : At T C k X c) (hk : c.sc.kind = .function) {n1 n2 : Str} {p1 p2 pt pt2 : Pos} {kt k2 : Nat} {a b : Expr} (l1 : c.loc n1 = true) (l2 : c.loc n2 = true) (hl : (p2.line == p1.line) = true) (hne : n1 ≠ n2) (hv : litOk [a, b] = true) (s1 : notStar a = true) (s2 : notStar b = true) :
    swappedStores [.Tuple [.Name n1 p1, .Name n2 p2] kt pt] (.Tuple [a, b] k2 pt2) X.env = pure (some [n1, n2]) := by
  have hb := block_ A hk
  have k1 : X.env.kindOf n1 = some .local := by rw [kindOf_ A]; exact of_decide_eq_true l1
  have k2 : X.env.kindOf n2 = some .local := by rw [kindOf_ A]; exact of_decide_eq_true l2
  obtain ⟨v1, v2⟩ := and2 hv
  have v1 : ([a, b].all (foldedForSure 8)) = false := (Bool.not_eq_true' _).mp v1
  have v2 : ([a, b].all (constantsAlone 8)) = false := (Bool.not_eq_true' _).mp v2
  have hl : p2.line = p1.line := by simpa using hl
  have he : ([n1, n2] : List Str).eraseDups = [n1, n2] := by
    have b1 : (n2 == n1) = false := beq_eq_false_iff_ne.mpr (Ne.symm hne)
    simp only [List.eraseDups_cons, List.filter_cons, List.filter_nil, b1, Bool.not_false, if_true, List.eraseDups_nil]
  unfold swappedStores
  simp only [pure_bind, hb, List.filterMap_cons, List.filterMap_nil, k1, k2, List.head?_cons, Option.map_some, Option.getD_some, Expr.pos, hl, beq_self_eq_true, Bool.and_self, if_true, v1, v2, he, List.length_cons, List.length_nil, bne_self_eq_false, Bool.or_self, Bool.false_eq_true, if_false]
  rw [if_neg (by decide), if_neg]
  intro hst
  obtain ⟨x, hx, hx2⟩ := List.any_eq_true.mp hst
  have hns : notStar x = true := by
    rcases List.mem_cons.mp hx with rfl | hx
    · exact s1
    · rcases List.mem_cons.mp hx with rfl | hx
      · exact s2
      · cases hx
  cases x <;> first | (cases hns; done) | cases hx2
theorem sw3_ok (A : At T C k X c) (hk : c.sc.kind = .function) {n1 n2 n3 : Str} {p1 p2 p3 pt pt2 : Pos} {kt k2 : Nat} {a b d : Expr} (l1 : c.loc n1 = true) (l2 : c.loc n2 = true) (l3 : c.loc n3 = true) (hl : (p2.line == p1.line) = true) (hl3 : (p3.line == p1.line) = true) (hne : n1 ≠ n2) (hne2 : n1 ≠ n3) (hne3 : n2 ≠ n3) (hv : litOk [a, b, d] = true)
    (s1 : notStar a = true) (s2 : notStar b = true) (s3 : notStar d = true) :
    swappedStores [.Tuple [.Name n1 p1, .Name n2 p2, .Name n3 p3] kt pt] (.Tuple [a, b, d] k2 pt2) X.env = pure (some [n1, n2, n3]) := by
  have hb := block_ A hk
  have k1 : X.env.kindOf n1 = some .local := by rw [kindOf_ A]; exact of_decide_eq_true l1
  have k2 : X.env.kindOf n2 = some .local := by rw [kindOf_ A]; exact of_decide_eq_true l2
  have k3 : X.env.kindOf n3 = some .local := by rw [kindOf_ A]; exact of_decide_eq_true l3
  obtain ⟨v1, v2⟩ := and2 hv
  have v1 : ([a, b, d].all (foldedForSure 8)) = false := (Bool.not_eq_true' _).mp v1
  have v2 : ([a, b, d].all (constantsAlone 8)) = false := (Bool.not_eq_true' _).mp v2
  have hl : p2.line = p1.line := by simpa using hl
  have hl3 : p3.line = p1.line := by simpa using hl3
  have he : ([n1, n2, n3] : List Str).eraseDups = [n1, n2, n3] := by
    have b1 : (n2 == n1) = false := beq_eq_false_iff_ne.mpr (Ne.symm hne)
    have b2 : (n3 == n1) = false := beq_eq_false_iff_ne.mpr (Ne.symm hne2)
    have b3 : (n3 == n2) = false := beq_eq_false_iff_ne.mpr (Ne.symm hne3)
    simp only [List.eraseDups_cons, List.filter_cons, List.filter_nil, b1, b2, b3, Bool.not_false, if_true, List.eraseDups_nil]
  unfold swappedStores
  simp only [pure_bind, hb, List.filterMap_cons, List.filterMap_nil, k1, k2, k3, List.head?_cons, Option.map_some, Option.getD_some, Expr.pos, hl, hl3, beq_self_eq_true, Bool.and_self, if_true, v1, v2, he, List.length_cons, List.length_nil, bne_self_eq_false, Bool.or_self, Bool.false_eq_true, if_false]
  rw [if_neg (by decide), if_neg]
  intro hst
  obtain ⟨x, hx, hx2⟩ := List.any_eq_true.mp hst
  have hns : notStar x = true := by
    rcases List.mem_cons.mp hx with rfl | hx
    · exact s1
    · rcases List.mem_cons.mp hx with rfl | hx
      · exact s2
      · rcases List.mem_cons.mp hx with rfl | hx
        · exact s3
        · cases hx
  cases x <;> first | (cases hns; done) | cases hx2
end
/-- statements of a def's body -/
def RecSOk (T : Tab) (C : Cfg) (F k : Nat) (recS : Cv → List Stmt → Ss → Bool) : Prop := ∀ X c ss x, At T C k X c → c.sc.kind = .function → c.own = none → PassesOwn (model X.prog X.w) X.A X.env X.xe → recS c ss x = true → PSs X ss (LSs X.K C F x)
section
variable {T : Tab} {C : Cfg} {F k : Nat} {X : Cx} {c : Cv} {rec : Rec} {recS : Cv → List Stmt → Ss → Bool}
theorem N_ (A : At T C k X c) {i : Nat} {n : Str} (h : decide (c.N[i]? = some n) = true) : X.N[i]? = some n := by rw [A.N]; exact of_decide_eq_true h
theorem ne_idx {N : List Str} {i j : Nat} {n m : Str} (h1 : N[i]? = some n) (h2 : N[j]? = some m) (h : n ≠ m) : i ≠ j := fun e => h (by subst e; rw [h1] at h2; exact Option.some.inj h2)
theorem set_ok (A : At T C k X c) (R : RecOk T C k rec) {n : Str} {p pos : Pos} {i : Nat} {v : Expr} {e : E} (hk : c.sc.kind = .function) (h1 : X.N[i]? = some n) (h2 : c.sto n = true) (h : (match v, e with
      | .ListComp elt gs scope cp, .lc t it oc e own => (match gs with
        | [⟨tg, iter, ifs, a⟩] => (a == 0) && ckLc T rec c elt tg iter ifs scope t it oc e own && ((!c.loc n) || !(p.line == cp.line) || noShadow scope n)
        | _ => false)
      | .DictComp kx vx gs scope cp, .dc t it ke ve own => (match gs with
        | [⟨tg, iter, ifs, a⟩] => (a == 0) && ifs.isEmpty && ckDc T rec c kx vx tg iter scope t it ke ve own && ((!c.loc n) || !(p.line == cp.line) || noShadow scope n)
        | _ => false)
      | v, e => !isComp v && rec c v e) = true) : PS X (.Assign [.Name n p] v pos) (LS X.K C F (.set i e)) := by
  obtain ⟨s1, s2⟩ := A.sto_ h2
  split at h
  · next elt gs scope cp t it oc e own =>
    split at h
    · next tg iter ifs a =>
      obtain ⟨h, h5⟩ := and2 h
      obtain ⟨h3, h4⟩ := and2 h
      have h3 : a = 0 := by simpa using h3
      subst h3
      have L := lc_ok A R h4
      by_cases hs : c.loc n = true ∧ (p.line == cp.line) = true
      · obtain ⟨q1, q2⟩ := hs
        rw [q1, q2] at h5
        have h5 : noShadow scope n = true := h5
        have hsh : (scope.names.any fun (m, k) => m == n && (k == .local || k == .cell)) = false := (Bool.not_eq_true' _).mp h5
        have z := ss_setLc (F := F) (pos := pos) (p2 := p) A.calm A.nd h1 (A.loc_ q1) (sw_true (l := pos.line) (by rw [A.sc]; exact hk) (A.loc_ q1) q2 hsh) L.hi L.ok L.hg L.ht L.he L.hs L.hix
        rw [own_map] at z
        exact z
      · have z := sn_lc (pos := cp) A.calm A.nd L.hi L.ok L.hg L.ht L.he L.hs L.hix
        rw [own_map] at z
        refine ss_set A.nd h1 s1 s2 z ?_
        unfold swapsWith
        simp only [pure_bind]
        have e0 : (X.env.blockKind == .function && X.env.kindOf n == some .local && p.line == cp.line && !(scope.names.any fun (m, k) => m == n && (k == .local || k == .cell))) = false := by
          rw [kindOf_ A]
          by_cases q1 : c.loc n = true
          · have q2 : (p.line == cp.line) = false := by
              cases q : (p.line == cp.line) with
              | true => exact absurd ⟨q1, q⟩ hs
              | false => rfl
            rw [q2, Bool.and_false, Bool.false_and]
          · have q3 : (c.sc.names.lookup n == some .local) = false := by
              cases q : (c.sc.names.lookup n == some .local) with
              | true => exact absurd (by unfold Cv.loc; simpa using q) q1
              | false => rfl
            rw [q3, Bool.and_false, Bool.false_and, Bool.false_and]
        show (pure _ : Sem Bool) = pure false
        exact congrArg pure e0
    · cases h
  · next kx vx gs scope cp t it ke ve own =>
    split at h
    · next tg iter ifs a =>
      obtain ⟨h, h5⟩ := and2 h
      obtain ⟨h, h4⟩ := and2 h
      obtain ⟨h3, h6⟩ := and2 h
      have h3 : a = 0 := by simpa using h3
      subst h3
      obtain rfl := List.isEmpty_iff.mp h6
      obtain ⟨L, he⟩ := dc_ok A R h4
      by_cases hs : c.loc n = true ∧ (p.line == cp.line) = true
      · obtain ⟨q1, q2⟩ := hs
        rw [q1, q2] at h5
        have h5 : noShadow scope n = true := h5
        have hsh : (scope.names.any fun (m, k) => m == n && (k == .local || k == .cell)) = false := (Bool.not_eq_true' _).mp h5
        have z := ss_setDc (F := F) (pos := pos) (p2 := p) A.calm A.nd h1 (A.loc_ q1) (swd_true (l := pos.line) (by rw [A.sc]; exact hk) (A.loc_ q1) q2 hsh) L.hi L.ok L.hg L.he he L.hs L.hix
        rw [own_map] at z
        exact z
      · have z := sn_dc (pos := cp) A.calm A.nd L.hi L.ok L.hg L.he he L.hs L.hix
        rw [own_map] at z
        refine ss_set A.nd h1 s1 s2 z ?_
        unfold swapsWith
        simp only [pure_bind]
        have e0 : (X.env.blockKind == .function && X.env.kindOf n == some .local && p.line == cp.line && !(scope.names.any fun (m, k) => m == n && (k == .local || k == .cell))) = false := by
          rw [kindOf_ A]
          by_cases q1 : c.loc n = true
          · have q2 : (p.line == cp.line) = false := by
              cases q : (p.line == cp.line) with
              | true => exact absurd ⟨q1, q⟩ hs
              | false => rfl
            rw [q2, Bool.and_false, Bool.false_and]
          · have q3 : (c.sc.names.lookup n == some .local) = false := by
              cases q : (c.sc.names.lookup n == some .local) with
              | true => exact absurd (by unfold Cv.loc; simpa using q) q1
              | false => rfl
            rw [q3, Bool.and_false, Bool.false_and, Bool.false_and]
        show (pure _ : Sem Bool) = pure false
        exact congrArg pure e0
    · cases h
  · obtain ⟨h3, h4⟩ := and2 h
    exact ss_set A.nd h1 s1 s2 (R _ _ _ _ A h4).1 (sw_plain ((Bool.not_eq_true' _).mp h3) _ _ _)
theorem stepS_ok (A : At T C k X c) (R : RecOk T C k rec) (RS : RecSOk T C F k recS) (hk : c.sc.kind = .function) (ho : c.own = none) (hp : PassesOwn (model X.prog X.w) X.A X.env X.xe) {s : Stmt} {x : S} (h : stepS T rec recS c s x = true) : PS X s (LS X.K C F x) := by
  have hu := A.units
  cases s with
  | Assign ts v pos =>
    simp only [stepS] at h
    split at h
    · obtain ⟨h, h3⟩ := and2 h
      obtain ⟨h1, h2⟩ := and2 h
      exact set_ok A R hk (N_ A h1) h2 h3
    · obtain ⟨h, h3⟩ := and2 h
      obtain ⟨h1, h2⟩ := and2 h
      refine ss_unp ?_ (R _ _ _ _ A h2).1 (swNone_ok A h3)
      exact tg_ok A 5 h1
    · split at h
      · obtain ⟨h, h11⟩ := and2 h
        obtain ⟨h, h10⟩ := and2 h
        obtain ⟨h, h9⟩ := and2 h
        obtain ⟨h, h8⟩ := and2 h
        obtain ⟨h, h7⟩ := and2 h
        obtain ⟨h, h6⟩ := and2 h
        obtain ⟨h, h5⟩ := and2 h
        obtain ⟨h, h4⟩ := and2 h
        obtain ⟨h, h3⟩ := and2 h
        obtain ⟨h1, h2⟩ := and2 h
        have h3 := of_decide_eq_true h3
        exact ss_par2 A.calm A.nd (N_ A h1) (N_ A h2) (ne_idx (N_ A h1) (N_ A h2) h3) (A.loc_ h4) (A.loc_ h5) (R _ _ _ _ A h10).1 (R _ _ _ _ A h11).1 h8 h9 (sw2_ok A hk h4 h5 h6 h3 h7 h8 h9)
      · cases h
    · split at h
      · obtain ⟨h, h18⟩ := and2 h
        obtain ⟨h, h17⟩ := and2 h
        obtain ⟨h, h16⟩ := and2 h
        obtain ⟨h, h15⟩ := and2 h
        obtain ⟨h, h14⟩ := and2 h
        obtain ⟨h, h13⟩ := and2 h
        obtain ⟨h, h12⟩ := and2 h
        obtain ⟨h, h11⟩ := and2 h
        obtain ⟨h, h10⟩ := and2 h
        obtain ⟨h, h9⟩ := and2 h
        obtain ⟨h, h8⟩ := and2 h
        obtain ⟨h, h7⟩ := and2 h
        obtain ⟨h, h6⟩ := and2 h
        obtain ⟨h, h5⟩ := and2 h
        obtain ⟨h, h4⟩ := and2 h
        obtain ⟨h, h3⟩ := and2 h
        obtain ⟨h1, h2⟩ := and2 h
        have h4 := of_decide_eq_true h4
        have h5 := of_decide_eq_true h5
        have h6 := of_decide_eq_true h6
        exact ss_par3 A.calm A.nd (N_ A h1) (N_ A h2) (N_ A h3) (ne_idx (N_ A h1) (N_ A h2) h4) (ne_idx (N_ A h1) (N_ A h3) h5) (ne_idx (N_ A h2) (N_ A h3) h6) (A.loc_ h7) (A.loc_ h8) (A.loc_ h9) (R _ _ _ _ A h16).1 (R _ _ _ _ A h17).1 (R _ _ _ _ A h18).1 h13 h14 h15
          (sw3_ok A hk h7 h8 h9 h10 h11 h4 h5 h6 h12 h13 h14 h15)
      · cases h
    · obtain ⟨h, h4⟩ := and2 h
      obtain ⟨h, h3⟩ := and2 h
      obtain ⟨h1, h2⟩ := and2 h
      exact ss_setix (by omega) (R _ _ _ _ A h2).1 (R _ _ _ _ A h3).1 (R _ _ _ _ A h4).1 h1
    · cases h
  | AugAssign t op v pos =>
    cases t with
    | Name n p =>
      simp only [stepS] at h
      split at h
      · obtain ⟨h, h3⟩ := and2 h
        obtain ⟨h1, h2⟩ := and2 h
        obtain ⟨s1, s2⟩ := A.sto_ h2
        exact ss_aug aug_add A.nd (N_ A h1) s1 s2 (R _ _ _ _ A h3).1
      · obtain ⟨h, h3⟩ := and2 h
        obtain ⟨h1, h2⟩ := and2 h
        obtain ⟨s1, s2⟩ := A.sto_ h2
        exact ss_aug aug_mul A.nd (N_ A h1) s1 s2 (R _ _ _ _ A h3).1
      · cases h
    | _ => cases h
  | Expr e pos =>
    cases x with
    | ex y =>
      obtain ⟨h1, h2⟩ := and2 h
      exact ss_ex (R _ _ _ _ A h2).1 ((Bool.not_eq_true' _).mp h1)
    | pass =>
      simp only [stepS] at h
      split at h
      · exact ss_doc
      · cases h
    | _ => cases h
  | Pass pos =>
    cases x with
    | pass => exact ss_pass
    | _ => cases h
  | Raise e1 e2 pos =>
    cases x with
    | raise n es => exact ⟨fun pins s σ H D I ⟨env, st, mp, er, sr, h⟩ => False.elim h⟩
    | _ => cases h
  | Return o pos =>
    cases o with
    | none =>
      cases x with
      | ret0 => exact ss_ret0
      | _ => cases h
    | some e =>
      cases x with
      | ret y => exact ss_ret (R _ _ _ _ A h).1
      | _ => cases h
  | If q a b pos =>
    cases x with
    | ifs y r r2 =>
      obtain ⟨h, h4⟩ := and2 h
      obtain ⟨h, h3⟩ := and2 h
      obtain ⟨h1, h2⟩ := and2 h
      exact ss_if ((R _ _ _ _ A h2).2 h1) (RS _ _ _ _ A hk ho hp h3) (RS _ _ _ _ A hk ho hp h4)
    | _ => cases h
  | While q b o pos =>
    cases x with
    | whl y r =>
      obtain ⟨h, h4⟩ := and2 h
      obtain ⟨h, h3⟩ := and2 h
      obtain ⟨h1, h2⟩ := and2 h
      have h1 : o = [] := by simpa using h1
      subst h1
      exact ss_while hp ((R _ _ _ _ A h3).2 h2) (RS _ _ _ _ A hk ho hp h4)
    | _ => cases h
  | For tg it b o pos =>
    cases x with
    | loop t i r =>
      obtain ⟨h, h5⟩ := and2 h
      obtain ⟨h, h4⟩ := and2 h
      obtain ⟨h, h3⟩ := and2 h
      obtain ⟨h1, h2⟩ := and2 h
      have h1 : o = [] := by simpa using h1
      subst h1
      exact ss_for hp A.calm (it_ok A R h3) (tg_ok A 5 h4) (RS _ _ _ _ A hk ho hp h5) (fold_of h2 _)
    | _ => cases h
  | _ => cases h
theorem ckLs_ok (A : At T C k X c) (R : RecOk T C k rec) (RS : RecSOk T C F k recS) (hk : c.sc.kind = .function) (ho : c.own = none) (hp : PassesOwn (model X.prog X.w) X.A X.env X.xe) : ∀ {ss : List Stmt} {x : Ss}, ckLs T rec recS c ss x = true → PSs X ss (LSs X.K C F x)
  | [], .nil, _ => ss_nil
  | [], .cons _ _, h => nomatch h
  | _ :: _, .nil, h => nomatch h
  | s :: r, .cons x y, h => by
    obtain ⟨h1, h2⟩ := and2 h
    exact ss_cons (stepS_ok A R RS hk ho hp h1) (ckLs_ok A R RS hk ho hp h2)
theorem ckS_ok (n : Nat) : ∀ m : Nat, RecSOk T C F k (ckS T n m)
  | 0 => fun X c ss x A hk ho hp h => nomatch h
  | m + 1 => fun X c ss x A hk ho hp h => ckLs_ok A (ckE_ok n) (ckS_ok n m) hk ho hp h
end
end MP
set_option Elab.async false
set_option linter.all false
set_option maxRecDepth 100000
/-! From the small language's law to the row. -/
namespace MP
open PySem PySem.Spec PyProof.Rows L2

/-- the law's promise at the heap behind the top, where the def's promise asks that no guard stands -/
theorem law_callG {P : Program} {w : World} {K : PySem.W.Frag} {mg mb : Str → Option Value} {k : Nat} {fa a : Addr} {fd : FuncData} {x : Str} {sp : Sp} {s₁ : Shared} {vs : List Value} {ns : List Int}
    (KX : K.In s₁.heap) (hns : s₁.heap.Ns mainGlobals mg) (hb : s₁.heap.Ns builtinsNs mb) (hbb : ∀ x : Str, x ≠ "__name__" → mb x = bootBuiltins x) (hlim : s₁.heap.NoLimit) (hg : s₁.gens = #[])
    (ha : s₁.heap.get? a = some { cls := .type "list", data := .seq vs.toArray }) (hi : IntsAre vs ns) (hl : ns.length ≤ sizeLine) (hr : Room k callerA)
    (F : ∀ base : Heap, K.In base → base.Ns mainGlobals mg → FnG P w K mg base k fa fd [x] sp) (hbind : ∀ (s : Shared) (u : Value), BindsTo s fd ⟨[u], []⟩ [(x, u)])
    (hsp : ∀ H : Hp, Only H → SqL K H a (ns.map V.int) → sp [.ref a] H (fun v _ => v = .bl true) NoE) :
    codeAny (model P w) callerA (.call (.ref fa) ⟨[.ref a], []⟩) (fun r s' => r = .ok (.ret (.bool true)) ∧ OldK s₁.heap s'.heap ∧ s'.os = s₁.os ∧ AllBare s'.gens) s₁ := by
  have rv := vals_ints hi
  have lenV := hi.length
  have core : ∀ H : Hp, Only H → SqL K H a (ns.map V.int) → HOk P w H s₁.heap → (∀ b, H b ≠ none → b = a) → (H a ≠ none → K.lookup a = none) →
      codeAny (model P w) callerA (.call (.ref fa) ⟨[.ref a], []⟩) (fun r s' => r = .ok (.ret (.bool true)) ∧ OldK s₁.heap s'.heap ∧ s'.os = s₁.os ∧ AllBare s'.gens) s₁ := by
    intro H hO hS hok hA hK
    have base_of : ∀ {b : Addr} {o : Obj}, s₁.heap.get? b = some o → H b = none → (hidT s₁.heap H).get? b = some o := fun e n => hidT_get e n
    have noA : ∀ {b : Addr} {o : Obj} {es : Array DictEntry} {ep : Nat}, s₁.heap.get? b = some o → o.data = .dict es ep → H b = none := fun {b o es ep} e d => by
      cases q : H b with
      | none => rfl
      | some u =>
        have e' : b = a := hA b (by rw [q]; simp)
        subst e'
        rw [ha] at e; cases e
        have d' : Data.seq vs.toArray _ = Data.dict es ep := d
        cases d'
    have nsK : ∀ {b : Addr} {m : Str → Option Value}, s₁.heap.Ns b m → (hidT s₁.heap H).Ns b m := fun {b m} ⟨o, es, ep, e, d, r⟩ => ⟨o, es, ep, base_of e (noA e d), d, r⟩
    have hKb : K.In (hidT s₁.heap H) := fun b o e => base_of (KX b o e) (by
      cases q : H b with
      | none => rfl
      | some u =>
        have e' : b = a := hA b (by rw [q]; simp)
        subst e'
        rw [hK (by rw [q]; simp)] at e; cases e)
    have hM : Mod K mg (hidT s₁.heap H) := ⟨hKb, nsK hns, ⟨mb, nsK hb, hbb⟩, let ⟨mc, h1, h2⟩ := hlim; ⟨mc, nsK h1, h2⟩⟩
    have e0 : Env0 P w K mg (hidT s₁.heap H) callerA [] s₁ H := ⟨rfl, hM, fun b o e => of_hidT e, Nat.le_of_eq (hidT_size _ _), trivial, fun b hb => absurd (show b ∈ ([] : List Addr) from hb) (by simp), hok, .of_eq hg⟩
    refine codeAny_mono ((F _ hKb (nsK hns)).run callerA [] s₁ H ⟨[.ref a], []⟩ [.ref a] [.ref a] _ NoE hr rfl e0 (hbind s₁ (.ref a)) (.cons rfl .nil) (hsp H hO hS)) fun r s' h => ?_
    cases r with
    | error e =>
      obtain ⟨_, _, _, _, _, _, _, _, _, _, _, _, h⟩ := h
      exact False.elim h
    | ok fl =>
      cases fl with
      | next => exact False.elim h
      | brk => exact False.elim h
      | cont => exact False.elim h
      | ret u =>
        obtain ⟨v, H', os, bare, un, hok', r', q⟩ := h
        have q' : v = .bl true := q
        subst q'
        obtain rfl : u = Value.bool true := r'
        refine ⟨rfl, OldK.of_keep fun b o e => ?_, os, bare⟩
        cases q : H b with
        | none => exact un.keep b o e q (by intro z; exact absurd (show b ∈ ([] : List Addr) from z) (by simp)) (by simp)
        | some u =>
          rcases hO b with z | ⟨ob, xs, z⟩
          · rw [q] at z; cases z
          · have z2 := un.frzs b ob _ z
            obtain ⟨e1, _⟩ := hok b _ z
            obtain ⟨e2, _⟩ := hok' b _ z2
            rw [e] at e1; cases e1
            exact e2
  cases hk : K.lookup a with
  | some o =>
    have e := KX a o hk
    rw [ha] at e
    cases e
    refine core (fun _ => none) (fun _ => .inl rfl) (.inr ⟨_, vs.toArray, _, hk, rfl, rfl, rfl, by rw [List.size_toArray, lenV]; exact hl, by simpa using rv⟩) (fun b u z => by have z' : (none : Option HO) = some u := z; cases z') (fun b z => absurd rfl z) fun z => absurd rfl z
  | none =>
    refine core (fun b => if b = a then some (.frz { cls := .type "list", data := .seq vs.toArray } (.lst (ns.map V.int))) else none) (fun b => ?_) (.inl (.inr ⟨{ cls := .type "list", data := .seq vs.toArray }, if_pos rfl⟩)) (fun b u z => ?_) (fun b z => ?_) fun _ => hk
    · by_cases hb : b = a
      · exact .inr ⟨_, _, if_pos hb⟩
      · exact .inl (if_neg hb)
    · by_cases hb : b = a
      · have z' := (if_pos hb).symm.trans z
        cases z'
        subst hb
        exact ⟨ha, by rw [List.length_map]; exact hl, vs, _, rv, ha⟩
      · have z' := (if_neg hb).symm.trans z
        cases z'
    · by_cases hb : b = a
      · exact hb
      · exact absurd (if_neg hb) z
theorem walk_ofG {l : PySem.W.OpenLaw} {n k : Nat} {q : Program} {loose : List Str} {XP : (Str → Option Value) → Heap → Prop} {YP : World → Heap → Prop} {d : PySem.DefRec} {x : Str}
    (hn : l.most = some n) (hn2 : n ≤ sizeLine) (hdf : d.params.defaults = []) (hr : Room k callerA)
    (F : ∀ (w : World) (mg : Str → Option Value) (fa : Addr) (h : Heap), YP w h → h.Ns mainGlobals mg → mg d.name = some (.ref fa) →
      ∃ (K : PySem.W.Frag) (fd : FuncData) (sp : Sp), K.In h ∧ (∀ (s : Shared) (u : Value), BindsTo s fd ⟨[u], []⟩ [(x, u)]) ∧
        (∀ (H : Hp) (a : Addr) (ns : List Int), ns.length ≤ n → Only H → SqL K H a (ns.map V.int) → sp [.ref a] H (fun v _ => v = .bl true) NoE) ∧
        ∀ base : Heap, K.In base → base.Ns mainGlobals mg → FnG l.prog w K mg base k fa fd [x] sp) :
    PySem.W.WalkO q loose XP YP l.row.toRowW d [] (fun f vs => PySem.call f vs) := by
  refine Att.attach_call hn hdf fun w s₀ s₁ mg mb fa o pm cd doc a vs ns G Y ho hd hcd hmg hobj hints hlen hg => ?_
  obtain ⟨K, fd, sp, KX, hb, hsp, hF⟩ := F w mg fa _ Y G.T.g hmg
  exact law_callG KX G.T.g G.T.b G.T.builtins G.T.nolimit hg hobj hints (Nat.le_trans hlen hn2) hr hF hb (fun H hO hS => hsp H a ns hlen hO hS)

/-! ### a program of the small language, its text -/
structure Ent where
  d : He.DefD
  N : List Str
  ps : List Str
  body : Ss
  kws : List (Nat × List Str × List Nat)
def Ent.sig (e : Ent) : FnSig := ⟨e.d.name, e.ps.length, e.kws⟩
def Ent.fn (e : Ent) : Fn := ⟨e.ps.length, e.N.length, e.body⟩
def progOf (es : List Ent) : Prog := ⟨es.map fun e => (e.d.name, e.fn), fun _ => none⟩
/-- the other names: built-ins, constants -/
structure Bs where
  nm : List Str
  ci : List (Str × Int)
  cs : List (Str × Str)
def tabOf (es : List Ent) (bs : Bs) : Tab := ⟨es.map Ent.sig, bs.nm, bs.ci, bs.cs⟩
def ckDef (es : List Ent) (bs : Bs) (n m : Nat) (e : Ent) : Bool := C8.scC e.N e.ps e.d.scope && ckS (tabOf es bs) n m ⟨e.N, e.d.scope, none⟩ e.d.body e.body
/-- how the def's parameters are bound -/
def BOk (e : Ent) : Prop := ∀ (kV doc pm : Value) (an : Option Addr) (cdv ct : Value), (∀ us : List Value, us.length = e.ps.length → bindArgs (PySem.W.fnOf e.d.name e.d.qual e.d.params e.d.body e.d.scope .none kV doc pm an cdv ct) ⟨us, []⟩ = pure (e.ps.zip us)) ∧
  ∀ z ∈ e.kws, ∀ us ws : List Value, us.length = z.1 → ws.length = z.2.1.length → bindArgs (PySem.W.fnOf e.d.name e.d.qual e.d.params e.d.body e.d.scope .none kV doc pm an cdv ct) ⟨us, z.2.1.zip ws⟩ = pure (e.ps.zip (pickL (us ++ ws) z.2.2))
/-- where the program stands -/
structure Stands (K : PySem.W.Frag) (mg : Str → Option Value) (es : List Ent) (bs : Bs) (fd : Ent → FuncData) : Prop where
  fn : ∀ e ∈ es, FunD K e.d.name e.d.qual e.d.params e.d.body e.d.scope [] [] (He.fAd K e.d.at_) (fd e)
  mg_ : ∀ e ∈ es, mg e.d.name = some (.ref (He.fAd K e.d.at_))
  blt : ∀ b ∈ bs.nm, mg b = none
  ci_ : ∀ q ∈ bs.ci, ∃ t, mg q.1 = some (.int q.2 t)
  cs_ : ∀ q ∈ bs.cs, ∃ t, mg q.1 = some (.str q.2 t)
theorem pick_vals {vs : List V} {us : List Value} (r : Vals vs us) : ∀ sel : List Nat, Vals (pickL vs sel) (pickL us sel)
  | [] => .nil
  | i :: sel => by
    unfold pickL
    rw [List.filterMap_cons, List.filterMap_cons]
    cases e : vs[i]? with
    | none =>
      have : us[i]? = none := by
        rw [List.getElem?_eq_none_iff] at e ⊢
        rw [← r.length]; exact e
      rw [this]
      exact pick_vals r sel
    | some x =>
      obtain ⟨u, hu, ru⟩ := r.get e
      rw [hu]
      exact .cons ru (pick_vals r sel)
theorem lookup_of {es : List Ent} (nd : (es.map fun e => e.d.name).Nodup) {e : Ent} (h : e ∈ es) : (progOf es).fns.lookup e.d.name = some e.fn := by
  unfold progOf
  show (es.map fun e => (e.d.name, e.fn)).lookup e.d.name = some e.fn
  induction es with
  | nil => cases h
  | cons a es ih =>
    rw [List.map_cons, List.lookup_cons]
    rw [List.map_cons, List.nodup_cons] at nd
    rcases List.mem_cons.mp h with rfl | h
    · simp
    · have hne : (e.d.name == a.d.name) = false := by
        rw [beq_eq_false_iff_ne]
        intro z
        exact nd.1 (by rw [← z]; exact List.mem_map.mpr ⟨e, h, rfl⟩)
      rw [hne]
      exact ih nd.2 h
theorem all_ok {P : Program} {w : World} {K : PySem.W.Frag} {mg : Str → Option Value} {base : Heap} {es : List Ent} {bs : Bs} {fd : Ent → FuncData} {n m Fu : Nat} (St : Stands K mg es bs fd) (nd : (es.map fun e => e.d.name).Nodup) (ck : ∀ e ∈ es, ckDef es bs n m e = true) (bo : ∀ e ∈ es, BOk e) :
    ∀ d : Nat, ∀ e ∈ es, FnG P w K mg base d (He.fAd K e.d.at_) (fd e) e.ps (spC (callN (progOf es) Fu d) K e.d.name e.ps.length)
  | 0, e, he => ⟨fun vs H Q E ⟨_, _, _, _, _, h, l⟩ => l, fun A outer s H args us vs Q E _ _ _ _ _ ⟨_, _, _, _, _, h, _⟩ => False.elim h⟩
  | d + 1, e, he => by
    obtain ⟨c1, c2⟩ := and2 (ck e he)
    have S := C8.fnScope_by c1
    refine fnG_body (St.fn e he) S (lookup_of nd he) rfl rfl fun cdv A outer s H E hr hg => ?_
    refine ckS_ok n m (cxOf (L2.CX P w) P w K mg base e.N e.d.qual e.d.scope (He.fAd K e.d.at_) cdv A outer s H E) ⟨e.N, e.d.scope, none⟩ e.d.body e.body ⟨rfl, S.nd, rfl, fun x => rfl, rfl, hg, hr, St.blt, St.ci_, St.cs_, fun q hq => ?_⟩ S.kind rfl (passes_of rfl) c2
    obtain ⟨e2, he2, rfl⟩ := List.mem_map.mp hq
    have F2 := St.fn e2 he2
    refine ⟨He.fAd K e2.d.at_, fd e2, e2.ps, St.mg_ e2 he2, F2.kp, all_ok St nd ck bo d e2 he2, F2.bindsN fun kV doc pm an cdv ct us hl => (bo e2 he2 kV doc pm an cdv ct).1 us hl, fun z hz => ⟨fun s us ws X l1 l2 => ?_, fun r1 r2 => pick_vals (r1.append r2) _⟩⟩
    obtain ⟨oc, od, dV, kV, doc, pm, an, cdv2, ct, osl, e3, lk, hcd, hD, hK⟩ := F2.ex
    rcases hD with ⟨_, rfl⟩ | ⟨e4, _⟩
    · rw [e3]
      exact .of_eq ((bo e2 he2 kV doc pm an cdv2 ct).2 z hz us ws l1 l2)
    · exact absurd rfl e4
theorem script_rel {K : PySem.W.Frag} {H : Hp} : ∀ ns : List Int, RVs K [] H (ns.map Val.int) (ns.map V.int)
  | [] => .nil
  | n :: ns => .cons (.int n) (script_rel ns)
/-- the law's def, from what the small language says of it -/
theorem law_says {K : PySem.W.Frag} {es : List Ent} {Fu k : Nat} {H : Hp} {a : Addr} {ns : List Int} {x : Str} (hO : Only H) (hS : SqL K H a (ns.map V.int)) {st : Store} (h : callN (progOf es) Fu k x [.frz (ns.map .int)] [] = .ok (.bool true) st) :
    spC (callN (progOf es) Fu k) K x 1 [.ref a] H (fun v _ => v = .bl true) NoE := by
  have hr : RV K [] H (.frz (ns.map .int)) (.ref a) := by
    refine .frz ?_ (script_rel ns)
    rcases hS with hS | hS
    · refine .inl ⟨by simp, ?_⟩
      rcases hS with e | e
      · rcases hO a with z | ⟨o, xs, z⟩
        · rw [e] at z; cases z
        · rw [e] at z; cases z
      · exact e
    · exact .inr hS
  refine ⟨[], [], [.frz (ns.map .int)], .cons hr .nil, ⟨rfl, .nil, fun n a o e => by simp at e, fun a h => by cases h⟩, ?_, rfl⟩
  rw [h]
  intro mp' H' g s' x rx
  cases rx
  rfl
theorem stands_of {K : PySem.W.Frag} {h : Heap} {mg : Str → Option Value} {fa : List He.Fa} {fn : List He.DefD} {es : List Ent} {bs : Bs} (X : K.In h) (G : h.Ns mainGlobals mg) (c : He.SaysD fa fn K)
    (h1 : ∀ e ∈ es, (∃ i : Nat, fn[i]? = some e.d) ∧ (e.d.dfl = [] ∧ e.d.kwd = [] ∧ e.d.at_ = (e.d.name, none)) ∧ ∃ i : Nat, fa[i]? = some (He.Fa.glo e.d.name)) (h3 : (∀ b ∈ bs.nm, ∃ i : Nat, fa[i]? = some (He.Fa.free b)) ∧ (∀ q ∈ bs.ci, ∃ i : Nat, fa[i]? = some (He.Fa.int q.1 q.2)) ∧ ∀ q ∈ bs.cs, ∃ i : Nat, fa[i]? = some (He.Fa.str q.1 q.2)) : ∃ fd, Stands K mg es bs fd := by
  have hd : ∀ e : Ent, ∃ fd : FuncData, e ∈ es → FunD K e.d.name e.d.qual e.d.params e.d.body e.d.scope [] [] (He.fAd K e.d.at_) fd := by
    intro e
    by_cases he : e ∈ es
    · obtain ⟨⟨i, hi⟩, ⟨d1, d2, d3⟩, _⟩ := h1 e he
      obtain ⟨fd, F⟩ := c.def_ i hi
      have e1 : e.d.dvs K = [] := by unfold He.DefD.dvs; rw [d1]; rfl
      have e2 : e.d.kws K = [] := by unfold He.DefD.kws; rw [d2]; rfl
      rw [e1, e2] at F
      exact ⟨fd, fun _ => F⟩
    · cases es with
      | nil => exact ⟨PySem.W.fnOf "" "" ⟨[], [], none, [], [], none, []⟩ [] ⟨.function, [], false, false, []⟩ .none .none .none .none none .none .none, fun z => absurd z he⟩
      | cons a r =>
        obtain ⟨⟨i, hi⟩, _⟩ := h1 a List.mem_cons_self
        obtain ⟨fd, F⟩ := c.def_ i hi
        exact ⟨fd, fun z => absurd z he⟩
  refine ⟨fun e => (hd e).choose, fun e he => (hd e).choose_spec he, fun e he => ?_, fun b hb => ?_, fun q hq => ?_, fun q hq => ?_⟩
  · obtain ⟨_, ⟨_, _, d3⟩, i, hi⟩ := h1 e he
    rw [d3]
    exact He.glo_ok X G (c.fact i hi)
  · obtain ⟨i, hi⟩ := h3.1 b hb
    exact He.free_ok X G (c.fact i hi)
  · obtain ⟨i, hi⟩ := h3.2.1 q hq
    exact He.int_ok X G (c.fact i hi)
  · obtain ⟨i, hi⟩ := h3.2.2 q hq
    exact He.str_ok X G (c.fact i hi)
theorem law_end {P : Program} {w : World} {K : PySem.W.Frag} {h : Heap} {mg : Str → Option Value} {fa : Addr} {es : List Ent} {bs : Bs} {fd : Ent → FuncData} {n m Fu k : Nat} {x lawName : Str} (X : K.In h) (St : Stands K mg es bs fd) (nd : (es.map fun e => e.d.name).Nodup) (ck : ∀ e ∈ es, ckDef es bs n m e = true) (bo : ∀ e ∈ es, BOk e)
    {el : Ent} (hel : el ∈ es) (hps : el.ps = [x]) (hn : el.d.name = lawName) (hmg : mg lawName = some (.ref fa)) (plain : ∀ ns : List Int, ns.length ≤ 63 → ∃ st, callN (progOf es) Fu k lawName [.frz (ns.map .int)] [] = .ok (.bool true) st) :
    ∃ (K : PySem.W.Frag) (fd : FuncData) (sp : Sp), K.In h ∧ (∀ (s : Shared) (u : Value), BindsTo s fd ⟨[u], []⟩ [(x, u)]) ∧
        (∀ (H : Hp) (a : Addr) (ns : List Int), ns.length ≤ 63 → Only H → SqL K H a (ns.map V.int) → sp [.ref a] H (fun v _ => v = .bl true) NoE) ∧
        ∀ base : Heap, K.In base → base.Ns mainGlobals mg → FnG P w K mg base k fa fd [x] sp := by
  have e : fa = He.fAd K el.d.at_ := by
    have h2 := St.mg_ el hel
    rw [hn, hmg] at h2
    injection h2 with h2
    injection h2
  subst e
  refine ⟨K, fd el, spC (callN (progOf es) Fu k) K lawName 1, X, fun s u => ?_, fun H a ns hl hO hS => ?_, fun base hb hns => ?_⟩
  · have b := FunD.bindsA (ps := [x]) (St.fn el hel) (fun kV doc pm an cdv ct us hl => by
      have := (bo el hel kV doc pm an cdv ct).1 us (by rw [hps]; exact hl)
      rw [hps] at this; exact this) s [u] rfl
    exact b
  · obtain ⟨st, hst⟩ := plain ns hl
    exact law_says hO hS hst
  · have F := all_ok (P := P) (w := w) (base := base) (Fu := Fu) St nd ck bo k el hel
    rw [hps, hn] at F
    exact F
end MP
set_option Elab.async false
set_option linter.all false
set_option maxRecDepth 100000
set_option maxHeartbeats 0
/-! the program of the law, in the small language -/
namespace Law
open PySem PySem.Spec PyProof.Rows L2 MP
def fnL : List Stmt → List He.DefD
  | [] => []
  | .FunctionDef n a b _ _ _ sc _ _ _ :: r => ⟨(n, none), n, n, a, b, sc, [], []⟩ :: fnL r
  | _ :: r => fnL r
def fn : List He.DefD := fnL PySem.Challenge.pw_elderways_k02_operations_on_permutations.main.body
def noD : He.DefD := ⟨("", none), "", "", ⟨[], [], none, [], [], none, []⟩, [], ⟨.function, [], false, false, []⟩, [], []⟩
def fnAt (i : Nat) : He.DefD := fn.getD i noD
def b_identity : Ss := .cons (.ret (.trng (.one (.var 0)))) (.nil)
def b_compose : Ss := .cons (.ret (.bi .tuple (.cons (.lc (.nm 2) (.val (.var 0)) (.none) (.ix (.var 1) (.var 2)) [2]) (.nil)))) (.nil)
def b_inverse : Ss := .cons (.set 1 (.dc (.tp [.nm 2, .nm 3]) (.enum (.var 0)) (.var 3) (.var 2) [2, 3])) (.cons (.ret (.bi .tuple (.cons (.lc (.nm 3) (.rng (.one (.bi .len (.cons (.var 0) (.nil))))) (.none) (.ix (.var 1) (.var 3)) [3]) (.nil)))) (.nil))
def b_order : Ss := .cons (.par [1, 2] (.cons (.bi .tuple (.cons (.var 0) (.nil))) (.cons (.int 1) (.nil)))) (.cons (.whl (.cmp .ne (.var 1) (.call "identity" (.cons (.bi .len (.cons (.var 0) (.nil))) (.nil)))) (.cons (.par [1, 2] (.cons (.call "compose" (.cons (.var 1) (.cons (.var 0) (.nil)))) (.cons (.bin .add (.var 2) (.int 1)) (.nil)))) (.nil))) (.cons (.ret (.var 2)) (.nil)))
def b_power : Ss := .cons (.set 2 (.call "identity" (.cons (.bi .len (.cons (.var 0) (.nil))) (.nil)))) (.cons (.loop (.nm 3) (.rng (.one (.bin .mod (.var 1) (.call "order" (.cons (.var 0) (.nil)))))) (.cons (.set 2 (.call "compose" (.cons (.var 2) (.cons (.var 0) (.nil))))) (.nil))) (.cons (.ret (.var 2)) (.nil)))
def b__law_box : Ss := .cons (.set 2 (.ite (.cmp .lt (.var 1) (.bi .len (.cons (.var 0) (.nil)))) (.ix (.var 0) (.var 1)) (.int 0))) (.cons (.ret (.lst (.cons (.bin .mul (.bi .abs (.cons (.var 2) (.nil))) (.bi .int (.cons (.cmp .ge (.bi .abs (.cons (.var 2) (.nil))) (.bin .pow (.int 10) (.int 18))) (.nil)))) (.cons (.bin .add (.bin .add (.bin .mod (.var 2) (.int 2147483587)) (.bin .mul (.int 7907) (.var 1))) (.int 31)) (.cons (.int 0) (.nil)))))) (.nil))
def b__law_draw : Ss := .cons (.ifs (.cmp .gt (.ix (.var 0) (.int 0)) (.int 0)) (.cons (.set 3 (.bin .mod (.ix (.var 0) (.int 0)) (.var 1))) (.cons (.setix (.var 0) (.int 0) (.bin .fdiv (.ix (.var 0) (.int 0)) (.var 1))) (.cons (.ret (.var 3)) (.nil)))) (.nil)) (.cons (.setix (.var 0) (.int 2) (.bin .add (.ix (.var 0) (.int 2)) (.int 1))) (.cons (.set 2 (.bin .mod (.bin .pow (.bin .add (.ix (.var 0) (.int 1)) (.bin .mul (.int 40009) (.ix (.var 0) (.int 2)))) (.int 5)) (.int 2147483629))) (.cons (.ret (.bin .mod (.bin .fdiv (.bin .mod (.bin .add (.bin .mul (.var 2) (.bin .add (.bin .mod (.var 2) (.int 39373)) (.int 11))) (.bin .mul (.ix (.var 0) (.int 2)) (.int 6151))) (.int 2147483647)) (.int 64)) (.var 1))) (.nil))))
def b__law_same : Ss := .cons (.ifs (.isi (.var 1) [.list, .tuple]) (.cons (.ifs (.or (.cmp .ne (.isi (.var 0) [.list]) (.isi (.var 1) [.list])) (.cmp .ne (.isi (.var 0) [.tuple]) (.isi (.var 1) [.tuple]))) (.cons (.ret (.bool false)) (.nil)) (.nil)) (.cons (.ret (.and (.cmp .eq (.bi .len (.cons (.var 0) (.nil))) (.bi .len (.cons (.var 1) (.nil)))) (.bi .all (.cons (.lc (.tp [.nm 2, .nm 3]) (.zip (.var 0) (.var 1)) (.none) (.call "_law_same" (.cons (.var 2) (.cons (.var 3) (.nil)))) [2, 3]) (.nil))))) (.nil))) (.nil)) (.cons (.ifs (.or (.cmp .is (.var 1) (.none)) (.isi (.var 1) [.bool, .str])) (.cons (.ret (.and (.cmp .eq (.var 0) (.var 1)) (.and (.cmp .eq (.isi (.var 0) [.bool]) (.isi (.var 1) [.bool])) (.cmp .eq (.cmp .is (.var 0) (.none)) (.cmp .is (.var 1) (.none)))))) (.nil)) (.nil)) (.cons (.ret (.and (.isi (.var 0) [.int]) (.and (.not (.isi (.var 0) [.bool])) (.cmp .eq (.var 0) (.var 1))))) (.nil)))
def b__law_shuffle : Ss := .cons (.set 2 (.lst (.nil))) (.cons (.loop (.nm 3) (.val (.var 1)) (.cons (.ex (.mt .insert (.var 2) (.cons (.call "_law_draw" (.cons (.var 0) (.cons (.bin .add (.bi .len (.cons (.var 2) (.nil))) (.int 1)) (.nil)))) (.cons (.var 3) (.nil))))) (.nil))) (.cons (.ret (.var 2)) (.nil)))
def b__law_permutation : Ss := .cons (.set 2 (.call "_law_draw" (.cons (.var 0) (.cons (.int 5) (.nil))))) (.cons (.set 3 (.lrng (.one (.var 1)))) (.cons (.ifs (.cmp .eq (.var 2) (.int 1)) (.cons (.set 4 (.call "_law_draw" (.cons (.var 0) (.cons (.var 1) (.nil))))) (.cons (.set 3 (.bin .add (.bin .add (.sl (.var 3) (.none) (.some (.var 4))) (.rev (.sl (.var 3) (.some (.var 4)) (.some (.bin .add (.var 4) (.int 2)))))) (.sl (.var 3) (.some (.bin .add (.var 4) (.int 2))) (.none)))) (.nil))) (.cons (.ifs (.cmp .eq (.var 2) (.int 2)) (.cons (.set 3 (.bin .add (.sl (.var 3) (.some (.int 1)) (.none)) (.sl (.var 3) (.none) (.some (.int 1))))) (.nil)) (.cons (.ifs (.cmp .gt (.var 2) (.int 2)) (.cons (.set 3 (.call "_law_shuffle" (.cons (.var 0) (.cons (.var 3) (.nil))))) (.nil)) (.nil)) (.nil))) (.nil))) (.cons (.ret (.bi .tuple (.cons (.var 3) (.nil)))) (.nil))))
def b__law_moved : Ss := .cons (.set 2 (.bi .list (.cons (.var 0) (.nil)))) (.cons (.loop (.tp [.nm 3, .nm 4]) (.enum (.var 1)) (.cons (.setix (.var 2) (.var 4) (.ix (.var 0) (.var 3))) (.nil))) (.cons (.ret (.var 2)) (.nil)))
def b__law_repeat : Ss := .cons (.loop (.nm 3) (.rng (.one (.var 2))) (.cons (.set 0 (.call "_law_moved" (.cons (.var 0) (.cons (.var 1) (.nil))))) (.nil))) (.cons (.ret (.var 0)) (.nil))
def b__law_check : Ss := .cons (.set 1 (.bin .add (.int 1) (.call "_law_draw" (.cons (.var 0) (.cons (.int 6) (.nil)))))) (.cons (.par [2, 3] (.cons (.bi .tuple (.cons (.call "_law_shuffle" (.cons (.var 0) (.cons (.lrng (.one (.var 1))) (.nil)))) (.nil))) (.cons (.call "_law_permutation" (.cons (.var 0) (.cons (.var 1) (.nil)))) (.nil)))) (.cons (.par [4, 5] (.cons (.lc (.nm 12) (.rng (.one (.var 1))) (.none) (.bin .add (.str "thing ") (.bi .str (.cons (.var 12) (.nil)))) [12]) (.cons (.bi .repr (.cons (.lst (.cons (.var 2) (.cons (.var 3) (.nil)))) (.nil))) (.nil)))) (.cons (.set 6 (.call "compose" (.cons (.var 2) (.cons (.var 3) (.nil))))) (.cons (.ifs (.or (.cmp .ne (.call "_law_moved" (.cons (.var 4) (.cons (.var 6) (.nil)))) (.call "_law_moved" (.cons (.call "_law_moved" (.cons (.var 4) (.cons (.var 2) (.nil)))) (.cons (.var 3) (.nil))))) (.not (.isi (.var 6) [.tuple]))) (.cons (.ret (.bool false)) (.nil)) (.nil)) (.cons (.set 7 (.lst (.cons (.callk "compose" (.nil) (.cons (.bi .list (.cons (.var 3) (.nil))) (.cons (.bi .list (.cons (.var 2) (.nil))) (.nil))) [1, 0]) (.cons (.callk "inverse" (.nil) (.cons (.bi .list (.cons (.var 2) (.nil))) (.nil)) [0]) (.nil))))) (.cons (.ifs (.not (.call "_law_same" (.cons (.var 7) (.cons (.lst (.cons (.var 6) (.cons (.call "inverse" (.cons (.var 2) (.nil))) (.nil)))) (.nil))))) (.cons (.ret (.bool false)) (.nil)) (.nil)) (.cons (.ifs (.cmp .ne (.call "_law_moved" (.cons (.call "_law_moved" (.cons (.var 4) (.cons (.var 2) (.nil)))) (.cons (.call "inverse" (.cons (.var 2) (.nil))) (.nil)))) (.var 4)) (.cons (.ret (.bool false)) (.nil)) (.nil)) (.cons (.ifs (.not (.call "_law_same" (.cons (.call "identity" (.cons (.var 1) (.nil))) (.cons (.trng (.one (.var 1))) (.nil))))) (.cons (.ret (.bool false)) (.nil)) (.nil)) (.cons (.ifs (.not (.call "_law_same" (.cons (.lst (.cons (.callk "identity" (.nil) (.cons (.var 1) (.nil)) [0]) (.cons (.call "compose" (.cons (.var 2) (.cons (.call "inverse" (.cons (.var 2) (.nil))) (.nil)))) (.nil)))) (.cons (.lst (.cons (.call "identity" (.cons (.var 1) (.nil))) (.cons (.call "identity" (.cons (.var 1) (.nil))) (.nil)))) (.nil))))) (.cons (.ret (.bool false)) (.nil)) (.nil)) (.cons (.par [8, 9] (.cons (.int 1) (.cons (.call "_law_moved" (.cons (.var 4) (.cons (.var 2) (.nil)))) (.nil)))) (.cons (.whl (.cmp .ne (.var 9) (.var 4)) (.cons (.par [8, 9] (.cons (.bin .add (.var 8) (.int 1)) (.cons (.call "_law_moved" (.cons (.var 9) (.cons (.var 2) (.nil)))) (.nil)))) (.nil))) (.cons (.ifs (.not (.call "_law_same" (.cons (.lst (.cons (.call "order" (.cons (.var 2) (.nil))) (.cons (.callk "order" (.nil) (.cons (.bi .list (.cons (.var 2) (.nil))) (.nil)) [0]) (.nil)))) (.cons (.lst (.cons (.var 8) (.cons (.var 8) (.nil)))) (.nil))))) (.cons (.ret (.bool false)) (.nil)) (.nil)) (.cons (.loop (.nm 10) (.val (.tup (.cons (.int 0) (.cons (.int 1) (.cons (.var 8) (.cons (.bin .mul (.call "_law_draw" (.cons (.var 0) (.cons (.bin .pow (.int 10) (.int 6)) (.nil)))) (.call "_law_draw" (.cons (.var 0) (.cons (.bin .pow (.int 10) (.int 6)) (.nil))))) (.cons (.bin .pow (.int 10) (.int 12)) (.cons (.bin .sub (.int 0) (.call "_law_draw" (.cons (.var 0) (.cons (.int 99) (.nil))))) (.nil))))))))) (.cons (.set 11 (.call "_law_repeat" (.cons (.var 4) (.cons (.var 2) (.cons (.bin .mod (.var 10) (.var 8)) (.nil)))))) (.cons (.set 6 (.call "power" (.cons (.var 2) (.cons (.var 10) (.nil))))) (.cons (.ifs (.or (.cmp .ne (.call "_law_moved" (.cons (.var 4) (.cons (.var 6) (.nil)))) (.var 11)) (.not (.call "_law_same" (.cons (.callk "power" (.nil) (.cons (.var 10) (.cons (.bi .list (.cons (.var 2) (.nil))) (.nil))) [1, 0]) (.cons (.var 6) (.nil)))))) (.cons (.ret (.bool false)) (.nil)) (.nil)) (.nil))))) (.cons (.ret (.cmp .eq (.bi .repr (.cons (.lst (.cons (.var 2) (.cons (.var 3) (.nil)))) (.nil))) (.var 5))) (.nil)))))))))))))))
def b_law : Ss := .cons (.set 1 (.lc (.nm 2) (.rng (.one (.bin .add (.int 1) (.bi .min (.cons (.int 3) (.cons (.bi .len (.cons (.var 0) (.nil))) (.nil))))))) (.none) (.call "_law_box" (.cons (.var 0) (.cons (.var 2) (.nil)))) [2])) (.cons (.ret (.bi .all (.cons (.lc (.nm 3) (.val (.bin .mul (.var 1) (.int 3))) (.none) (.call "_law_check" (.cons (.var 3) (.nil))) [3]) (.nil)))) (.nil))
def e_identity : Ent := ⟨fnAt 0, ["size"], ["size"], b_identity, [(0, ["size"], [0])]⟩
def e_compose : Ent := ⟨fnAt 1, ["first", "second", "place"], ["first", "second"], b_compose, [(0, ["second", "first"], [1, 0])]⟩
def e_inverse : Ent := ⟨fnAt 2, ["permutation", "source_of", "source", "target"], ["permutation"], b_inverse, [(0, ["permutation"], [0])]⟩
def e_order : Ent := ⟨fnAt 3, ["permutation", "current", "count"], ["permutation"], b_order, [(0, ["permutation"], [0])]⟩
def e_power : Ent := ⟨fnAt 4, ["permutation", "exponent", "result", "application"], ["permutation", "exponent"], b_power, [(0, ["exponent", "permutation"], [1, 0])]⟩
def e__law_box : Ent := ⟨fnAt 5, ["_law_script", "_law_k", "_law_cell"], ["_law_script", "_law_k"], b__law_box, []⟩
def e__law_draw : Ent := ⟨fnAt 6, ["_law_rng", "_law_bound", "_law_once", "_law_found"], ["_law_rng", "_law_bound"], b__law_draw, []⟩
def e__law_same : Ent := ⟨fnAt 7, ["_law_found", "_law_want", "_law_mine", "_law_other"], ["_law_found", "_law_want"], b__law_same, []⟩
def e__law_shuffle : Ent := ⟨fnAt 8, ["_law_rng", "_law_some", "_law_found", "_law_part"], ["_law_rng", "_law_some"], b__law_shuffle, []⟩
def e__law_permutation : Ent := ⟨fnAt 9, ["_law_rng", "_law_degree", "_law_kind", "_law_some", "_law_at"], ["_law_rng", "_law_degree"], b__law_permutation, []⟩
def e__law_moved : Ent := ⟨fnAt 10, ["_law_items", "_law_perm", "_law_found", "_law_place", "_law_peg"], ["_law_items", "_law_perm"], b__law_moved, []⟩
def e__law_repeat : Ent := ⟨fnAt 11, ["_law_items", "_law_perm", "_law_total", "_law_turn"], ["_law_items", "_law_perm", "_law_total"], b__law_repeat, []⟩
def e__law_check : Ent := ⟨fnAt 12, ["_law_rng", "_law_degree", "_law_left", "_law_right", "_law_items", "_law_before", "_law_got", "_law_named", "_law_total", "_law_found", "_law_often", "_law_want", "_law_peg"], ["_law_rng"], b__law_check, []⟩
def e_law : Ent := ⟨fnAt 13, ["_law_script", "_law_boxes", "_law_k", "_law_rng"], ["_law_script"], b_law, []⟩
def es : List Ent := [e_identity, e_compose, e_inverse, e_order, e_power, e__law_box, e__law_draw, e__law_same, e__law_shuffle, e__law_permutation, e__law_moved, e__law_repeat, e__law_check, e_law]
def bs : Bs := ⟨["tuple", "range", "len", "enumerate", "abs", "int", "isinstance", "bool", "str", "list", "all", "zip", "repr", "min"], [], []⟩
def fa : List He.Fa := [.glo "identity", .glo "compose", .glo "inverse", .glo "order", .glo "power", .glo "_law_box", .glo "_law_draw", .glo "_law_same", .glo "_law_shuffle", .glo "_law_permutation", .glo "_law_moved", .glo "_law_repeat", .glo "_law_check", .glo "law"] ++ [.free "tuple", .free "range", .free "len", .free "enumerate", .free "abs", .free "int", .free "isinstance", .free "bool", .free "str", .free "list", .free "all", .free "zip", .free "repr", .free "min"]
abbrev R : PySem.W.OpenRow := PySem.W.OpenLaw.row PySem.Challenge.rw_elderways_k02_operations_on_permutations
abbrev hk : PySem.W.Hook := He.hookD 4 fa fn
def ob (s : PySem.W.SharedT) : He.AlD := He.obsDG 4 fa fn (HandSHeadRun.getT s)
theorem ob_eq (s : PySem.W.SharedT) : ob s = hk.obs s.abs := He.obsDG_eq (HandSHeadRun.getT_eq s)
def lo : List PySem.Str := (["identity", "compose", "inverse", "order", "power", "_law_box", "_law_draw", "_law_same", "_law_shuffle", "_law_permutation", "_law_moved", "_law_repeat", "_law_check"] : List PySem.Str)
theorem run (w : World) : HandSHeadRun.RunEq R (PySem.W.view R.prog [15]) hk ob 1000 lo w := by
  intro os
  kernel_rfl
theorem ck_identity : ckDef es bs 40 20 e_identity = true := by kernel_rfl
theorem ck_compose : ckDef es bs 40 20 e_compose = true := by kernel_rfl
theorem ck_inverse : ckDef es bs 40 20 e_inverse = true := by kernel_rfl
theorem ck_order : ckDef es bs 40 20 e_order = true := by kernel_rfl
theorem ck_power : ckDef es bs 40 20 e_power = true := by kernel_rfl
theorem ck__law_box : ckDef es bs 40 20 e__law_box = true := by kernel_rfl
theorem ck__law_draw : ckDef es bs 40 20 e__law_draw = true := by kernel_rfl
theorem ck__law_same : ckDef es bs 40 20 e__law_same = true := by kernel_rfl
theorem ck__law_shuffle : ckDef es bs 40 20 e__law_shuffle = true := by kernel_rfl
theorem ck__law_permutation : ckDef es bs 40 20 e__law_permutation = true := by kernel_rfl
theorem ck__law_moved : ckDef es bs 40 20 e__law_moved = true := by kernel_rfl
theorem ck__law_repeat : ckDef es bs 40 20 e__law_repeat = true := by kernel_rfl
theorem ck__law_check : ckDef es bs 40 20 e__law_check = true := by kernel_rfl
theorem ck_law : ckDef es bs 40 20 e_law = true := by kernel_rfl
theorem bo_identity : BOk e_identity := fun kV doc pm an cdv ct => ⟨fun us hl => match us, hl with | [_], _ => by kernel_rfl, by
  intro z hz us ws l1 l2
  rcases List.mem_cons.mp hz with e | hz
  · subst e
    match us, ws, l1, l2 with
    | [], [_], _, _ => kernel_rfl
  cases hz⟩
theorem bo_compose : BOk e_compose := fun kV doc pm an cdv ct => ⟨fun us hl => match us, hl with | [_, _], _ => by kernel_rfl, by
  intro z hz us ws l1 l2
  rcases List.mem_cons.mp hz with e | hz
  · subst e
    match us, ws, l1, l2 with
    | [], [_, _], _, _ => kernel_rfl
  cases hz⟩
theorem bo_inverse : BOk e_inverse := fun kV doc pm an cdv ct => ⟨fun us hl => match us, hl with | [_], _ => by kernel_rfl, by
  intro z hz us ws l1 l2
  rcases List.mem_cons.mp hz with e | hz
  · subst e
    match us, ws, l1, l2 with
    | [], [_], _, _ => kernel_rfl
  cases hz⟩
theorem bo_order : BOk e_order := fun kV doc pm an cdv ct => ⟨fun us hl => match us, hl with | [_], _ => by kernel_rfl, by
  intro z hz us ws l1 l2
  rcases List.mem_cons.mp hz with e | hz
  · subst e
    match us, ws, l1, l2 with
    | [], [_], _, _ => kernel_rfl
  cases hz⟩
theorem bo_power : BOk e_power := fun kV doc pm an cdv ct => ⟨fun us hl => match us, hl with | [_, _], _ => by kernel_rfl, by
  intro z hz us ws l1 l2
  rcases List.mem_cons.mp hz with e | hz
  · subst e
    match us, ws, l1, l2 with
    | [], [_, _], _, _ => kernel_rfl
  cases hz⟩
theorem bo__law_box : BOk e__law_box := fun kV doc pm an cdv ct => ⟨fun us hl => match us, hl with | [_, _], _ => by kernel_rfl, fun z hz => by cases hz⟩
theorem bo__law_draw : BOk e__law_draw := fun kV doc pm an cdv ct => ⟨fun us hl => match us, hl with | [_, _], _ => by kernel_rfl, fun z hz => by cases hz⟩
theorem bo__law_same : BOk e__law_same := fun kV doc pm an cdv ct => ⟨fun us hl => match us, hl with | [_, _], _ => by kernel_rfl, fun z hz => by cases hz⟩
theorem bo__law_shuffle : BOk e__law_shuffle := fun kV doc pm an cdv ct => ⟨fun us hl => match us, hl with | [_, _], _ => by kernel_rfl, fun z hz => by cases hz⟩
theorem bo__law_permutation : BOk e__law_permutation := fun kV doc pm an cdv ct => ⟨fun us hl => match us, hl with | [_, _], _ => by kernel_rfl, fun z hz => by cases hz⟩
theorem bo__law_moved : BOk e__law_moved := fun kV doc pm an cdv ct => ⟨fun us hl => match us, hl with | [_, _], _ => by kernel_rfl, fun z hz => by cases hz⟩
theorem bo__law_repeat : BOk e__law_repeat := fun kV doc pm an cdv ct => ⟨fun us hl => match us, hl with | [_, _, _], _ => by kernel_rfl, fun z hz => by cases hz⟩
theorem bo__law_check : BOk e__law_check := fun kV doc pm an cdv ct => ⟨fun us hl => match us, hl with | [_], _ => by kernel_rfl, fun z hz => by cases hz⟩
theorem bo_law : BOk e_law := fun kV doc pm an cdv ct => ⟨fun us hl => match us, hl with | [_], _ => by kernel_rfl, fun z hz => by cases hz⟩
theorem ck_all : ∀ e ∈ es, ckDef es bs 40 20 e = true := by
  intro e he
  rcases List.mem_cons.mp he with rfl | he
  · exact ck_identity
  rcases List.mem_cons.mp he with rfl | he
  · exact ck_compose
  rcases List.mem_cons.mp he with rfl | he
  · exact ck_inverse
  rcases List.mem_cons.mp he with rfl | he
  · exact ck_order
  rcases List.mem_cons.mp he with rfl | he
  · exact ck_power
  rcases List.mem_cons.mp he with rfl | he
  · exact ck__law_box
  rcases List.mem_cons.mp he with rfl | he
  · exact ck__law_draw
  rcases List.mem_cons.mp he with rfl | he
  · exact ck__law_same
  rcases List.mem_cons.mp he with rfl | he
  · exact ck__law_shuffle
  rcases List.mem_cons.mp he with rfl | he
  · exact ck__law_permutation
  rcases List.mem_cons.mp he with rfl | he
  · exact ck__law_moved
  rcases List.mem_cons.mp he with rfl | he
  · exact ck__law_repeat
  rcases List.mem_cons.mp he with rfl | he
  · exact ck__law_check
  rcases List.mem_cons.mp he with rfl | he
  · exact ck_law
  cases he
theorem bo_all : ∀ e ∈ es, BOk e := by
  intro e he
  rcases List.mem_cons.mp he with rfl | he
  · exact bo_identity
  rcases List.mem_cons.mp he with rfl | he
  · exact bo_compose
  rcases List.mem_cons.mp he with rfl | he
  · exact bo_inverse
  rcases List.mem_cons.mp he with rfl | he
  · exact bo_order
  rcases List.mem_cons.mp he with rfl | he
  · exact bo_power
  rcases List.mem_cons.mp he with rfl | he
  · exact bo__law_box
  rcases List.mem_cons.mp he with rfl | he
  · exact bo__law_draw
  rcases List.mem_cons.mp he with rfl | he
  · exact bo__law_same
  rcases List.mem_cons.mp he with rfl | he
  · exact bo__law_shuffle
  rcases List.mem_cons.mp he with rfl | he
  · exact bo__law_permutation
  rcases List.mem_cons.mp he with rfl | he
  · exact bo__law_moved
  rcases List.mem_cons.mp he with rfl | he
  · exact bo__law_repeat
  rcases List.mem_cons.mp he with rfl | he
  · exact bo__law_check
  rcases List.mem_cons.mp he with rfl | he
  · exact bo_law
  cases he
theorem nd : (es.map fun e => e.d.name).Nodup := by decide +kernel
theorem at_all : ∀ e ∈ es, (∃ i : Nat, fn[i]? = some e.d) ∧ (e.d.dfl = [] ∧ e.d.kwd = [] ∧ e.d.at_ = (e.d.name, none)) ∧ ∃ i : Nat, fa[i]? = some (He.Fa.glo e.d.name) := by
  intro e he
  rcases List.mem_cons.mp he with rfl | he
  · exact ⟨⟨0, by kernel_rfl⟩, ⟨by kernel_rfl, by kernel_rfl, by kernel_rfl⟩, ⟨0, by kernel_rfl⟩⟩
  rcases List.mem_cons.mp he with rfl | he
  · exact ⟨⟨1, by kernel_rfl⟩, ⟨by kernel_rfl, by kernel_rfl, by kernel_rfl⟩, ⟨1, by kernel_rfl⟩⟩
  rcases List.mem_cons.mp he with rfl | he
  · exact ⟨⟨2, by kernel_rfl⟩, ⟨by kernel_rfl, by kernel_rfl, by kernel_rfl⟩, ⟨2, by kernel_rfl⟩⟩
  rcases List.mem_cons.mp he with rfl | he
  · exact ⟨⟨3, by kernel_rfl⟩, ⟨by kernel_rfl, by kernel_rfl, by kernel_rfl⟩, ⟨3, by kernel_rfl⟩⟩
  rcases List.mem_cons.mp he with rfl | he
  · exact ⟨⟨4, by kernel_rfl⟩, ⟨by kernel_rfl, by kernel_rfl, by kernel_rfl⟩, ⟨4, by kernel_rfl⟩⟩
  rcases List.mem_cons.mp he with rfl | he
  · exact ⟨⟨5, by kernel_rfl⟩, ⟨by kernel_rfl, by kernel_rfl, by kernel_rfl⟩, ⟨5, by kernel_rfl⟩⟩
  rcases List.mem_cons.mp he with rfl | he
  · exact ⟨⟨6, by kernel_rfl⟩, ⟨by kernel_rfl, by kernel_rfl, by kernel_rfl⟩, ⟨6, by kernel_rfl⟩⟩
  rcases List.mem_cons.mp he with rfl | he
  · exact ⟨⟨7, by kernel_rfl⟩, ⟨by kernel_rfl, by kernel_rfl, by kernel_rfl⟩, ⟨7, by kernel_rfl⟩⟩
  rcases List.mem_cons.mp he with rfl | he
  · exact ⟨⟨8, by kernel_rfl⟩, ⟨by kernel_rfl, by kernel_rfl, by kernel_rfl⟩, ⟨8, by kernel_rfl⟩⟩
  rcases List.mem_cons.mp he with rfl | he
  · exact ⟨⟨9, by kernel_rfl⟩, ⟨by kernel_rfl, by kernel_rfl, by kernel_rfl⟩, ⟨9, by kernel_rfl⟩⟩
  rcases List.mem_cons.mp he with rfl | he
  · exact ⟨⟨10, by kernel_rfl⟩, ⟨by kernel_rfl, by kernel_rfl, by kernel_rfl⟩, ⟨10, by kernel_rfl⟩⟩
  rcases List.mem_cons.mp he with rfl | he
  · exact ⟨⟨11, by kernel_rfl⟩, ⟨by kernel_rfl, by kernel_rfl, by kernel_rfl⟩, ⟨11, by kernel_rfl⟩⟩
  rcases List.mem_cons.mp he with rfl | he
  · exact ⟨⟨12, by kernel_rfl⟩, ⟨by kernel_rfl, by kernel_rfl, by kernel_rfl⟩, ⟨12, by kernel_rfl⟩⟩
  rcases List.mem_cons.mp he with rfl | he
  · exact ⟨⟨13, by kernel_rfl⟩, ⟨by kernel_rfl, by kernel_rfl, by kernel_rfl⟩, ⟨13, by kernel_rfl⟩⟩
  cases he
theorem bs_all : (∀ b ∈ bs.nm, ∃ i : Nat, fa[i]? = some (He.Fa.free b)) ∧ (∀ q ∈ bs.ci, ∃ i : Nat, fa[i]? = some (He.Fa.int q.1 q.2)) ∧ ∀ q ∈ bs.cs, ∃ i : Nat, fa[i]? = some (He.Fa.str q.1 q.2) :=
  ⟨(by
  intro e he
  rcases List.mem_cons.mp he with rfl | he
  · exact ⟨14, by kernel_rfl⟩
  rcases List.mem_cons.mp he with rfl | he
  · exact ⟨15, by kernel_rfl⟩
  rcases List.mem_cons.mp he with rfl | he
  · exact ⟨16, by kernel_rfl⟩
  rcases List.mem_cons.mp he with rfl | he
  · exact ⟨17, by kernel_rfl⟩
  rcases List.mem_cons.mp he with rfl | he
  · exact ⟨18, by kernel_rfl⟩
  rcases List.mem_cons.mp he with rfl | he
  · exact ⟨19, by kernel_rfl⟩
  rcases List.mem_cons.mp he with rfl | he
  · exact ⟨20, by kernel_rfl⟩
  rcases List.mem_cons.mp he with rfl | he
  · exact ⟨21, by kernel_rfl⟩
  rcases List.mem_cons.mp he with rfl | he
  · exact ⟨22, by kernel_rfl⟩
  rcases List.mem_cons.mp he with rfl | he
  · exact ⟨23, by kernel_rfl⟩
  rcases List.mem_cons.mp he with rfl | he
  · exact ⟨24, by kernel_rfl⟩
  rcases List.mem_cons.mp he with rfl | he
  · exact ⟨25, by kernel_rfl⟩
  rcases List.mem_cons.mp he with rfl | he
  · exact ⟨26, by kernel_rfl⟩
  rcases List.mem_cons.mp he with rfl | he
  · exact ⟨27, by kernel_rfl⟩
  cases he), (by
  intro e he
  cases he), (by
  intro e he
  cases he)⟩
theorem law_in : e_law ∈ es := by
  unfold es
  exact .tail _ (.tail _ (.tail _ (.tail _ (.tail _ (.tail _ (.tail _ (.tail _ (.tail _ (.tail _ (.tail _ (.tail _ (.tail _ (.head _)))))))))))))
end Law
set_option Elab.async false
set_option linter.all false
set_option maxRecDepth 100000
/-! What a run of the small language ends with. -/
namespace MP
open PySem (Str PyData sizeLine)

def Ok {α : Type} (r : Res α) (Q : α → Store → Prop) : Prop := match r with
  | .ok a s => Q a s
  | .exc _ _ _ => False
  | .bad => False
def OkS (r : RS) (Q : Fl → En → Store → Prop) : Prop := match r with
  | .ok f e s => Q f e s
  | .exc _ _ _ _ => False
  | .bad => False
section
variable {α β : Type} {Q : α → Store → Prop} {R : β → Store → Prop} {S : Fl → En → Store → Prop} {s : Store}
theorem Ok.mono {r : Res α} {Q' : α → Store → Prop} (h : Ok r Q) (f : ∀ a s, Q a s → Q' a s) : Ok r Q' := by
  cases r <;> first | exact f _ _ h | exact h
theorem OkS.mono {r : RS} {S' : Fl → En → Store → Prop} (h : OkS r S) (f : ∀ a e s, S a e s → S' a e s) : OkS r S' := by
  cases r <;> first | exact f _ _ _ h | exact h
theorem Ok.get {r : Res α} (h : Ok r Q) : ∃ a s, r = .ok a s ∧ Q a s := by
  cases r with
  | ok a s => exact ⟨a, s, rfl, h⟩
  | exc _ _ _ => exact False.elim h
  | bad => exact False.elim h
theorem Ok.of {r : Res α} {a : α} {s : Store} (e : r = .ok a s) (h : Q a s) : Ok r Q := by rw [e]; exact h
theorem ok_ok {a : α} : Ok (.ok a s) Q = Q a s := rfl
theorem ok_bind (m : M α) (f : α → M β) (s : Store) : Ok ((m >>= f) s) R = Ok (m s) fun a s' => Ok (f a s') R := by
  have e : (m >>= f) s = (match m s with | .ok a s' => f a s' | .exc C v s' => .exc C v s' | .bad => .bad) := rfl
  rw [e]
  cases m s <;> rfl
theorem ok_pure (a : α) (s : Store) : Ok ((pure a : M α) s) Q = Q a s := rfl
theorem ok_need (b : Bool) (m : M α) (s : Store) : Ok (need b m s) Q = (b = true ∧ Ok (m s) Q) := by
  cases b <;> simp [need, Ok]
theorem ok_ofOpt (o : Option β) (f : β → M α) (s : Store) : Ok (ofOpt o f s) Q = ∃ a, o = some a ∧ Ok (f a s) Q := by
  cases o <;> simp [ofOpt, Ok, bad]
theorem ok_ask (g : Store → Option β) (f : β → M α) (s : Store) : Ok (ask g f s) Q = ∃ a, g s = some a ∧ Ok (f a s) Q := by
  unfold ask
  cases e : g s <;> simp [Ok]
theorem ok_onL (n : Nat) (f : List Val → M α) (s : Store) : Ok (onL n f s) Q = ∃ xs, s[n]? = some (.lst xs) ∧ Ok (f xs s) Q := by
  unfold onL
  cases e : s[n]? with
  | none => simp [Ok]
  | some o => cases o <;> simp [Ok]
theorem ok_onD (n : Nat) (f : List (Val × Val) → M α) (s : Store) : Ok (onD n f s) Q = ∃ xs, s[n]? = some (.dct xs) ∧ Ok (f xs s) Q := by
  unfold onD
  cases e : s[n]? with
  | none => simp [Ok]
  | some o => cases o <;> simp [Ok]
theorem ok_onO_l {n : Nat} {f : List Val → M α} {g : List (Val × Val) → M α} {s : Store} {xs : List Val} (h : s[n]? = some (.lst xs)) : Ok (onO n f g s) Q = Ok (f xs s) Q := by
  unfold onO; rw [h]
theorem ok_onO_d {n : Nat} {f : List Val → M α} {g : List (Val × Val) → M α} {s : Store} {xs : List (Val × Val)} (h : s[n]? = some (.dct xs)) : Ok (onO n f g s) Q = Ok (g xs s) Q := by
  unfold onO; rw [h]
theorem ok_new (o : Ob) (s : Store) {Q : Val → Store → Prop} : Ok (new o s) Q = Q (.ref s.length) (s ++ [o]) := rfl
theorem ok_put (n : Nat) (o : Ob) (v : Val) (s : Store) {Q : Val → Store → Prop} : Ok (put n o v s) Q = Q v (s.set n o) := rfl
theorem ok_chk (l : List (Nat × Ob)) (m : M α) (s : Store) : Ok (chkM l m s) Q = (l.all (fun p => decide (s[p.1]? = some p.2)) = true ∧ Ok (m s) Q) := by
  unfold chkM
  by_cases h : l.all (fun p => decide (s[p.1]? = some p.2)) = true
  · rw [if_pos h]; simp [h]
  · rw [if_neg h]; simp [h, Ok]
theorem ok_onB (v : Val) (f : Bool → M α) (s : Store) : Ok (onB v f s) Q = ∃ b, v = .bool b ∧ Ok (f b s) Q := by
  cases v <;> simp [onB, Ok, bad]
theorem ok_from {r : Res α} {env : En} {k : α → Store → RS} : OkS (RS.from r env k) S = Ok r fun a s => OkS (k a s) S := by cases r <;> rfl
theorem ok_then {r : RS} {k : En → Store → RS} : OkS (r.then k) S = OkS r fun f e s => match f with
    | .nx => OkS (k e s) S
    | .br => S .br e s
    | .ct => S .ct e s
    | .rt v => S (.rt v) e s := by
  cases r with
  | ok f e s => cases f <;> rfl
  | exc _ _ _ _ => rfl
  | bad => rfl
theorem ok_turn {r : RS} {k : En → Store → RS} : OkS (r.turn k) S = OkS r fun f e s => match f with
    | .nx => OkS (k e s) S
    | .br => S .nx e s
    | .ct => OkS (k e s) S
    | .rt v => S (.rt v) e s := by
  cases r with
  | ok f e s => cases f <;> rfl
  | exc _ _ _ _ => rfl
  | bad => rfl
theorem oks_ok {f : Fl} {e : En} : OkS (.ok f e s) S = S f e s := rfl
/-- a call -/
theorem ok_call {P : Prog} {F d : Nat} {f : Str} {fd : Fn} {vs : List Val} {Q : Val → Store → Prop} (h : P.fns.lookup f = some fd) (hl : vs.length = fd.np)
    (hb : OkS (execs ⟨callN P F d, P.glob⟩ F fd.body (vs.map some ++ List.replicate (fd.ns - fd.np) none) s) fun fl _ s' => match fl with
      | .nx => Q .none s'
      | .rt v => Q v s'
      | .br => False
      | .ct => False) : Ok (callN P F (d + 1) f vs s) Q := by
  have e : callN P F (d + 1) f vs = runFn ⟨callN P F d, P.glob⟩ F fd vs := by
    show (match P.fns.lookup f with
      | some fd => runFn ⟨callN P F d, P.glob⟩ F fd vs
      | none => bad) = _
    rw [h]
  rw [e]
  unfold runFn
  rw [if_pos hl]
  cases e2 : execs ⟨callN P F d, P.glob⟩ F fd.body (vs.map some ++ List.replicate (fd.ns - fd.np) none) s with
  | bad => rw [e2] at hb; exact hb
  | exc _ _ _ _ => rw [e2] at hb; exact hb
  | ok fl en s' =>
    rw [e2] at hb
    cases fl <;> exact hb
end
end MP
set_option Elab.async false
set_option linter.all false
set_option maxRecDepth 100000
/-! Rules, one for each construct. -/
namespace MP
open PySem (Str PyData sizeLine)
section
variable {C : Cfg} {F : Nat} {env : En} {s : Store} {Q : Val → Store → Prop} {S : Fl → En → Store → Prop}
/-- a statement, then the rest -/
def Seq (C : Cfg) (F : Nat) (r : Ss) (S : Fl → En → Store → Prop) : Fl → En → Store → Prop := fun f e s => match f with
  | .nx => OkS (execs C F r e s) S
  | .br => S .br e s
  | .ct => S .ct e s
  | .rt v => S (.rt v) e s
theorem seq_nx {r : Ss} (h : OkS (execs C F r env s) S) : Seq C F r S .nx env s := h
theorem seq_rt {r : Ss} {v : Val} (h : S (.rt v) env s) : Seq C F r S (.rt v) env s := h
theorem seq_br {r : Ss} (h : S .br env s) : Seq C F r S .br env s := h
theorem seq_ct {r : Ss} (h : S .ct env s) : Seq C F r S .ct env s := h
theorem ws_nil (h : S .nx env s) : OkS (execs C F .nil env s) S := h
theorem ws_cons {x : MP.S} {r : Ss} (h : OkS (exec C F x env s) (Seq C F r S)) : OkS (execs C F (.cons x r) env s) S := by
  show OkS ((exec C F x env s).then fun env st => execs C F r env st) S
  rw [ok_then]
  exact h.mono fun f e s' h => by cases f <;> exact h
theorem ws_set {i : Nat} {e : E} (h : Ok (evalE C e env s) fun v s' => S .nx (env.set i (some v)) s') : OkS (exec C F (.set i e) env s) S := by
  show OkS (RS.from _ _ _) S; rw [ok_from]; exact h
theorem ws_ret {e : E} (h : Ok (evalE C e env s) fun v s' => S (.rt v) env s') : OkS (exec C F (.ret e) env s) S := by
  show OkS (RS.from _ _ _) S; rw [ok_from]; exact h
theorem ws_ex {e : E} (h : Ok (evalE C e env s) fun _ s' => S .nx env s') : OkS (exec C F (.ex e) env s) S := by
  show OkS (RS.from _ _ _) S; rw [ok_from]; exact h
theorem ws_pass (h : S .nx env s) : OkS (exec C F .pass env s) S := h
theorem ws_if {c : E} {a b : Ss} (h : Ok (evalE C c env s) fun v s' => ∃ k, v = .bool k ∧ (k = true → OkS (execs C F a env s') S) ∧ (k = false → OkS (execs C F b env s') S)) : OkS (exec C F (.ifs c a b) env s) S := by
  show OkS (RS.from _ _ _) S
  rw [ok_from]
  exact h.mono fun v s' ⟨k, e, h1, h2⟩ => by
    subst e
    cases k with
    | true => exact h1 rfl
    | false => exact h2 rfl
/-- a test whose truth is known -/
theorem ws_ifT {c : E} {a b : Ss} (h : Ok (evalE C c env s) fun v s' => v = .bool true ∧ OkS (execs C F a env s') S) : OkS (exec C F (.ifs c a b) env s) S :=
  ws_if (h.mono fun v s' ⟨e, h⟩ => ⟨true, e, fun _ => h, fun z => nomatch z⟩)
theorem ws_ifF {c : E} {a b : Ss} (h : Ok (evalE C c env s) fun v s' => v = .bool false ∧ OkS (execs C F b env s') S) : OkS (exec C F (.ifs c a b) env s) S :=
  ws_if (h.mono fun v s' ⟨e, h⟩ => ⟨false, e, fun z => (nomatch z), fun _ => h⟩)
theorem ws_setix {a i v : E} (h : Ok (evalE C v env s) fun z s1 => Ok (evalE C a env s1) fun x s2 => Ok (evalE C i env s2) fun y s3 => Ok (setixM x y z s3) fun _ s4 => S .nx env s4) : OkS (exec C F (.setix a i v) env s) S := by
  show OkS (RS.from _ _ _) S
  simp only [ok_from]
  exact h
theorem ws_unp {ts : List Tg} {e : E} (h : Ok (evalE C e env s) fun v s1 => Ok (bindT (.tp ts) v env s1) fun env' s2 => S .nx env' s2) : OkS (exec C F (.unp ts e) env s) S := by
  show OkS (RS.from _ _ _) S
  simp only [ok_from]
  exact h
theorem ws_par {is : List Nat} {es : Es} (h : Ok (evalEs C es env s) fun vs s1 => vs.length = is.length ∧ S .nx (parSet env is vs) s1) : OkS (exec C F (.par is es) env s) S := by
  show OkS (RS.from _ _ _) S
  rw [ok_from]
  exact h.mono fun vs s1 ⟨hl, h⟩ => by rw [if_pos hl]; exact h
/-! expressions -/
theorem we_var {i : Nat} {v : Val} (h : env[i]? = some (some v)) (q : Q v s) : Ok (evalE C (.var i) env s) Q := by
  show Ok (ofOpt (env[i]?.join) pure s) Q
  rw [h]; exact q
theorem we_none (q : Q .none s) : Ok (evalE C .none env s) Q := q
theorem we_bool {b : Bool} (q : Q (.bool b) s) : Ok (evalE C (.bool b) env s) Q := q
theorem we_int {b : Int} (q : Q (.int b) s) : Ok (evalE C (.int b) env s) Q := q
theorem we_str {b : Str} (q : Q (.str b) s) : Ok (evalE C (.str b) env s) Q := q
theorem we_bin {op : Op} {a b : E} (h : Ok (evalE C a env s) fun x s1 => Ok (evalE C b env s1) fun y s2 => Ok (binop op x y s2) Q) : Ok (evalE C (.bin op a b) env s) Q := by
  show Ok ((evalE C a env >>= fun x => evalE C b env >>= fun y => binop op x y) s) Q
  simp only [ok_bind]; exact h
theorem we_cmp {op : Cmp} {a b : E} (h : Ok (evalE C a env s) fun x s1 => Ok (evalE C b env s1) fun y s2 => Ok (cmpop op x y s2) Q) : Ok (evalE C (.cmp op a b) env s) Q := by
  show Ok ((evalE C a env >>= fun x => evalE C b env >>= fun y => cmpop op x y) s) Q
  simp only [ok_bind]; exact h
theorem we_neg {a : E} (h : Ok (evalE C a env s) fun x s1 => ∃ i, x = .int i ∧ Q (.int (-i)) s1) : Ok (evalE C (.neg a) env s) Q := by
  show Ok ((evalE C a env >>= _) s) Q
  rw [ok_bind]
  exact h.mono fun x s1 ⟨i, e, q⟩ => by subst e; exact q
theorem we_not {a : E} (h : Ok (evalE C a env s) fun x s1 => ∃ k, x = .bool k ∧ Q (.bool !k) s1) : Ok (evalE C (.not a) env s) Q := by
  show Ok ((evalE C a env >>= _) s) Q
  rw [ok_bind]
  exact h.mono fun x s1 ⟨i, e, q⟩ => by subst e; exact q
theorem we_and {a b : E} (h : Ok (evalE C a env s) fun x s1 => ∃ k, x = .bool k ∧ (k = true → Ok (evalE C b env s1) Q) ∧ (k = false → Q (.bool false) s1)) : Ok (evalE C (.and a b) env s) Q := by
  show Ok ((evalE C a env >>= _) s) Q
  rw [ok_bind]
  exact h.mono fun x s1 ⟨k, e, h1, h2⟩ => by
    subst e
    cases k with
    | true => exact h1 rfl
    | false => exact h2 rfl
theorem we_or {a b : E} (h : Ok (evalE C a env s) fun x s1 => ∃ k, x = .bool k ∧ (k = false → Ok (evalE C b env s1) Q) ∧ (k = true → Q (.bool true) s1)) : Ok (evalE C (.or a b) env s) Q := by
  show Ok ((evalE C a env >>= _) s) Q
  rw [ok_bind]
  exact h.mono fun x s1 ⟨k, e, h1, h2⟩ => by
    subst e
    cases k with
    | true => exact h2 rfl
    | false => exact h1 rfl
theorem we_ite {c a b : E} (h : Ok (evalE C c env s) fun x s1 => ∃ k, x = .bool k ∧ (k = true → Ok (evalE C a env s1) Q) ∧ (k = false → Ok (evalE C b env s1) Q)) : Ok (evalE C (.ite c a b) env s) Q := by
  show Ok ((evalE C c env >>= _) s) Q
  rw [ok_bind]
  exact h.mono fun x s1 ⟨k, e, h1, h2⟩ => by
    subst e
    cases k with
    | true => exact h1 rfl
    | false => exact h2 rfl
theorem we_ix {a b : E} (h : Ok (evalE C a env s) fun x s1 => Ok (evalE C b env s1) fun y s2 => Ok (ixM x y s2) Q) : Ok (evalE C (.ix a b) env s) Q := by
  show Ok ((evalE C a env >>= fun x => evalE C b env >>= fun y => ixM x y) s) Q
  simp only [ok_bind]; exact h
theorem we_tup {es : Es} (h : Ok (evalEs C es env s) fun vs s1 => vs.length ≤ sizeLine ∧ Q (.tup vs) s1) : Ok (evalE C (.tup es) env s) Q := by
  show Ok ((evalEs C es env >>= fun vs => need (szOk vs.length) (pure (.tup vs))) s) Q
  rw [ok_bind]
  exact h.mono fun vs s1 ⟨hl, q⟩ => by rw [ok_need]; exact ⟨decide_eq_true hl, q⟩
theorem we_lst {es : Es} (h : Ok (evalEs C es env s) fun vs s1 => vs.length ≤ sizeLine ∧ Q (.ref s1.length) (s1 ++ [.lst vs])) : Ok (evalE C (.lst es) env s) Q := by
  show Ok ((evalEs C es env >>= fun vs => need (szOk vs.length) (new (.lst vs))) s) Q
  rw [ok_bind]
  exact h.mono fun vs s1 ⟨hl, q⟩ => by rw [ok_need]; exact ⟨decide_eq_true hl, q⟩
theorem wes_nil {Q : List Val → Store → Prop} (q : Q [] s) : Ok (evalEs C .nil env s) Q := q
theorem wes_cons {e : E} {es : Es} {Q : List Val → Store → Prop} (h : Ok (evalE C e env s) fun v s1 => Ok (evalEs C es env s1) fun vs s2 => Q (v :: vs) s2) : Ok (evalEs C (.cons e es) env s) Q := by
  show Ok ((evalE C e env >>= fun v => evalEs C es env >>= fun vs => pure (v :: vs)) s) Q
  simp only [ok_bind]; exact h
theorem we_call {f : Str} {es : Es} (h : Ok (evalEs C es env s) fun vs s1 => vs.length = es.len ∧ Ok (C.call f vs s1) Q) : Ok (evalE C (.call f es) env s) Q := by
  show Ok ((evalEs C es env >>= fun vs => need (decide (vs.length = es.len)) (C.call f vs)) s) Q
  rw [ok_bind]
  exact h.mono fun vs s1 ⟨hl, q⟩ => by rw [ok_need]; exact ⟨decide_eq_true hl, q⟩
theorem we_callk {f : Str} {es ks : Es} {sel : List Nat} (h : Ok (evalEs C es env s) fun vs s1 => Ok (evalEs C ks env s1) fun ws s2 => (vs.length = es.len ∧ ws.length = ks.len) ∧ Ok (C.call f (pickL (vs ++ ws) sel) s2) Q) : Ok (evalE C (.callk f es ks sel) env s) Q := by
  show Ok ((evalEs C es env >>= fun vs => evalEs C ks env >>= fun ws => need (decide (vs.length = es.len ∧ ws.length = ks.len)) (C.call f (pickL (vs ++ ws) sel))) s) Q
  simp only [ok_bind]
  exact h.mono fun vs s1 h => h.mono fun ws s2 ⟨hl, q⟩ => by rw [ok_need]; exact ⟨decide_eq_true hl, q⟩
theorem we_bi {f : Bi} {es : Es} (h : Ok (evalEs C es env s) fun vs s1 => Ok (bi f vs s1) Q) : Ok (evalE C (.bi f es) env s) Q := by
  show Ok ((evalEs C es env >>= fun vs => bi f vs) s) Q
  simp only [ok_bind]; exact h
theorem we_isi {a : E} {ts : List Ty} (h : Ok (evalE C a env s) fun x s1 => Ok (isAny ts x s1) Q) : Ok (evalE C (.isi a ts) env s) Q := by
  show Ok ((evalE C a env >>= fun x => isAny ts x) s) Q
  simp only [ok_bind]; exact h
theorem we_mt {m : Mt} {o : E} {es : Es} (h : Ok (evalE C o env s) fun x s1 => Ok (mtTy m x (evalEs C es env >>= fun vs => mt m x vs) s1) Q) : Ok (evalE C (.mt m o es) env s) Q := by
  show Ok ((evalE C o env >>= fun x => mtTy m x (evalEs C es env >>= fun vs => mt m x vs)) s) Q
  simp only [ok_bind]; exact h
/-- o.m(..), o a list -/
theorem we_mtL {m : Mt} {o : E} {es : Es} (hm : m = .append ∨ m = .insert ∨ m = .popAt ∨ m = .pop ∨ m = .extend) (h : Ok (evalE C o env s) fun x s1 => ∃ n xs, x = .ref n ∧ s1[n]? = some (.lst xs) ∧ Ok (evalEs C es env s1) fun vs s2 => Ok (mt m (.ref n) vs s2) Q) : Ok (evalE C (.mt m o es) env s) Q := by
  refine we_mt (h.mono fun x s1 ⟨n, xs, e, h1, h2⟩ => ?_)
  subst e
  have h3 : Ok (recvL (.ref n) (evalEs C es env >>= fun vs => mt m (.ref n) vs) s1) Q := by
    show Ok (onL n _ s1) Q
    rw [ok_onL]
    refine ⟨xs, h1, ?_⟩
    rw [ok_bind]; exact h2
  rcases hm with rfl | rfl | rfl | rfl | rfl <;> exact h3
/-! operations -/
theorem wb_add {i j : Int} (q : Q (.int (i + j)) s) : Ok (binop .add (.int i) (.int j) s) Q := q
theorem wb_sub {i j : Int} (q : Q (.int (i - j)) s) : Ok (binop .sub (.int i) (.int j) s) Q := q
theorem wb_mul {i j : Int} (h : (-(2 ^ 64) < i ∧ i < 2 ^ 64) ∨ (-(2 ^ 64) < j ∧ j < 2 ^ 64)) (q : Q (.int (i * j)) s) : Ok (binop .mul (.int i) (.int j) s) Q := by
  show Ok (need (mulOk i j) (pure (.int (i * j))) s) Q
  rw [ok_need]; exact ⟨decide_eq_true h, q⟩
theorem wb_mod {i j : Int} (h : 0 < j) (q : Q (.int (i % j)) s) : Ok (binop .mod (.int i) (.int j) s) Q := by
  show Ok (need (decide (0 < j)) (pure (.int (i % j))) s) Q
  rw [ok_need]; exact ⟨decide_eq_true h, q⟩
theorem wb_fdiv {i j : Int} (h : 0 < j ∧ j < 1073741824) (q : Q (.int (i / j)) s) : Ok (binop .fdiv (.int i) (.int j) s) Q := by
  show Ok (need (decide (0 < j ∧ j < 1073741824)) (pure (.int (i / j))) s) Q
  rw [ok_need]; exact ⟨decide_eq_true h, q⟩
theorem wb_pow {i j : Int} (h : 0 ≤ j ∧ j ≤ 1000000 ∧ i.natAbs < 2 ^ 64) (q : Q (.int (i ^ j.toNat)) s) : Ok (binop .pow (.int i) (.int j) s) Q := by
  show Ok (need (decide (0 ≤ j ∧ j ≤ 1000000 ∧ i.natAbs < 2 ^ 64)) (pure (.int (i ^ j.toNat))) s) Q
  rw [ok_need]; exact ⟨decide_eq_true h, q⟩
theorem wc_lt {i j : Int} (q : Q (.bool (decide (i < j))) s) : Ok (cmpop .lt (.int i) (.int j) s) Q := q
theorem wc_le {i j : Int} (q : Q (.bool (decide (i ≤ j))) s) : Ok (cmpop .le (.int i) (.int j) s) Q := q
theorem wc_gt {i j : Int} (q : Q (.bool (decide (j < i))) s) : Ok (cmpop .gt (.int i) (.int j) s) Q := q
theorem wc_ge {i j : Int} (q : Q (.bool (decide (j ≤ i))) s) : Ok (cmpop .ge (.int i) (.int j) s) Q := q
theorem wi_l {n : Nat} {i : Int} {xs : List Val} {v : Val} (h : s[n]? = some (.lst xs)) (h2 : atV xs i = some v) (q : Q v s) : Ok (ixM (.ref n) (.int i) s) Q := by
  unfold ixM
  rw [ok_onO_l h, ok_ofOpt]
  exact ⟨v, h2, q⟩
theorem wi_f {i : Int} {xs : List Val} {v : Val} (h2 : atV xs i = some v) (q : Q v s) : Ok (ixM (.frz xs) (.int i) s) Q := by
  show Ok (ofOpt (atV xs i) pure s) Q
  rw [ok_ofOpt]
  exact ⟨v, h2, q⟩
theorem wi_t {i : Int} {xs : List Val} {v : Val} (h2 : atV xs i = some v) (q : Q v s) : Ok (ixM (.tup xs) (.int i) s) Q := by
  show Ok (ofOpt (atV xs i) pure s) Q
  rw [ok_ofOpt]
  exact ⟨v, h2, q⟩
theorem wx_l {n : Nat} {i : Int} {j : Nat} {xs : List Val} {v : Val} (h : s[n]? = some (.lst xs)) (h2 : ixN xs.length i = some j) (q : Q .none (s.set n (.lst (xs.set j v)))) : Ok (setixM (.ref n) (.int i) v s) Q := by
  unfold setixM
  rw [ok_onO_l h, ok_ofOpt]
  exact ⟨j, h2, q⟩
end
end MP
set_option Elab.async false
set_option linter.all false
set_option maxRecDepth 100000
/-! The same programs over plain data: no store, the drawing list as a state. -/
namespace VE
open MP (Val Ob Store E Es Oe It Rg S Ss Tg Op Cmp Ty Bi Mt Fn Prog Fl)
open PySem (Str PyData sizeLine)

structure Rn where
  a : Int
  b : Int
  c : Int
inductive VR (α : Type) where
  | ok (a : α) (ρ : Rn)
  | bad
abbrev VM (α : Type) := Rn → VR α
def VM.pure {α : Type} (a : α) : VM α := fun ρ => .ok a ρ
def VM.bind {α β : Type} (m : VM α) (f : α → VM β) : VM β := fun ρ => match m ρ with
  | .ok a ρ' => f a ρ'
  | .bad => .bad
instance : Monad VM where
  pure := VM.pure
  bind := VM.bind
def vbad {α : Type} : VM α := fun _ => .bad
def vneed {α : Type} (b : Bool) (m : VM α) : VM α := fun ρ => if b = true then m ρ else .bad
def vopt {α β : Type} (o : Option α) (f : α → VM β) : VM β := match o with
  | some a => f a
  | none => vbad

/-! ### keys -/
mutual
def valOf : PyData → Val
  | .none => .none
  | .bool b => .bool b
  | .int i => .int i
  | .str s => .str s
  | .tuple xs => .tup (valsOf xs)
  | .list _ => .none
  | .dict _ => .none
def valsOf : List PyData → List Val
  | [] => []
  | x :: xs => valOf x :: valsOf xs
end
mutual
/-- no list, no dict in it -/
def flat : PyData → Bool
  | .none => true
  | .bool _ => true
  | .int _ => true
  | .str _ => true
  | .tuple xs => flats xs
  | .list _ => false
  | .dict _ => false
def flats : List PyData → Bool
  | [] => true
  | x :: xs => flat x && flats xs
end
mutual
def noDict : PyData → Bool
  | .none => true
  | .bool _ => true
  | .int _ => true
  | .str _ => true
  | .tuple xs => noDicts xs
  | .list xs => noDicts xs
  | .dict _ => false
def noDicts : List PyData → Bool
  | [] => true
  | x :: xs => noDict x && noDicts xs
end
def kEq (a b : PyData) : Bool := decide (valOf a = valOf b)
/-- what may stand as a key -/
def kOk (k : PyData) : Bool := flat k && MP.isFlatKey (valOf k)
def pget (kvs : List (PyData × PyData)) (k : PyData) : Option PyData := (kvs.find? fun p => kEq p.1 k).map (·.2)
def pput (kvs : List (PyData × PyData)) (k v : PyData) : List (PyData × PyData) := if kvs.any (fun p => kEq p.1 k) then kvs.map fun p => if kEq p.1 k = true then (p.1, v) else p else kvs ++ [(k, v)]

/-! ### operations -/
abbrev VV := PyData × Bool
def old (d : PyData) : VM VV := pure (d, false)
def fresh (d : PyData) : VM VV := pure (d, true)
def repsP (xs : List PyData) (k : Int) : List PyData := (List.replicate k.toNat xs).flatten
def vbin (op : Op) (x y : PyData) : VM VV := match op with
  | .add => match x, y with
    | .int i, .int j => old (.int (i + j))
    | .bool i, .int j => old (.int (MP.b2i i + j))
    | .str a, .str b => vneed (MP.szOk (a.length + b.length)) (old (.str (a ++ b)))
    | .tuple a, .tuple b => vneed (MP.szOk (a.length + b.length)) (old (.tuple (a ++ b)))
    | .list a, .list b => vneed (MP.szOk (a.length + b.length)) (fresh (.list (a ++ b)))
    | _, _ => vbad
  | .sub => match x, y with
    | .int i, .int j => old (.int (i - j))
    | .bool i, .int j => old (.int (MP.b2i i - j))
    | _, _ => vbad
  | .mul => match x, y with
    | .int i, .int j => vneed (MP.mulOk i j) (old (.int (i * j)))
    | .list a, .int k => vneed (MP.small63 k && MP.szOk (a.length * k.toNat)) (fresh (.list (repsP a k)))
    | .tuple a, .int k => vneed (decide (2 ≤ k ∧ k ≤ 1000 ∧ a.length ≠ 0 ∧ a.length ≤ 1000)) (old (.tuple (repsP a k)))
    | _, _ => vbad
  | .mod => match x, y with
    | .int i, .int j => vneed (decide (0 < j)) (old (.int (i % j)))
    | _, _ => vbad
  | .fdiv => match x, y with
    | .int i, .int j => vneed (decide (0 < j ∧ j < 1073741824)) (old (.int (i / j)))
    | _, _ => vbad
  | .pow => match x, y with
    | .int i, .int j => vneed (decide (0 ≤ j ∧ j ≤ 1000000 ∧ i.natAbs < 2 ^ 64)) (old (.int (i ^ j.toNat)))
    | _, _ => vbad
/-- == can be asked of it -/
def shp (d : PyData) : Bool := noDict d && decide (d.depth ≤ 20) && PySem.SeqAt.shaped d
def shps (ds : List PyData) : Bool := noDicts ds && decide (PyData.depthAll ds ≤ 20) && PySem.SeqAt.shaped (.list ds)
def vin (x y : PyData) (f : Bool → VM VV) : VM VV := match y with
  | .tuple ds => vneed (shp x && shps ds) (f (ds.any fun d => PyData.eqv d x))
  | .list ds => vneed (shp x && shps ds) (f (ds.any fun d => PyData.eqv d x))
  | .dict kvs => vneed (kOk x) (f (pget kvs x).isSome)
  | _ => vbad
def vcmp (op : Cmp) (x y : PyData) : VM VV := match op with
  | .eq => vneed (shp x && shp y) (old (.bool (PyData.eqv x y)))
  | .ne => vneed (shp x && shp y) (old (.bool !(PyData.eqv x y)))
  | .lt => match x, y with
    | .int i, .int j => old (.bool (decide (i < j)))
    | _, _ => vneed (shp x && shp y && PySem.W.alike x y && MP.noNone x) (old (.bool (PySem.W.dataLt x y)))
  | .le => match x, y with
    | .int i, .int j => old (.bool (decide (i ≤ j)))
    | _, _ => vbad
  | .gt => match x, y with
    | .int i, .int j => old (.bool (decide (j < i)))
    | _, _ => vbad
  | .ge => match x, y with
    | .int i, .int j => old (.bool (decide (j ≤ i)))
    | _, _ => vbad
  | .is => match y with
    | .none => match x with
      | .none => old (.bool true)
      | _ => old (.bool false)
    | _ => vbad
  | .isnot => match y with
    | .none => match x with
      | .none => old (.bool false)
      | _ => old (.bool true)
    | _ => vbad
  | .isin => vin x y fun b => old (.bool b)
  | .notin => vin x y fun b => old (.bool !b)
/-- the type that a test sees -/
def tyD : PyData → Option Ty
  | .none => none
  | .bool _ => some .bool
  | .int _ => some .int
  | .str _ => some .str
  | .list _ => some .list
  | .tuple _ => some .tuple
  | .dict _ => none
def isD (ts : List Ty) (d : PyData) : Bool := match tyD d with
  | none => false
  | some u => ts.any fun t => MP.tyB t u
def vix (x y : PyData) : VM VV := match x with
  | .tuple xs => (match y with
    | .int i => vopt (MP.atV xs i) old
    | _ => vbad)
  | .list xs => (match y with
    | .int i => vopt (MP.atV xs i) old
    | _ => vbad)
  | .str s => (match y with
    | .int i => vneed (MP.szOk s.length) (vopt (MP.atV s.cps.toList i) fun c => old (.str ⟨#[c]⟩))
    | _ => vbad)
  | .dict kvs => vneed (kOk y) (vopt (pget kvs y) old)
  | _ => vbad
def partP (o : Option PyData) : Option (Option Int) := match o with
  | none => some none
  | some (.int i) => some (some i)
  | some _ => none
def vsl (x : PyData) (lo hi : Option Int) : VM VV := match x with
  | .tuple xs => old (.tuple (MP.cutV xs lo hi))
  | .str s => vneed (MP.szOk s.length) (old (.str ⟨(MP.cutV s.cps.toList lo hi).toArray⟩))
  | .list xs => fresh (.list (MP.cutV xs lo hi))
  | _ => vbad
def vrev (x : PyData) : VM VV := match x with
  | .list xs => fresh (.list xs.reverse)
  | _ => vbad
def sortP (ds : List PyData) : Option (List PyData) := if (noDicts ds && decide (PyData.depthAll ds ≤ 20) && MP.allAlikeB ds && MP.sortableB ds) = true then some (ds.mergeSort (PySem.W.dataLe false id)) else none
def boolsP : List PyData → Option (List Bool)
  | [] => some []
  | .bool b :: r => (boolsP r).map (b :: ·)
  | _ :: _ => none
def vbi (f : Bi) (vs : List PyData) : VM VV := match f with
  | .len => match vs with
    | [.str s] => vneed (MP.szOk s.length) (old (.int s.length))
    | [.tuple xs] => old (.int xs.length)
    | [.list xs] => old (.int xs.length)
    | [.dict kvs] => old (.int kvs.length)
    | _ => vbad
  | .list => match vs with
    | [.tuple xs] => fresh (.list xs)
    | [.list xs] => fresh (.list xs)
    | [.dict kvs] => fresh (.list (kvs.map (·.1)))
    | _ => vbad
  | .tuple => match vs with
    | [.tuple xs] => old (.tuple xs)
    | [.list xs] => old (.tuple xs)
    | _ => vbad
  | .sorted => match vs with
    | [.tuple xs] => vopt (sortP xs) fun ys => fresh (.list ys)
    | [.list xs] => vopt (sortP xs) fun ys => fresh (.list ys)
    | _ => vbad
  | .all => match vs with
    | [.list xs] => vopt (boolsP xs) fun bs => old (.bool (bs.all id))
    | _ => vbad
  | .any => match vs with
    | [.list xs] => vopt (boolsP xs) fun bs => old (.bool (bs.any id))
    | _ => vbad
  | .abs => match vs with
    | [.int i] => old (.int (if i < 0 then -i else i))
    | _ => vbad
  | .int => match vs with
    | [.int i] => old (.int i)
    | [.bool b] => old (.int (if b then 1 else 0))
    | _ => vbad
  | .min => match vs with
    | [.int i, .int j] => old (.int (if j < i then j else i))
    | _ => vbad
  | .max => match vs with
    | [.int i, .int j] => old (.int (if j > i then j else i))
    | _ => vbad
  | .str => match vs with
    | [.int i] => vneed (decide (i.natAbs.log2 < 1920)) (old (.str (MP.strOfInt i)))
    | [.bool b] => old (.str (if b = true then "True" else "False"))
    | _ => vbad
  | .repr => match vs with
    | [d] => vneed (shp d && d.showable && MP.szOk d.shown.length) (old (.str d.shown))
    | _ => vbad
/-- a method without a change -/
def vmtE (m : Mt) (o : PyData) (vs : List PyData) : VM VV := match m with
  | .index => match o, vs with
    | .tuple ds, [x] => vneed (shp x && shps ds) (vopt (ds.findIdx? fun d => PyData.eqv d x) fun j => old (.int j))
    | .list ds, [x] => vneed (shp x && shps ds) (vopt (ds.findIdx? fun d => PyData.eqv d x) fun j => old (.int j))
    | _, _ => vbad
  | .upper => match o, vs with
    | .str a, [] => vneed (decide (a.length ≤ 5592405)) (old (.str (PySem.Txt.upper a)))
    | _, _ => vbad
  | _ => vbad
/-- a method that changes its object: the object after it -/
def vmtS (m : Mt) (o : PyData) (vs : List PyData) : Option PyData := match m with
  | .append => match o, vs with
    | .list xs, [v] => if xs.length < sizeLine then some (.list (xs ++ [v])) else none
    | _, _ => none
  | .insert => match o, vs with
    | .list xs, [.int i, v] => if xs.length < sizeLine ∧ 0 ≤ i ∧ i ≤ xs.length then some (.list (MP.insAt xs i.toNat v)) else none
    | _, _ => none
  | .pop => match o, vs with
    | .list xs, [] => if xs = [] then none else some (.list xs.dropLast)
    | _, _ => none
  | .popAt => match o, vs with
    | .list xs, [.int i] => if MP.small63 i = true then (MP.ixN xs.length i).bind fun j => if j < xs.length then some (.list (xs.eraseIdx j)) else none else none
    | _, _ => none
  | .extend => match o, vs with
    | .list xs, [.list ys] => if xs.length + ys.length ≤ sizeLine then some (.list (xs ++ ys)) else none
    | _, _ => none
  | _ => none
/-- a[i] = v: the object after it -/
def vput (o i v : PyData) : Option PyData := match o with
  | .list xs => match i with
    | .int k => (MP.ixN xs.length k).map fun j => .list (xs.set j v)
    | _ => none
  | .dict kvs => if kOk i = true ∧ kvs.length < sizeLine then some (.dict (pput kvs i v)) else none
  | _ => none

/-! ### the drawing list -/
def drawR (ρ : Rn) (n : Int) : Int × Rn :=
  if 0 < ρ.a then (ρ.a % n, { ρ with a := ρ.a / n })
  else
    let c := ρ.c + 1
    let o := ((ρ.b + 40009 * c) ^ (5 : Int).toNat) % 2147483629
    ((o * (o % 39373 + 11) + c * 6151) % 2147483647 / 64 % n, { ρ with c := c })
def drawV (n : PyData) : VM VV := match n with
  | .int n => fun ρ => if 0 < n ∧ n < 2 ^ 30 ∧ ρ.c < 2 ^ 40 then .ok (.int (drawR ρ n).1, false) (drawR ρ n).2 else .bad
  | _ => vbad

/-! ### slots -/
inductive Sl where
  | none
  | val (d : PyData)
  | own (d : PyData)
  | rng
abbrev VEn := List Sl
def varOf : E → Option Nat
  | .var i => some i
  | _ => none
/-- an argument of a call -/
inductive Ar where
  | d (x : PyData)
  | rng
abbrev VHd := Str → List Ar → VM VV
structure VCfg where
  call : VHd
  glob : Str → Option PyData
inductive VItm where
  | one (d : PyData)
  | many (ds : List PyData)
mutual
def vbindT : Tg → PyData → VEn → Option VEn
  | .nm i, v, env => some (env.set i (.val v))
  | .tp ts, v, env => match v with
    | .tuple xs => vbindTs ts xs env
    | .list xs => vbindTs ts xs env
    | _ => none
def vbindTs : List Tg → List PyData → VEn → Option VEn
  | [], [], env => some env
  | t :: ts, v :: vs, env => (vbindT t v env).bind fun env' => vbindTs ts vs env'
  | [], _ :: _, _ => none
  | _ :: _, [], _ => none
end
def vbindI : Tg → VItm → VEn → Option VEn
  | t, .one v, env => vbindT t v env
  | .tp ts, .many vs, env => vbindTs ts vs env
  | .nm _, .many _, _ => none
def vwipe (env : VEn) : List Nat → VEn
  | [] => env
  | v :: vs => (vwipe env vs).set v .none
def venumV (i : Nat) : List PyData → List VItm
  | [] => []
  | x :: xs => .many [.int i, x] :: venumV (i + 1) xs
def vzipV : List PyData → List PyData → List VItm
  | x :: xs, y :: ys => .many [x, y] :: vzipV xs ys
  | _, _ => []
def rgP (g : MP.RgV) : List PyData := (List.range g.n).map fun (i : Nat) => .int (g.lo + (i : Int) * g.step)
def vsrc (d : PyData) : VM (List VItm) := match d with
  | .tuple xs => pure (xs.map .one)
  | .str s => pure (s.cps.toList.map fun c => .one (.str ⟨#[c]⟩))
  | .list xs => pure (xs.map .one)
  | _ => vbad
def vseq (d : PyData) : Option (List PyData) := match d with
  | .tuple xs => some xs
  | .list xs => some xs
  | _ => none
def isList : PyData → Bool
  | .list _ => true
  | _ => false
def vlcGo (body : VItm → VM (Option PyData)) : List VItm → VM (List PyData)
  | [] => pure []
  | x :: xs => do
    let r ← body x
    let ys ← vlcGo body xs
    pure (match r with | some y => y :: ys | none => ys)
def vdcGo (body : VItm → VM (PyData × PyData)) : List VItm → List (PyData × PyData) → VM (List (PyData × PyData))
  | [], kvs => pure kvs
  | x :: xs, kvs => do
    let kv ← body x
    vneed (kOk kv.1) (vdcGo body xs (pput kvs kv.1 kv.2))
def vonB {α : Type} (v : PyData) (f : Bool → VM α) : VM α := match v with
  | .bool b => f b
  | _ => vbad
def arOf (env : VEn) (e : E) (m : VM VV) : VM Ar := match (varOf e).bind (env[·]?) with
  | some .rng => pure .rng
  | _ => do let x ← m; pure (.d x.1)

section
variable (C : VCfg)
/-- a place that only reads -/
def rdV (env : VEn) (e : E) (m : VM VV) : VM VV := match (varOf e).bind (env[·]?) with
  | some (.own d) => pure (d, false)
  | _ => m
mutual
def veE : E → VEn → VM VV
  | .var i, env => match env[i]? with
    | some (.val d) => pure (d, false)
    | _ => vbad
  | .none, _ => old .none
  | .bool b, _ => old (.bool b)
  | .int i, _ => old (.int i)
  | .str s, _ => old (.str s)
  | .glob x, _ => vopt (C.glob x) old
  | .tup es, env => do let vs ← veEs es env; vneed (MP.szOk vs.length) (old (.tuple vs))
  | .lst es, env => do let vs ← veEs es env; vneed (MP.szOk vs.length) (fresh (.list vs))
  | .dic0, _ => fresh (.dict [])
  | .dic1 k v, env => do let a ← veE k env; let b ← veE v env; vneed (kOk a.1) (fresh (.dict [(a.1, b.1)]))
  | .bin op a b, env => do let x ← rdV env a (veE a env); let y ← rdV env b (veE b env); vbin op x.1 y.1
  | .neg a, env => do
    let x ← veE a env
    match x.1 with
    | .int i => old (.int (-i))
    | _ => vbad
  | .not a, env => do let x ← veE a env; vonB x.1 fun b => old (.bool !b)
  | .cmp op a b, env => do let x ← rdV env a (veE a env); let y ← rdV env b (veE b env); vcmp op x.1 y.1
  | .chain o1 o2 a b c, env => do
    let x ← rdV env a (veE a env)
    let y ← rdV env b (veE b env)
    let r ← vcmp o1 x.1 y.1
    vonB r.1 fun k => match k with
      | true => do let z ← rdV env c (veE c env); vcmp o2 y.1 z.1
      | false => old (.bool false)
  | .and a b, env => do
    let x ← veE a env
    vonB x.1 fun k => match k with
      | true => veE b env
      | false => old (.bool false)
  | .or a b, env => do
    let x ← veE a env
    vonB x.1 fun k => match k with
      | true => old (.bool true)
      | false => veE b env
  | .ite c a b, env => do
    let x ← veE c env
    vonB x.1 fun k => match k with
      | true => veE a env
      | false => veE b env
  | .ix a b, env => do let x ← rdV env a (veE a env); let y ← veE b env; vix x.1 y.1
  | .sl a lo hi, env => do
    let x ← rdV env a (veE a env)
    let l ← veOe lo env
    vopt (partP l) fun l => do
      let h ← veOe hi env
      vopt (partP h) fun h => vsl x.1 l h
  | .rev a, env => do let x ← rdV env a (veE a env); vrev x.1
  | .call f es, env => do let vs ← veAs es env; C.call f vs
  | .callk f es ks sel, env => do let vs ← veAs es env; let ws ← veAs ks env; C.call f (MP.pickL (vs ++ ws) sel)
  | .bi f es, env => do let vs ← veRs es env; vbi f vs
  | .lrng r, env => do let vs ← veRg r env; vopt (MP.rng2V (valsOf vs)) fun g => vneed (MP.szOk g.n) (fresh (.list (rgP g)))
  | .trng r, env => do let vs ← veRg r env; vopt (MP.rng2V (valsOf vs)) fun g => vneed (MP.szOk g.n) (old (.tuple (rgP g)))
  | .mt m o es, env => do let x ← rdV env o (veE o env); let vs ← veEs es env; vmtE m x.1 vs
  | .isi a ts, env => do let x ← rdV env a (veE a env); old (.bool (isD ts x.1))
  | .lc t it c e own, env => do
    let src ← veIt true it env
    vneed (MP.szOk src.length) do
      let ys ← vlcGo (fun v => vopt (vbindI t v (vwipe env own)) fun env2 => do
        let k ← veOe c env2
        match k with
        | Option.none => do let y ← veE e env2; pure (some y.1)
        | some z => vonB z fun k => match k with
          | true => do let y ← veE e env2; pure (some y.1)
          | false => pure Option.none) src
      fresh (.list ys)
  | .dc t it k v own, env => do
    let src ← veIt true it env
    vneed (MP.szOk src.length) do
      let kvs ← vdcGo (fun x => vopt (vbindI t x (vwipe env own)) fun env2 => do
        let a ← veE k env2
        let b ← veE v env2
        pure (a.1, b.1)) src []
      fresh (.dict kvs)
def veEs : Es → VEn → VM (List PyData)
  | .nil, _ => pure []
  | .cons e es, env => do let v ← veE e env; let vs ← veEs es env; pure (v.1 :: vs)
/-- values that are only read -/
def veRs : Es → VEn → VM (List PyData)
  | .nil, _ => pure []
  | .cons e es, env => do let v ← rdV env e (veE e env); let vs ← veRs es env; pure (v.1 :: vs)
/-- the arguments of a call -/
def veAs : Es → VEn → VM (List Ar)
  | .nil, _ => pure []
  | .cons e es, env => do let v ← arOf env e (veE e env); let vs ← veAs es env; pure (v :: vs)
def veOe : Oe → VEn → VM (Option PyData)
  | .none, _ => pure Option.none
  | .some e, env => do let v ← veE e env; pure (some v.1)
/-- what is walked; q: an own object may be walked -/
def veIt : Bool → It → VEn → VM (List VItm)
  | q, .val e, env => do let v ← (if q = true then rdV env e (veE e env) else veE e env); vsrc v.1
  | _, .rng r, env => do let vs ← veRg r env; vopt (MP.rngV (valsOf vs)) fun g => pure ((rgP g).map .one)
  | q, .enum e, env => do let v ← (if q = true then rdV env e (veE e env) else veE e env); vopt (vseq v.1) fun s => pure (venumV 0 s)
  | q, .zip a b, env => do
    let x ← (if q = true then rdV env a (veE a env) else veE a env)
    let y ← (if q = true then rdV env b (veE b env) else veE b env)
    vopt (vseq x.1) fun s => vopt (vseq y.1) fun u => vneed (decide (isList x.1 = isList y.1)) (pure (vzipV s u))
  | q, .rev e, env => do let v ← (if q = true then rdV env e (veE e env) else veE e env); vopt (vseq v.1) fun s => pure (s.reverse.map .one)
  | q, .items e, env => do
    let v ← (if q = true then rdV env e (veE e env) else veE e env)
    match v.1 with
    | .dict kvs => pure (kvs.map fun p => .many [p.1, p.2])
    | _ => vbad
  | q, .vals e, env => do
    let v ← (if q = true then rdV env e (veE e env) else veE e env)
    match v.1 with
    | .dict kvs => pure (kvs.map fun p => .one p.2)
    | _ => vbad
def veRg : Rg → VEn → VM (List PyData)
  | .one a, env => do let x ← veE a env; pure [x.1]
  | .two a b, env => do let x ← veE a env; let y ← veE b env; pure [x.1, y.1]
  | .three a b c, env => do let x ← veE a env; let y ← veE b env; let z ← veE c env; pure [x.1, y.1, z.1]
end
end
/-- the slots of new values -/
def slOf (v : VV) : Sl := if v.2 = true then .own v.1 else .val v.1

/-! ### what leaves a slot: from then on it is not changed any more -/
section
/-- variables that stand as values -/
def mvV (e : E) (l : List Nat) : List Nat := match varOf e with
  | some _ => []
  | none => l
mutual
def mvE : E → List Nat
  | .var i => [i]
  | .tup es => mvEs es
  | .lst es => mvEs es
  | .dic1 k v => mvE k ++ mvE v
  | .bin _ a b => mvV a (mvE a) ++ mvV b (mvE b)
  | .neg a => mvE a
  | .not a => mvE a
  | .cmp _ a b => mvV a (mvE a) ++ mvV b (mvE b)
  | .chain _ _ a b c => mvV a (mvE a) ++ mvV b (mvE b) ++ mvV c (mvE c)
  | .and a b => mvE a ++ mvE b
  | .or a b => mvE a ++ mvE b
  | .ite c a b => mvE c ++ mvE a ++ mvE b
  | .ix a b => mvV a (mvE a) ++ mvE b
  | .sl a _ _ => mvV a (mvE a)
  | .rev a => mvV a (mvE a)
  | .call _ es => mvEs es
  | .callk _ es ks _ => mvEs es ++ mvEs ks
  | .bi _ es => mvRs es
  | .mt _ o es => mvV o (mvE o) ++ mvEs es
  | .isi a _ => mvV a (mvE a)
  | .lc _ it _ e _ => mvIt it ++ mvE e
  | .dc _ it k v _ => mvIt it ++ mvE k ++ mvE v
  | _ => []
def mvEs : Es → List Nat
  | .nil => []
  | .cons e es => mvE e ++ mvEs es
def mvRs : Es → List Nat
  | .nil => []
  | .cons e es => mvV e (mvE e) ++ mvRs es
def mvIt : It → List Nat
  | .val e => mvV e (mvE e)
  | .rng _ => []
  | .enum e => mvV e (mvE e)
  | .zip a b => mvV a (mvE a) ++ mvV b (mvE b)
  | .rev e => mvV e (mvE e)
  | .items e => mvV e (mvE e)
  | .vals e => mvV e (mvE e)
end
/-- of a loop: what is walked stays as it is -/
def mvLo : It → List Nat
  | .val e => mvE e
  | .rng _ => []
  | .enum e => mvE e
  | .zip a b => mvE a ++ mvE b
  | .rev e => mvE e
  | .items e => mvE e
  | .vals e => mvE e
end
def frz1 (env : VEn) (i : Nat) : VEn := match env[i]? with
  | some (.own d) => env.set i (.val d)
  | _ => env
def frz (env : VEn) (l : List Nat) : VEn := l.foldl frz1 env

/-! ### statements -/
inductive VFl where
  | nx | br | ct
  | rt (v : VV)
inductive VRS where
  | ok (f : VFl) (env : VEn) (ρ : Rn)
  | bad
def VRS.from {α : Type} (r : VR α) (k : α → Rn → VRS) : VRS := match r with
  | .ok a ρ => k a ρ
  | .bad => .bad
def VRS.then (r : VRS) (k : VEn → Rn → VRS) : VRS := match r with
  | .ok .nx env ρ => k env ρ
  | .ok f env ρ => .ok f env ρ
  | .bad => .bad
def VRS.turn (r : VRS) (k : VEn → Rn → VRS) : VRS := match r with
  | .ok .nx env ρ => k env ρ
  | .ok .ct env ρ => k env ρ
  | .ok .br env ρ => .ok .nx env ρ
  | .ok (.rt v) env ρ => .ok (.rt v) env ρ
  | .bad => .bad
def VRS.opt {α : Type} (o : Option α) (k : α → VRS) : VRS := match o with
  | some a => k a
  | none => .bad
def vparSet (env : VEn) : List Nat → List Sl → VEn
  | i :: is, v :: vs => vparSet (env.set i v) is vs
  | _, _ => env
def vforGo (body : VItm → VEn → Rn → VRS) : List VItm → VEn → Rn → VRS
  | [], env, ρ => .ok .nx env ρ
  | x :: xs, env, ρ => (body x env ρ).turn (vforGo body xs)
def vwhlGo (c : VEn → VM VV) (body : VEn → Rn → VRS) : Nat → VEn → Rn → VRS
  | 0, _, _ => .bad
  | n + 1, env, ρ => VRS.from (c env ρ) fun v ρ => match v.1 with
    | .bool true => (body env ρ).turn (vwhlGo c body n)
    | .bool false => .ok .nx env ρ
    | _ => .bad
def vaug (op : Op) (x y : PyData) : Option PyData := match op with
  | .add => match x, y with
    | .int i, .int j => some (.int (i + j))
    | _, _ => none
  | .mul => match x, y with
    | .int i, .int j => if MP.mulOk i j = true then some (.int (i * j)) else none
    | _, _ => none
  | _ => none
section
variable (C : VCfg) (F : Nat)
/-- the new values of a parallel assignment -/
def vePar : Es → VEn → VM (List Sl)
  | .nil, _ => pure []
  | .cons e es, env => do let v ← veE C e env; let vs ← vePar es env; pure (slOf v :: vs)
/-- o.m(..) as a statement: o a variable -/
def veEx (e : E) (env : VEn) (ρ : Rn) : VRS := match e with
  | .mt m o es => match varOf o with
    | some i => match (frz env (mvEs es))[i]? with
      | some (.own d) => VRS.from (veEs C es (frz env (mvEs es)) ρ) fun vs ρ => VRS.opt (vmtS m d vs) fun d' => .ok .nx ((frz env (mvEs es)).set i (.own d')) ρ
      | _ => VRS.from (veE C e (frz env (mvE e)) ρ) fun _ ρ => .ok .nx (frz env (mvE e)) ρ
    | none => VRS.from (veE C e (frz env (mvE e)) ρ) fun _ ρ => .ok .nx (frz env (mvE e)) ρ
  | _ => VRS.from (veE C e (frz env (mvE e)) ρ) fun _ ρ => .ok .nx (frz env (mvE e)) ρ
def veRet (e : E) (env : VEn) (ρ : Rn) : VRS := match (varOf e).bind (env[·]?) with
  | some (.own d) => .ok (.rt (d, true)) env ρ
  | _ => VRS.from (veE C e (frz env (mvE e)) ρ) fun v ρ => .ok (.rt v) (frz env (mvE e)) ρ
mutual
def veS : S → VEn → Rn → VRS
  | .set i e, env, ρ => VRS.from (veE C e (frz env (mvE e)) ρ) fun v ρ => .ok .nx ((frz env (mvE e)).set i (slOf v)) ρ
  | .unp ts e, env, ρ => VRS.from (veE C e (frz env (mvE e)) ρ) fun v ρ => VRS.opt (vbindT (.tp ts) v.1 (frz env (mvE e))) fun env' => .ok .nx env' ρ
  | .par is es, env, ρ => VRS.from (vePar C es (frz env (mvEs es)) ρ) fun vs ρ => if vs.length = is.length then .ok .nx (vparSet (frz env (mvEs es)) is vs) ρ else .bad
  | .setix a i v, env, ρ => VRS.from (veE C v (frz env (mvE v ++ mvE i)) ρ) fun z ρ => VRS.from (veE C i (frz env (mvE v ++ mvE i)) ρ) fun y ρ => VRS.opt (varOf a) fun k => match (frz env (mvE v ++ mvE i))[k]? with
      | some (.own d) => VRS.opt (vput d y.1 z.1) fun d' => .ok .nx ((frz env (mvE v ++ mvE i)).set k (.own d')) ρ
      | _ => .bad
  | .aug i op e, env, ρ => match env[i]? with
    | some (.val x) => VRS.from (veE C e env ρ) fun y ρ => VRS.opt (vaug op x y.1) fun z => .ok .nx (env.set i (.val z)) ρ
    | _ => .bad
  | .ex e, env, ρ => veEx C e env ρ
  | .ret e, env, ρ => veRet C e env ρ
  | .ret0, env, ρ => .ok (.rt (.none, false)) env ρ
  | .ifs c a b, env, ρ => VRS.from (veE C c (frz env (mvE c)) ρ) fun v ρ => match v.1 with
    | .bool true => veSs a (frz env (mvE c)) ρ
    | .bool false => veSs b (frz env (mvE c)) ρ
    | _ => .bad
  | .whl c b, env, ρ => vwhlGo (fun env => veE C c env) (fun env ρ => veSs b env ρ) F env ρ
  | .loop t it b, env, ρ => VRS.from (veIt C false it (frz env (mvLo it)) ρ) fun src ρ => vforGo (fun x env ρ => VRS.opt (vbindI t x env) fun env' => veSs b env' ρ) src (frz env (mvLo it)) ρ
  | .raise _ _, _, _ => .bad
  | .pass, env, ρ => .ok .nx env ρ
def veSs : Ss → VEn → Rn → VRS
  | .nil, env, ρ => .ok .nx env ρ
  | .cons s r, env, ρ => (veS s env ρ).then fun env ρ => veSs r env ρ
end
end
/-! ### programs -/
structure VProg where
  fns : List (Str × Fn)
  glob : Str → Option PyData
def arSl : Ar → Sl
  | .d x => .val x
  | .rng => .rng
def vrunFn (C : VCfg) (F : Nat) (fd : Fn) (vs : List Ar) : VM VV := fun ρ =>
  if vs.length = fd.np then match veSs C F fd.body (vs.map arSl ++ List.replicate (fd.ns - fd.np) .none) ρ with
    | .ok .nx _ ρ' => .ok (.none, false) ρ'
    | .ok (.rt v) _ ρ' => .ok v ρ'
    | .ok _ _ _ => .bad
    | .bad => .bad
  else .bad
def drawS : Str := "_law_draw"
def vcallN (P : VProg) (F : Nat) : Nat → VHd
  | 0, _, _ => vbad
  | d + 1, f, vs => if f = drawS then (match vs with
      | [.rng, .d n] => drawV n
      | _ => vbad)
    else match P.fns.lookup f with
      | some fd => vrunFn ⟨vcallN P F d, P.glob⟩ F fd vs
      | none => vbad
end VE
set_option Elab.async false
set_option linter.all false
set_option maxRecDepth 100000
/-! Data in the store; the draws. -/
namespace MP
open PySem (Str PyData sizeLine)

/-! ### frames -/
/-- nothing that stood changes but the object r -/
def Keeps (r : List Nat) (s s' : Store) : Prop := s.length ≤ s'.length ∧ ∀ n, n < s.length → n ∉ r → s'[n]? = s[n]?
section
variable {r : List Nat} {s s1 s2 : Store}
theorem Keeps.refl : Keeps r s s := ⟨Nat.le_refl _, fun _ _ _ => rfl⟩
theorem Keeps.trans (a : Keeps r s s1) (b : Keeps r s1 s2) : Keeps r s s2 := ⟨Nat.le_trans a.1 b.1, fun n h1 h2 => (b.2 n (Nat.lt_of_lt_of_le h1 a.1) h2).trans (a.2 n h1 h2)⟩
theorem Keeps.put {n : Nat} {o : Ob} (hn : n ∈ r) : Keeps r s (s.set n o) := ⟨by rw [List.length_set]; exact Nat.le_refl _, fun k _ h => List.getElem?_set_ne (fun (e : n = k) => h (by rw [← e]; exact hn))⟩
theorem Keeps.sub {r' : List Nat} (k : Keeps r s s1) (h : ∀ n ∈ r, n ∈ r') : Keeps r' s s1 := ⟨k.1, fun n h1 h2 => k.2 n h1 fun e => h2 (h n e)⟩
theorem Keeps.app {o : Ob} : Keeps r s (s ++ [o]) := ⟨by simp, fun n h _ => List.getElem?_append_left h⟩
/-- a change of what is new -/
theorem Keeps.own (a : Keeps r s s1) {f : Nat} {o : Ob} (h : s.length ≤ f) : Keeps r s (s1.set f o) := ⟨by rw [List.length_set]; exact a.1, fun n h1 h2 => (List.getElem?_set_ne (by omega)).trans (a.2 n h1 h2)⟩
theorem Keeps.at (a : Keeps r s s1) {n : Nat} {o : Ob} (h : s[n]? = some o) (hr : n ∉ r) : s1[n]? = some o := (a.2 n (List.getElem?_eq_some_iff.mp h).1 hr).trans h
end
/-! ### data -/
mutual
inductive Rep (r : List Nat) (s : Store) : Val → PyData → Prop
  | none : Rep r s .none .none
  | bool (b) : Rep r s (.bool b) (.bool b)
  | int (i) : Rep r s (.int i) (.int i)
  | str (x) : Rep r s (.str x) (.str x)
  | tup {xs ds} : Reps r s xs ds → Rep r s (.tup xs) (.tuple ds)
  | lst {n xs ds} : n ∉ r → s[n]? = some (.lst xs) → Reps r s xs ds → Rep r s (.ref n) (.list ds)
inductive Reps (r : List Nat) (s : Store) : List Val → List PyData → Prop
  | nil : Reps r s [] []
  | cons {x xs d ds} : Rep r s x d → Reps r s xs ds → Reps r s (x :: xs) (d :: ds)
end
section
variable {r : List Nat} {s s1 s2 : Store}
mutual
theorem Rep.keep (k : Keeps r s s1) : ∀ (d : PyData) (v : Val), Rep r s v d → Rep r s1 v d
  | .none, _, h => by cases h; exact .none
  | .bool _, _, h => by cases h; exact .bool _
  | .int _, _, h => by cases h; exact .int _
  | .str _, _, h => by cases h; exact .str _
  | .tuple ds, _, h => by
    cases h with
    | tup t => exact .tup (Reps.keep k ds _ t)
  | .list ds, _, h => by
    cases h with
    | lst h1 h2 t => exact .lst h1 (k.at h2 h1) (Reps.keep k ds _ t)
  | .dict _, _, h => by cases h
theorem Reps.keep (k : Keeps r s s1) : ∀ (ds : List PyData) (vs : List Val), Reps r s vs ds → Reps r s1 vs ds
  | [], _, h => by cases h; exact .nil
  | d :: ds, _, h => by
    cases h with
    | cons a b => exact .cons (Rep.keep k d _ a) (Reps.keep k ds _ b)
end
theorem Reps.len : ∀ {vs : List Val} {ds : List PyData}, Reps r s vs ds → vs.length = ds.length
  | [], _, h => by cases h; rfl
  | v :: vs, _, h => by cases h with | cons a b => simp [Reps.len b]
theorem Reps.at : ∀ {vs : List Val} {ds : List PyData} {i : Nat} {v : Val}, Reps r s vs ds → vs[i]? = some v → ∃ d, ds[i]? = some d ∧ Rep r s v d
  | [], _, _, _, h, e => by simp at e
  | v :: vs, _, 0, _, h, e => by cases h with | cons a b => simp at e; subst e; exact ⟨_, rfl, a⟩
  | v :: vs, _, i + 1, w, h, e => by
    cases h with
    | cons a b =>
      obtain ⟨d, h1, h2⟩ := Reps.at (i := i) (v := w) b (by simpa using e)
      exact ⟨d, by simpa using h1, h2⟩
theorem Reps.app : ∀ {vs ws : List Val} {ds es : List PyData}, Reps r s vs ds → Reps r s ws es → Reps r s (vs ++ ws) (ds ++ es)
  | [], _, _, _, h, h' => by cases h; exact h'
  | v :: vs, _, _, _, h, h' => by cases h with | cons a b => exact .cons a (b.app h')
theorem Reps.take : ∀ {vs : List Val} {ds : List PyData} (n : Nat), Reps r s vs ds → Reps r s (vs.take n) (ds.take n)
  | [], _, n, h => by cases h; simp; exact .nil
  | v :: vs, _, 0, h => by simp; exact .nil
  | v :: vs, _, n + 1, h => by cases h with | cons a b => exact .cons a (b.take n)
theorem Reps.drop : ∀ {vs : List Val} {ds : List PyData} (n : Nat), Reps r s vs ds → Reps r s (vs.drop n) (ds.drop n)
  | [], _, n, h => by cases h; simp; exact .nil
  | v :: vs, _, 0, h => h
  | v :: vs, _, n + 1, h => by cases h with | cons a b => exact b.drop n
theorem Reps.rev : ∀ {vs : List Val} {ds : List PyData}, Reps r s vs ds → Reps r s vs.reverse ds.reverse
  | [], _, h => by cases h; exact .nil
  | v :: vs, _, h => by
    cases h with
    | cons a b => rw [List.reverse_cons, List.reverse_cons]; exact b.rev.app (.cons a .nil)
theorem Reps.put : ∀ {vs : List Val} {ds : List PyData} {v : Val} {d : PyData} (n : Nat), Reps r s vs ds → Rep r s v d → Reps r s (vs.set n v) (ds.set n d)
  | [], _, _, _, n, h, _ => by cases h; exact .nil
  | v :: vs, _, _, _, 0, h, q => by cases h with | cons a b => exact .cons q b
  | v :: vs, _, _, _, n + 1, h, q => by cases h with | cons a b => exact .cons a (b.put n q)
theorem Reps.del : ∀ {vs : List Val} {ds : List PyData} (n : Nat), Reps r s vs ds → Reps r s (vs.eraseIdx n) (ds.eraseIdx n)
  | [], _, n, h => by cases h; exact .nil
  | v :: vs, _, 0, h => by cases h with | cons a b => exact b
  | v :: vs, _, n + 1, h => by cases h with | cons a b => exact .cons a (b.del n)
/-! data as the evaluator reads it -/
mutual
theorem dat_rep : ∀ (d : PyData) (v : Val) (n : Nat), Rep r s v d → d.depth ≤ n → dat s n v = some d
  | .none, _, n, h, _ => by cases h; cases n <;> rfl
  | .bool _, _, n, h, _ => by cases h; cases n <;> rfl
  | .int _, _, n, h, _ => by cases h; cases n <;> rfl
  | .str _, _, n, h, _ => by cases h; cases n <;> rfl
  | .tuple ds, _, n, h, hn => by
    cases h with
    | tup t =>
      cases n with
      | zero => simp [PyData.depth] at hn
      | succ n =>
        simp only [PyData.depth] at hn
        simp only [dat]
        rw [dat_reps ds _ n t (by omega)]; rfl
  | .list ds, _, n, h, hn => by
    cases h with
    | lst h1 h2 t =>
      cases n with
      | zero => simp [PyData.depth] at hn
      | succ n =>
        simp only [PyData.depth] at hn
        simp only [dat, h2]
        rw [dat_reps ds _ n t (by omega)]; rfl
  | .dict _, _, _, h, _ => by cases h
theorem dat_reps : ∀ (ds : List PyData) (vs : List Val) (n : Nat), Reps r s vs ds → PyData.depthAll ds ≤ n → vs.mapM (dat s n) = some ds
  | [], _, n, h, _ => by cases h; rfl
  | d :: ds, _, n, h, hn => by
    cases h with
    | cons a b =>
      simp only [PyData.depthAll] at hn
      rw [List.mapM_cons, dat_rep d _ n a (by omega), dat_reps ds _ n b (by omega)]; rfl
end
end
/-! texts of ASCII only, no dict -/
mutual
def asc : PyData → Bool
  | .none => true
  | .bool _ => true
  | .int _ => true
  | .str x => x.cps.all (· < 128)
  | .list xs => ascs xs
  | .tuple xs => ascs xs
  | .dict _ => false
def ascs : List PyData → Bool
  | [] => true
  | x :: xs => asc x && ascs xs
end
mutual
theorem asc_lay : ∀ d : PyData, asc d = true → d.canLay0 = true
  | .none, _ => rfl
  | .bool _, _ => rfl
  | .int _, _ => rfl
  | .str x, h => by
    simp only [asc] at h
    simp only [PyData.canLay0, PyData.strOk]
    rw [Array.all_eq_true] at h ⊢
    intro i hi
    have := h i hi
    simp at this ⊢; omega
  | .list xs, h => by simp only [asc] at h; simp only [PyData.canLay0]; exact ascs_lay xs h
  | .tuple xs, h => by simp only [asc] at h; simp only [PyData.canLay0]; exact ascs_lay xs h
  | .dict _, h => by simp [asc] at h
theorem ascs_lay : ∀ ds : List PyData, ascs ds = true → PyData.canLayAll0 ds = true
  | [], _ => rfl
  | d :: ds, h => by
    simp only [ascs, Bool.and_eq_true] at h
    simp only [PyData.canLayAll0, Bool.and_eq_true]
    exact ⟨asc_lay d h.1, ascs_lay ds h.2⟩
end
/-! ### weight -/
mutual
def wt : PyData → Nat
  | .none => 4
  | .bool _ => 5
  | .int i => i.natAbs.log2 + 3
  | .str x => 10 * x.length + 2
  | .list xs => wts xs + 3
  | .tuple xs => wts xs + 3
  | .dict _ => 0
def wts : List PyData → Nat
  | [] => 0
  | x :: xs => wt x + 2 + wts xs
end
/-- data of a kind that the law's values have: W bounds the text, D the depth -/
structure Gd (W D : Nat) (d : PyData) : Prop where
  w : wt d ≤ W
  dep : d.depth ≤ D
  a : asc d = true
theorem Gd.shaped {W D : Nat} {d : PyData} (h : Gd W D d) (hD : D ≤ 20) : PySem.SeqAt.shaped d = true := by
  unfold PySem.SeqAt.shaped
  rw [asc_lay d h.a]
  have := h.dep
  simp; omega
theorem datS_of_rep {r : List Nat} {s : Store} {W D : Nat} {v : Val} {d : PyData} (h : Rep r s v d) (g : Gd W D d) (hD : D ≤ 20) : datS s v = some d := by
  unfold datS
  have := g.dep
  rw [dat_rep d v dDepth h (by unfold dDepth; omega)]
  simp only
  rw [if_pos (g.shaped hD)]
end MP
set_option Elab.async false
set_option linter.all false
set_option maxRecDepth 100000
/-! How long a printed value is. -/
namespace MP
open PySem (Str PyData sizeLine)
theorem textFrom_le : ∀ (ts : List Str) (k : Nat) (acc : Str), (PySem.textFrom k acc ts).length ≤ acc.length + PySem.piled ts
  | [], k, acc => by show acc.length ≤ _; simp
  | t :: r, k, acc => by
    have key : ∀ z : Str, z.length ≤ acc.length + 2 + t.length → (PySem.textFrom (k + 1) z r).length ≤ acc.length + (t.length + 2 + PySem.piled r) := fun z hz => by
      have ih := textFrom_le r (k + 1) z
      omega
    refine key _ ?_
    rw [PySem.strLen_append]
    refine Nat.add_le_add_right ?_ _
    split
    · rw [PySem.strLen_append]; exact Nat.le_refl _
    · exact Nat.le_add_right _ _
theorem listText_le (ts : List Str) : (PySem.listText ts).length ≤ PySem.piled ts + 3 := by
  unfold PySem.listText
  rw [PySem.strLen_append]
  have := textFrom_le ts 0 "["
  have e1 : (("[" : String) : Str).length = 1 := rfl
  have e2 : (("]" : String) : Str).length = 1 := rfl
  omega
theorem tupleText_le (ts : List Str) : (PySem.tupleText ts).length ≤ PySem.piled ts + 3 := by
  unfold PySem.tupleText
  rw [PySem.strLen_append, PySem.strLen_append]
  have e1 : (("(" : String) : Str).length = 1 := rfl
  have e2 : ((if ts.length == 1 then ",)" else ")" : String) : Str).length ≤ 2 := by split <;> decide
  have e3 : (PySem.Str.join ", " ts).length ≤ PySem.piled ts := by
    cases ts with
    | nil => decide
    | cons a r =>
      have := PySem.join_length_add (a :: r) (by simp)
      omega
  omega
mutual
theorem shown_le : ∀ d : PyData, asc d = true → d.shown.length ≤ wt d
  | .none, _ => by decide
  | .bool b, _ => by cases b <;> decide
  | .int i, _ => by
    simp only [PyData.shown, wt]
    have := PySem.int_text_length_le (a := i) (k := i.natAbs.log2 + 1) (by omega) (by omega)
    show ((PySem.Str.ofString (toString i)).length ≤ _)
    rw [PySem.ofString_length]
    omega
  | .str x, h => by
    simp only [asc] at h
    simp only [PyData.shown, wt]
    refine PySem.StrLaws.reprText_len x fun c hc => ?_
    rw [Array.all_eq_true'] at h
    have := h c (by simpa using hc)
    simp at this
    omega
  | .list xs, h => by
    simp only [asc] at h
    simp only [PyData.shown, wt]
    have := shownAll_le xs h
    have := listText_le (PyData.shownAll xs)
    omega
  | .tuple xs, h => by
    simp only [asc] at h
    simp only [PyData.shown, wt]
    have := shownAll_le xs h
    have := tupleText_le (PyData.shownAll xs)
    omega
  | .dict _, h => by simp [asc] at h
theorem shownAll_le : ∀ ds : List PyData, ascs ds = true → PySem.piled (PyData.shownAll ds) ≤ wts ds
  | [], _ => by decide
  | d :: ds, h => by
    simp only [ascs, Bool.and_eq_true] at h
    have a := shown_le d h.1
    have b := shownAll_le ds h.2
    simp only [PyData.shownAll, wts]
    show d.shown.length + 2 + PySem.piled (PyData.shownAll ds) ≤ _
    omega
end
mutual
theorem showable_of : ∀ d : PyData, asc d = true → wt d ≤ 1900 → d.showable = true
  | .none, _, _ => rfl
  | .bool _, _, _ => rfl
  | .str _, _, _ => rfl
  | .int i, _, h => by simp only [wt] at h; simp only [PyData.showable, decide_eq_true_eq]; omega
  | .list xs, h, hw => by
    simp only [asc] at h; simp only [wt] at hw
    simp only [PyData.showable]
    exact showableAll_of xs h (by omega)
  | .tuple xs, h, hw => by
    simp only [asc] at h; simp only [wt] at hw
    simp only [PyData.showable]
    exact showableAll_of xs h (by omega)
  | .dict _, h, _ => by simp [asc] at h
theorem showableAll_of : ∀ ds : List PyData, ascs ds = true → wts ds ≤ 1900 → PyData.showableAll ds = true
  | [], _, _ => rfl
  | d :: ds, h, hw => by
    simp only [ascs, Bool.and_eq_true] at h
    simp only [wts] at hw
    simp only [PyData.showableAll, Bool.and_eq_true]
    exact ⟨showable_of d h.1 (by omega), showableAll_of ds h.2 (by omega)⟩
end
/-- repr of a small value -/
theorem repr_ok {C : Cfg} {r : List Nat} {s : Store} {W D : Nat} {v : Val} {d : PyData} {Q : Val → Store → Prop} (h : Rep r s v d) (g : Gd W D d) (hD : D ≤ 20) (hW : W ≤ 1900) (q : Q (.str d.shown) s) : Ok (bi .repr [v] s) Q := by
  show Ok (ask (fun s => datS s v) (fun d => need (d.showable && szOk d.shown.length) (pure (.str d.shown))) s) Q
  rw [ok_ask]
  refine ⟨d, datS_of_rep h g hD, ?_⟩
  rw [ok_need]
  have h1 := g.w
  have h2 := shown_le d g.a
  refine ⟨?_, q⟩
  rw [showable_of d g.a (by omega)]
  have : szOk d.shown.length = true := decide_eq_true (by rw [PySem.sizeLine_eq]; omega)
  rw [this]; rfl
end MP
set_option Elab.async false
set_option linter.all false
set_option maxRecDepth 100000
/-! More rules: comprehensions, loops, built-ins, methods. -/
namespace MP
open PySem (Str PyData sizeLine)
section
variable {C : Cfg} {F : Nat} {env : En} {s : Store} {Q : Val → Store → Prop} {S : Fl → En → Store → Prop}
def ChkOk (l : List (Nat × Ob)) (s : Store) : Prop := ∀ p ∈ l, s[p.1]? = some p.2
theorem chk_all {l : List (Nat × Ob)} (h : ChkOk l s) : l.all (fun p => decide (s[p.1]? = some p.2)) = true := by
  rw [List.all_eq_true]; intro p hp; exact decide_eq_true (h p hp)
theorem ok_lcGo {chk : List (Nat × Ob)} {body : Itm → M (Option Val)} {I : List Itm → List Val → Store → Prop} (hc : ∀ r ys s, I r ys s → ChkOk chk s)
    (hb : ∀ x r ys s, I (x :: r) ys s → Ok (body x s) fun o s' => ∃ y, o = some y ∧ I r (ys ++ [y]) s') :
    ∀ (xs : List Itm) (ys : List Val) (s : Store), I xs ys s → Ok (lcGo chk body xs s) fun zs s' => I [] (ys ++ zs) s'
  | [], ys, s, h => by
    show Ok (chkM chk (pure []) s) _
    rw [ok_chk]
    exact ⟨chk_all (hc _ _ _ h), by rw [ok_pure, List.append_nil]; exact h⟩
  | x :: xs, ys, s, h => by
    show Ok (chkM chk (body x >>= fun r => lcGo chk body xs >>= fun ys => pure (match r with | some y => y :: ys | none => ys)) s) _
    rw [ok_chk]
    refine ⟨chk_all (hc _ _ _ h), ?_⟩
    rw [ok_bind]
    refine (hb x xs ys s h).mono ?_
    rintro o s1 ⟨y, rfl, h1⟩
    rw [ok_bind]
    refine (ok_lcGo hc hb xs _ _ h1).mono ?_
    intro zs s2 h2
    rw [List.append_assoc] at h2
    exact h2
theorem we_lc {t : Tg} {it : It} {e : E} {own : List Nat} (h : Ok (evalIt C it env s) fun src s1 => src.items.length ≤ sizeLine ∧ ∃ I : List Itm → List Val → Store → Prop,
      I src.items [] s1 ∧ (∀ r ys s, I r ys s → ChkOk src.chk s) ∧
      (∀ x r ys s, I (x :: r) ys s → Ok (bindI t x (wipe env own) s) fun env2 s' => Ok (evalE C e env2 s') fun y s'' => I r (ys ++ [y]) s'') ∧
      ∀ zs s', I [] zs s' → Q (.ref s'.length) (s' ++ [.lst zs])) : Ok (evalE C (.lc t it .none e own) env s) Q := by
  show Ok ((evalIt C it env >>= fun src => need (szOk src.items.length) (lcGo src.chk (fun v => bindI t v (wipe env own) >>= fun env2 => evalOe C .none env2 >>= fun k => match k with
        | Option.none => evalE C e env2 >>= fun y => pure (some y)
        | some z => onB z fun k => match k with
          | true => evalE C e env2 >>= fun y => pure (some y)
          | false => pure Option.none) src.items >>= fun ys => new (.lst ys))) s) Q
  rw [ok_bind]
  refine h.mono ?_
  rintro src s1 ⟨hl, I, h0, hc, hb, he⟩
  rw [ok_need]
  refine ⟨decide_eq_true hl, ?_⟩
  rw [ok_bind]
  refine (ok_lcGo (I := I) hc ?_ src.items [] s1 h0).mono ?_
  · intro x r ys s hI
    rw [ok_bind]
    refine (hb x r ys s hI).mono ?_
    intro env2 s2 h2
    show Ok ((evalE C e env2 >>= fun y => pure (some y)) s2) _
    rw [ok_bind]
    exact h2.mono fun y s3 h3 => ⟨y, rfl, h3⟩
  · intro zs s2 h2
    rw [ok_new]
    exact he zs s2 h2
theorem ok_forGo {chk : List (Nat × Ob)} {body : Itm → En → Store → RS} {I : List Itm → En → Store → Prop} (hc : ∀ r e s, I r e s → ChkOk chk s)
    (hb : ∀ x r e s, I (x :: r) e s → OkS (body x e s) fun f e s => match f with
      | .nx => I r e s
      | .ct => I r e s
      | .br => S .nx e s
      | .rt v => S (.rt v) e s) (he : ∀ e s, I [] e s → S .nx e s) :
    ∀ (xs : List Itm) (e : En) (s : Store), I xs e s → OkS (forGo chk body xs e s) S
  | [], e, s, h => by
    show OkS (RS.from (chkM chk (pure ()) s) e fun _ st => .ok .nx e st) S
    rw [ok_from, ok_chk]
    exact ⟨chk_all (hc _ _ _ h), he e s h⟩
  | x :: xs, e, s, h => by
    show OkS (RS.from (chkM chk (pure ()) s) e fun _ st => (body x e st).turn (forGo chk body xs)) S
    rw [ok_from, ok_chk]
    refine ⟨chk_all (hc _ _ _ h), ?_⟩
    rw [ok_pure, ok_turn]
    refine (hb x xs e s h).mono ?_
    intro f e1 s1 h1
    cases f with
    | nx => exact ok_forGo hc hb he xs e1 s1 h1
    | ct => exact ok_forGo hc hb he xs e1 s1 h1
    | br => exact h1
    | rt v => exact h1
theorem ws_loop {t : Tg} {it : It} {b : Ss} (h : Ok (evalIt C it env s) fun src s1 => ∃ I : List Itm → En → Store → Prop,
      I src.items env s1 ∧ (∀ r e s, I r e s → ChkOk src.chk s) ∧
      (∀ x r e s, I (x :: r) e s → Ok (bindI t x e s) fun e2 s' => OkS (execs C F b e2 s') fun f e s => match f with
        | .nx => I r e s
        | .ct => I r e s
        | .br => S .nx e s
        | .rt v => S (.rt v) e s) ∧
      ∀ e s, I [] e s → S .nx e s) : OkS (exec C F (.loop t it b) env s) S := by
  show OkS (RS.from (evalIt C it env s) env fun src st => forGo src.chk (fun v env st => RS.from (bindI t v env st) env fun env' st => execs C F b env' st) src.items env st) S
  rw [ok_from]
  refine h.mono ?_
  rintro src s1 ⟨I, h0, hc, hb, he⟩
  refine ok_forGo (I := I) hc ?_ he src.items env s1 h0
  intro x r e s hI
  rw [ok_from]
  exact hb x r e s hI
/-! what is walked -/
theorem wt_val {e : E} {Q : Src → Store → Prop} (h : Ok (evalE C e env s) fun v s1 => Ok (srcOf v s1) Q) : Ok (evalIt C (.val e) env s) Q := by
  show Ok ((evalE C e env >>= fun v => srcOf v) s) Q
  rw [ok_bind]; exact h
theorem wt_l {n : Nat} {xs : List Val} {Q : Src → Store → Prop} (h : s[n]? = some (.lst xs)) (q : Q ⟨xs.map .one, [(n, .lst xs)]⟩ s) : Ok (srcOf (.ref n) s) Q := by
  show Ok (onL n _ s) Q
  rw [ok_onL]; exact ⟨xs, h, q⟩
theorem wt_t {xs : List Val} {Q : Src → Store → Prop} (q : Q ⟨xs.map .one, []⟩ s) : Ok (srcOf (.tup xs) s) Q := q
theorem wt_zipT {a b : E} {Q : Src → Store → Prop} (h : Ok (evalE C a env s) fun x s1 => Ok (evalE C b env s1) fun y s2 => ∃ xs ys, x = .tup xs ∧ y = .tup ys ∧ Q ⟨zipV xs ys, []⟩ s2) : Ok (evalIt C (.zip a b) env s) Q := by
  show Ok ((evalE C a env >>= fun x => evalE C b env >>= fun y => seqOf x >>= fun s => seqOf y >>= fun u => need (decide (s.chk.length = u.chk.length)) (pure (⟨zipV s.vals u.vals, s.chk ++ u.chk⟩ : Src))) s) Q
  simp only [ok_bind]
  refine h.mono fun x s1 h => h.mono ?_
  rintro y s2 ⟨xs, ys, rfl, rfl, q⟩
  exact q
theorem wt_zipL {a b : E} {Q : Src → Store → Prop} (h : Ok (evalE C a env s) fun x s1 => Ok (evalE C b env s1) fun y s2 => ∃ n m xs ys, x = .ref n ∧ y = .ref m ∧ s2[n]? = some (.lst xs) ∧ s2[m]? = some (.lst ys) ∧ Q ⟨zipV xs ys, [(n, .lst xs), (m, .lst ys)]⟩ s2) : Ok (evalIt C (.zip a b) env s) Q := by
  show Ok ((evalE C a env >>= fun x => evalE C b env >>= fun y => seqOf x >>= fun s => seqOf y >>= fun u => need (decide (s.chk.length = u.chk.length)) (pure (⟨zipV s.vals u.vals, s.chk ++ u.chk⟩ : Src))) s) Q
  simp only [ok_bind]
  refine h.mono fun x s1 h => h.mono ?_
  rintro y s2 ⟨n, m, xs, ys, rfl, rfl, h1, h2, q⟩
  show Ok (onL n _ s2) _
  rw [ok_onL]
  refine ⟨xs, h1, ?_⟩
  show Ok (onL m _ s2) _
  rw [ok_onL]
  exact ⟨ys, h2, q⟩
theorem wg_one {a : E} {Q : List Val → Store → Prop} (h : Ok (evalE C a env s) fun x s1 => Q [x] s1) : Ok (evalRg C (.one a) env s) Q := by
  show Ok ((evalE C a env >>= fun x => pure [x]) s) Q
  rw [ok_bind]; exact h
theorem rgV_one (n : Nat) : rgV ⟨0, 1, n⟩ = (List.range n).map fun (i : Nat) => .int (i : Int) := by
  unfold rgV
  refine List.map_congr_left fun i _ => ?_
  show Val.int (0 + (i : Int) * 1) = _
  rw [Int.mul_one, Int.zero_add]
theorem wt_rng {a : E} {Q : Src → Store → Prop} (h : Ok (evalE C a env s) fun x s1 => ∃ n : Nat, x = .int (n : Int) ∧ n < 2 ^ 62 ∧ Q ⟨((List.range n).map fun (i : Nat) => Val.int (i : Int)).map .one, []⟩ s1) : Ok (evalIt C (.rng (.one a)) env s) Q := by
  show Ok ((evalRg C (.one a) env >>= fun vs => ofOpt (rngV vs) fun g => pure (⟨(rgV g).map .one, []⟩ : Src)) s) Q
  rw [ok_bind]
  refine wg_one (h.mono fun x s1 ⟨n, hx, hn, q⟩ => ?_)
  subst hx
  rw [ok_ofOpt]
  refine ⟨⟨0, 1, n⟩, ?_, ?_⟩
  · show rng2V [.int n] = _
    unfold rng2V
    have : small62 (n : Int) = true := by unfold small62; rw [decide_eq_true_eq]; omega
    simp only
    rw [if_pos this]; rfl
  · rw [ok_pure, rgV_one]; exact q
theorem we_lrng {a : E} (h : Ok (evalE C a env s) fun x s1 => ∃ n : Nat, x = .int (n : Int) ∧ n ≤ 1000000 ∧ Q (.ref s1.length) (s1 ++ [.lst ((List.range n).map fun (i : Nat) => Val.int (i : Int))])) : Ok (evalE C (.lrng (.one a)) env s) Q := by
  show Ok ((evalRg C (.one a) env >>= fun vs => ofOpt (rng2V vs) fun g => need (szOk g.n) (new (.lst (rgV g)))) s) Q
  rw [ok_bind]
  refine wg_one (h.mono fun x s1 ⟨n, hx, hn, q⟩ => ?_)
  subst hx
  rw [ok_ofOpt]
  refine ⟨⟨0, 1, n⟩, ?_, ?_⟩
  · unfold rng2V
    have : small62 (n : Int) = true := by unfold small62; rw [decide_eq_true_eq]; omega
    simp only
    rw [if_pos this]; rfl
  · rw [ok_need]
    refine ⟨decide_eq_true (by rw [PySem.sizeLine_eq]; show n ≤ _; omega), ?_⟩
    rw [ok_new, rgV_one]; exact q
/-! built-ins -/
theorem wn_t {xs : List Val} (q : Q (.int xs.length) s) : Ok (bi .len [.tup xs] s) Q := q
theorem wn_f {xs : List Val} (q : Q (.int xs.length) s) : Ok (bi .len [.frz xs] s) Q := q
theorem wn_l {n : Nat} {xs : List Val} (h : s[n]? = some (.lst xs)) (q : Q (.int xs.length) s) : Ok (bi .len [.ref n] s) Q := by
  show Ok (onO n _ _ s) Q
  rw [ok_onO_l h]; exact q
theorem wl_t {xs : List Val} (q : Q (.ref s.length) (s ++ [.lst xs])) : Ok (bi .list [.tup xs] s) Q := q
theorem wl_l {n : Nat} {xs : List Val} (h : s[n]? = some (.lst xs)) (q : Q (.ref s.length) (s ++ [.lst xs])) : Ok (bi .list [.ref n] s) Q := by
  show Ok (onO n _ _ s) Q
  rw [ok_onO_l h]; exact q
theorem wp_t {xs : List Val} (q : Q (.tup xs) s) : Ok (bi .tuple [.tup xs] s) Q := q
theorem wp_l {n : Nat} {xs : List Val} (h : s[n]? = some (.lst xs)) (q : Q (.tup xs) s) : Ok (bi .tuple [.ref n] s) Q := by
  show Ok (onL n _ s) Q
  rw [ok_onL]; exact ⟨xs, h, q⟩
theorem allBools_map (bs : List Bool) : allBools (bs.map .bool) = some bs := by
  induction bs with
  | nil => rfl
  | cons b r ih => show (allBools (r.map .bool)).map (b :: ·) = _; rw [ih]; rfl
theorem wa_all {n : Nat} {bs : List Bool} (h : s[n]? = some (.lst (bs.map .bool))) (q : Q (.bool (bs.all id)) s) : Ok (bi .all [.ref n] s) Q := by
  show Ok (onL n _ s) Q
  rw [ok_onL]
  refine ⟨_, h, ?_⟩
  rw [ok_ofOpt]
  exact ⟨bs, allBools_map bs, q⟩
theorem wa_abs {i : Int} (q : Q (.int (if i < 0 then -i else i)) s) : Ok (bi .abs [.int i] s) Q := q
theorem wa_intb {b : Bool} (q : Q (.int (if b then 1 else 0)) s) : Ok (bi .int [.bool b] s) Q := q
theorem wa_min {i j : Int} (q : Q (.int (if j < i then j else i)) s) : Ok (bi .min [.int i, .int j] s) Q := q
theorem wc_eqd {x y : Val} {a b : PyData} (h1 : datS s x = some a) (h2 : datS s y = some b) (q : Q (.bool (PyData.eqv a b)) s) : Ok (cmpop .eq x y s) Q := by
  show Ok (ask (fun s => eqV s x y) (fun b => pure (.bool b)) s) Q
  rw [ok_ask]
  exact ⟨_, by unfold eqV; rw [h1, h2], q⟩
theorem wc_ned {x y : Val} {a b : PyData} (h1 : datS s x = some a) (h2 : datS s y = some b) (q : Q (.bool !(PyData.eqv a b)) s) : Ok (cmpop .ne x y s) Q := by
  show Ok (ask (fun s => eqV s x y) (fun b => pure (.bool !b)) s) Q
  rw [ok_ask]
  exact ⟨_, by unfold eqV; rw [h1, h2], q⟩
theorem wc_is {x : Val} (q : Q (.bool (decide (x = .none))) s) : Ok (cmpop .is x .none s) Q := q
/-- the type that a test sees -/
def tyD : PyData → Option Ty
  | .none => none
  | .bool _ => some .bool
  | .int _ => some .int
  | .str _ => some .str
  | .list _ => some .list
  | .tuple _ => some .tuple
  | .dict _ => none
def isD (ts : List Ty) (d : PyData) : Bool := match tyD d with
  | none => false
  | some u => ts.any fun t => tyB t u
theorem wk_isi {ts : List Ty} {r : List Nat} {v : Val} {d : PyData} (h : Rep r s v d) (q : Q (.bool (isD ts d)) s) : Ok (isAny ts v s) Q := by
  cases h with
  | none => exact q
  | bool b => exact q
  | int i => exact q
  | str x => exact q
  | tup t => exact q
  | lst h1 h2 t =>
    show Ok (onO _ _ _ s) Q
    rw [ok_onO_l h2]; exact q
/-! methods of a list -/
theorem wm_append {n : Nat} {xs : List Val} {v : Val} (h : s[n]? = some (.lst xs)) (hl : xs.length < sizeLine) (q : Q .none (s.set n (.lst (xs ++ [v])))) : Ok (mt .append (.ref n) [v] s) Q := by
  show Ok (onL n _ s) Q
  rw [ok_onL]
  refine ⟨xs, h, ?_⟩
  rw [ok_need]
  exact ⟨decide_eq_true hl, q⟩
end
end MP
set_option Elab.async false
set_option linter.all false
set_option maxRecDepth 100000
/-! Plain data against the store. -/
namespace VE
open MP (Val Ob Store E Es Oe It Rg S Ss Tg Op Cmp Ty Bi Mt Fn Prog Fl En Keeps Ok OkS M Res)
open PySem (Str PyData sizeLine)

/-! ### data -/
mutual
inductive Rep (Z : List Nat) (s : Store) : Val → PyData → Prop
  | none : Rep Z s .none .none
  | bool (b) : Rep Z s (.bool b) (.bool b)
  | int (i) : Rep Z s (.int i) (.int i)
  | str (x) : Rep Z s (.str x) (.str x)
  | tup {xs ds} : Reps Z s xs ds → Rep Z s (.tup xs) (.tuple ds)
  | lst {n xs ds} : n ∉ Z → s[n]? = some (.lst xs) → Reps Z s xs ds → Rep Z s (.ref n) (.list ds)
  | dct {n kvs ds} : n ∉ Z → s[n]? = some (.dct kvs) → RepD Z s kvs ds → Rep Z s (.ref n) (.dict ds)
inductive Reps (Z : List Nat) (s : Store) : List Val → List PyData → Prop
  | nil : Reps Z s [] []
  | cons {x xs d ds} : Rep Z s x d → Reps Z s xs ds → Reps Z s (x :: xs) (d :: ds)
inductive RepD (Z : List Nat) (s : Store) : List (Val × Val) → List (PyData × PyData) → Prop
  | nil : RepD Z s [] []
  | cons {k v d kvs ds} : kOk k = true → Rep Z s v d → RepD Z s kvs ds → RepD Z s ((valOf k, v) :: kvs) ((k, d) :: ds)
end
section
variable {Z Z' : List Nat} {s s1 : Store}
mutual
theorem Rep.keep (k : Keeps Z s s1) : ∀ {v d}, Rep Z s v d → Rep Z s1 v d
  | _, _, .none => .none
  | _, _, .bool _ => .bool _
  | _, _, .int _ => .int _
  | _, _, .str _ => .str _
  | _, _, .tup t => .tup (t.keep k)
  | _, _, .lst h1 h2 t => .lst h1 (k.at h2 h1) (t.keep k)
  | _, _, .dct h1 h2 t => .dct h1 (k.at h2 h1) (t.keep k)
theorem Reps.keep (k : Keeps Z s s1) : ∀ {v d}, Reps Z s v d → Reps Z s1 v d
  | _, _, .nil => .nil
  | _, _, .cons a b => .cons (a.keep k) (b.keep k)
theorem RepD.keep (k : Keeps Z s s1) : ∀ {v d}, RepD Z s v d → RepD Z s1 v d
  | _, _, .nil => .nil
  | _, _, .cons e a b => .cons e (a.keep k) (b.keep k)
end
mutual
theorem Rep.weak (h : ∀ n ∈ Z', n ∈ Z) : ∀ {v d}, Rep Z s v d → Rep Z' s v d
  | _, _, .none => .none
  | _, _, .bool _ => .bool _
  | _, _, .int _ => .int _
  | _, _, .str _ => .str _
  | _, _, .tup t => .tup (t.weak h)
  | _, _, .lst h1 h2 t => .lst (fun e => h1 (h _ e)) h2 (t.weak h)
  | _, _, .dct h1 h2 t => .dct (fun e => h1 (h _ e)) h2 (t.weak h)
theorem Reps.weak (h : ∀ n ∈ Z', n ∈ Z) : ∀ {v d}, Reps Z s v d → Reps Z' s v d
  | _, _, .nil => .nil
  | _, _, .cons a b => .cons (a.weak h) (b.weak h)
theorem RepD.weak (h : ∀ n ∈ Z', n ∈ Z) : ∀ {v d}, RepD Z s v d → RepD Z' s v d
  | _, _, .nil => .nil
  | _, _, .cons e a b => .cons e (a.weak h) (b.weak h)
end
theorem lt_of_at {n : Nat} {o : Ob} (h : s[n]? = some o) : n < s.length := (List.getElem?_eq_some_iff.mp h).1
mutual
/-- what is new is touched by nothing -/
theorem Rep.more (h : ∀ n ∈ Z', n ∈ Z ∨ s.length ≤ n) : ∀ {v d}, Rep Z s v d → Rep Z' s v d
  | _, _, .none => .none
  | _, _, .bool _ => .bool _
  | _, _, .int _ => .int _
  | _, _, .str _ => .str _
  | _, _, .tup t => .tup (t.more h)
  | _, _, .lst h1 h2 t => .lst (fun e => (h _ e).elim h1 fun l => absurd (lt_of_at h2) (by omega)) h2 (t.more h)
  | _, _, .dct h1 h2 t => .dct (fun e => (h _ e).elim h1 fun l => absurd (lt_of_at h2) (by omega)) h2 (t.more h)
theorem Reps.more (h : ∀ n ∈ Z', n ∈ Z ∨ s.length ≤ n) : ∀ {v d}, Reps Z s v d → Reps Z' s v d
  | _, _, .nil => .nil
  | _, _, .cons a b => .cons (a.more h) (b.more h)
theorem RepD.more (h : ∀ n ∈ Z', n ∈ Z ∨ s.length ≤ n) : ∀ {v d}, RepD Z s v d → RepD Z' s v d
  | _, _, .nil => .nil
  | _, _, .cons e a b => .cons e (a.more h) (b.more h)
end
mutual
theorem Rep.of_flat : ∀ {d : PyData}, flat d = true → Rep Z s (valOf d) d
  | .none, _ => .none
  | .bool _, _ => .bool _
  | .int _, _ => .int _
  | .str _, _ => .str _
  | .tuple xs, h => by simp only [valOf]; exact .tup (Reps.of_flat h)
  | .list _, h => by simp [flat] at h
  | .dict _, h => by simp [flat] at h
theorem Reps.of_flat : ∀ {d : List PyData}, flats d = true → Reps Z s (valsOf d) d
  | [], _ => by simp only [valsOf]; exact .nil
  | x :: xs, h => by simp only [flats, Bool.and_eq_true] at h; simp only [valsOf]; exact .cons (Rep.of_flat h.1) (Reps.of_flat h.2)
end
mutual
theorem Rep.flat_eq : ∀ {v d}, Rep Z s v d → flat d = true → v = valOf d
  | _, _, .none, _ => by simp [valOf]
  | _, _, .bool _, _ => by simp [valOf]
  | _, _, .int _, _ => by simp [valOf]
  | _, _, .str _, _ => by simp [valOf]
  | _, _, .tup t, h => by simp only [valOf]; rw [t.flat_eq h]
  | _, _, .lst _ _ _, h => by simp [flat] at h
  | _, _, .dct _ _ _, h => by simp [flat] at h
theorem Reps.flat_eq : ∀ {v d}, Reps Z s v d → flats d = true → v = valsOf d
  | _, _, .nil, _ => by simp [valsOf]
  | _, _, .cons a b, h => by simp only [flats, Bool.and_eq_true] at h; simp only [valsOf]; rw [a.flat_eq h.1, b.flat_eq h.2]
end
theorem Reps.len : ∀ {vs ds}, Reps Z s vs ds → vs.length = ds.length
  | _, _, .nil => rfl
  | _, _, .cons _ b => by simp [b.len]
theorem RepD.len : ∀ {vs ds}, RepD Z s vs ds → vs.length = ds.length
  | _, _, .nil => rfl
  | _, _, .cons _ _ b => by simp [b.len]
theorem Reps.at : ∀ {vs : List Val} {ds : List PyData} {i : Nat} {d : PyData}, Reps Z s vs ds → ds[i]? = some d → ∃ v, vs[i]? = some v ∧ Rep Z s v d
  | _, _, i, d, .nil, e => by simp at e
  | _, _, 0, d, .cons a b, e => by simp at e; subst e; exact ⟨_, rfl, a⟩
  | _, _, i + 1, d, .cons a b, e => by
    obtain ⟨v, h1, h2⟩ := Reps.at (i := i) (d := d) b (by simpa using e)
    exact ⟨v, by simpa using h1, h2⟩
theorem Reps.app {vs ws : List Val} {ds es : List PyData} (h : Reps Z s vs ds) (h' : Reps Z s ws es) : Reps Z s (vs ++ ws) (ds ++ es) := by
  induction vs generalizing ds with
  | nil => cases h; exact h'
  | cons v vs ih => cases h with | cons a b => exact .cons a (ih b)
theorem Reps.take : ∀ {vs : List Val} {ds : List PyData} (n : Nat), Reps Z s vs ds → Reps Z s (vs.take n) (ds.take n)
  | _, _, n, .nil => by simp; exact .nil
  | _, _, 0, .cons _ _ => by simp; exact .nil
  | _, _, n + 1, .cons a b => .cons a (b.take n)
theorem Reps.drop : ∀ {vs : List Val} {ds : List PyData} (n : Nat), Reps Z s vs ds → Reps Z s (vs.drop n) (ds.drop n)
  | _, _, n, .nil => by simp; exact .nil
  | _, _, 0, .cons a b => .cons a b
  | _, _, n + 1, .cons a b => b.drop n
theorem Reps.rev : ∀ {vs : List Val} {ds : List PyData}, Reps Z s vs ds → Reps Z s vs.reverse ds.reverse
  | _, _, .nil => .nil
  | _, _, .cons a b => by rw [List.reverse_cons, List.reverse_cons]; exact b.rev.app (.cons a .nil)
theorem Reps.put : ∀ {vs : List Val} {ds : List PyData} {v : Val} {d : PyData} (n : Nat), Reps Z s vs ds → Rep Z s v d → Reps Z s (vs.set n v) (ds.set n d)
  | _, _, _, _, n, .nil, _ => .nil
  | _, _, _, _, 0, .cons a b, q => .cons q b
  | _, _, _, _, n + 1, .cons a b, q => .cons a (b.put n q)
theorem Reps.del : ∀ {vs : List Val} {ds : List PyData} (n : Nat), Reps Z s vs ds → Reps Z s (vs.eraseIdx n) (ds.eraseIdx n)
  | _, _, n, .nil => .nil
  | _, _, 0, .cons a b => b
  | _, _, n + 1, .cons a b => .cons a (b.del n)
theorem Reps.dropLast : ∀ {vs : List Val} {ds : List PyData}, Reps Z s vs ds → Reps Z s vs.dropLast ds.dropLast
  | _, _, .nil => .nil
  | _, _, .cons a .nil => .nil
  | _, _, .cons a (.cons b c) => .cons a (Reps.dropLast (.cons b c))
theorem Reps.cut {vs : List Val} {ds : List PyData} (h : Reps Z s vs ds) (lo hi : Option Int) : Reps Z s (MP.cutV vs lo hi) (MP.cutV ds lo hi) := by
  unfold MP.cutV
  rw [h.len]
  exact (h.drop _).take _
theorem Reps.ins {vs : List Val} {ds : List PyData} {v : Val} {d : PyData} (n : Nat) (h : Reps Z s vs ds) (q : Rep Z s v d) : Reps Z s (MP.insAt vs n v) (MP.insAt ds n d) := (h.take n).app (.cons q (h.drop n))
theorem Reps.repl {vs : List Val} {ds : List PyData} (h : Reps Z s vs ds) (k : Int) : Reps Z s (MP.reps vs k) (repsP ds k) := by
  unfold MP.reps repsP
  induction k.toNat with
  | zero => simp; exact .nil
  | succ n ih => simp only [List.replicate_succ, List.flatten_cons]; exact h.app ih
theorem Reps.atV {vs : List Val} {ds : List PyData} {i : Int} {d : PyData} (h : Reps Z s vs ds) (e : MP.atV ds i = some d) : ∃ v, MP.atV vs i = some v ∧ Rep Z s v d := by
  unfold MP.atV at e ⊢
  rw [h.len]
  cases h1 : MP.ixN ds.length i with
  | none => rw [h1] at e; cases e
  | some j =>
    rw [h1] at e
    obtain ⟨v, h2, h3⟩ := h.at (i := j) e
    exact ⟨v, h2, h3⟩
theorem reps_map {α : Type} {f : α → Val} {g : α → PyData} (h : ∀ a, Rep Z s (f a) (g a)) : ∀ l : List α, Reps Z s (l.map f) (l.map g)
  | [] => .nil
  | a :: l => .cons (h a) (reps_map h l)
/-! data as the evaluator reads it -/
mutual
theorem dat_rep : ∀ {v d} (n : Nat), Rep Z s v d → noDict d = true → d.depth ≤ n → MP.dat s n v = some d
  | _, _, n, .none, _, _ => by cases n <;> rfl
  | _, _, n, .bool _, _, _ => by cases n <;> rfl
  | _, _, n, .int _, _, _ => by cases n <;> rfl
  | _, _, n, .str _, _, _ => by cases n <;> rfl
  | _, _, 0, .tup t, _, hn => by simp [PyData.depth] at hn
  | _, _, n + 1, .tup t, hd, hn => by
    simp only [PyData.depth] at hn
    simp only [noDict] at hd
    simp only [MP.dat]
    rw [dat_reps n t hd (by omega)]; rfl
  | _, _, 0, .lst _ _ t, _, hn => by simp [PyData.depth] at hn
  | _, _, n + 1, .lst h1 h2 t, hd, hn => by
    simp only [PyData.depth] at hn
    simp only [noDict] at hd
    simp only [MP.dat, h2]
    rw [dat_reps n t hd (by omega)]; rfl
  | _, _, n, .dct _ _ _, hd, _ => by simp [noDict] at hd
theorem dat_reps : ∀ {vs ds} (n : Nat), Reps Z s vs ds → noDicts ds = true → PyData.depthAll ds ≤ n → vs.mapM (MP.dat s n) = some ds
  | _, _, n, .nil, _, _ => rfl
  | _, _, n, .cons a b, hd, hn => by
    simp only [PyData.depthAll] at hn
    simp only [noDicts, Bool.and_eq_true] at hd
    rw [List.mapM_cons, dat_rep n a hd.1 (by omega), dat_reps n b hd.2 (by omega)]; rfl
end
theorem datS_rep {v d} (h : Rep Z s v d) (e : shp d = true) : MP.datS s v = some d := by
  simp only [shp, Bool.and_eq_true, decide_eq_true_eq] at e
  unfold MP.datS
  rw [dat_rep MP.dDepth h e.1.1 (by unfold MP.dDepth; exact e.1.2)]
  simp only
  rw [if_pos e.2]
theorem dats_rep {vs ds} (h : Reps Z s vs ds) (e : shps ds = true) : vs.mapM (MP.dat s MP.dDepth) = some ds ∧ PySem.SeqAt.shaped (.list ds) = true := by
  simp only [shps, Bool.and_eq_true, decide_eq_true_eq] at e
  exact ⟨dat_reps MP.dDepth h e.1.1 (by unfold MP.dDepth; exact e.1.2), e.2⟩
/-! keys -/
theorem get_rep : ∀ {kvs ds} {k : PyData}, RepD Z s kvs ds → MP.dget kvs (valOf k) = none ∧ pget ds k = none ∨ ∃ v d, MP.dget kvs (valOf k) = some v ∧ pget ds k = some d ∧ Rep Z s v d
  | _, _, k, .nil => .inl ⟨rfl, rfl⟩
  | _, _, k, .cons (k := k') (v := v) (d := d) (kvs := kvs) (ds := ds) e a b => by
    unfold MP.dget pget
    rw [List.find?_cons, List.find?_cons]
    simp only [kEq]
    by_cases h : valOf k' = valOf k
    · rw [decide_eq_true h]
      exact .inr ⟨_, _, rfl, rfl, a⟩
    · rw [decide_eq_false h]
      exact get_rep (k := k) b
theorem any_rep : ∀ {kvs ds} {k : PyData}, RepD Z s kvs ds → kvs.any (fun p => decide (p.1 = valOf k)) = ds.any fun p => kEq p.1 k
  | _, _, k, .nil => rfl
  | _, _, k, .cons e a b => by rw [List.any_cons, List.any_cons, any_rep b]; rfl
theorem mapk_rep : ∀ {kvs ds} {k : PyData} {v : Val} {d : PyData}, RepD Z s kvs ds → Rep Z s v d → RepD Z s (kvs.map fun p => if p.1 = valOf k then (p.1, v) else p) (ds.map fun p => if kEq p.1 k = true then (p.1, d) else p)
  | _, _, k, v, d, .nil, _ => .nil
  | _, _, k, v, d, .cons (k := k') e a b, q => by
    rw [List.map_cons, List.map_cons]
    by_cases h : valOf k' = valOf k
    · have h2 : kEq k' k = true := decide_eq_true h
      show RepD Z s ((if valOf k' = valOf k then _ else _) :: _) ((if kEq k' k = true then _ else _) :: _)
      rw [if_pos h, if_pos h2]
      exact .cons e q (mapk_rep b q)
    · have h2 : ¬ kEq k' k = true := fun e => h (of_decide_eq_true e)
      show RepD Z s ((if valOf k' = valOf k then _ else _) :: _) ((if kEq k' k = true then _ else _) :: _)
      rw [if_neg h, if_neg h2]
      exact .cons e a (mapk_rep b q)
theorem RepD.app {kvs kvs' ds ds'} (h : RepD Z s kvs ds) (h' : RepD Z s kvs' ds') : RepD Z s (kvs ++ kvs') (ds ++ ds') := by
  induction kvs generalizing ds with
  | nil => cases h; exact h'
  | cons v vs ih => cases h with | cons e a b => exact .cons e a (ih b)
theorem put_rep {kvs ds} {k : PyData} {v : Val} {d : PyData} (h : RepD Z s kvs ds) (hk : kOk k = true) (q : Rep Z s v d) : RepD Z s (MP.dput kvs (valOf k) v) (pput ds k d) := by
  unfold MP.dput pput
  rw [any_rep h]
  split
  · exact mapk_rep h q
  · exact h.app (.cons hk q .nil)
theorem key_flat {k : PyData} (h : kOk k = true) : flat k = true := (Bool.and_eq_true_iff.mp h).1
theorem key_fits {k : PyData} {kvs : List (Val × Val)} (h : kOk k = true) : MP.keyFits kvs (valOf k) = true := (Bool.and_eq_true_iff.mp h).2
theorem RepD.keys : ∀ {kvs ds}, RepD Z s kvs ds → Reps Z s (kvs.map (·.1)) (ds.map (·.1))
  | _, _, .nil => .nil
  | _, _, .cons e a b => .cons (Rep.of_flat (key_flat e)) b.keys
theorem RepD.vals : ∀ {kvs ds}, RepD Z s kvs ds → Reps Z s (kvs.map (·.2)) (ds.map (·.2))
  | _, _, .nil => .nil
  | _, _, .cons e a b => .cons a b.vals
end

/-! ### what is read: its top may be an own object -/
def Rd (Z : List Nat) (r : Nat) (s : Store) (v : Val) (d : PyData) : Prop := match d with
  | .list ds => ∃ n xs, v = .ref n ∧ n ≠ r ∧ s[n]? = some (.lst xs) ∧ Reps Z s xs ds
  | .dict ds => ∃ n kvs, v = .ref n ∧ n ≠ r ∧ s[n]? = some (.dct kvs) ∧ RepD Z s kvs ds
  | d => Rep Z s v d
theorem Rep.rd {Z : List Nat} {r : Nat} {s : Store} {v : Val} {d : PyData} (h : Rep Z s v d) (hr : r ∈ Z) : Rd Z r s v d := by
  cases h with
  | none => exact .none
  | bool b => exact .bool b
  | int i => exact .int i
  | str x => exact .str x
  | tup t => exact .tup t
  | lst h1 h2 t => exact ⟨_, _, rfl, fun e => h1 (e ▸ hr), h2, t⟩
  | dct h1 h2 t => exact ⟨_, _, rfl, fun e => h1 (e ▸ hr), h2, t⟩
theorem Rd.rep0 {Z : List Nat} {r : Nat} {s : Store} {v : Val} {d : PyData} (h : Rd Z r s v d) : Rep [] s v d := by
  have hw : ∀ n ∈ ([] : List Nat), n ∈ Z := fun n h => nomatch h
  cases d with
  | none => exact Rep.weak hw h
  | bool b => exact Rep.weak hw h
  | int i => exact Rep.weak hw h
  | str x => exact Rep.weak hw h
  | tuple ds => exact Rep.weak hw h
  | list ds => obtain ⟨n, xs, rfl, _, h2, h3⟩ := h; exact .lst (by simp) h2 (h3.weak hw)
  | dict ds => obtain ⟨n, xs, rfl, _, h2, h3⟩ := h; exact .dct (by simp) h2 (h3.weak hw)
/-- the object n is the data d, its items keep away from Z -/
def OwnOb (Z : List Nat) (s : Store) (n : Nat) (d : PyData) : Prop := match d with
  | .list ds => ∃ xs, s[n]? = some (.lst xs) ∧ Reps Z s xs ds
  | .dict ds => ∃ kvs, s[n]? = some (.dct kvs) ∧ RepD Z s kvs ds
  | _ => False
section
variable {Z Z' : List Nat} {s s1 : Store} {n r base : Nat} {d : PyData}
theorem OwnOb.rd (h : OwnOb Z s n d) (hr : n ≠ r) : Rd Z r s (.ref n) d := by
  cases d with
  | list ds => obtain ⟨xs, h1, h2⟩ := h; exact ⟨n, xs, rfl, hr, h1, h2⟩
  | dict ds => obtain ⟨xs, h1, h2⟩ := h; exact ⟨n, xs, rfl, hr, h1, h2⟩
  | _ => exact h.elim
theorem OwnOb.rep (h : OwnOb Z s n d) (hn : n ∉ Z) : Rep Z s (.ref n) d := by
  cases d with
  | list ds => obtain ⟨xs, h1, h2⟩ := h; exact .lst hn h1 h2
  | dict ds => obtain ⟨xs, h1, h2⟩ := h; exact .dct hn h1 h2
  | _ => exact h.elim
theorem OwnOb.weak (h : OwnOb Z s n d) (hw : ∀ n ∈ Z', n ∈ Z) : OwnOb Z' s n d := by
  cases d with
  | list ds => obtain ⟨xs, h1, h2⟩ := h; exact ⟨xs, h1, h2.weak hw⟩
  | dict ds => obtain ⟨xs, h1, h2⟩ := h; exact ⟨xs, h1, h2.weak hw⟩
  | _ => exact h.elim
theorem OwnOb.more (h : OwnOb Z s n d) (hw : ∀ n ∈ Z', n ∈ Z ∨ s.length ≤ n) : OwnOb Z' s n d := by
  cases d with
  | list ds => obtain ⟨xs, h1, h2⟩ := h; exact ⟨xs, h1, h2.more hw⟩
  | dict ds => obtain ⟨xs, h1, h2⟩ := h; exact ⟨xs, h1, h2.more hw⟩
  | _ => exact h.elim
theorem OwnOb.keep (h : OwnOb Z s n d) (k : Keeps Z s s1) (e : s1[n]? = s[n]?) : OwnOb Z s1 n d := by
  cases d with
  | list ds => obtain ⟨xs, h1, h2⟩ := h; exact ⟨xs, e.trans h1, h2.keep k⟩
  | dict ds => obtain ⟨xs, h1, h2⟩ := h; exact ⟨xs, e.trans h1, h2.keep k⟩
  | _ => exact h.elim
theorem OwnOb.lt (h : OwnOb Z s n d) : n < s.length := by
  cases d with
  | list ds => obtain ⟨xs, h1, h2⟩ := h; exact lt_of_at h1
  | dict ds => obtain ⟨xs, h1, h2⟩ := h; exact lt_of_at h1
  | _ => exact h.elim
end
/-! ### the drawing list, slots -/
def RngAt (s : Store) (r : Nat) (ρ : Rn) : Prop := s[r]? = some (.lst [.int ρ.a, .int ρ.b, .int ρ.c]) ∧ 0 ≤ ρ.a ∧ 0 ≤ ρ.b ∧ ρ.b < 2 ^ 40 ∧ 0 ≤ ρ.c
def SlR (Z : List Nat) (r base : Nat) (s : Store) (o : Option Val) (x : Sl) : Prop := match x with
  | .none => True
  | .rng => o = some (.ref r)
  | .val d => ∃ v, o = some v ∧ Rep Z s v d
  | .own d => ∃ n, o = some (.ref n) ∧ n ∈ Z ∧ base ≤ n ∧ OwnOb Z s n d
structure ER (Z : List Nat) (r base : Nat) (s : Store) (env : En) (ve : VEn) : Prop where
  len : env.length = ve.length
  at_ : ∀ (i : Nat) (x : Sl), ve[i]? = some x → SlR Z r base s (env[i]?.join) x
  dis : ∀ (i j : Nat) (d d' : PyData), i ≠ j → ve[i]? = some (.own d) → ve[j]? = some (.own d') → env[i]?.join ≠ env[j]?.join
structure Cx (Z : List Nat) (r base : Nat) (s : Store) (ρ : Rn) : Prop where
  rZ : r ∈ Z
  zb : ∀ n ∈ Z, n < s.length
  rb : r < base
  bs : base ≤ s.length
  rng : RngAt s r ρ
section
variable {Z Z' : List Nat} {s s1 : Store} {n r base : Nat} {ρ ρ1 : Rn} {env : En} {ve : VEn}
theorem Keeps.up (k : Keeps [r] s s1) (h : r ∈ Z) : Keeps Z s s1 := k.sub fun n hn => by rw [List.mem_singleton.mp hn]; exact h
theorem Cx.next (c : Cx Z r base s ρ) (k : Keeps [r] s s1) (h : RngAt s1 r ρ1) : Cx Z r base s1 ρ1 := ⟨c.rZ, fun n hn => Nat.lt_of_lt_of_le (c.zb n hn) k.1, c.rb, Nat.le_trans c.bs k.1, h⟩
theorem SlR.keep {o : Option Val} {x : Sl} (h : SlR Z r base s o x) (hr : r ∈ Z) (hb : r < base) (k : Keeps [r] s s1) : SlR Z r base s1 o x := by
  cases x with
  | none => trivial
  | rng => exact h
  | val d => obtain ⟨v, h1, h2⟩ := h; exact ⟨v, h1, h2.keep (Keeps.up k hr)⟩
  | own d =>
    obtain ⟨n, h1, h2, h3, h4⟩ := h
    exact ⟨n, h1, h2, h3, h4.keep (Keeps.up k hr) (k.2 n h4.lt (by simp; omega))⟩
theorem ER.keep (h : ER Z r base s env ve) (hr : r ∈ Z) (hb : r < base) (k : Keeps [r] s s1) : ER Z r base s1 env ve := ⟨h.len, fun i x e => (h.at_ i x e).keep hr hb k, h.dis⟩
theorem ER.next (h : ER Z r base s env ve) (c : Cx Z r base s ρ) (k : Keeps [r] s s1) : ER Z r base s1 env ve := h.keep c.rZ c.rb k
end

/-! ### the same run -/
def Sim {α β : Type} (m : Res α) (v : VR β) (Q : α → Store → β → Rn → Prop) : Prop := match v with
  | .ok b ρ => Ok m fun a s => Q a s b ρ
  | .bad => True
section
variable {α β γ δ : Type} {m : M α} {v : VM β} {f : α → M γ} {g : β → VM δ} {s : Store} {ρ : Rn} {Q : α → Store → β → Rn → Prop} {R : γ → Store → δ → Rn → Prop}
theorem Sim.mono {m : Res α} {v : VR β} {Q' : α → Store → β → Rn → Prop} (h : Sim m v Q) (w : ∀ a s b ρ, Q a s b ρ → Q' a s b ρ) : Sim m v Q' := by
  cases v with
  | ok b ρ => exact Ok.mono h fun a s q => w a s b ρ q
  | bad => trivial
theorem sim_bind (h : Sim (m s) (v ρ) Q) (w : ∀ a s1 b ρ1, Q a s1 b ρ1 → Sim (f a s1) (g b ρ1) R) : Sim ((m >>= f) s) ((v >>= g) ρ) R := by
  have e1 : (m >>= f) s = (match m s with | .ok a s' => f a s' | .exc C v s' => .exc C v s' | .bad => .bad) := rfl
  have e2 : (v >>= g) ρ = (match v ρ with | .ok a ρ' => g a ρ' | .bad => .bad) := rfl
  rw [e1, e2]
  cases hv : v ρ with
  | bad => trivial
  | ok b ρ1 =>
    rw [hv] at h
    obtain ⟨a, s1, h1, h2⟩ := Ok.get h
    rw [h1]
    exact w a s1 b ρ1 h2
/-- only the small language goes on -/
theorem sim_bindR (h : Sim (m s) (v ρ) Q) (w : ∀ a s1 b ρ1, Q a s1 b ρ1 → Sim (f a s1) (.ok b ρ1) R') : Sim ((m >>= f) s) (v ρ) R' := by
  have e1 : (m >>= f) s = (match m s with | .ok a s' => f a s' | .exc C v s' => .exc C v s' | .bad => .bad) := rfl
  rw [e1]
  cases hv : v ρ with
  | bad => trivial
  | ok b ρ1 =>
    rw [hv] at h
    obtain ⟨a, s1, h1, h2⟩ := Ok.get h
    rw [h1]
    exact w a s1 b ρ1 h2
theorem sim_bad {m : Res α} {Q : α → Store → β → Rn → Prop} : Sim m .bad Q := trivial
theorem sim_ok {a : α} {b : β} (q : Q a s b ρ) : Sim (.ok a s) (.ok b ρ) Q := q
theorem sim_vneed {m : Res α} {b : Bool} {v : VM β} {Q : α → Store → β → Rn → Prop} (h : b = true → Sim m (v ρ) Q) : Sim m (vneed b v ρ) Q := by
  cases b with
  | true => exact h rfl
  | false => trivial
theorem sim_need {b : Bool} {m : M α} {v : VR β} {Q : α → Store → β → Rn → Prop} (hb : b = true) (h : Sim (m s) v Q) : Sim (MP.need b m s) v Q := by
  subst hb; exact h
theorem sim_vopt {o : Option γ} {k : γ → VM β} {m : Res α} {Q : α → Store → β → Rn → Prop} (h : ∀ a, o = some a → Sim m (k a ρ) Q) : Sim m (vopt o k ρ) Q := by
  cases o with
  | none => trivial
  | some a => exact h a rfl
theorem sim_opt {o : Option γ} {a : γ} {k : γ → M α} {v : VR β} {Q : α → Store → β → Rn → Prop} (e : o = some a) (h : Sim (k a s) v Q) : Sim (MP.ofOpt o k s) v Q := by
  subst e; exact h
theorem sim_ask {o : Store → Option γ} {a : γ} {k : γ → M α} {v : VR β} {Q : α → Store → β → Rn → Prop} (e : o s = some a) (h : Sim (k a s) v Q) : Sim (MP.ask o k s) v Q := by
  unfold MP.ask; rw [e]; exact h
theorem sim_onL {n : Nat} {xs : List Val} {k : List Val → M α} {v : VR β} {Q : α → Store → β → Rn → Prop} (e : s[n]? = some (.lst xs)) (h : Sim (k xs s) v Q) : Sim (MP.onL n k s) v Q := by
  unfold MP.onL; rw [e]; exact h
theorem sim_onD {n : Nat} {xs : List (Val × Val)} {k : List (Val × Val) → M α} {v : VR β} {Q : α → Store → β → Rn → Prop} (e : s[n]? = some (.dct xs)) (h : Sim (k xs s) v Q) : Sim (MP.onD n k s) v Q := by
  unfold MP.onD; rw [e]; exact h
theorem sim_onOl {n : Nat} {xs : List Val} {k : List Val → M α} {k' : List (Val × Val) → M α} {v : VR β} {Q : α → Store → β → Rn → Prop} (e : s[n]? = some (.lst xs)) (h : Sim (k xs s) v Q) : Sim (MP.onO n k k' s) v Q := by
  unfold MP.onO; rw [e]; exact h
theorem sim_onOd {n : Nat} {xs : List (Val × Val)} {k : List Val → M α} {k' : List (Val × Val) → M α} {v : VR β} {Q : α → Store → β → Rn → Prop} (e : s[n]? = some (.dct xs)) (h : Sim (k' xs s) v Q) : Sim (MP.onO n k k' s) v Q := by
  unfold MP.onO; rw [e]; exact h
end
/-- what a value is, and what is left of the store -/
structure PV (Z : List Nat) (r : Nat) (s : Store) (v : Val) (s' : Store) (p : VV) (ρ' : Rn) : Prop where
  keep : Keeps [r] s s'
  rng : RngAt s' r ρ'
  rep : Rep Z s' v p.1
  fr : p.2 = true → ∃ n, v = .ref n ∧ s.length ≤ n ∧ OwnOb (n :: Z) s' n p.1
structure PR (Z : List Nat) (r : Nat) (s : Store) (v : Val) (s' : Store) (p : VV) (ρ' : Rn) : Prop where
  keep : Keeps [r] s s'
  rng : RngAt s' r ρ'
  rd : Rd Z r s' v p.1
end VE
set_option Elab.async false
set_option linter.all false
set_option maxRecDepth 100000
/-! Operations over plain data. -/
namespace VE
open MP (Val Ob Store E Es Oe It Rg S Ss Tg Op Cmp Ty Bi Mt Fn Prog Fl En Keeps Ok OkS M Res)
open PySem (Str PyData sizeLine)
section
variable {Z : List Nat} {r base : Nat} {s s1 : Store} {ρ : Rn} {x y : Val} {dx dy : PyData}
theorem keeps_new {X : List Nat} {o : Ob} : Keeps X s (s ++ [o]) := MP.Keeps.app
theorem at_new {o : Ob} : (s ++ [o])[s.length]? = some o := by simp
theorem PV.old {v : Val} {d : PyData} (c : Cx Z r base s ρ) (h : Rep Z s v d) : PV Z r s v s (d, false) ρ := ⟨.refl, c.rng, h, fun e => nomatch e⟩
theorem sim_old {v : Val} {d : PyData} (c : Cx Z r base s ρ) (h : Rep Z s v d) : Sim (.ok v s) (old d ρ) (PV Z r s) := sim_ok (PV.old c h)
theorem RngAt.app {o : Ob} (h : RngAt s r ρ) : RngAt (s ++ [o]) r ρ := ⟨(List.getElem?_append_left (lt_of_at h.1)).trans h.1, h.2⟩
theorem not_in (c : Cx Z r base s ρ) : s.length ∉ Z := fun h => absurd (c.zb _ h) (by omega)
theorem more1 : ∀ n ∈ s.length :: Z, n ∈ Z ∨ s.length ≤ n := fun n h => (List.mem_cons.mp h).elim (fun e => .inr (e ▸ Nat.le_refl _)) .inl
/-- a new list -/
theorem sim_newL {xs : List Val} {ds : List PyData} (c : Cx Z r base s ρ) (h : Reps Z s xs ds) : Sim (MP.new (.lst xs) s) (fresh (.list ds) ρ) (PV Z r s) :=
  sim_ok ⟨keeps_new, c.rng.app, .lst (not_in c) at_new (h.keep keeps_new), fun _ => ⟨s.length, rfl, Nat.le_refl _, xs, at_new, (h.more more1).keep keeps_new⟩⟩
theorem sim_newD {xs : List (Val × Val)} {ds : List (PyData × PyData)} (c : Cx Z r base s ρ) (h : RepD Z s xs ds) : Sim (MP.new (.dct xs) s) (fresh (.dict ds) ρ) (PV Z r s) :=
  sim_ok ⟨keeps_new, c.rng.app, .dct (not_in c) at_new (h.keep keeps_new), fun _ => ⟨s.length, rfl, Nat.le_refl _, xs, at_new, (h.more more1).keep keeps_new⟩⟩
theorem sim_bin (op : Op) (c : Cx Z r base s ρ) (hx : Rd Z r s x dx) (hy : Rd Z r s y dy) : Sim (MP.binop op x y s) (vbin op dx dy ρ) (PV Z r s) := by
  cases op with
  | add =>
    cases dx with
    | int i => cases dy with
      | int j => cases hx; cases hy; exact sim_old c (.int _)
      | _ => exact sim_bad
    | bool i => cases dy with
      | int j => cases hx; cases hy; exact sim_old c (.int _)
      | _ => exact sim_bad
    | str a => cases dy with
      | str b => cases hx; cases hy; exact sim_vneed fun e => sim_need e (sim_old c (.str _))
      | _ => exact sim_bad
    | tuple a => cases dy with
      | tuple b =>
        cases hx with | tup ha => cases hy with | tup hb =>
        refine sim_vneed fun e => sim_need (by rw [ha.len, hb.len]; exact e) (sim_old c (.tup (ha.app hb)))
      | _ => exact sim_bad
    | list a => cases dy with
      | list b =>
        obtain ⟨n, xs, rfl, _, h1, h2⟩ := hx
        obtain ⟨m, ys, rfl, _, h3, h4⟩ := hy
        exact sim_vneed fun e => sim_onL h1 (sim_onL h3 (sim_need (by rw [h2.len, h4.len]; exact e) (sim_newL c (h2.app h4))))
      | _ => exact sim_bad
    | _ => exact sim_bad
  | sub =>
    cases dx with
    | int i => cases dy with
      | int j => cases hx; cases hy; exact sim_old c (.int _)
      | _ => exact sim_bad
    | bool i => cases dy with
      | int j => cases hx; cases hy; exact sim_old c (.int _)
      | _ => exact sim_bad
    | _ => exact sim_bad
  | mul =>
    cases dx with
    | int i => cases dy with
      | int j => cases hx; cases hy; exact sim_vneed fun e => sim_need e (sim_old c (.int _))
      | _ => exact sim_bad
    | list a => cases dy with
      | int k =>
        cases hy
        obtain ⟨n, xs, rfl, _, h1, h2⟩ := hx
        exact sim_vneed fun e => sim_onL h1 (sim_need (by rw [h2.len]; exact e) (sim_newL c (h2.repl k)))
      | _ => exact sim_bad
    | tuple a => cases dy with
      | int k =>
        cases hy
        cases hx with | tup ha =>
        exact sim_vneed fun e => sim_need (by rw [ha.len]; exact e) (sim_old c (.tup (ha.repl k)))
      | _ => exact sim_bad
    | _ => exact sim_bad
  | mod =>
    cases dx with
    | int i => cases dy with
      | int j => cases hx; cases hy; exact sim_vneed fun e => sim_need e (sim_old c (.int _))
      | _ => exact sim_bad
    | _ => exact sim_bad
  | fdiv =>
    cases dx with
    | int i => cases dy with
      | int j => cases hx; cases hy; exact sim_vneed fun e => sim_need e (sim_old c (.int _))
      | _ => exact sim_bad
    | _ => exact sim_bad
  | pow =>
    cases dx with
    | int i => cases dy with
      | int j => cases hx; cases hy; exact sim_vneed fun e => sim_need e (sim_old c (.int _))
      | _ => exact sim_bad
    | _ => exact sim_bad
theorem band {a b : Bool} (h : (a && b) = true) : a = true ∧ b = true := Bool.and_eq_true_iff.mp h
theorem sim_in {f : Bool → M Val} {g : Bool → VM VV} (c : Cx Z r base s ρ) (hx : Rd Z r s x dx) (hy : Rd Z r s y dy) (q : ∀ b, Sim (f b s) (g b ρ) (PV Z r s)) : Sim (MP.inO x y f s) (vin dx dy g ρ) (PV Z r s) := by
  have key : ∀ xs ds, Reps Z s xs ds → (shp dx && shps ds) = true → MP.inV x xs s = some (ds.any fun d => PyData.eqv d dx) := by
    intro xs ds h e
    have e := band e
    unfold MP.inV
    rw [datS_rep hx.rep0 e.1, (dats_rep h e.2).1]
    simp only
    rw [if_pos (dats_rep h e.2).2]
  cases dy with
  | tuple ds =>
    cases hy with | tup h =>
    exact sim_vneed fun e => sim_ask (key _ _ h e) (q _)
  | list ds =>
    obtain ⟨n, xs, rfl, _, h1, h2⟩ := hy
    exact sim_vneed fun e => sim_onOl h1 (sim_ask (key _ _ h2 e) (q _))
  | dict kvs =>
    obtain ⟨n, xs, rfl, _, h1, h2⟩ := hy
    refine sim_vneed fun e => sim_onOd h1 ?_
    have hk : x = valOf dx := hx.rep0.flat_eq (key_flat e)
    subst hk
    refine sim_need (key_fits e) ?_
    rcases get_rep (k := dx) h2 with ⟨h3, h4⟩ | ⟨v, d, h3, h4, _⟩
    · rw [h3, h4]; exact q _
    · rw [h3, h4]; exact q _
  | _ => exact sim_bad
theorem sim_eq {f : Bool → M Val} {g : Bool → VM VV} (hx : Rd Z r s x dx) (hy : Rd Z r s y dy) (q : ∀ b, Sim (f b s) (g b ρ) (PV Z r s)) : Sim (MP.ask (fun s => MP.eqV s x y) f s) (vneed (shp dx && shp dy) (g (PyData.eqv dx dy)) ρ) (PV Z r s) := by
  refine sim_vneed fun e => sim_ask (a := PyData.eqv dx dy) ?_ (q _)
  have e := band e
  unfold MP.eqV
  rw [datS_rep hx.rep0 e.1, datS_rep hy.rep0 e.2]
theorem sim_lt (c : Cx Z r base s ρ) (hx : Rd Z r s x dx) (hy : Rd Z r s y dy) : Sim (MP.ask (fun s => MP.ltV s x y) (fun b => pure (.bool b)) s) (vneed (shp dx && shp dy && PySem.W.alike dx dy && MP.noNone dx) (old (.bool (PySem.W.dataLt dx dy))) ρ) (PV Z r s) := by
  refine sim_vneed fun e => sim_ask (a := PySem.W.dataLt dx dy) ?_ (sim_old c (.bool _))
  have e1 := band e
  have e2 := band e1.1
  have e3 := band e2.1
  unfold MP.ltV
  rw [datS_rep hx.rep0 e3.1, datS_rep hy.rep0 e3.2]
  simp only
  rw [if_pos (by rw [e2.2, e1.2]; rfl)]
theorem sim_lt' (c : Cx Z r base s ρ) (hx : Rd Z r s x dx) (hy : Rd Z r s y dy) (h : ∀ i j, ¬ (dx = .int i ∧ dy = .int j)) : Sim (MP.cmpop .lt x y s) (vcmp .lt dx dy ρ) (PV Z r s) := by
  have e1 : vcmp .lt dx dy = vneed (shp dx && shp dy && PySem.W.alike dx dy && MP.noNone dx) (old (.bool (PySem.W.dataLt dx dy))) := by
    cases dx <;> first | rfl | (cases dy <;> first | rfl | exact (h _ _ ⟨rfl, rfl⟩).elim)
  have e2 : MP.cmpop .lt x y = MP.ask (fun s => MP.ltV s x y) (fun b => pure (.bool b)) := by
    cases x with
    | int i => cases y with
      | int j =>
        have h1 := hx.rep0
        have h2 := hy.rep0
        cases h1; cases h2
        exact (h _ _ ⟨rfl, rfl⟩).elim
      | _ => rfl
    | _ => rfl
  rw [e1, e2]
  exact sim_lt c hx hy
theorem sim_cmp (op : Cmp) (c : Cx Z r base s ρ) (hx : Rd Z r s x dx) (hy : Rd Z r s y dy) : Sim (MP.cmpop op x y s) (vcmp op dx dy ρ) (PV Z r s) := by
  cases op with
  | eq => exact sim_eq (g := fun b => old (.bool b)) hx hy fun b => sim_old c (.bool _)
  | ne => exact sim_eq (g := fun b => old (.bool !b)) hx hy fun b => sim_old c (.bool _)
  | lt =>
    by_cases h : ∃ i j, dx = .int i ∧ dy = .int j
    · obtain ⟨i, j, rfl, rfl⟩ := h
      cases hx; cases hy; exact sim_old c (.bool _)
    · exact sim_lt' c hx hy fun i j e => h ⟨i, j, e⟩
  | le => cases dx with
    | int i => cases dy with
      | int j => cases hx; cases hy; exact sim_old c (.bool _)
      | _ => exact sim_bad
    | _ => exact sim_bad
  | gt => cases dx with
    | int i => cases dy with
      | int j => cases hx; cases hy; exact sim_old c (.bool _)
      | _ => exact sim_bad
    | _ => exact sim_bad
  | ge => cases dx with
    | int i => cases dy with
      | int j => cases hx; cases hy; exact sim_old c (.bool _)
      | _ => exact sim_bad
    | _ => exact sim_bad
  | is => cases dy with
    | none =>
      cases hy
      have h := hx.rep0
      cases h <;> exact sim_old c (.bool _)
    | _ => exact sim_bad
  | isnot => cases dy with
    | none =>
      cases hy
      have h := hx.rep0
      cases h <;> exact sim_old c (.bool _)
    | _ => exact sim_bad
  | isin => exact sim_in c hx hy fun b => sim_old c (.bool _)
  | notin => exact sim_in c hx hy fun b => sim_old c (.bool _)
theorem sim_isi {ts : List Ty} (c : Cx Z r base s ρ) (hx : Rd Z r s x dx) : Sim (MP.isAny ts x s) (old (.bool (isD ts dx)) ρ) (PV Z r s) := by
  have h := hx.rep0
  cases h with
  | none => exact sim_old c (.bool _)
  | bool b => exact sim_old c (.bool _)
  | int i => exact sim_old c (.bool _)
  | str x => exact sim_old c (.bool _)
  | tup t => exact sim_old c (.bool _)
  | lst h1 h2 t => exact sim_onOl h2 (sim_old c (.bool _))
  | dct h1 h2 t => exact sim_onOd h2 (sim_old c (.bool _))
theorem sim_ix (c : Cx Z r base s ρ) (hx : Rd Z r s x dx) (hy : Rep Z s y dy) : Sim (MP.ixM x y s) (vix dx dy ρ) (PV Z r s) := by
  cases dx with
  | tuple ds => cases hx with | tup h => cases dy with
    | int i =>
      cases hy
      refine sim_vopt fun d e => ?_
      obtain ⟨v, h1, h2⟩ := h.atV e
      exact sim_opt h1 (sim_old c h2)
    | _ => exact sim_bad
  | list ds => cases dy with
    | int i =>
      cases hy
      obtain ⟨n, xs, rfl, _, h0, h⟩ := hx
      refine sim_onOl h0 (sim_vopt fun d e => ?_)
      obtain ⟨v, h1, h2⟩ := h.atV e
      exact sim_opt h1 (sim_old c h2)
    | _ => exact sim_bad
  | str a => cases hx; cases dy with
    | int i =>
      cases hy
      exact sim_vneed fun e => sim_need e (sim_vopt fun k e => sim_opt e (sim_old c (.str _)))
    | _ => exact sim_bad
  | dict kvs =>
    obtain ⟨n, xs, rfl, _, h0, h⟩ := hx
    refine sim_onOd h0 (sim_vneed fun e => ?_)
    have hk : y = valOf dy := hy.flat_eq (key_flat e)
    subst hk
    refine sim_need (key_fits e) (sim_vopt fun d e => ?_)
    rcases get_rep (k := dy) h with ⟨h3, h4⟩ | ⟨v, d', h3, h4, h5⟩
    · rw [h4] at e; cases e
    · rw [h4] at e; cases e; exact sim_opt h3 (sim_old c h5)
  | _ => exact sim_bad
theorem sim_sl {lo hi : Option Int} (c : Cx Z r base s ρ) (hx : Rd Z r s x dx) : Sim (MP.slM x lo hi s) (vsl dx lo hi ρ) (PV Z r s) := by
  cases dx with
  | tuple ds => cases hx with | tup h => exact sim_old c (.tup (h.cut _ _))
  | str a => cases hx; exact sim_vneed fun e => sim_need e (sim_old c (.str _))
  | list ds =>
    obtain ⟨n, xs, rfl, _, h0, h⟩ := hx
    exact sim_onL h0 (sim_newL c (h.cut _ _))
  | _ => exact sim_bad
theorem sim_rev (c : Cx Z r base s ρ) (hx : Rd Z r s x dx) : Sim (MP.revM x s) (vrev dx ρ) (PV Z r s) := by
  cases dx with
  | list ds =>
    obtain ⟨n, xs, rfl, _, h0, h⟩ := hx
    exact sim_onL h0 (sim_newL c h.rev)
  | _ => exact sim_bad
/-! built-ins -/
theorem zip_fst {α β : Type} : ∀ {a : List α} {b : List β}, a.length = b.length → (a.zip b).map (·.1) = a
  | [], [], _ => rfl
  | x :: a, y :: b, h => by simp only [List.zip_cons_cons, List.map_cons]; rw [zip_fst (by simpa using h)]
theorem zip_snd {α β : Type} : ∀ {a : List α} {b : List β}, a.length = b.length → (a.zip b).map (·.2) = b
  | [], [], _ => rfl
  | x :: a, y :: b, h => by simp only [List.zip_cons_cons, List.map_cons]; rw [zip_snd (by simpa using h)]
theorem Reps.zip : ∀ {xs : List Val} {ds : List PyData}, Reps Z s xs ds → ∀ p ∈ xs.zip ds, Rep Z s p.1 p.2
  | _, _, .nil, p, h => by cases h
  | _, _, .cons a b, p, h => by
    rw [List.zip_cons_cons] at h
    rcases List.mem_cons.mp h with rfl | h
    · exact a
    · exact b.zip p h
theorem reps_of_pairs : ∀ {l : List (Val × PyData)}, (∀ p ∈ l, Rep Z s p.1 p.2) → Reps Z s (l.map (·.1)) (l.map (·.2))
  | [], _ => .nil
  | p :: l, h => .cons (h p (List.mem_cons_self ..)) (reps_of_pairs fun q hq => h q (List.mem_cons_of_mem _ hq))
theorem sort_rep {xs : List Val} {ds es : List PyData} (h : Reps Z s xs ds) (e : sortP ds = some es) : ∃ ys, MP.sortO xs s = some ys ∧ Reps Z s ys es := by
  unfold sortP at e
  split at e
  · rename_i hc
    have h1 := band hc
    have h2 := band h1.1
    have h3 := band h2.1
    cases e
    unfold MP.sortO
    rw [dat_reps MP.dDepth h h3.1 (by unfold MP.dDepth; exact of_decide_eq_true h3.2)]
    simp only
    rw [if_pos (by rw [h2.2, h1.2]; rfl)]
    refine ⟨_, rfl, ?_⟩
    have hm : ds.mergeSort (PySem.W.dataLe false id) = ((xs.zip ds).mergeSort (PySem.W.dataLe false (·.2))).map (·.2) := by
      have hq := List.map_mergeSort (r := PySem.W.dataLe false (fun p : Val × PyData => p.2)) (f := fun p : Val × PyData => p.2) (s := PySem.W.dataLe false (id : PyData → PyData)) (l := xs.zip ds) (fun a _ b _ => rfl)
      rw [hq, zip_snd h.len]
    rw [hm]
    exact reps_of_pairs fun p hp => h.zip p (List.mem_mergeSort.mp hp)
  · cases e
theorem bools_rep : ∀ {xs : List Val} {ds : List PyData} {bs : List Bool}, Reps Z s xs ds → boolsP ds = some bs → MP.allBools xs = some bs
  | _, _, bs, .nil, h => h
  | _, _, bs, .cons (d := d) a b, h => by
    cases d with
    | bool k =>
      cases a
      rename_i xs' ds'
      change (boolsP ds').map (k :: ·) = some bs at h
      cases hd : boolsP ds' with
      | none => rw [hd] at h; cases h
      | some bs' =>
        rw [hd] at h
        show (MP.allBools _).map _ = _
        rw [bools_rep b hd]
        exact h
    | _ => cases h
inductive Rds (Z : List Nat) (r : Nat) (s : Store) : List Val → List PyData → Prop
  | nil : Rds Z r s [] []
  | cons {x xs d ds} : Rd Z r s x d → Rds Z r s xs ds → Rds Z r s (x :: xs) (d :: ds)
theorem sim_bi1 (f : Bi) {d : PyData} (c : Cx Z r base s ρ) (h : Rd Z r s x d) : Sim (MP.bi f [x] s) (vbi f [d] ρ) (PV Z r s) := by
  cases f with
  | len =>
    cases d with
    | str a => cases h; exact sim_vneed fun e => sim_need e (sim_old c (.int _))
    | tuple ds => cases h with | tup h => show Sim (Res.ok (Val.int _) s) _ _; rw [h.len]; exact sim_old c (.int _)
    | list ds => obtain ⟨n, xs, rfl, _, h0, h⟩ := h; refine sim_onOl h0 ?_; show Sim (Res.ok (Val.int _) s) _ _; rw [h.len]; exact sim_old c (.int _)
    | dict ds => obtain ⟨n, xs, rfl, _, h0, h⟩ := h; refine sim_onOd h0 ?_; show Sim (Res.ok (Val.int _) s) _ _; rw [h.len]; exact sim_old c (.int _)
    | _ => exact sim_bad
  | list =>
    cases d with
    | tuple ds => cases h with | tup h => exact sim_newL c h
    | list ds => obtain ⟨n, xs, rfl, _, h0, h⟩ := h; exact sim_onOl h0 (sim_newL c h)
    | dict ds => obtain ⟨n, xs, rfl, _, h0, h⟩ := h; exact sim_onOd h0 (sim_newL c h.keys)
    | _ => exact sim_bad
  | tuple =>
    cases d with
    | tuple ds => cases h with | tup h => exact sim_old c (.tup h)
    | list ds => obtain ⟨n, xs, rfl, _, h0, h⟩ := h; exact sim_onL h0 (sim_old c (.tup h))
    | _ => exact sim_bad
  | sorted =>
    cases d with
    | tuple ds => cases h with | tup h =>
      refine sim_vopt fun es e => ?_
      obtain ⟨ys, h1, h2⟩ := sort_rep h e
      exact sim_ask h1 (sim_newL c h2)
    | list ds =>
      obtain ⟨n, xs, rfl, _, h0, h⟩ := h
      refine sim_vopt fun es e => ?_
      obtain ⟨ys, h1, h2⟩ := sort_rep h e
      exact sim_onL h0 (sim_ask h1 (sim_newL c h2))
    | _ => exact sim_bad
  | all =>
    cases d with
    | list ds => obtain ⟨n, xs, rfl, _, h0, h⟩ := h; exact sim_vopt fun bs e => sim_onL h0 (sim_opt (bools_rep h e) (sim_old c (.bool _)))
    | _ => exact sim_bad
  | any =>
    cases d with
    | list ds => obtain ⟨n, xs, rfl, _, h0, h⟩ := h; exact sim_vopt fun bs e => sim_onL h0 (sim_opt (bools_rep h e) (sim_old c (.bool _)))
    | _ => exact sim_bad
  | abs => cases d with
    | int i => cases h; exact sim_old c (.int _)
    | _ => exact sim_bad
  | int => cases d with
    | int i => cases h; exact sim_old c (.int _)
    | bool i => cases h; exact sim_old c (.int _)
    | _ => exact sim_bad
  | min => cases d <;> exact sim_bad
  | max => cases d <;> exact sim_bad
  | str => cases d with
    | int i => cases h; exact sim_vneed fun e => sim_need e (sim_old c (.str _))
    | bool b => cases h; exact sim_old c (.str _)
    | _ => exact sim_bad
  | repr =>
    refine sim_vneed fun e => ?_
    have e1 := band e
    have e2 := band e1.1
    show Sim (MP.ask (fun s => MP.datS s x) (fun d => MP.need (d.showable && MP.szOk d.shown.length) (pure (Val.str d.shown) : M Val)) s) _ _
    refine sim_ask (datS_rep h.rep0 e2.1) ?_
    exact sim_need (b := d.showable && MP.szOk d.shown.length) (by rw [e2.2, e1.2]; rfl) (sim_old c (.str _))
theorem sim_bi (f : Bi) {xs : List Val} {ds : List PyData} (c : Cx Z r base s ρ) (h : Rds Z r s xs ds) : Sim (MP.bi f xs s) (vbi f ds ρ) (PV Z r s) := by
  cases h with
  | nil => cases f <;> exact sim_bad
  | @cons x xs d ds a t =>
    cases t with
    | nil => exact sim_bi1 f c a
    | @cons y ys d2 ds2 b t =>
      cases t with
      | nil =>
        cases f with
        | min => cases d with
          | int i => cases d2 with
            | int j => cases a; cases b; exact sim_old c (.int _)
            | _ => exact sim_bad
          | _ => exact sim_bad
        | max => cases d with
          | int i => cases d2 with
            | int j => cases a; cases b; exact sim_old c (.int _)
            | _ => exact sim_bad
          | _ => exact sim_bad
        | _ => cases d <;> exact sim_bad
      | cons b2 t => cases f <;> cases d <;> first | exact sim_bad | (cases d2 <;> exact sim_bad)
/-- methods that change nothing -/
theorem index_rep {xs : List Val} {ds : List PyData} (h : Reps Z s xs ds) {y : Val} {dy : PyData} (hy : Rep Z s y dy) (hr : r ∈ Z) (e : (shp dy && shps ds) = true) : MP.indexV y xs s = ds.findIdx? fun d => PyData.eqv d dy := by
  have e := band e
  unfold MP.indexV
  rw [datS_rep hy e.1, (dats_rep h e.2).1]
  simp only
  rw [if_pos (dats_rep h e.2).2]
theorem sim_mtE (m : Mt) {o : Val} {dO : PyData} {xs : List Val} {ds : List PyData} (c : Cx Z r base s ρ) (ho : Rd Z r s o dO) (h : Reps Z s xs ds) : Sim (MP.mt m o xs s) (vmtE m dO ds ρ) (PV Z r s) := by
  cases m with
  | index =>
    cases h with
    | nil => cases dO <;> exact sim_bad
    | @cons x xs d ds a t =>
      cases t with
      | nil =>
        cases dO with
        | tuple es => cases ho with | tup ho =>
          exact sim_vneed fun e => sim_vopt fun j hj => sim_ask ((index_rep ho a c.rZ e).trans hj) (sim_old c (.int _))
        | list es =>
          obtain ⟨n, xs, rfl, _, h0, ho⟩ := ho
          exact sim_vneed fun e => sim_vopt fun j hj => sim_onL h0 (sim_ask ((index_rep ho a c.rZ e).trans hj) (sim_old c (.int _)))
        | _ => exact sim_bad
      | cons b t => cases dO <;> exact sim_bad
  | upper =>
    cases dO with
    | str a => cases ho; cases h with
      | nil => exact sim_vneed fun e => sim_need e (sim_old c (.str _))
      | cons _ _ => exact sim_bad
    | _ => exact sim_bad
  | _ => exact sim_bad
/-- the receiver may be looked up -/
theorem mtTy_ok (m : Mt) {α : Type} {o : Val} {dO : PyData} {ds : List PyData} {k : M α} (hm : ¬ (∀ ρ, vmtE m dO ds ρ = .bad)) (ho : Rd Z r s o dO) : MP.mtTy m o k s = k s := by
  cases m with
  | index =>
    cases dO with
    | tuple es => cases ho; rfl
    | list es => obtain ⟨n, xs, rfl, _, h0, ho⟩ := ho; show MP.onL n _ s = _; unfold MP.onL; rw [h0]
    | _ => exact absurd (fun ρ => rfl) hm
  | upper =>
    cases dO with
    | str a => cases ho; rfl
    | _ => exact absurd (fun ρ => rfl) hm
  | _ => exact absurd (fun ρ => rfl) hm
end
/-! the draws -/
theorem drawR_ok {ρ : Rn} {n : Int} (h : 0 ≤ ρ.a ∧ 0 ≤ ρ.b ∧ ρ.b < 2 ^ 40 ∧ 0 ≤ ρ.c) (hn : 0 < n) : 0 ≤ (drawR ρ n).1 ∧ (drawR ρ n).1 < n ∧ (0 ≤ (drawR ρ n).2.a ∧ 0 ≤ (drawR ρ n).2.b ∧ (drawR ρ n).2.b < 2 ^ 40 ∧ 0 ≤ (drawR ρ n).2.c) ∧ (drawR ρ n).2.c ≤ ρ.c + 1 := by
  unfold drawR
  split
  · exact ⟨Int.emod_nonneg _ (by omega), Int.emod_lt_of_pos _ hn, ⟨Int.ediv_nonneg h.1 (by omega), h.2.1, h.2.2.1, h.2.2.2⟩, by simp; omega⟩
  · exact ⟨Int.emod_nonneg _ (by omega), Int.emod_lt_of_pos _ hn, ⟨h.1, h.2.1, h.2.2.1, by simp; omega⟩, by simp⟩
end VE
set_option Elab.async false
set_option linter.all false
set_option maxRecDepth 100000
/-! Slots, targets, comprehensions: the same run. -/
namespace VE
open MP (Val Ob Store E Es Oe It Rg S Ss Tg Op Cmp Ty Bi Mt Fn Prog Fl En Keeps Ok OkS M Res evalE evalEs evalOe evalIt evalRg)
open PySem (Str PyData sizeLine)
section
variable {Z : List Nat} {r base : Nat} {s s1 s2 : Store} {ρ ρ1 ρ2 : Rn} {env : En} {ve : VEn}
theorem Rd.keep {v : Val} {d : PyData} (h : Rd Z r s v d) (hr : r ∈ Z) (k : Keeps [r] s s1) : Rd Z r s1 v d := by
  have k2 := Keeps.up k hr
  cases d with
  | list ds => obtain ⟨n, xs, rfl, h1, h2, h3⟩ := h; exact ⟨n, xs, rfl, h1, k.at h2 (by simpa using h1), h3.keep k2⟩
  | dict ds => obtain ⟨n, xs, rfl, h1, h2, h3⟩ := h; exact ⟨n, xs, rfl, h1, k.at h2 (by simpa using h1), h3.keep k2⟩
  | none => exact Rep.keep k2 h
  | bool b => exact Rep.keep k2 h
  | int i => exact Rep.keep k2 h
  | str x => exact Rep.keep k2 h
  | tuple ds => exact Rep.keep k2 h
theorem PV.up {v : Val} {p : VV} (k : Keeps [r] s s1) (h : PV Z r s1 v s2 p ρ) : PV Z r s v s2 p ρ :=
  ⟨k.trans h.keep, h.rng, h.rep, fun e => by obtain ⟨n, h1, h2, h3⟩ := h.fr e; exact ⟨n, h1, Nat.le_trans k.1 h2, h3⟩⟩
theorem PV.pr {v : Val} {p : VV} (h : PV Z r s v s1 p ρ) (hr : r ∈ Z) : PR Z r s v s1 p ρ := ⟨h.keep, h.rng, h.rep.rd hr⟩
/-! ### slots -/
theorem ER.set {x : Sl} {o : Option Val} (h : ER Z r base s env ve) (i : Nat) (hx : SlR Z r base s o x) (hd : ∀ d, x = .own d → ∀ (j : Nat) (d' : PyData), j ≠ i → ve[j]? = some (.own d') → env[j]?.join ≠ o) : ER Z r base s (env.set i o) (ve.set i x) := by
  refine ⟨by rw [List.length_set, List.length_set]; exact h.len, fun j y e => ?_, fun j k d d' hjk e1 e2 => ?_⟩
  · by_cases hj : i = j
    · subst hj
      rw [List.getElem?_set_self' ] at e ⊢
      cases hv : ve[i]? with
      | none => rw [hv] at e; cases e
      | some y' =>
        rw [hv] at e
        have hlt : i < env.length := by rw [h.len]; exact (List.getElem?_eq_some_iff.mp hv).1
        rw [List.getElem?_eq_getElem hlt]
        cases e
        exact hx
    · rw [List.getElem?_set_ne hj] at e ⊢
      exact h.at_ j y e
  · have key : ∀ (j k : Nat) (d d' : PyData), j ≠ k → (ve.set i x)[j]? = some (.own d) → (ve.set i x)[k]? = some (.own d') → i = j → (env.set i o)[j]?.join ≠ (env.set i o)[k]?.join := by
      intro j k d d' hjk e1 e2 hj
      subst hj
      rw [List.getElem?_set_ne hjk] at e2 ⊢
      rw [List.getElem?_set_self'] at e1 ⊢
      cases hv : ve[i]? with
      | none => rw [hv] at e1; cases e1
      | some y' =>
        rw [hv] at e1
        have hlt : i < env.length := by rw [h.len]; exact (List.getElem?_eq_some_iff.mp hv).1
        rw [List.getElem?_eq_getElem hlt]
        injection e1 with e1
        exact fun e => hd d e1 k d' (Ne.symm hjk) e2 e.symm
    by_cases hj : i = j
    · exact key j k d d' hjk e1 e2 hj
    · by_cases hk : i = k
      · exact fun e => key k j d' d (Ne.symm hjk) e2 e1 hk e.symm
      · rw [List.getElem?_set_ne hj] at e1 ⊢
        rw [List.getElem?_set_ne hk] at e2 ⊢
        exact h.dis j k d d' hjk e1 e2
theorem ER.setV {d : PyData} {v : Val} (h : ER Z r base s env ve) (i : Nat) (hv : Rep Z s v d) : ER Z r base s (env.set i (some v)) (ve.set i (.val d)) := h.set i ⟨v, rfl, hv⟩ fun d e => nomatch e
theorem ER.wipe (h : ER Z r base s env ve) : ∀ l : List Nat, ER Z r base s (MP.wipe env l) (vwipe ve l)
  | [] => h
  | i :: l => (h.wipe l).set i trivial fun d e => nomatch e
/-! ### targets -/
mutual
theorem bind_T : ∀ (t : Tg) {v : Val} {d : PyData} {env : En} {ve ve' : VEn}, Rep Z s v d → ER Z r base s env ve → vbindT t d ve = some ve' → Ok (MP.bindT t v env s) fun env' s' => s' = s ∧ ER Z r base s env' ve'
  | .nm i, v, d, env, ve, ve', hv, h, e => by
    simp only [vbindT] at e
    cases e
    exact ⟨rfl, h.setV i hv⟩
  | .tp ts, v, d, env, ve, ve', hv, h, e => by
    cases hv with
    | tup t =>
      simp only [vbindT] at e
      obtain ⟨h3, h4⟩ := bind_Ts' ts t h e
      show Ok (MP.need (decide (_ = ts.length)) (MP.bindTs ts _ env) s) _
      rw [MP.ok_need]
      exact ⟨decide_eq_true h3, h4⟩
    | lst h1 h2 t =>
      simp only [vbindT] at e
      obtain ⟨h3, h4⟩ := bind_Ts' ts t h e
      show Ok (MP.onL _ _ s) _
      rw [MP.ok_onL]
      refine ⟨_, h2, ?_⟩
      rw [MP.ok_need]
      exact ⟨decide_eq_true h3, h4⟩
    | _ => simp [vbindT] at e
theorem bind_Ts' : ∀ (ts : List Tg) {vs : List Val} {ds : List PyData} {env : En} {ve ve' : VEn}, Reps Z s vs ds → ER Z r base s env ve → vbindTs ts ds ve = some ve' → vs.length = ts.length ∧ Ok (MP.bindTs ts vs env s) fun env' s' => s' = s ∧ ER Z r base s env' ve'
  | [], _, _, env, ve, ve', .nil, h, e => by simp only [vbindTs] at e; cases e; exact ⟨rfl, rfl, h⟩
  | [], _, _, env, ve, ve', .cons _ _, h, e => by simp [vbindTs] at e
  | t :: ts, _, _, env, ve, ve', .nil, h, e => by simp [vbindTs] at e
  | t :: ts, _, _, env, ve, ve', .cons (x := x) (xs := xs) (d := d) (ds := ds) a b, h, e => by
    simp only [vbindTs] at e
    cases h1 : vbindT t d ve with
    | none => rw [h1] at e; cases e
    | some ve1 =>
      rw [h1] at e
      obtain ⟨env1, s1, e1, hs, h2⟩ := Ok.get (bind_T t a h h1)
      rw [hs] at e1
      obtain ⟨h3, h4⟩ := bind_Ts' ts b h2 e
      refine ⟨by simp [h3], ?_⟩
      show Ok ((MP.bindT t x env >>= fun env' => MP.bindTs ts xs env') s) _
      rw [MP.ok_bind, e1]
      exact h4
end
theorem bind_Ts (ts : List Tg) {vs : List Val} {ds : List PyData} {env : En} {ve ve' : VEn} (a : Reps Z s vs ds) (h : ER Z r base s env ve) (e : vbindTs ts ds ve = some ve') : Ok (MP.need (decide (vs.length = ts.length)) (MP.bindTs ts vs env) s) fun env' s' => s' = s ∧ ER Z r base s env' ve' := by
  obtain ⟨h3, h4⟩ := bind_Ts' ts a h e
  rw [MP.ok_need]
  exact ⟨decide_eq_true h3, h4⟩
inductive ItR (Z : List Nat) (s : Store) : MP.Itm → VItm → Prop
  | one {v d} : Rep Z s v d → ItR Z s (.one v) (.one d)
  | many {vs ds} : Reps Z s vs ds → ItR Z s (.many vs) (.many ds)
theorem ItR.keep {i : MP.Itm} {x : VItm} (h : ItR Z s i x) (k : Keeps Z s s1) : ItR Z s1 i x := by
  cases h with
  | one h => exact .one (h.keep k)
  | many h => exact .many (h.keep k)
inductive IsR (Z : List Nat) (s : Store) : List MP.Itm → List VItm → Prop
  | nil : IsR Z s [] []
  | cons {i is x xs} : ItR Z s i x → IsR Z s is xs → IsR Z s (i :: is) (x :: xs)
theorem IsR.keep {i : List MP.Itm} {x : List VItm} (h : IsR Z s i x) (k : Keeps Z s s1) : IsR Z s1 i x := by
  induction h with
  | nil => exact .nil
  | cons a b ih => exact .cons (a.keep k) ih
theorem IsR.len {i : List MP.Itm} {x : List VItm} (h : IsR Z s i x) : i.length = x.length := by
  induction h with
  | nil => rfl
  | cons a b ih => simp [ih]
theorem bind_I {t : Tg} {i : MP.Itm} {x : VItm} {env : En} {ve ve' : VEn} (hv : ItR Z s i x) (h : ER Z r base s env ve) (e : vbindI t x ve = some ve') : Ok (MP.bindI t i env s) fun env' s' => s' = s ∧ ER Z r base s env' ve' := by
  cases hv with
  | one hv => cases t <;> exact bind_T _ hv h e
  | many hv =>
    cases t with
    | nm i => cases e
    | tp ts => exact bind_Ts ts hv h e
theorem isr_ones : ∀ {vs : List Val} {ds : List PyData}, Reps Z s vs ds → IsR Z s (vs.map .one) (ds.map .one)
  | _, _, .nil => .nil
  | _, _, .cons a b => .cons (.one a) (isr_ones b)
theorem isr_enum : ∀ {vs : List Val} {ds : List PyData} (i : Nat), Reps Z s vs ds → IsR Z s (MP.enumV i vs) (venumV i ds)
  | _, _, i, .nil => .nil
  | _, _, i, .cons a b => .cons (.many (.cons (.int _) (.cons a .nil))) (isr_enum (i + 1) b)
theorem isr_zip : ∀ {vs ws : List Val} {ds es : List PyData}, Reps Z s vs ds → Reps Z s ws es → IsR Z s (MP.zipV vs ws) (vzipV ds es)
  | _, _, _, _, .nil, _ => by simp only [MP.zipV, vzipV]; exact .nil
  | _, _, _, _, .cons a b, .nil => by simp only [MP.zipV, vzipV]; exact .nil
  | _, _, _, _, .cons a b, .cons a' b' => .cons (.many (.cons a (.cons a' .nil))) (isr_zip b b')
theorem isr_items : ∀ {kvs ds}, RepD Z s kvs ds → IsR Z s (kvs.map fun p => .many [p.1, p.2]) (ds.map fun p => .many [p.1, p.2])
  | _, _, .nil => .nil
  | _, _, .cons e a b => .cons (.many (.cons (Rep.of_flat (key_flat e)) (.cons a .nil))) (isr_items b)
theorem isr_vals : ∀ {kvs ds}, RepD Z s kvs ds → IsR Z s (kvs.map fun p => .one p.2) (ds.map fun p => .one p.2)
  | _, _, .nil => .nil
  | _, _, .cons e a b => .cons (.one a) (isr_vals b)
theorem rg_rep (g : MP.RgV) : Reps Z s (MP.rgV g) (rgP g) := reps_map (fun i => .int _) _
/-! ### comprehensions -/
def ChkR (r : Nat) (s : Store) (l : List (Nat × Ob)) : Prop := ∀ p ∈ l, s[p.1]? = some p.2 ∧ p.1 ≠ r
theorem ChkR.keep {l : List (Nat × Ob)} (h : ChkR r s l) (k : Keeps [r] s s1) : ChkR r s1 l := fun p hp => ⟨k.at (h p hp).1 (by simpa using (h p hp).2), (h p hp).2⟩
theorem sim_chk {α β : Type} {m : M α} {v : VR β} {Q : α → Store → β → Rn → Prop} {l : List (Nat × Ob)} (hc : ∀ p ∈ l, s[p.1]? = some p.2) (h : Sim (m s) v Q) : Sim (MP.chkM l m s) v Q := by
  unfold MP.chkM
  rw [if_pos (MP.chk_all hc)]
  exact h
inductive OpR (Z : List Nat) (s : Store) : Option Val → Option PyData → Prop
  | none : OpR Z s none none
  | some {v d} : Rep Z s v d → OpR Z s (some v) (some d)
theorem lc_go {body : MP.Itm → M (Option Val)} {vb : VItm → VM (Option PyData)} {chk : List (Nat × Ob)} (hr : r ∈ Z)
    (hb : ∀ i x s1 ρ1, Keeps [r] s s1 → RngAt s1 r ρ1 → ItR Z s1 i x → Sim (body i s1) (vb x ρ1) fun o s2 o' ρ2 => Keeps [r] s1 s2 ∧ RngAt s2 r ρ2 ∧ OpR Z s2 o o') :
    ∀ {is : List MP.Itm} {xs : List VItm} {s1 : Store} {ρ1 : Rn}, Keeps [r] s s1 → RngAt s1 r ρ1 → ChkR r s1 chk → IsR Z s1 is xs → Sim (MP.lcGo chk body is s1) (vlcGo vb xs ρ1) fun vs s2 ds ρ2 => Keeps [r] s1 s2 ∧ RngAt s2 r ρ2 ∧ Reps Z s2 vs ds
  | _, _, s1, ρ1, k, hρ, hc, .nil => sim_chk (fun p hp => (hc p hp).1) (sim_ok ⟨.refl, hρ, .nil⟩)
  | _, _, s1, ρ1, k, hρ, hc, .cons (i := i) (is := is) (x := x) (xs := xs) a b => by
    refine sim_chk (fun p hp => (hc p hp).1) ?_
    show Sim ((body i >>= fun r => MP.lcGo chk body is >>= fun ys => pure (match r with | some y => y :: ys | none => ys)) s1) ((vb x >>= fun r => vlcGo vb xs >>= fun ys => pure (match r with | some y => y :: ys | none => ys)) ρ1) _
    refine sim_bind (hb i x s1 ρ1 k hρ a) fun o s2 o' ρ2 ⟨k2, h2, h3⟩ => ?_
    refine sim_bind (lc_go hr hb (k.trans k2) h2 (hc.keep k2) (b.keep (Keeps.up k2 hr))) fun ys s3 ds ρ3 ⟨k3, h4, h5⟩ => ?_
    refine sim_ok ⟨k2.trans k3, h4, ?_⟩
    cases h3 with
    | none => exact h5
    | some h3 => exact .cons (h3.keep (Keeps.up k3 hr)) h5
theorem dc_go {body : MP.Itm → M (Val × Val)} {vb : VItm → VM (PyData × PyData)} {chk : List (Nat × Ob)} (hr : r ∈ Z)
    (hb : ∀ i x s1 ρ1, Keeps [r] s s1 → RngAt s1 r ρ1 → ItR Z s1 i x → Sim (body i s1) (vb x ρ1) fun o s2 o' ρ2 => Keeps [r] s1 s2 ∧ RngAt s2 r ρ2 ∧ Rep Z s2 o.1 o'.1 ∧ Rep Z s2 o.2 o'.2) :
    ∀ {is : List MP.Itm} {xs : List VItm} {kvs : List (Val × Val)} {ds : List (PyData × PyData)} {s1 : Store} {ρ1 : Rn}, Keeps [r] s s1 → RngAt s1 r ρ1 → ChkR r s1 chk → IsR Z s1 is xs → RepD Z s1 kvs ds → Sim (MP.dcGo chk body is kvs s1) (vdcGo vb xs ds ρ1) fun vs s2 ds ρ2 => Keeps [r] s1 s2 ∧ RngAt s2 r ρ2 ∧ RepD Z s2 vs ds
  | _, _, kvs, ds, s1, ρ1, k, hρ, hc, .nil, hd => sim_chk (fun p hp => (hc p hp).1) (sim_ok ⟨.refl, hρ, hd⟩)
  | _, _, kvs, ds, s1, ρ1, k, hρ, hc, .cons (i := i) (is := is) (x := x) (xs := xs) a b, hd => by
    refine sim_chk (fun p hp => (hc p hp).1) ?_
    show Sim ((body i >>= fun kv => MP.need (MP.keyFits kvs kv.1) (MP.dcGo chk body is (MP.dput kvs kv.1 kv.2))) s1) ((vb x >>= fun kv => vneed (kOk kv.1) (vdcGo vb xs (pput ds kv.1 kv.2))) ρ1) _
    refine sim_bind (hb i x s1 ρ1 k hρ a) fun o s2 o' ρ2 ⟨k2, h2, h3, h4⟩ => sim_vneed fun e => ?_
    have hk := h3.flat_eq (key_flat e)
    rw [hk]
    refine sim_need (key_fits e) ?_
    refine Sim.mono (dc_go hr hb (k.trans k2) h2 (hc.keep k2) (b.keep (Keeps.up k2 hr)) (put_rep (hd.keep (Keeps.up k2 hr)) e h4)) ?_
    rintro vs s3 ds ρ3 ⟨k3, h5, h6⟩
    exact ⟨k2.trans k3, h5, h6⟩
end
end VE
set_option Elab.async false
set_option linter.all false
set_option maxRecDepth 100000
set_option maxHeartbeats 1000000
/-! Expressions: the same run. -/
namespace VE
open MP (Val Ob Store E Es Oe It Rg S Ss Tg Op Cmp Ty Bi Mt Fn Prog Fl En Keeps Ok OkS M Res evalE evalEs evalOe evalIt evalRg)
open PySem (Str PyData sizeLine)
inductive ArR (X : List Nat) (r : Nat) (s : Store) : Val → Ar → Prop
  | d {v d} : Rep X s v d → ArR X r s v (.d d)
  | rng : ArR X r s (.ref r) .rng
inductive ArsR (X : List Nat) (r : Nat) (s : Store) : List Val → List Ar → Prop
  | nil : ArsR X r s [] []
  | cons {v a vs as} : ArR X r s v a → ArsR X r s vs as → ArsR X r s (v :: vs) (a :: as)
def CallOk (hd : MP.Hd) (vh : VHd) : Prop := ∀ (f : Str) (as : List Ar) (vs : List Val) (X : List Nat) (r base : Nat) (s : Store) (ρ : Rn), ArsR X r s vs as → Cx X r base s ρ → Sim (hd f vs s) (vh f as ρ) (PV X r s)
def GlobOk (g : Str → Option Val) (vg : Str → Option PyData) : Prop := ∀ x d, vg x = some d → flat d = true ∧ g x = some (valOf d)
section
variable {Z : List Nat} {r base : Nat} {s s1 s2 : Store} {ρ ρ1 ρ2 : Rn} {env : En} {ve : VEn}
theorem ArR.keep {v : Val} {a : Ar} (h : ArR Z r s v a) (k : Keeps Z s s1) : ArR Z r s1 v a := by
  cases h with
  | d h => exact .d (h.keep k)
  | rng => exact .rng
theorem ArsR.len {vs : List Val} {as : List Ar} (h : ArsR Z r s vs as) : vs.length = as.length := by
  induction h with
  | nil => rfl
  | cons a b ih => simp [ih]
theorem ArsR.keep {vs : List Val} {as : List Ar} (h : ArsR Z r s vs as) (k : Keeps Z s s1) : ArsR Z r s1 vs as := by
  induction h with
  | nil => exact .nil
  | cons a b ih => exact .cons (a.keep k) ih
theorem ArsR.app {vs ws : List Val} {as bs : List Ar} (h : ArsR Z r s vs as) (h' : ArsR Z r s ws bs) : ArsR Z r s (vs ++ ws) (as ++ bs) := by
  induction h with
  | nil => exact h'
  | cons a b ih => exact .cons a ih
theorem ArsR.at {vs : List Val} {as : List Ar} (h : ArsR Z r s vs as) : ∀ i : Nat, (vs[i]? = none ∧ as[i]? = none) ∨ ∃ v a, vs[i]? = some v ∧ as[i]? = some a ∧ ArR Z r s v a := by
  induction h with
  | nil => intro i; left; simp
  | cons a b ih =>
    intro i
    cases i with
    | zero => right; exact ⟨_, _, rfl, rfl, a⟩
    | succ i => simpa using ih i
theorem ArsR.pick {vs : List Val} {as : List Ar} (h : ArsR Z r s vs as) : ∀ sel : List Nat, ArsR Z r s (MP.pickL vs sel) (MP.pickL as sel)
  | [] => .nil
  | i :: sel => by
    have ih := h.pick sel
    unfold MP.pickL at ih ⊢
    rw [List.filterMap_cons, List.filterMap_cons]
    rcases h.at i with ⟨h1, h2⟩ | ⟨v, a, h1, h2, h3⟩
    · rw [h1, h2]; exact ih
    · rw [h1, h2]; exact .cons h3 ih
theorem var_of {e : E} {x : Sl} (h : (varOf e).bind (ve[·]?) = some x) : ∃ i, e = .var i ∧ ve[i]? = some x := by
  cases e with
  | var i => exact ⟨i, rfl, h⟩
  | _ => cases h
theorem eval_var {C : MP.Cfg} {i : Nat} {v : Val} (h : env[i]?.join = some v) : evalE C (.var i) env s = .ok v s := by
  show MP.ofOpt (env[i]?.join) pure s = _
  rw [h]; rfl
section
variable {C : MP.Cfg} {V : VCfg}
theorem rdV_own {e : E} {d : PyData} {m : VM VV} (h : (varOf e).bind (ve[·]?) = some (.own d)) : rdV ve e m = pure (d, false) := by
  unfold rdV
  rw [h]
theorem rdV_else {e : E} {m : VM VV} (h : ∀ d, (varOf e).bind (ve[·]?) ≠ some (.own d)) : rdV ve e m = m := by
  unfold rdV
  split
  · rename_i d e1; exact absurd e1 (h d)
  · rfl
theorem arOf_rng {e : E} {m : VM VV} (h : (varOf e).bind (ve[·]?) = some .rng) : arOf ve e m = pure .rng := by
  unfold arOf
  rw [h]
theorem arOf_else {e : E} {m : VM VV} (h : (varOf e).bind (ve[·]?) ≠ some .rng) : arOf ve e m = (do let x ← m; pure (.d x.1)) := by
  unfold arOf
  split
  · rename_i e1; exact absurd e1 h
  · rfl
theorem bind_ok {α β : Type} {m : M α} {f : α → M β} {a : α} (h : m s = .ok a s1) : (m >>= f) s = f a s1 := by
  show (match m s with | .ok a s' => f a s' | .exc C v s' => .exc C v s' | .bad => .bad) = _
  rw [h]
theorem vbind_eq {α β : Type} (m : VM α) (f : α → VM β) (ρ : Rn) : (m >>= f) ρ = (match m ρ with | .ok a ρ' => f a ρ' | .bad => .bad) := rfl
/-- a place that only reads -/
theorem rd_of {e : E} (c : Cx Z r base s ρ) (h : ER Z r base s env ve) (q : Sim (evalE C e env s) (veE V e ve ρ) (PV Z r s)) : Sim (evalE C e env s) (rdV ve e (veE V e ve) ρ) (PR Z r s) := by
  by_cases e0 : ∃ d, (varOf e).bind (ve[·]?) = some (.own d)
  · obtain ⟨d, e1⟩ := e0
    rw [rdV_own e1]
    obtain ⟨i, rfl, e2⟩ := var_of e1
    obtain ⟨n, h1, h2, h3, h4⟩ := h.at_ i _ e2
    rw [eval_var h1]
    exact sim_ok ⟨.refl, c.rng, h4.rd (by have := c.rb; omega)⟩
  · rw [rdV_else fun d e => e0 ⟨d, e⟩]
    exact q.mono fun v s' p ρ' h => h.pr c.rZ
theorem rd_q {q : Bool} {e : E} (c : Cx Z r base s ρ) (h : ER Z r base s env ve) (p : Sim (evalE C e env s) (veE V e ve ρ) (PV Z r s)) : Sim (evalE C e env s) ((if q = true then rdV ve e (veE V e ve) else veE V e ve) ρ) (fun v s' p ρ' => PR Z r s v s' p ρ' ∧ (q = false → Rep Z s' v p.1)) := by
  cases q with
  | true => exact (rd_of c h p).mono fun v s' p ρ' h => ⟨h, fun e => nomatch e⟩
  | false => exact p.mono fun v s' p ρ' h => ⟨h.pr c.rZ, fun _ => h.rep⟩
theorem ar_of {e : E} (c : Cx Z r base s ρ) (h : ER Z r base s env ve) (q : Sim (evalE C e env s) (veE V e ve ρ) (PV Z r s)) : Sim (evalE C e env s) (arOf ve e (veE V e ve) ρ) (fun v s' a ρ' => Keeps [r] s s' ∧ RngAt s' r ρ' ∧ ArR Z r s' v a) := by
  by_cases e1 : (varOf e).bind (ve[·]?) = some .rng
  · rw [arOf_rng e1]
    obtain ⟨i, rfl, e2⟩ := var_of e1
    have h1 := h.at_ i _ e2
    rw [eval_var h1]
    exact sim_ok ⟨.refl, c.rng, .rng⟩
  · rw [arOf_else e1, vbind_eq]
    cases hv : veE V e ve ρ with
    | bad => trivial
    | ok p ρ' =>
      rw [hv] at q
      exact Ok.mono q fun v s' q => ⟨q.keep, q.rng, .d q.rep⟩
end
/-! what is walked -/
structure PI (Z : List Nat) (r : Nat) (q : Bool) (s : Store) (src : MP.Src) (s' : Store) (is : List VItm) (ρ' : Rn) : Prop where
  keep : Keeps [r] s s'
  rng : RngAt s' r ρ'
  items : IsR Z s' src.items is
  chk : ChkR r s' src.chk
  out : q = false → ∀ p ∈ src.chk, p.1 ∉ Z
theorem PI.up {q : Bool} {src : MP.Src} {is : List VItm} (k : Keeps [r] s s1) (h : PI Z r q s1 src s2 is ρ) : PI Z r q s src s2 is ρ := ⟨k.trans h.keep, h.rng, h.items, h.chk, h.out⟩
theorem chk1 {n : Nat} {o : Ob} (h : s[n]? = some o) (hr : n ≠ r) : ChkR r s [(n, o)] := fun p hp => by
  rw [List.mem_singleton] at hp; subst hp; exact ⟨h, hr⟩
theorem chk1z {q : Bool} {n : Nat} {o : Ob} {d : PyData} (h : q = false → Rep Z s (.ref n) d) : q = false → ∀ p ∈ [(n, o)], p.1 ∉ Z := fun e p hp => by
  rw [List.mem_singleton] at hp; subst hp
  cases h e <;> assumption
theorem sim_src {q : Bool} {v : Val} {d : PyData} (c : Cx Z r base s ρ) (h : Rd Z r s v d) (hq : q = false → Rep Z s v d) : Sim (MP.srcOf v s) (vsrc d ρ) (PI Z r q s) := by
  cases d with
  | tuple ds => cases h with | tup h => exact sim_ok ⟨.refl, c.rng, isr_ones h, (fun p hp => nomatch hp), (fun e p hp => nomatch hp)⟩
  | str a =>
    cases h
    refine sim_ok ⟨.refl, c.rng, ?_, (fun p hp => nomatch hp), (fun e p hp => nomatch hp)⟩
    have := isr_ones (reps_map (Z := Z) (s := s) (fun (c : Nat) => Rep.str ⟨#[c]⟩) a.cps.toList)
    rw [List.map_map, List.map_map] at this
    exact this
  | list ds =>
    obtain ⟨n, xs, rfl, h1, h2, h3⟩ := h
    exact sim_onL h2 (sim_ok ⟨.refl, c.rng, isr_ones h3, chk1 h2 h1, chk1z hq⟩)
  | _ => exact sim_bad
structure PS (Z : List Nat) (r : Nat) (q : Bool) (s : Store) (d : PyData) (src : MP.Sq) (s' : Store) (ds : List PyData) (ρ' : Rn) : Prop where
  st : s' = s
  rng : RngAt s r ρ'
  items : Reps Z s src.vals ds
  chk : ChkR r s src.chk
  out : q = false → ∀ p ∈ src.chk, p.1 ∉ Z
  len : src.chk.length = if isList d = true then 1 else 0
theorem sim_seq {β : Type} {q : Bool} {v : Val} {d : PyData} {α : Type} {k : MP.Sq → M α} {k' : List PyData → VM β} {R : α → Store → β → Rn → Prop} (c : Cx Z r base s ρ) (h : Rd Z r s v d) (hq : q = false → Rep Z s v d)
    (w : ∀ sq ds, PS Z r q s d sq s ds ρ → Sim (k sq s) (k' ds ρ) R) : Sim ((MP.seqOf v >>= k) s) (vopt (vseq d) k' ρ) R := by
  cases d with
  | tuple ds => cases h with | tup h => exact w _ _ ⟨rfl, c.rng, h, (fun p hp => nomatch hp), (fun e p hp => nomatch hp), rfl⟩
  | list ds =>
    obtain ⟨n, xs, rfl, h1, h2, h3⟩ := h
    have e : MP.seqOf (.ref n) s = .ok ⟨xs, [(n, .lst xs)]⟩ s := by unfold MP.seqOf MP.onL; simp only; rw [h2]; rfl
    rw [bind_ok e]
    exact w _ _ ⟨rfl, c.rng, h3, chk1 h2 h1, chk1z hq, rfl⟩
  | _ => exact sim_bad
theorem vals_eq {xs : List Val} {ds : List PyData} (h : Reps Z s xs ds) {g : MP.RgV} {f : List Val → Option MP.RgV} (hf : ∀ vs, f vs = some g → ∀ v ∈ vs, ∃ i, v = .int i) (e : f (valsOf ds) = some g) : f xs = some g := by
  have hfl : ∀ {xs : List Val} {ds : List PyData}, Reps Z s xs ds → (∀ v ∈ valsOf ds, ∃ i, v = .int i) → xs = valsOf ds := by
    intro xs ds h
    induction ds generalizing xs with
    | nil => intro _; cases h; rfl
    | cons d ds ih =>
      intro hv
      cases h with
      | cons a b =>
        simp only [valsOf] at hv ⊢
        obtain ⟨i, hi⟩ := hv _ (List.mem_cons_self ..)
        rw [ih b fun v hm => hv v (List.mem_cons_of_mem _ hm)]
        cases d with
        | int j => cases a; rfl
        | _ => simp [valOf] at hi
  rw [hfl h (hf _ e)]
  exact e
theorem rng2_ints {g : MP.RgV} : ∀ vs, MP.rng2V vs = some g → ∀ v ∈ vs, ∃ i, v = Val.int i := by
  intro vs e v hv
  unfold MP.rng2V at e
  split at e
  · rw [List.mem_singleton] at hv; exact ⟨_, hv⟩
  · rcases List.mem_cons.mp hv with rfl | hv
    · exact ⟨_, rfl⟩
    · rw [List.mem_singleton] at hv; exact ⟨_, hv⟩
  · cases e
theorem rng_ints {g : MP.RgV} : ∀ vs, MP.rngV vs = some g → ∀ v ∈ vs, ∃ i, v = Val.int i := by
  intro vs e v hv
  unfold MP.rngV at e
  split at e
  · rcases List.mem_cons.mp hv with rfl | hv
    · exact ⟨_, rfl⟩
    rcases List.mem_cons.mp hv with rfl | hv
    · exact ⟨_, rfl⟩
    · rw [List.mem_singleton] at hv; exact ⟨_, hv⟩
  · exact rng2_ints _ e v hv
theorem sim_onB {α β : Type} {v : Val} {d : PyData} {f : Bool → M α} {g : Bool → VM β} {Q : α → Store → β → Rn → Prop} (h : Rep Z s v d) (w : ∀ b, Sim (f b s) (g b ρ) Q) : Sim (MP.onB v f s) (vonB d g ρ) Q := by
  cases h with
  | bool b => exact w b
  | _ => exact sim_bad
structure PVs (Z : List Nat) (r : Nat) (s : Store) (vs : List Val) (s' : Store) (ds : List PyData) (ρ' : Rn) : Prop where
  keep : Keeps [r] s s'
  rng : RngAt s' r ρ'
  rep : Reps Z s' vs ds
structure PRs (Z : List Nat) (r : Nat) (s : Store) (vs : List Val) (s' : Store) (ds : List PyData) (ρ' : Rn) : Prop where
  keep : Keeps [r] s s'
  rng : RngAt s' r ρ'
  rd : Rds Z r s' vs ds
structure PAs (Z : List Nat) (r : Nat) (s : Store) (vs : List Val) (s' : Store) (ds : List Ar) (ρ' : Rn) : Prop where
  keep : Keeps [r] s s'
  rng : RngAt s' r ρ'
  ar : ArsR Z r s' vs ds
structure PO (Z : List Nat) (r : Nat) (s : Store) (vs : Option Val) (s' : Store) (ds : Option PyData) (ρ' : Rn) : Prop where
  keep : Keeps [r] s s'
  rng : RngAt s' r ρ'
  rep : OpR Z s' vs ds
theorem part_rep {v : Option Val} {d : Option PyData} {o : Option Int} (h : OpR Z s v d) (e : partP d = some o) : MP.partM v = some o := by
  cases h with
  | none => exact e
  | @some v d h =>
    cases d with
    | int i => cases h; exact e
    | _ => cases e
end
end VE
set_option Elab.async false
set_option linter.all false
set_option maxRecDepth 100000
set_option maxHeartbeats 4000000
/-! Expressions: the same run. -/
namespace VE
open MP (Val Ob Store E Es Oe It Rg S Ss Tg Op Cmp Ty Bi Mt Fn Prog Fl En Keeps Ok OkS M Res evalE evalEs evalOe evalIt evalRg)
open PySem (Str PyData sizeLine)
section
variable {Z : List Nat} {r base : Nat} {s s1 s2 : Store} {ρ ρ1 ρ2 : Rn} {env : En} {ve : VEn}
theorem sim_mt {m : Mt} {o : Val} {dO : PyData} {f : M (List Val)} {vf : VM (List PyData)} (c : Cx Z r base s ρ) (ho : Rd Z r s o dO) (h : Sim (f s) (vf ρ) (PVs Z r s)) : Sim (MP.mtTy m o (f >>= fun vs => MP.mt m o vs) s) ((vf >>= fun vs => vmtE m dO vs) ρ) (PV Z r s) := by
  rw [vbind_eq]
  cases hv : vf ρ with
  | bad => trivial
  | ok ds ρ1 =>
    show Sim _ (vmtE m dO ds ρ1) _
    by_cases hb : ∀ ρ, vmtE m dO ds ρ = .bad
    · rw [hb]; trivial
    · rw [mtTy_ok m hb ho]
      rw [hv] at h
      obtain ⟨vs, s1, e1, h1⟩ := Ok.get h
      rw [bind_ok e1]
      exact (sim_mtE m (c.next h1.keep h1.rng) (ho.keep c.rZ h1.keep) h1.rep).mono fun v s2 p ρ2 q => q.up h1.keep
end
section
variable {C : MP.Cfg} {V : VCfg} (hC : CallOk C.call V.call) (hG : GlobOk C.glob V.glob)
include hC hG
mutual
theorem simE : ∀ (e : E) {env : En} {ve : VEn} {s : Store} {ρ : Rn} {Z : List Nat} {r base : Nat}, Cx Z r base s ρ → ER Z r base s env ve → Sim (evalE C e env s) (veE V e ve ρ) (PV Z r s)
  | .var i, env, ve, s, ρ, Z, r, base, c, h => by
    unfold veE
    cases hv : ve[i]? with
    | none => exact sim_bad
    | some x =>
      cases x with
      | val d =>
        obtain ⟨v, h1, h2⟩ := h.at_ i _ hv
        rw [eval_var h1]
        exact sim_old c h2
      | _ => exact sim_bad
  | .none, env, ve, s, ρ, Z, r, base, c, h => sim_old c .none
  | .bool b, env, ve, s, ρ, Z, r, base, c, h => sim_old c (.bool b)
  | .int i, env, ve, s, ρ, Z, r, base, c, h => sim_old c (.int i)
  | .str x, env, ve, s, ρ, Z, r, base, c, h => sim_old c (.str x)
  | .glob x, env, ve, s, ρ, Z, r, base, c, h => by
    refine sim_vopt fun d e => ?_
    obtain ⟨h1, h2⟩ := hG x d e
    exact sim_opt h2 (sim_old c (Rep.of_flat h1))
  | .tup es, env, ve, s, ρ, Z, r, base, c, h => by
    refine sim_bind (simEs es c h) fun vs s1 ds ρ1 q => sim_vneed fun e => sim_need (by rw [q.rep.len]; exact e) ?_
    exact (sim_old (c.next q.keep q.rng) (.tup q.rep)).mono fun v s2 p ρ2 w => w.up q.keep
  | .lst es, env, ve, s, ρ, Z, r, base, c, h => by
    refine sim_bind (simEs es c h) fun vs s1 ds ρ1 q => sim_vneed fun e => sim_need (by rw [q.rep.len]; exact e) ?_
    exact (sim_newL (c.next q.keep q.rng) q.rep).mono fun v s2 p ρ2 w => w.up q.keep
  | .dic0, env, ve, s, ρ, Z, r, base, c, h => sim_newD c .nil
  | .dic1 k v, env, ve, s, ρ, Z, r, base, c, h => by
    refine sim_bind (simE k c h) fun a s1 p1 ρ1 q1 => ?_
    refine sim_bind (simE v (c.next q1.keep q1.rng) (h.next c q1.keep)) fun b s2 p2 ρ2 q2 => sim_vneed fun e => ?_
    have ha := (q1.rep.keep (Keeps.up q2.keep c.rZ)).flat_eq (key_flat e)
    rw [ha]
    refine sim_need (key_fits e) ?_
    refine Sim.mono (sim_newD ((c.next q1.keep q1.rng).next q2.keep q2.rng) (.cons e q2.rep .nil)) fun v s3 p ρ3 w => (w.up q2.keep).up q1.keep
  | .bin op a b, env, ve, s, ρ, Z, r, base, c, h => by
    refine sim_bind (rd_of c h (simE a c h)) fun x s1 p1 ρ1 q1 => ?_
    have c1 := c.next q1.keep q1.rng
    have h1 := h.next c q1.keep
    refine sim_bind (rd_of c1 h1 (simE b c1 h1)) fun y s2 p2 ρ2 q2 => ?_
    exact (sim_bin op (c1.next q2.keep q2.rng) (q1.rd.keep c.rZ q2.keep) q2.rd).mono fun v s3 p ρ3 w => (w.up q2.keep).up q1.keep
  | .neg a, env, ve, s, ρ, Z, r, base, c, h => by
    refine sim_bind (simE a c h) fun x s1 p1 ρ1 q1 => ?_
    have h1 := q1.rep
    cases hd : p1.1 with
    | int i =>
      rw [hd] at h1
      cases h1
      exact (sim_old (c.next q1.keep q1.rng) (.int _)).mono fun v s3 p ρ3 w => w.up q1.keep
    | _ => exact sim_bad
  | .not a, env, ve, s, ρ, Z, r, base, c, h => by
    refine sim_bind (simE a c h) fun x s1 p1 ρ1 q1 => sim_onB q1.rep fun b => ?_
    exact (sim_old (c.next q1.keep q1.rng) (.bool _)).mono fun v s3 p ρ3 w => w.up q1.keep
  | .cmp op a b, env, ve, s, ρ, Z, r, base, c, h => by
    refine sim_bind (rd_of c h (simE a c h)) fun x s1 p1 ρ1 q1 => ?_
    have c1 := c.next q1.keep q1.rng
    have h1 := h.next c q1.keep
    refine sim_bind (rd_of c1 h1 (simE b c1 h1)) fun y s2 p2 ρ2 q2 => ?_
    exact (sim_cmp op (c1.next q2.keep q2.rng) (q1.rd.keep c.rZ q2.keep) q2.rd).mono fun v s3 p ρ3 w => (w.up q2.keep).up q1.keep
  | .chain o1 o2 a b e3, env, ve, s, ρ, Z, r, base, c, h => by
    refine sim_bind (rd_of c h (simE a c h)) fun x s1 p1 ρ1 q1 => ?_
    have c1 := c.next q1.keep q1.rng
    have h1 := h.next c q1.keep
    refine sim_bind (rd_of c1 h1 (simE b c1 h1)) fun y s2 p2 ρ2 q2 => ?_
    have c2 := c1.next q2.keep q2.rng
    have h2 := h1.next c1 q2.keep
    refine sim_bind (sim_cmp o1 c2 (q1.rd.keep c.rZ q2.keep) q2.rd) fun u s3 p3 ρ3 q3 => ?_
    have c3 := c2.next q3.keep q3.rng
    have h3 := h2.next c2 q3.keep
    refine sim_onB q3.rep fun k => ?_
    cases k with
    | false => exact (sim_old c3 (.bool _)).mono fun v s4 p ρ4 w => ((w.up q3.keep).up q2.keep).up q1.keep
    | true =>
      refine sim_bind (rd_of c3 h3 (simE e3 c3 h3)) fun z s4 p4 ρ4 q4 => ?_
      exact (sim_cmp o2 (c3.next q4.keep q4.rng) ((q2.rd.keep c.rZ q3.keep).keep c.rZ q4.keep) q4.rd).mono fun v s5 p ρ5 w => (((w.up q4.keep).up q3.keep).up q2.keep).up q1.keep
  | .and a b, env, ve, s, ρ, Z, r, base, c, h => by
    refine sim_bind (simE a c h) fun x s1 p1 ρ1 q1 => sim_onB q1.rep fun k => ?_
    have c1 := c.next q1.keep q1.rng
    cases k with
    | false => exact (sim_old c1 (.bool _)).mono fun v s4 p ρ4 w => w.up q1.keep
    | true => exact (simE b c1 (h.next c q1.keep)).mono fun v s4 p ρ4 w => w.up q1.keep
  | .or a b, env, ve, s, ρ, Z, r, base, c, h => by
    refine sim_bind (simE a c h) fun x s1 p1 ρ1 q1 => sim_onB q1.rep fun k => ?_
    have c1 := c.next q1.keep q1.rng
    cases k with
    | true => exact (sim_old c1 (.bool _)).mono fun v s4 p ρ4 w => w.up q1.keep
    | false => exact (simE b c1 (h.next c q1.keep)).mono fun v s4 p ρ4 w => w.up q1.keep
  | .ite e0 a b, env, ve, s, ρ, Z, r, base, c, h => by
    refine sim_bind (simE e0 c h) fun x s1 p1 ρ1 q1 => sim_onB q1.rep fun k => ?_
    have c1 := c.next q1.keep q1.rng
    cases k with
    | true => exact (simE a c1 (h.next c q1.keep)).mono fun v s4 p ρ4 w => w.up q1.keep
    | false => exact (simE b c1 (h.next c q1.keep)).mono fun v s4 p ρ4 w => w.up q1.keep
  | .ix a b, env, ve, s, ρ, Z, r, base, c, h => by
    refine sim_bind (rd_of c h (simE a c h)) fun x s1 p1 ρ1 q1 => ?_
    have c1 := c.next q1.keep q1.rng
    refine sim_bind (simE b c1 (h.next c q1.keep)) fun y s2 p2 ρ2 q2 => ?_
    exact (sim_ix (c1.next q2.keep q2.rng) (q1.rd.keep c.rZ q2.keep) q2.rep).mono fun v s3 p ρ3 w => (w.up q2.keep).up q1.keep
  | .sl a lo hi, env, ve, s, ρ, Z, r, base, c, h => by
    refine sim_bind (rd_of c h (simE a c h)) fun x s1 p1 ρ1 q1 => ?_
    have c1 := c.next q1.keep q1.rng
    have h1 := h.next c q1.keep
    refine sim_bind (simOe lo c1 h1) fun y s2 p2 ρ2 q2 => sim_vopt fun l el => sim_opt (part_rep q2.rep el) ?_
    have c2 := c1.next q2.keep q2.rng
    have h2 := h1.next c1 q2.keep
    refine sim_bind (simOe hi c2 h2) fun y s3 p3 ρ3 q3 => sim_vopt fun l el => sim_opt (part_rep q3.rep el) ?_
    exact (sim_sl (c2.next q3.keep q3.rng) ((q1.rd.keep c.rZ q2.keep).keep c.rZ q3.keep)).mono fun v s4 p ρ4 w => ((w.up q3.keep).up q2.keep).up q1.keep
  | .rev a, env, ve, s, ρ, Z, r, base, c, h => by
    refine sim_bind (rd_of c h (simE a c h)) fun x s1 p1 ρ1 q1 => ?_
    exact (sim_rev (c.next q1.keep q1.rng) q1.rd).mono fun v s3 p ρ3 w => w.up q1.keep
  | .call f es, env, ve, s, ρ, Z, r, base, c, h => by
    refine sim_bind (simAs es c h) fun vs s1 as ρ1 q1 => sim_need (decide_eq_true q1.2) ?_
    exact (hC f as vs Z r base s1 ρ1 q1.1.ar (c.next q1.1.keep q1.1.rng)).mono fun v s3 p ρ3 w => w.up q1.1.keep
  | .callk f es ks sel, env, ve, s, ρ, Z, r, base, c, h => by
    refine sim_bind (simAs es c h) fun vs s1 as ρ1 q1 => ?_
    have c1 := c.next q1.1.keep q1.1.rng
    refine sim_bind (simAs ks c1 (h.next c q1.1.keep)) fun ws s2 bs ρ2 q2 => sim_need (decide_eq_true ⟨q1.2, q2.2⟩) ?_
    have c2 := c1.next q2.1.keep q2.1.rng
    exact (hC f _ _ Z r base s2 ρ2 (((q1.1.ar.keep (Keeps.up q2.1.keep c.rZ)).app q2.1.ar).pick sel) c2).mono fun v s3 p ρ3 w => (w.up q2.1.keep).up q1.1.keep
  | .bi f es, env, ve, s, ρ, Z, r, base, c, h => by
    refine sim_bind (simRs es c h) fun vs s1 ds ρ1 q1 => ?_
    exact (sim_bi f (c.next q1.keep q1.rng) q1.rd).mono fun v s3 p ρ3 w => w.up q1.keep
  | .lrng g, env, ve, s, ρ, Z, r, base, c, h => by
    refine sim_bind (simRg g c h) fun vs s1 ds ρ1 q1 => sim_vopt fun x e => sim_opt (vals_eq q1.rep rng2_ints e) (sim_vneed fun e => sim_need e ?_)
    exact (sim_newL (c.next q1.keep q1.rng) (rg_rep x)).mono fun v s3 p ρ3 w => w.up q1.keep
  | .trng g, env, ve, s, ρ, Z, r, base, c, h => by
    refine sim_bind (simRg g c h) fun vs s1 ds ρ1 q1 => sim_vopt fun x e => sim_opt (vals_eq q1.rep rng2_ints e) (sim_vneed fun e => sim_need e ?_)
    exact (sim_old (c.next q1.keep q1.rng) (.tup (rg_rep x))).mono fun v s3 p ρ3 w => w.up q1.keep
  | .mt m o es, env, ve, s, ρ, Z, r, base, c, h => by
    refine sim_bind (rd_of c h (simE o c h)) fun x s1 p1 ρ1 q1 => ?_
    have c1 := c.next q1.keep q1.rng
    exact (sim_mt c1 q1.rd (simEs es c1 (h.next c q1.keep))).mono fun v s3 p ρ3 w => w.up q1.keep
  | .isi a ts, env, ve, s, ρ, Z, r, base, c, h => by
    refine sim_bind (rd_of c h (simE a c h)) fun x s1 p1 ρ1 q1 => ?_
    exact (sim_isi (c.next q1.keep q1.rng) q1.rd).mono fun v s3 p ρ3 w => w.up q1.keep
  | .lc t it k e own, env, ve, s, ρ, Z, r, base, c, h => by
    refine sim_bind (simIt true it c h) fun src s1 is ρ1 q1 => sim_vneed fun e1 => sim_need (by rw [q1.items.len]; exact e1) ?_
    have c1 := c.next q1.keep q1.rng
    have h1 := h.next c q1.keep
    refine sim_bind (lc_go (Z := Z) (s := s1) c.rZ ?_ .refl q1.rng q1.chk q1.items) fun ys s2 ds ρ2 ⟨k2, g2, r2⟩ => ?_
    · intro i x s2 ρ2 k2 g2 hi
      have c2 := c1.next k2 g2
      have h2 := h1.next c1 k2
      refine sim_vopt fun ve2 e2 => ?_
      obtain ⟨env2, s3, e3, hs, h3⟩ := Ok.get (bind_I hi (h2.wipe own) e2)
      rw [bind_ok e3, hs]
      refine sim_bind (simOe k c2 h3) fun o s4 o' ρ4 q4 => ?_
      have c4 := c2.next q4.keep q4.rng
      have h4 := h3.next c2 q4.keep
      have he : ∀ {Q : Prop}, Sim (evalE C e env2 s4) (veE V e ve2 ρ4) (PV Z r s4) := fun {Q} => simE e c4 h4
      have go : Sim ((evalE C e env2 >>= fun y => pure (some y)) s4) ((veE V e ve2 >>= fun y => pure (some y.1)) ρ4) fun o s5 o' ρ5 => Keeps [r] s2 s5 ∧ RngAt s5 r ρ5 ∧ OpR Z s5 o o' := by
        refine sim_bind (simE e c4 h4) fun y s5 p5 ρ5 q5 => sim_ok ⟨q4.keep.trans q5.keep, q5.rng, .some q5.rep⟩
      cases q4.rep with
      | none => exact go
      | some hv =>
        refine sim_onB hv fun b => ?_
        cases b with
        | true => exact go
        | false => exact sim_ok ⟨q4.keep, q4.rng, .none⟩
    · exact (sim_newL (c1.next k2 g2) r2).mono fun v s3 p ρ3 w => (w.up k2).up q1.keep
  | .dc t it k e own, env, ve, s, ρ, Z, r, base, c, h => by
    refine sim_bind (simIt true it c h) fun src s1 is ρ1 q1 => sim_vneed fun e1 => sim_need (by rw [q1.items.len]; exact e1) ?_
    have c1 := c.next q1.keep q1.rng
    have h1 := h.next c q1.keep
    refine sim_bind (dc_go (Z := Z) (s := s1) c.rZ ?_ .refl q1.rng q1.chk q1.items .nil) fun ys s2 ds ρ2 ⟨k2, g2, r2⟩ => ?_
    · intro i x s2 ρ2 k2 g2 hi
      have c2 := c1.next k2 g2
      have h2 := h1.next c1 k2
      refine sim_vopt fun ve2 e2 => ?_
      obtain ⟨env2, s3, e3, hs, h3⟩ := Ok.get (bind_I hi (h2.wipe own) e2)
      rw [bind_ok e3, hs]
      refine sim_bind (simE k c2 h3) fun o s4 o' ρ4 q4 => ?_
      have c4 := c2.next q4.keep q4.rng
      have h4 := h3.next c2 q4.keep
      refine sim_bind (simE e c4 h4) fun y s5 p5 ρ5 q5 => sim_ok ⟨q4.keep.trans q5.keep, q5.rng, q4.rep.keep (Keeps.up q5.keep c.rZ), q5.rep⟩
    · exact (sim_newD (c1.next k2 g2) r2).mono fun v s3 p ρ3 w => (w.up k2).up q1.keep
theorem simEs : ∀ (e : Es) {env : En} {ve : VEn} {s : Store} {ρ : Rn} {Z : List Nat} {r base : Nat}, Cx Z r base s ρ → ER Z r base s env ve → Sim (evalEs C e env s) (veEs V e ve ρ) (PVs Z r s)
  | .nil, env, ve, s, ρ, Z, r, base, c, h => sim_ok ⟨.refl, c.rng, .nil⟩
  | .cons e es, env, ve, s, ρ, Z, r, base, c, h => by
    refine sim_bind (simE e c h) fun x s1 p1 ρ1 q1 => ?_
    refine sim_bind (simEs es (c.next q1.keep q1.rng) (h.next c q1.keep)) fun xs s2 ds ρ2 q2 => ?_
    exact sim_ok ⟨q1.keep.trans q2.keep, q2.rng, .cons (q1.rep.keep (Keeps.up q2.keep c.rZ)) q2.rep⟩
theorem simRs : ∀ (e : Es) {env : En} {ve : VEn} {s : Store} {ρ : Rn} {Z : List Nat} {r base : Nat}, Cx Z r base s ρ → ER Z r base s env ve → Sim (evalEs C e env s) (veRs V e ve ρ) (PRs Z r s)
  | .nil, env, ve, s, ρ, Z, r, base, c, h => sim_ok ⟨.refl, c.rng, .nil⟩
  | .cons e es, env, ve, s, ρ, Z, r, base, c, h => by
    refine sim_bind (rd_of c h (simE e c h)) fun x s1 p1 ρ1 q1 => ?_
    refine sim_bind (simRs es (c.next q1.keep q1.rng) (h.next c q1.keep)) fun xs s2 ds ρ2 q2 => ?_
    exact sim_ok ⟨q1.keep.trans q2.keep, q2.rng, .cons (q1.rd.keep c.rZ q2.keep) q2.rd⟩
theorem simAs : ∀ (e : Es) {env : En} {ve : VEn} {s : Store} {ρ : Rn} {Z : List Nat} {r base : Nat}, Cx Z r base s ρ → ER Z r base s env ve → Sim (evalEs C e env s) (veAs V e ve ρ) (fun vs s' as ρ' => PAs Z r s vs s' as ρ' ∧ vs.length = e.len)
  | .nil, env, ve, s, ρ, Z, r, base, c, h => sim_ok ⟨⟨.refl, c.rng, .nil⟩, rfl⟩
  | .cons e es, env, ve, s, ρ, Z, r, base, c, h => by
    refine sim_bind (ar_of c h (simE e c h)) fun x s1 p1 ρ1 q1 => ?_
    refine sim_bind (simAs es (c.next q1.1 q1.2.1) (h.next c q1.1)) fun xs s2 ds ρ2 q2 => ?_
    exact sim_ok ⟨⟨q1.1.trans q2.1.keep, q2.1.rng, .cons (q1.2.2.keep (Keeps.up q2.1.keep c.rZ)) q2.1.ar⟩, congrArg (· + 1) q2.2⟩
theorem simOe : ∀ (e : Oe) {env : En} {ve : VEn} {s : Store} {ρ : Rn} {Z : List Nat} {r base : Nat}, Cx Z r base s ρ → ER Z r base s env ve → Sim (evalOe C e env s) (veOe V e ve ρ) (PO Z r s)
  | .none, env, ve, s, ρ, Z, r, base, c, h => sim_ok ⟨.refl, c.rng, .none⟩
  | .some e, env, ve, s, ρ, Z, r, base, c, h => by
    refine sim_bind (simE e c h) fun x s1 p1 ρ1 q1 => sim_ok ⟨q1.keep, q1.rng, .some q1.rep⟩
theorem simIt : ∀ (q : Bool) (e : It) {env : En} {ve : VEn} {s : Store} {ρ : Rn} {Z : List Nat} {r base : Nat}, Cx Z r base s ρ → ER Z r base s env ve → Sim (evalIt C e env s) (veIt V q e ve ρ) (PI Z r q s)
  | q, .val e, env, ve, s, ρ, Z, r, base, c, h => by
    refine sim_bind (rd_q c h (simE e c h)) fun x s1 p1 ρ1 q1 => ?_
    exact (sim_src (c.next q1.1.keep q1.1.rng) q1.1.rd q1.2).mono fun v s3 p ρ3 w => w.up q1.1.keep
  | q, .rng g, env, ve, s, ρ, Z, r, base, c, h => by
    refine sim_bind (simRg g c h) fun vs s1 ds ρ1 q1 => sim_vopt fun x e => sim_opt (vals_eq q1.rep rng_ints e) ?_
    exact sim_ok ⟨q1.keep, q1.rng, isr_ones (rg_rep x), (fun p hp => nomatch hp), (fun e p hp => nomatch hp)⟩
  | q, .enum e, env, ve, s, ρ, Z, r, base, c, h => by
    refine sim_bind (rd_q c h (simE e c h)) fun x s1 p1 ρ1 q1 => ?_
    refine sim_seq (q := q) (c.next q1.1.keep q1.1.rng) q1.1.rd q1.2 fun sq ds w => sim_ok ⟨q1.1.keep, w.rng, isr_enum 0 w.items, w.chk, w.out⟩
  | q, .zip a b, env, ve, s, ρ, Z, r, base, c, h => by
    refine sim_bind (rd_q c h (simE a c h)) fun x s1 p1 ρ1 q1 => ?_
    have c1 := c.next q1.1.keep q1.1.rng
    have h1 := h.next c q1.1.keep
    refine sim_bind (rd_q c1 h1 (simE b c1 h1)) fun y s2 p2 ρ2 q2 => ?_
    have c2 := c1.next q2.1.keep q2.1.rng
    refine sim_seq (q := q) c2 (q1.1.rd.keep c.rZ q2.1.keep) (fun e => (q1.2 e).keep (Keeps.up q2.1.keep c.rZ)) fun sq ds w => ?_
    refine sim_seq (q := q) c2 q2.1.rd q2.2 fun sq2 ds2 w2 => sim_vneed fun e => sim_need ?_ ?_
    · have e := of_decide_eq_true e
      rw [w.len, w2.len, e]; exact decide_eq_true rfl
    · refine sim_ok ⟨q1.1.keep.trans q2.1.keep, w.rng, isr_zip w.items w2.items, fun p hp => ?_, fun e p hp => ?_⟩
      · rcases List.mem_append.mp hp with hp | hp
        · exact w.chk p hp
        · exact w2.chk p hp
      · rcases List.mem_append.mp hp with hp | hp
        · exact w.out e p hp
        · exact w2.out e p hp
  | q, .rev e, env, ve, s, ρ, Z, r, base, c, h => by
    refine sim_bind (rd_q c h (simE e c h)) fun x s1 p1 ρ1 q1 => ?_
    refine sim_seq (q := q) (c.next q1.1.keep q1.1.rng) q1.1.rd q1.2 fun sq ds w => sim_ok ⟨q1.1.keep, w.rng, isr_ones w.items.rev, w.chk, w.out⟩
  | q, .items e, env, ve, s, ρ, Z, r, base, c, h => by
    refine sim_bind (rd_q c h (simE e c h)) fun x s1 p1 ρ1 q1 => ?_
    have h1 := q1.1.rd
    have h2 := q1.2
    cases hd : p1.1 with
    | dict kvs =>
      rw [hd] at h1 h2
      obtain ⟨n, xs, e0, h3, h4, h5⟩ := h1
      rw [e0] at h2 ⊢
      exact sim_onD h4 (sim_ok ⟨q1.1.keep, q1.1.rng, isr_items h5, chk1 h4 h3, chk1z h2⟩)
    | _ => exact sim_bad
  | q, .vals e, env, ve, s, ρ, Z, r, base, c, h => by
    refine sim_bind (rd_q c h (simE e c h)) fun x s1 p1 ρ1 q1 => ?_
    have h1 := q1.1.rd
    have h2 := q1.2
    cases hd : p1.1 with
    | dict kvs =>
      rw [hd] at h1 h2
      obtain ⟨n, xs, e0, h3, h4, h5⟩ := h1
      rw [e0] at h2 ⊢
      exact sim_onD h4 (sim_ok ⟨q1.1.keep, q1.1.rng, isr_vals h5, chk1 h4 h3, chk1z h2⟩)
    | _ => exact sim_bad
theorem simRg : ∀ (e : Rg) {env : En} {ve : VEn} {s : Store} {ρ : Rn} {Z : List Nat} {r base : Nat}, Cx Z r base s ρ → ER Z r base s env ve → Sim (evalRg C e env s) (veRg V e ve ρ) (PVs Z r s)
  | .one a, env, ve, s, ρ, Z, r, base, c, h => by
    refine sim_bind (simE a c h) fun x s1 p1 ρ1 q1 => sim_ok ⟨q1.keep, q1.rng, .cons q1.rep .nil⟩
  | .two a b, env, ve, s, ρ, Z, r, base, c, h => by
    refine sim_bind (simE a c h) fun x s1 p1 ρ1 q1 => ?_
    have c1 := c.next q1.keep q1.rng
    refine sim_bind (simE b c1 (h.next c q1.keep)) fun y s2 p2 ρ2 q2 => sim_ok ⟨q1.keep.trans q2.keep, q2.rng, .cons (q1.rep.keep (Keeps.up q2.keep c.rZ)) (.cons q2.rep .nil)⟩
  | .three a b d, env, ve, s, ρ, Z, r, base, c, h => by
    refine sim_bind (simE a c h) fun x s1 p1 ρ1 q1 => ?_
    have c1 := c.next q1.keep q1.rng
    have h1 := h.next c q1.keep
    refine sim_bind (simE b c1 h1) fun y s2 p2 ρ2 q2 => ?_
    have c2 := c1.next q2.keep q2.rng
    refine sim_bind (simE d c2 (h1.next c1 q2.keep)) fun z s3 p3 ρ3 q3 => sim_ok ⟨(q1.keep.trans q2.keep).trans q3.keep, q3.rng, .cons ((q1.rep.keep (Keeps.up q2.keep c.rZ)).keep (Keeps.up q3.keep c.rZ)) (.cons (q2.rep.keep (Keeps.up q3.keep c.rZ)) (.cons q3.rep .nil))⟩
end
end
end VE
set_option Elab.async false
set_option linter.all false
set_option maxRecDepth 100000
set_option maxHeartbeats 4000000
/-! Statements: the same run. -/
namespace VE
open MP (Val Ob Store E Es Oe It Rg S Ss Tg Op Cmp Ty Bi Mt Fn Prog Fl En Keeps Ok OkS M Res RS evalE evalEs evalOe evalIt evalRg exec execs)
open PySem (Str PyData sizeLine)
structure Inv (X : List Nat) (r base : Nat) (Z : List Nat) (env : En) (ve : VEn) (s : Store) (ρ : Rn) : Prop where
  cx : Cx Z r base s ρ
  er : ER Z r base s env ve
  sub : ∀ n ∈ X, n ∈ Z
  xb : ∀ n ∈ X, n < base
  rX : r ∈ X
/-- what stood below base stands, but the drawing list -/
def KB (r base : Nat) (s s' : Store) : Prop := s.length ≤ s'.length ∧ ∀ n, n < base → n ≠ r → s'[n]? = s[n]?
section
variable {X Z Z' Z1 Z2 : List Nat} {r base : Nat} {s s1 s2 : Store} {ρ ρ1 ρ2 : Rn} {env : En} {ve : VEn}
theorem KB.refl : KB r base s s := ⟨Nat.le_refl _, fun _ _ _ => rfl⟩
theorem KB.trans (a : KB r base s s1) (b : KB r base s1 s2) : KB r base s s2 := ⟨Nat.le_trans a.1 b.1, fun n h1 h2 => (b.2 n h1 h2).trans (a.2 n h1 h2)⟩
theorem KB.of (k : Keeps [r] s s1) (hb : base ≤ s.length) : KB r base s s1 := ⟨k.1, fun n h1 h2 => k.2 n (by omega) (by simpa using h2)⟩
theorem SlR.weak' {o : Option Val} {x : Sl} (h : SlR Z r base s o x) (hw : ∀ n ∈ Z', n ∈ Z) (ho : ∀ d n, x = .own d → o = some (.ref n) → n ∈ Z') : SlR Z' r base s o x := by
  cases x with
  | none => trivial
  | rng => exact h
  | val d => obtain ⟨v, h1, h2⟩ := h; exact ⟨v, h1, h2.weak hw⟩
  | own d => obtain ⟨n, h1, h2, h3, h4⟩ := h; exact ⟨n, h1, ho d n rfl h1, h3, h4.weak hw⟩
theorem frz_one (h : Inv X r base Z env ve s ρ) (i : Nat) : ∃ Z', Inv X r base Z' env (frz1 ve i) s ρ ∧ ∀ n ∈ Z', n ∈ Z := by
  have other : (∀ d, ve[i]? ≠ some (.own d)) → frz1 ve i = ve := by
    intro h
    unfold frz1
    split
    · rename_i d e; exact absurd e (h d)
    · rfl
  by_cases h0 : ∃ d, ve[i]? = some (.own d)
  · obtain ⟨d, h0⟩ := h0
    have e : frz1 ve i = ve.set i (.val d) := by unfold frz1; rw [h0]
    rw [e]
    obtain ⟨n, h1, h2, h3, h4⟩ := h.er.at_ i _ h0
    have hw : ∀ m ∈ Z.filter (fun m => m ≠ n), m ∈ Z := fun m hm => (List.mem_filter.mp hm).1
    have hin : ∀ m ∈ Z, m ≠ n → m ∈ Z.filter (fun m => m ≠ n) := fun m hm hn => List.mem_filter.mpr ⟨hm, decide_eq_true hn⟩
    have hout : n ∉ Z.filter (fun m => m ≠ n) := fun hm => of_decide_eq_true (List.mem_filter.mp hm).2 rfl
    refine ⟨Z.filter (fun m => m ≠ n), ⟨⟨hin r h.cx.rZ (by have := h.cx.rb; omega), fun m hm => h.cx.zb m (hw m hm), h.cx.rb, h.cx.bs, h.cx.rng⟩, ⟨by rw [List.length_set]; exact h.er.len, fun j x e => ?_, fun j k d1 d2 hjk e1 e2 => ?_⟩, fun m hm => hin m (h.sub m hm) (by have := h.xb m hm; omega), h.xb, h.rX⟩, hw⟩
    · by_cases hj : i = j
      · subst hj
        rw [List.getElem?_set_self (List.getElem?_eq_some_iff.mp h0).1] at e
        cases e
        exact ⟨_, h1, (h4.weak hw).rep hout⟩
      · rw [List.getElem?_set_ne hj] at e
        refine (h.er.at_ j x e).weak' hw fun d' m hx ho => ?_
        subst hx
        obtain ⟨m', e1, e2, _⟩ := h.er.at_ j _ e
        rw [ho] at e1; injection e1 with e1; injection e1 with e1
        subst e1
        refine hin m e2 fun hm => ?_
        subst hm
        exact h.er.dis i j _ _ hj h0 e (h1.trans ho.symm)
    · have key : ∀ (j : Nat) (d' : PyData), (ve.set i (Sl.val d))[j]? = some (Sl.own d') → ve[j]? = some (Sl.own d') := by
        intro j d' e
        by_cases hj : i = j
        · subst hj
          rw [List.getElem?_set_self (List.getElem?_eq_some_iff.mp h0).1] at e
          cases e
        · rwa [List.getElem?_set_ne hj] at e
      exact h.er.dis j k _ _ hjk (key _ _ e1) (key _ _ e2)
  · rw [other fun d e => h0 ⟨d, e⟩]
    exact ⟨Z, h, fun n hn => hn⟩
theorem frz_all (l : List Nat) : ∀ {Z : List Nat} {ve : VEn}, Inv X r base Z env ve s ρ → ∃ Z', Inv X r base Z' env (frz ve l) s ρ ∧ ∀ n ∈ Z', n ∈ Z := by
  induction l with
  | nil => intro Z ve h; exact ⟨Z, h, fun n hn => hn⟩
  | cons i l ih =>
    intro Z ve h
    obtain ⟨Z1, h1, w1⟩ := frz_one h i
    obtain ⟨Z2, h2, w2⟩ := ih h1
    exact ⟨Z2, h2, fun n hn => w1 n (w2 n hn)⟩
theorem Inv.next (h : Inv X r base Z env ve s ρ) (k : Keeps [r] s s1) (g : RngAt s1 r ρ1) : Inv X r base Z env ve s1 ρ1 := ⟨h.cx.next k g, h.er.next h.cx k, h.sub, h.xb, h.rX⟩
/-- more is kept away from -/
theorem ER.more {Z' : List Nat} (h : ER Z r base s env ve) (h1 : ∀ n ∈ Z, n ∈ Z') (h2 : ∀ n ∈ Z', n ∈ Z ∨ s.length ≤ n) : ER Z' r base s env ve := by
  refine ⟨h.len, fun i x e => ?_, h.dis⟩
  have h := h.at_ i x e
  cases x with
  | none => trivial
  | rng => exact h
  | val d => obtain ⟨v, a, b⟩ := h; exact ⟨v, a, b.more h2⟩
  | own d => obtain ⟨n, a, b, c, d⟩ := h; exact ⟨n, a, h1 n b, c, d.more h2⟩
/-! a new value in a slot -/
theorem inv_val {v : Val} {d : PyData} (h : Inv X r base Z env ve s ρ) (i : Nat) (hv : Rep Z s v d) : Inv X r base Z (env.set i (some v)) (ve.set i (.val d)) s ρ := ⟨h.cx, h.er.setV i hv, h.sub, h.xb, h.rX⟩
theorem old_ne {n : Nat} (h : Inv X r base Z env ve s ρ) (hn : s.length ≤ n) (j : Nat) (d' : PyData) (e : ve[j]? = some (.own d')) : env[j]?.join ≠ some (.ref n) := by
  obtain ⟨m, a, b, _⟩ := h.er.at_ j _ e
  rw [a]
  intro e2
  injection e2 with e2; injection e2 with e2
  have := h.cx.zb m b
  omega
theorem inv_new {n : Nat} {d : PyData} (h : Inv X r base Z env ve s ρ) (k : Keeps [r] s s1) (g : RngAt s1 r ρ1) (i : Nat) (hn : s.length ≤ n) (ho : OwnOb (n :: Z) s1 n d) : Inv X r base (n :: Z) (env.set i (some (.ref n))) (ve.set i (.own d)) s1 ρ1 := by
  have h2 : ∀ m ∈ n :: Z, m ∈ Z ∨ s.length ≤ m := fun m hm => (List.mem_cons.mp hm).elim (fun e => .inr (e ▸ hn)) .inl
  have h1 : ∀ m ∈ Z, m ∈ n :: Z := fun m hm => List.mem_cons_of_mem _ hm
  have er := (h.er.more h1 h2).keep (h1 _ h.cx.rZ) h.cx.rb k
  refine ⟨⟨h1 _ h.cx.rZ, fun m hm => ?_, h.cx.rb, Nat.le_trans h.cx.bs k.1, g⟩, er.set i ⟨n, rfl, List.mem_cons_self .., Nat.le_trans h.cx.bs hn, ho⟩ fun d _ j d' hj e => old_ne h hn j d' e, fun m hm => h1 m (h.sub m hm), h.xb, h.rX⟩
  rcases List.mem_cons.mp hm with rfl | hm
  · exact ho.lt
  · exact Nat.lt_of_lt_of_le (h.cx.zb m hm) k.1
/-- an own object changes -/
theorem inv_upd {n : Nat} {d d' : PyData} {o : Ob} {i : Nat} (h : Inv X r base Z env ve s ρ) (e : ve[i]? = some (.own d)) (en : env[i]?.join = some (.ref n)) (hz : n ∈ Z) (hb : base ≤ n) (ho : OwnOb Z (s.set n o) n d') :
    Inv X r base Z env (ve.set i (.own d')) (s.set n o) ρ ∧ Keeps Z s (s.set n o) ∧ KB r base s (s.set n o) := by
  have kz : Keeps Z s (s.set n o) := .put hz
  have hrn : n ≠ r := by have := h.cx.rb; omega
  refine ⟨⟨⟨h.cx.rZ, fun m hm => by rw [List.length_set]; exact h.cx.zb m hm, h.cx.rb, by rw [List.length_set]; exact h.cx.bs, ⟨(List.getElem?_set_ne hrn).trans h.cx.rng.1, h.cx.rng.2⟩⟩, ?_, h.sub, h.xb, h.rX⟩, kz, ⟨by simp, fun m hm _ => List.getElem?_set_ne (by omega)⟩⟩
  refine ⟨by rw [List.length_set]; exact h.er.len, fun j x ej => ?_, fun j k d1 d2 hjk e1 e2 => ?_⟩
  · by_cases hj : i = j
    · subst hj
      rw [List.getElem?_set_self (List.getElem?_eq_some_iff.mp e).1] at ej
      cases ej
      exact ⟨n, en, hz, hb, ho⟩
    · rw [List.getElem?_set_ne hj] at ej
      have hs := h.er.at_ j x ej
      cases x with
      | none => trivial
      | rng => exact hs
      | val d => obtain ⟨v, a, b⟩ := hs; exact ⟨v, a, b.keep kz⟩
      | own d1 =>
        obtain ⟨m, a, b, c, f⟩ := hs
        refine ⟨m, a, b, c, f.keep kz (List.getElem?_set_ne fun hm => ?_)⟩
        subst hm
        exact h.er.dis i j _ _ hj e ej (en.trans a.symm)
  · have key : ∀ (j : Nat) (d1 : PyData), (ve.set i (Sl.own d'))[j]? = some (.own d1) → ∃ d2, ve[j]? = some (.own d2) := by
      intro j d1 e1
      by_cases hj : i = j
      · subst hj; exact ⟨_, e⟩
      · rw [List.getElem?_set_ne hj] at e1; exact ⟨_, e1⟩
    obtain ⟨_, e1⟩ := key j d1 e1
    obtain ⟨_, e2⟩ := key k d2 e2
    exact h.er.dis j k _ _ hjk e1 e2
/-! ### the same run -/
def FlR (X : List Nat) (base : Nat) (s : Store) (f : Fl) (g : VFl) : Prop := match g with
  | .nx => f = .nx
  | .br => f = .br
  | .ct => f = .ct
  | .rt p => ∃ v, f = .rt v ∧ Rep X s v p.1 ∧ (p.2 = true → ∃ n, v = .ref n ∧ base ≤ n ∧ OwnOb (n :: X) s n p.1)
def SimS (m : RS) (v : VRS) (Q : Fl → En → Store → VFl → VEn → Rn → Prop) : Prop := match v with
  | .ok g e ρ => OkS m fun f e' s => Q f e' s g e ρ
  | .bad => True
/-- behind a statement -/
structure Aft (X : List Nat) (r base : Nat) (Z : List Nat) (s : Store) (Z' : List Nat) (env : En) (s' : Store) (ve : VEn) (ρ' : Rn) : Prop where
  inv : Inv X r base Z' env ve s' ρ'
  kz : Keeps Z s s'
  kb : KB r base s s'
  new : ∀ n ∈ Z', n ∈ Z ∨ s.length ≤ n
def PSt (X : List Nat) (r base : Nat) (Z : List Nat) (s : Store) (f : Fl) (env : En) (s' : Store) (g : VFl) (ve : VEn) (ρ' : Rn) : Prop := (∃ Z', Aft X r base Z s Z' env s' ve ρ') ∧ FlR X base s' f g
theorem Aft.refl (h : Inv X r base Z env ve s ρ) : Aft X r base Z s Z env s ve ρ := ⟨h, .refl, .refl, fun n hn => .inl hn⟩
theorem Aft.frz (h : Inv X r base Z' env ve s ρ) (w : ∀ n ∈ Z', n ∈ Z) : Aft X r base Z s Z' env s ve ρ := ⟨h, .refl, .refl, fun n hn => .inl (w n hn)⟩
theorem Aft.trans {env1 : En} {ve1 : VEn} {env2 : En} {ve2 : VEn} (a : Aft X r base Z s Z1 env1 s1 ve1 ρ1) (b : Aft X r base Z1 s1 Z2 env2 s2 ve2 ρ2) : Aft X r base Z s Z2 env2 s2 ve2 ρ2 := by
  refine ⟨b.inv, ⟨Nat.le_trans a.kz.1 b.kz.1, fun n h1 h2 => ?_⟩, a.kb.trans b.kb, fun n hn => ?_⟩
  · refine (b.kz.2 n (Nat.lt_of_lt_of_le h1 a.kz.1) fun h => ?_).trans (a.kz.2 n h1 h2)
    rcases a.new n h with h | h
    · exact h2 h
    · omega
  · rcases b.new n hn with h | h
    · exact a.new n h
    · exact .inr (Nat.le_trans a.kz.1 h)
theorem Aft.exp (h : Inv X r base Z env ve s ρ) (k : Keeps [r] s s1) (g : RngAt s1 r ρ1) : Aft X r base Z s Z env s1 ve ρ1 := ⟨h.next k g, Keeps.up k h.cx.rZ, .of k h.cx.bs, fun n hn => .inl hn⟩
theorem PSt.up {env1 : En} {ve1 : VEn} {f : Fl} {env2 : En} {g : VFl} {ve2 : VEn} (a : Aft X r base Z s Z1 env1 s1 ve1 ρ1) (b : PSt X r base Z1 s1 f env2 s2 g ve2 ρ2) : PSt X r base Z s f env2 s2 g ve2 ρ2 := by
  obtain ⟨⟨Z', h⟩, h2⟩ := b
  exact ⟨⟨Z', a.trans h⟩, h2⟩
theorem SimS.mono {m : RS} {v : VRS} {Q Q' : Fl → En → Store → VFl → VEn → Rn → Prop} (h : SimS m v Q) (w : ∀ f e s g e' ρ, Q f e s g e' ρ → Q' f e s g e' ρ) : SimS m v Q' := by
  cases v with
  | ok g e ρ => exact OkS.mono h fun f e' s q => w f e' s g e ρ q
  | bad => trivial
theorem sims_bad {m : RS} {Q : Fl → En → Store → VFl → VEn → Rn → Prop} : SimS m .bad Q := trivial
theorem sims_ok {f : Fl} {g : VFl} {Q : Fl → En → Store → VFl → VEn → Rn → Prop} (q : Q f env s g ve ρ) : SimS (.ok f env s) (.ok g ve ρ) Q := q
theorem sims_from {α β : Type} {m : Res α} {v : VR β} {k : α → Store → RS} {k' : β → Rn → VRS} {P : α → Store → β → Rn → Prop} {Q : Fl → En → Store → VFl → VEn → Rn → Prop} (h : Sim m v P) (w : ∀ a s b ρ, P a s b ρ → SimS (k a s) (k' b ρ) Q) : SimS (RS.from m env k) (VRS.from v k') Q := by
  cases v with
  | bad => trivial
  | ok b ρ1 =>
    obtain ⟨a, s1, h1, h2⟩ := Ok.get h
    rw [h1]
    exact w a s1 b ρ1 h2
theorem sims_opt {α : Type} {o : Option α} {m : RS} {k : α → VRS} {Q : Fl → En → Store → VFl → VEn → Rn → Prop} (h : ∀ a, o = some a → SimS m (k a) Q) : SimS m (VRS.opt o k) Q := by
  cases o with
  | none => trivial
  | some a => exact h a rfl
theorem OkS.get {r : RS} {S : Fl → En → Store → Prop} (h : OkS r S) : ∃ f e s, r = .ok f e s ∧ S f e s := by
  cases r with
  | ok f e s => exact ⟨f, e, s, rfl, h⟩
  | exc _ _ _ _ => exact False.elim h
  | bad => exact False.elim h
theorem nx_ok {Z' : List Nat} {env' : En} {ve' : VEn} (h : Aft X r base Z s Z' env' s1 ve' ρ1) : SimS (.ok .nx env' s1) (.ok .nx ve' ρ1) (PSt X r base Z s) := ⟨⟨Z', h⟩, rfl⟩
theorem sims_then {m : RS} {v : VRS} {k : En → Store → RS} {k' : VEn → Rn → VRS} (h : SimS m v (PSt X r base Z s)) (w : ∀ Z1 env1 s1 ve1 ρ1, Aft X r base Z s Z1 env1 s1 ve1 ρ1 → SimS (k env1 s1) (k' ve1 ρ1) (PSt X r base Z1 s1)) : SimS (m.then k) (v.then k') (PSt X r base Z s) := by
  cases v with
  | bad => trivial
  | ok g e ρ1 =>
    obtain ⟨f, env1, s1, h1, ⟨Z1, h2⟩, h3⟩ := OkS.get h
    rw [h1]
    cases g with
    | nx => have h3 : f = .nx := h3; subst h3; exact (w _ _ _ _ _ h2).mono fun f e s g e' ρ q => q.up h2
    | br => have h3 : f = .br := h3; subst h3; exact ⟨⟨Z1, h2⟩, rfl⟩
    | ct => have h3 : f = .ct := h3; subst h3; exact ⟨⟨Z1, h2⟩, rfl⟩
    | rt p => obtain ⟨v, h3, h4⟩ := h3; subst h3; exact ⟨⟨Z1, h2⟩, v, rfl, h4⟩
theorem sims_turn {m : RS} {v : VRS} {k : En → Store → RS} {k' : VEn → Rn → VRS} (h : SimS m v (PSt X r base Z s)) (w : ∀ Z1 env1 s1 ve1 ρ1, Aft X r base Z s Z1 env1 s1 ve1 ρ1 → SimS (k env1 s1) (k' ve1 ρ1) (PSt X r base Z s)) : SimS (m.turn k) (v.turn k') (PSt X r base Z s) := by
  cases v with
  | bad => trivial
  | ok g e ρ1 =>
    obtain ⟨f, env1, s1, h1, ⟨Z1, h2⟩, h3⟩ := OkS.get h
    rw [h1]
    cases g with
    | nx => have h3 : f = .nx := h3; subst h3; exact w _ _ _ _ _ h2
    | br => have h3 : f = .br := h3; subst h3; exact ⟨⟨Z1, h2⟩, rfl⟩
    | ct => have h3 : f = .ct := h3; subst h3; exact w _ _ _ _ _ h2
    | rt p => obtain ⟨v, h3, h4⟩ := h3; subst h3; exact ⟨⟨Z1, h2⟩, v, rfl, h4⟩
end
end VE
set_option Elab.async false
set_option linter.all false
set_option maxRecDepth 100000
set_option maxHeartbeats 4000000
/-! Statements: the same run. -/
namespace VE
open MP (Val Ob Store E Es Oe It Rg S Ss Tg Op Cmp Ty Bi Mt Fn Prog Fl En Keeps Ok OkS M Res RS evalE evalEs evalOe evalIt evalRg exec execs)
open PySem (Str PyData sizeLine)
section
variable {X Z Z' Z1 Z2 : List Nat} {r base : Nat} {s s1 s2 : Store} {ρ ρ1 ρ2 : Rn} {env : En} {ve : VEn}
/-! a method that changes its object -/
theorem mtS_ok {m : Mt} {n : Nat} {d d' : PyData} {vs : List Val} {ds : List PyData} (ho : OwnOb Z s n d) (h : Reps Z s vs ds) (hz : n ∈ Z) (e : vmtS m d ds = some d') :
    (∀ {α : Type} (k : M α) {s0 : Store} , (∃ xs, s0[n]? = some (.lst xs)) → MP.mtTy m (.ref n) k s0 = k s0) ∧ (∃ xs, s[n]? = some (.lst xs)) ∧ ∃ v o, MP.mt m (.ref n) vs s = .ok v (s.set n o) ∧ OwnOb Z (s.set n o) n d' := by
  have kz : ∀ o, Keeps Z s (s.set n o) := fun o => .put hz
  have ty : ∀ {α : Type} (k : M α) {s0 : Store}, (∃ xs, s0[n]? = some (.lst xs)) → MP.recvL (.ref n) k s0 = k s0 := by
    rintro α k s0 ⟨xs, hx⟩
    show MP.onL n _ s0 = _
    unfold MP.onL; rw [hx]
  cases d with
  | list es =>
    obtain ⟨xs, h1, h2⟩ := ho
    have onl : ∀ {α : Type} (k : List Val → M α), MP.onL n k s = k xs s := fun k => by unfold MP.onL; rw [h1]
    have lt := lt_of_at h1
    cases m with
    | append =>
      cases h with
      | nil => cases e
      | cons a t =>
        cases t with
        | cons _ _ => cases e
        | nil =>
          simp only [vmtS] at e
          split at e
          · rename_i hl
            cases e
            refine ⟨fun k s0 h => ty k h, ⟨xs, h1⟩, Val.none, _, ?_, ⟨_, List.getElem?_set_self lt, (h2.app (.cons a .nil)).keep (kz _)⟩⟩
            show MP.onL n _ s = _
            rw [onl]
            show MP.need _ _ s = _
            unfold MP.need
            rw [if_pos (decide_eq_true (by rw [h2.len]; exact hl))]
            rfl
          · cases e
    | insert =>
      cases h with
      | nil => cases e
      | @cons _ _ d1 _ a t =>
        cases d1 with
        | int i =>
          cases a
          cases t with
          | nil => cases e
          | cons b t =>
            cases t with
            | cons _ _ => cases e
            | nil =>
              simp only [vmtS] at e
              split at e
              · rename_i hl
                cases e
                refine ⟨fun k s0 h => ty k h, ⟨xs, h1⟩, Val.none, _, ?_, ⟨_, List.getElem?_set_self lt, (h2.ins i.toNat b).keep (kz _)⟩⟩
                show MP.onL n _ s = _
                rw [onl]
                show MP.need _ _ s = _
                unfold MP.need
                rw [if_pos (by rw [h2.len, Bool.and_eq_true]; exact ⟨decide_eq_true hl.1, decide_eq_true hl.2⟩)]
                rfl
              · cases e
        | _ => cases t with
          | nil => cases e
          | cons _ t => cases t <;> cases e
    | pop =>
      cases h with
      | cons _ _ => cases e
      | nil =>
        simp only [vmtS] at e
        split at e
        · cases e
        · rename_i hl
          cases e
          refine ⟨fun k s0 h => ty k h, ⟨xs, h1⟩, xs[xs.length - 1]'(by have := h2.len; have : es.length ≠ 0 := fun h => hl (List.length_eq_zero_iff.mp h); omega), _, ?_, ⟨_, List.getElem?_set_self lt, h2.dropLast.keep (kz _)⟩⟩
          show MP.onL n _ s = _
          rw [onl]
          show MP.ofOpt xs[xs.length - 1]? _ s = _
          rw [List.getElem?_eq_getElem (by have := h2.len; have : es.length ≠ 0 := fun h => hl (List.length_eq_zero_iff.mp h); omega)]
          rfl
    | popAt =>
      cases h with
      | nil => cases e
      | @cons _ _ d1 _ a t =>
        cases d1 with
        | int i =>
          cases a
          cases t with
          | cons _ _ => cases e
          | nil =>
            simp only [vmtS] at e
            split at e
            · rename_i hs
              cases hj : MP.ixN es.length i with
              | none => rw [hj] at e; cases e
              | some j =>
                rw [hj] at e
                simp only [Option.bind_some] at e
                split at e
                · rename_i hjl
                  cases e
                  have hjx : j < xs.length := by rw [h2.len]; exact hjl
                  refine ⟨fun k s0 h => ty k h, ⟨xs, h1⟩, xs[j], _, ?_, ⟨_, List.getElem?_set_self lt, (h2.del j).keep (kz _)⟩⟩
                  show MP.onL n _ s = _
                  rw [onl]
                  show MP.need _ _ s = _
                  unfold MP.need
                  rw [if_pos hs, h2.len, hj]
                  show MP.ofOpt xs[j]? _ s = _
                  rw [List.getElem?_eq_getElem hjx]
                  rfl
                · cases e
            · cases e
        | _ => cases t <;> cases e
    | extend =>
      cases h with
      | nil => cases e
      | @cons _ _ d1 _ a t =>
        cases d1 with
        | list ys =>
          cases t with
          | cons _ _ => cases e
          | nil =>
            simp only [vmtS] at e
            split at e
            · rename_i hl
              cases e
              cases a with | @lst m ws _ hm1 hm2 hm3 =>
              refine ⟨fun k s0 h => ty k h, ⟨xs, h1⟩, Val.none, _, ?_, ⟨_, List.getElem?_set_self lt, (h2.app hm3).keep (kz _)⟩⟩
              show MP.onL n _ s = _
              rw [onl]
              show MP.onL m _ s = _
              unfold MP.onL
              rw [hm2]
              show MP.need _ _ s = _
              unfold MP.need
              rw [if_pos (show MP.szOk (xs.length + ws.length) = true from decide_eq_true (by rw [h2.len, hm3.len]; exact hl))]
              rfl
            · cases e
        | _ => cases t <;> cases e
    | _ => cases e
  | dict kvs => cases m <;> cases e
  | _ => exact ho.elim
/-- a[i] = v -/
theorem put_ok {n : Nat} {d d' : PyData} {i v : Val} {di dv : PyData} (ho : OwnOb Z s n d) (hi : Rep Z s i di) (hv : Rep Z s v dv) (hz : n ∈ Z) (e : vput d di dv = some d') :
    ∃ o, MP.setixM (.ref n) i v s = .ok .none (s.set n o) ∧ OwnOb Z (s.set n o) n d' := by
  have kz : ∀ o, Keeps Z s (s.set n o) := fun o => .put hz
  cases d with
  | list es =>
    obtain ⟨xs, h1, h2⟩ := ho
    cases di with
    | int k =>
      cases hi
      simp only [vput] at e
      cases hj : MP.ixN es.length k with
      | none => rw [hj] at e; cases e
      | some j =>
        rw [hj] at e
        cases e
        refine ⟨_, ?_, ⟨_, List.getElem?_set_self (lt_of_at h1), (h2.put j hv).keep (kz _)⟩⟩
        show MP.onO n _ _ s = _
        unfold MP.onO
        rw [h1]
        show MP.ofOpt (MP.ixN xs.length k) _ s = _
        rw [h2.len, hj]
        rfl
    | _ => cases e
  | dict kvs =>
    obtain ⟨xs, h1, h2⟩ := ho
    simp only [vput] at e
    split at e
    · rename_i hk
      cases e
      have hi2 := hi.flat_eq (key_flat hk.1)
      subst hi2
      refine ⟨_, ?_, ⟨_, List.getElem?_set_self (lt_of_at h1), (put_rep h2 hk.1 hv).keep (kz _)⟩⟩
      show MP.onO n _ _ s = _
      unfold MP.onO
      rw [h1]
      show MP.need _ _ s = _
      unfold MP.need
      rw [if_pos (by rw [Bool.and_eq_true]; exact ⟨key_fits hk.1, decide_eq_true (by rw [h2.len]; exact hk.2)⟩)]
      rfl
    · cases e
  | _ => exact ho.elim
theorem aug_ok {op : Op} {x y : Val} {dx dy dz : PyData} (hx : Rep Z s x dx) (hy : Rep Z s y dy) (e : vaug op dx dy = some dz) : ∃ z, MP.augM op x y s = .ok z s ∧ Rep Z s z dz := by
  cases op with
  | add => cases dx with
    | int i => cases dy with
      | int j => cases hx; cases hy; cases e; exact ⟨_, rfl, .int _⟩
      | _ => cases e
    | _ => cases e
  | mul => cases dx with
    | int i => cases dy with
      | int j =>
        cases hx; cases hy
        simp only [vaug] at e
        split at e
        · rename_i h
          cases e
          refine ⟨_, ?_, .int _⟩
          show MP.need _ _ s = _
          unfold MP.need
          rw [if_pos h]; rfl
        · cases e
      | _ => cases e
    | _ => cases e
  | _ => cases e
/-! several new values at once -/
structure Nw (Z : List Nat) (r base : Nat) (s : Store) (Z' : List Nat) (s' : Store) (vs : List Val) (xs : List Sl) : Prop where
  len : vs.length = xs.length
  at_ : ∀ (i : Nat) (x : Sl), xs[i]? = some x → ∃ v, vs[i]? = some v ∧ SlR Z' r base s' (some v) x ∧ ∀ d, x = .own d → ∃ n, v = .ref n ∧ s.length ≤ n
  dis : ∀ (i j : Nat) (d d' : PyData), i ≠ j → xs[i]? = some (.own d) → xs[j]? = some (.own d') → vs[i]? ≠ vs[j]?
theorem parSet_inv {Z' : List Nat} : ∀ (is : List Nat) {vs : List Val} {xs : List Sl} {env : En} {ve : VEn}, ER Z' r base s env ve → (∀ (i : Nat) (x : Sl), xs[i]? = some x → ∃ v, vs[i]? = some v ∧ SlR Z' r base s (some v) x) →
    (∀ (i j : Nat) (d d' : PyData), i ≠ j → xs[i]? = some (.own d) → xs[j]? = some (.own d') → vs[i]? ≠ vs[j]?) →
    (∀ (i j : Nat) (d d' : PyData), ve[j]? = some (.own d') → xs[i]? = some (.own d) → env[j]?.join ≠ vs[i]?) → vs.length = xs.length → ER Z' r base s (MP.parSet env is vs) (vparSet ve is xs)
  | [], vs, xs, env, ve, h, _, _, _, _ => by simp only [MP.parSet, vparSet]; exact h
  | i :: is, [], [], env, ve, h, _, _, _, _ => by simp only [MP.parSet, vparSet]; exact h
  | i :: is, [], _ :: _, env, ve, h, _, _, _, hl => by simp at hl
  | i :: is, _ :: _, [], env, ve, h, _, _, _, hl => by simp at hl
  | i :: is, v :: vs, x :: xs, env, ve, h, ha, hd, he, hl => by
    simp only [MP.parSet, vparSet]
    have h0 := ha 0 x rfl
    obtain ⟨v', e1, h0⟩ := h0
    cases e1
    refine parSet_inv is (h.set i h0 fun d hx j d' hj ej => ?_) (fun k y e => by simpa using ha (k + 1) y (by simpa using e)) (fun k l d d' hkl e1 e2 => by simpa using hd (k + 1) (l + 1) d d' (by omega) (by simpa using e1) (by simpa using e2)) (fun k j d d' ej ek => ?_) (by simpa using hl)
    · have := he 0 j d d' ej (by rw [hx]; rfl)
      simpa using this
    · by_cases hj : i = j
      · subst hj
        rw [List.getElem?_set_self'] at ej ⊢
        cases hv : ve[i]? with
        | none => rw [hv] at ej; cases ej
        | some y =>
          rw [hv] at ej
          have hlt : i < env.length := by rw [h.len]; exact (List.getElem?_eq_some_iff.mp hv).1
          rw [List.getElem?_eq_getElem hlt]
          injection ej with ej
          have := hd 0 (k + 1) d' d (by omega) (by rw [← ej]; rfl) (by simpa using ek)
          simpa using this
      · rw [List.getElem?_set_ne hj] at ej ⊢
        have := he (k + 1) j d d' ej (by simpa using ek)
        simpa using this
section
variable {C : MP.Cfg} {V : VCfg} (hC : CallOk C.call V.call) (hG : GlobOk C.glob V.glob)
include hC hG
theorem simPar : ∀ (es : Es) {Z : List Nat} {s : Store} {ρ : Rn}, Inv X r base Z env ve s ρ → Sim (evalEs C es env s) (vePar V es ve ρ) (fun vs s' xs ρ' => ∃ Z', Inv X r base Z' env ve s' ρ' ∧ (∀ n ∈ Z, n ∈ Z') ∧ (∀ n ∈ Z', n ∈ Z ∨ s.length ≤ n) ∧ Keeps [r] s s' ∧ Nw Z r base s Z' s' vs xs)
  | .nil, Z, s, ρ, h => sim_ok ⟨Z, h, fun n h => h, fun n h => .inl h, .refl, rfl, fun i x e => by simp at e, fun i j d d' _ e => by simp at e⟩
  | .cons e es, Z, s, ρ, h => by
    refine sim_bind (simE hC hG e h.cx h.er) fun v s1 p ρ1 q => ?_
    -- the first value and what is kept away from then
    have first : ∃ Z1, Inv X r base Z1 env ve s1 ρ1 ∧ (∀ n ∈ Z, n ∈ Z1) ∧ (∀ n ∈ Z1, n ∈ Z ∨ s.length ≤ n) ∧ SlR Z1 r base s1 (some v) (slOf p) ∧ ∀ d, slOf p = .own d → ∃ n, v = .ref n ∧ s.length ≤ n := by
      unfold slOf
      by_cases hp : p.2 = true
      · rw [if_pos hp]
        obtain ⟨n, e1, hn, ho⟩ := q.fr hp
        have h2 : ∀ m ∈ n :: Z, m ∈ Z ∨ s.length ≤ m := fun m hm => (List.mem_cons.mp hm).elim (fun e => .inr (e ▸ hn)) .inl
        have h1 : ∀ m ∈ Z, m ∈ n :: Z := fun m hm => List.mem_cons_of_mem _ hm
        have er := (h.er.more h1 h2).keep (h1 _ h.cx.rZ) h.cx.rb q.keep
        refine ⟨n :: Z, ⟨⟨h1 _ h.cx.rZ, fun m hm => ?_, h.cx.rb, Nat.le_trans h.cx.bs q.keep.1, q.rng⟩, er, fun m hm => h1 m (h.sub m hm), h.xb, h.rX⟩, h1, h2, ⟨n, congrArg some e1, List.mem_cons_self .., Nat.le_trans h.cx.bs hn, ho⟩, fun d _ => ⟨n, e1, hn⟩⟩
        rcases List.mem_cons.mp hm with rfl | hm
        · exact ho.lt
        · exact Nat.lt_of_lt_of_le (h.cx.zb m hm) q.keep.1
      · rw [if_neg hp]
        exact ⟨Z, h.next q.keep q.rng, fun n h => h, fun n h => .inl h, ⟨v, rfl, q.rep⟩, fun d e => nomatch e⟩
    obtain ⟨Z1, i1, a1, b1, sl1, f1⟩ := first
    refine sim_bind (simPar es i1) fun vs s2 xs ρ2 ⟨Z2, i2, a2, b2, k2, nw⟩ => sim_ok ⟨Z2, i2, fun n hn => a2 n (a1 n hn), fun n hn => ?_, q.keep.trans k2, ?_, fun i x e => ?_, fun i j d d' hij e1 e2 => ?_⟩
    · rcases b2 n hn with h | h
      · exact b1 n h
      · exact .inr (Nat.le_trans q.keep.1 h)
    · simp [nw.len]
    · cases i with
      | zero =>
        simp at e
        refine ⟨v, rfl, ?_, fun d hx => f1 d (e.trans hx)⟩
        rw [← e]
        revert sl1 f1
        generalize slOf p = x
        intro sl1 f1
        cases x with
        | none => trivial
        | rng => exact sl1
        | val d =>
          obtain ⟨w, c1, c2⟩ := sl1
          exact ⟨w, c1, (c2.more b2).keep (Keeps.up k2 (a2 _ i1.cx.rZ))⟩
        | own d =>
          obtain ⟨n, c1, c2, c3, c4⟩ := sl1
          exact ⟨n, c1, a2 _ c2, c3, (c4.more b2).keep (Keeps.up k2 (a2 _ i1.cx.rZ)) (k2.2 n c4.lt (by have := h.cx.rb; simp; omega))⟩
      | succ i =>
        obtain ⟨w, c1, c2, c3⟩ := nw.at_ i x (by simpa using e)
        exact ⟨w, by simpa using c1, c2, fun d hx => by obtain ⟨n, d1, d2⟩ := c3 d hx; exact ⟨n, d1, Nat.le_trans q.keep.1 d2⟩⟩
    · have key : ∀ (j : Nat) (d d' : PyData), slOf p = .own d → xs[j]? = some (.own d') → some v ≠ vs[j]? := by
        intro j d d' e1 e2
        rw [e1] at sl1
        obtain ⟨n, c1, c2, c3, c4⟩ := sl1
        obtain ⟨w, d1, d2, d3⟩ := nw.at_ j _ e2
        obtain ⟨m, d4, d5⟩ := d3 _ rfl
        rw [d1]
        intro he
        injection he with he
        rw [he, d4] at c1
        injection c1 with c1; injection c1 with c1
        have := c4.lt
        omega
      match i, j with
      | 0, 0 => exact (hij rfl).elim
      | 0, j + 1 =>
        simp at e1 e2
        simpa using key j d d' e1 e2
      | i + 1, 0 =>
        simp at e1 e2
        have := key i d' d e2 e1
        simpa using fun e => this e.symm
      | i + 1, j + 1 => simpa using nw.dis i j d d' (by omega) (by simpa using e1) (by simpa using e2)
end
end
end VE
set_option Elab.async false
set_option linter.all false
set_option maxRecDepth 100000
set_option maxHeartbeats 4000000
/-! Statements: the same run. -/
namespace VE
open MP (Val Ob Store E Es Oe It Rg S Ss Tg Op Cmp Ty Bi Mt Fn Prog Fl En Keeps Ok OkS M Res RS evalE evalEs evalOe evalIt evalRg exec execs)
open PySem (Str PyData sizeLine)
section
variable {X : List Nat} {r base : Nat} {C : MP.Cfg} {V : VCfg} {F : Nat} (hC : CallOk C.call V.call) (hG : GlobOk C.glob V.glob)
theorem sims_frz {Z : List Nat} {env : En} {ve : VEn} {s : Store} {ρ : Rn} {m : RS} {v : VRS} (l : List Nat) (h : Inv X r base Z env ve s ρ) (w : ∀ Z', Inv X r base Z' env (frz ve l) s ρ → SimS m v (PSt X r base Z' s)) : SimS m v (PSt X r base Z s) := by
  obtain ⟨Z', h1, h2⟩ := frz_all l h
  exact (w Z' h1).mono fun f e s g e' ρ q => q.up (.frz h1 h2)
theorem rt_ok {Z : List Nat} {env : En} {ve : VEn} {s s1 : Store} {ρ ρ1 : Rn} {v : Val} {p : VV} (h : Inv X r base Z env ve s ρ) (q : PV Z r s v s1 p ρ1) : SimS (.ok (.rt v) env s1) (.ok (.rt p) ve ρ1) (PSt X r base Z s) := by
  refine ⟨⟨Z, .exp h q.keep q.rng⟩, v, rfl, q.rep.weak h.sub, fun e => ?_⟩
  obtain ⟨n, h1, h2, h3⟩ := q.fr e
  exact ⟨n, h1, Nat.le_trans h.cx.bs h2, h3.weak fun m hm => (List.mem_cons.mp hm).elim (fun e => e ▸ List.mem_cons_self ..) fun hm => List.mem_cons_of_mem _ (h.sub m hm)⟩
include hC hG in
theorem sim_ex1 {Z : List Nat} {env : En} {ve : VEn} {s : Store} {ρ : Rn} (e : E) (h : Inv X r base Z env ve s ρ) : SimS (RS.from (evalE C e env s) env fun _ st => .ok .nx env st) (VRS.from (veE V e (frz ve (mvE e)) ρ) fun _ ρ => .ok .nx (frz ve (mvE e)) ρ) (PSt X r base Z s) :=
  sims_frz (mvE e) h fun Z' h' => sims_from (simE hC hG e h'.cx h'.er) fun v s1 p ρ1 q => nx_ok (.exp h' q.keep q.rng)
theorem join_some {α : Type} {o : Option (Option α)} {v : α} (h : o.join = some v) : o = some (some v) := by
  cases o with
  | none => cases h
  | some o => cases o with
    | none => cases h
    | some v' => cases h; rfl
include hC hG in
theorem sim_ex {Z : List Nat} {env : En} {ve : VEn} {s : Store} {ρ : Rn} (e : E) (h : Inv X r base Z env ve s ρ) : SimS (RS.from (evalE C e env s) env fun _ st => .ok .nx env st) (veEx V e ve ρ) (PSt X r base Z s) := by
  cases e with
  | mt m o es =>
    show SimS _ (match varOf o with
      | some i => _
      | none => _) _
    cases hv : varOf o with
    | none => exact sim_ex1 hC hG _ h
    | some i =>
      show SimS _ (match (frz ve (mvEs es))[i]? with
        | some (.own d) => _
        | _ => _) _
      cases hs : (frz ve (mvEs es))[i]? with
      | none => exact sim_ex1 hC hG _ h
      | some x =>
        cases x with
        | own d =>
          have hvo : o = .var i := by
            cases o with
            | var j => cases hv; rfl
            | _ => cases hv
          subst hvo
          refine sims_frz (mvEs es) h fun Z' h' => ?_
          obtain ⟨n, h1, h2, h3, h4⟩ := h'.er.at_ i _ hs
          have q := simEs hC hG es h'.cx h'.er
          cases he : veEs V es (frz ve (mvEs es)) ρ with
          | bad => exact sims_bad
          | ok ds ρ1 =>
            rw [he] at q
            obtain ⟨vs, s1, e1, q1⟩ := Ok.get q
            refine sims_opt fun d' ed => ?_
            have h5 := h'.next q1.keep q1.rng
            have h4' : OwnOb Z' s1 n d := h4.keep (Keeps.up q1.keep h'.cx.rZ) (q1.keep.2 n h4.lt (by have := h'.cx.rb; simp; omega))
            obtain ⟨t1, t2, v, o, t3, t4⟩ := mtS_ok h4' q1.rep h2 ed
            have ht : ∃ xs, s[n]? = some (.lst xs) := by
              cases d with
              | list es' => obtain ⟨xs, k1, k2⟩ := h4; exact ⟨xs, k1⟩
              | dict kvs => cases m <;> cases ed
              | _ => exact h4.elim
            have e0 : evalE C (.mt m (.var i) es) env s = .ok v (s1.set n o) := by
              have a1 : evalE C (.mt m (.var i) es) env s = MP.mtTy m (.ref n) (evalEs C es env >>= fun vs => MP.mt m (.ref n) vs) s := by
                show (evalE C (.var i) env >>= fun x => MP.mtTy m x (evalEs C es env >>= fun vs => MP.mt m x vs)) s = _
                rw [bind_ok (eval_var h1)]
              rw [a1, t1 _ ht, bind_ok e1, t3]
            rw [e0]
            obtain ⟨u1, u2, u3⟩ := inv_upd h5 hs h1 h2 h3 t4
            refine nx_ok (Z := Z') ((Aft.exp h' q1.keep q1.rng).trans ⟨u1, u2, u3, fun n hn => .inl hn⟩)
        | _ => exact sim_ex1 hC hG _ h
  | _ => exact sim_ex1 hC hG _ h
include hC hG in
theorem sim_ret {Z : List Nat} {env : En} {ve : VEn} {s : Store} {ρ : Rn} (e : E) (h : Inv X r base Z env ve s ρ) : SimS (RS.from (evalE C e env s) env fun v st => .ok (.rt v) env st) (veRet V e ve ρ) (PSt X r base Z s) := by
  have other : SimS (RS.from (evalE C e env s) env fun v st => .ok (.rt v) env st) (VRS.from (veE V e (frz ve (mvE e)) ρ) fun v ρ => .ok (.rt v) (frz ve (mvE e)) ρ) (PSt X r base Z s) :=
    sims_frz (mvE e) h fun Z' h' => sims_from (simE hC hG e h'.cx h'.er) fun v s1 p ρ1 q => rt_ok h' q
  unfold veRet
  by_cases h0 : ∃ d, (varOf e).bind (ve[·]?) = some (.own d)
  · obtain ⟨d, e1⟩ := h0
    rw [e1]
    obtain ⟨i, rfl, e2⟩ := var_of e1
    obtain ⟨n, h1, h2, h3, h4⟩ := h.er.at_ i _ e2
    rw [eval_var h1]
    have hn : n ∉ X := fun hn => by have := h.xb n hn; omega
    refine ⟨⟨Z, .refl h⟩, .ref n, rfl, (h4.weak h.sub).rep hn, fun _ => ⟨n, rfl, h3, h4.weak fun m hm => (List.mem_cons.mp hm).elim (fun e => e ▸ h2) fun hm => h.sub m hm⟩⟩
  · split
    · rename_i d e1; exact (h0 ⟨d, e1⟩).elim
    · exact other
theorem sim_whl {ce : En → M Val} {cv : VEn → VM VV} {be : En → Store → RS} {bv : VEn → Rn → VRS}
    (hc : ∀ {Z : List Nat} {env : En} {ve : VEn} {s : Store} {ρ : Rn}, Inv X r base Z env ve s ρ → Sim (ce env s) (cv ve ρ) (PV Z r s))
    (hb : ∀ {Z : List Nat} {env : En} {ve : VEn} {s : Store} {ρ : Rn}, Inv X r base Z env ve s ρ → SimS (be env s) (bv ve ρ) (PSt X r base Z s)) :
    ∀ (n : Nat) {Z : List Nat} {env : En} {ve : VEn} {s : Store} {ρ : Rn}, Inv X r base Z env ve s ρ → SimS (MP.whlGo ce be n env s) (vwhlGo cv bv n ve ρ) (PSt X r base Z s)
  | 0, Z, env, ve, s, ρ, h => sims_bad
  | n + 1, Z, env, ve, s, ρ, h => by
    refine sims_from (hc h) fun v s1 p ρ1 q => ?_
    have h1 := q.rep
    have i1 := h.next q.keep q.rng
    have a1 := Aft.exp h q.keep q.rng
    cases hd : p.1 with
    | bool b =>
      rw [hd] at h1
      cases h1
      cases b with
      | false => exact nx_ok a1
      | true =>
        refine SimS.mono (sims_turn (hb i1) fun Z1 env1 s2 ve1 ρ2 a => ?_) fun f e s g e' ρ w => w.up a1
        exact (sim_whl hc hb n a.inv).mono fun f e s g e' ρ w => w.up a
    | _ => exact sims_bad
theorem sim_for {Z : List Nat} {s : Store} {be : MP.Itm → En → Store → RS} {bv : VItm → VEn → Rn → VRS} {chk : List (Nat × Ob)} (hk : ∀ p ∈ chk, s[p.1]? = some p.2 ∧ p.1 ∉ Z)
    (hb : ∀ {Z : List Nat} {env : En} {ve : VEn} {s : Store} {ρ : Rn} {i : MP.Itm} {x : VItm}, Inv X r base Z env ve s ρ → ItR Z s i x → SimS (be i env s) (bv x ve ρ) (PSt X r base Z s)) :
    ∀ {is : List MP.Itm} {xs : List VItm} {Z1 : List Nat} {env : En} {ve : VEn} {s1 : Store} {ρ1 : Rn}, IsR Z s is xs → Aft X r base Z s Z1 env s1 ve ρ1 → SimS (MP.forGo chk be is env s1) (vforGo bv xs ve ρ1) (PSt X r base Z s)
  | _, _, Z1, env, ve, s1, ρ1, .nil, a => by
    have hc : ∀ p ∈ chk, s1[p.1]? = some p.2 := fun p hp => (a.kz.2 p.1 (lt_of_at (hk p hp).1) (hk p hp).2).trans (hk p hp).1
    show SimS (RS.from (MP.chkM chk (pure ()) s1) env fun _ st => .ok .nx env st) _ _
    unfold MP.chkM
    rw [if_pos (MP.chk_all hc)]
    exact nx_ok a
  | _, _, Z1, env, ve, s1, ρ1, .cons (i := i) (is := is) (x := x) (xs := xs) q qs, a => by
    have hc : ∀ p ∈ chk, s1[p.1]? = some p.2 := fun p hp => (a.kz.2 p.1 (lt_of_at (hk p hp).1) (hk p hp).2).trans (hk p hp).1
    show SimS (RS.from (MP.chkM chk (pure ()) s1) env fun _ st => (be i env st).turn (MP.forGo chk be is)) _ _
    unfold MP.chkM
    rw [if_pos (MP.chk_all hc)]
    show SimS ((be i env s1).turn (MP.forGo chk be is)) ((bv x ve ρ1).turn (vforGo bv xs)) _
    have hx : ItR Z1 s1 i x := by
      have hw : ∀ m ∈ Z ++ Z1, m ∈ Z ∨ s.length ≤ m := fun m hm => (List.mem_append.mp hm).elim .inl (a.new m)
      have kw : Keeps (Z ++ Z1) s s1 := a.kz.sub fun m hm => List.mem_append_left _ hm
      cases q with
      | one q => exact .one (((q.more hw).keep kw).weak fun m hm => List.mem_append_right _ hm)
      | many q => exact .many (((q.more hw).keep kw).weak fun m hm => List.mem_append_right _ hm)
    have := sims_turn (k := MP.forGo chk be is) (k' := vforGo bv xs) (X := X) (r := r) (base := base) (Z := Z) (s := s) ((hb a.inv hx).mono fun f e s g e' ρ w => w.up a) fun Z2 env2 s2 ve2 ρ2 a2 => sim_for hk hb qs a2
    exact this
end
section
variable {X : List Nat} {r base : Nat} {C : MP.Cfg} {V : VCfg} {F : Nat} (hC : CallOk C.call V.call) (hG : GlobOk C.glob V.glob)
include hC hG
mutual
theorem simS : ∀ (x : S) {Z : List Nat} {env : En} {ve : VEn} {s : Store} {ρ : Rn}, Inv X r base Z env ve s ρ → SimS (exec C F x env s) (veS V F x ve ρ) (PSt X r base Z s)
  | .set i e, Z, env, ve, s, ρ, h => by
    refine sims_frz (mvE e) h fun Z' h' => sims_from (simE hC hG e h'.cx h'.er) fun v s1 p ρ1 q => ?_
    unfold slOf
    by_cases hp : p.2 = true
    · rw [if_pos hp]
      obtain ⟨n, e1, hn, ho⟩ := q.fr hp
      subst e1
      refine nx_ok (Z' := n :: Z') ⟨inv_new h' q.keep q.rng i hn ho, Keeps.up q.keep h'.cx.rZ, .of q.keep h'.cx.bs, fun m hm => (List.mem_cons.mp hm).elim (fun e => .inr (e ▸ hn)) .inl⟩
    · rw [if_neg hp]
      have a := Aft.exp h' q.keep q.rng
      exact nx_ok ⟨inv_val a.inv i q.rep, a.kz, a.kb, a.new⟩
  | .unp ts e, Z, env, ve, s, ρ, h => by
    refine sims_frz (mvE e) h fun Z' h' => sims_from (simE hC hG e h'.cx h'.er) fun v s1 p ρ1 q => sims_opt fun ve' e1 => ?_
    have a := Aft.exp h' q.keep q.rng
    obtain ⟨env2, s2, e2, hs, h2⟩ := Ok.get (bind_T (.tp ts) q.rep a.inv.er e1)
    rw [e2, hs]
    exact nx_ok ⟨⟨a.inv.cx, h2, a.inv.sub, a.inv.xb, a.inv.rX⟩, a.kz, a.kb, a.new⟩
  | .par is es, Z, env, ve, s, ρ, h => by
    refine sims_frz (mvEs es) h fun Z' h' => sims_from (simPar hC hG es h') fun vs s1 xs ρ1 ⟨Z1, i1, a1, b1, k1, nw⟩ => ?_
    by_cases hl : xs.length = is.length
    · rw [if_pos hl, if_pos (nw.len.trans hl)]
      refine nx_ok (Z' := Z1) ⟨⟨i1.cx, parSet_inv is i1.er (fun i x e => ?_) nw.dis (fun i j d d' ej ei => ?_) nw.len, i1.sub, i1.xb, i1.rX⟩, Keeps.up k1 h'.cx.rZ, .of k1 h'.cx.bs, b1⟩
      · obtain ⟨v, c1, c2, c3⟩ := nw.at_ i x e
        exact ⟨v, c1, c2⟩
      · obtain ⟨v, c1, c2, c3⟩ := nw.at_ i _ ei
        obtain ⟨n, c4, c5⟩ := c3 d rfl
        rw [c1, c4]
        exact old_ne h' c5 j d' ej
    · rw [if_neg hl]
      exact sims_bad
  | .setix a i v, Z, env, ve, s, ρ, h => by
    refine sims_frz (mvE v ++ mvE i) h fun Z' h' => sims_from (simE hC hG v h'.cx h'.er) fun z s1 p1 ρ1 q1 => ?_
    have i1 := h'.next q1.keep q1.rng
    -- the variable's object first
    cases hv : varOf a with
    | none =>
      show SimS _ (VRS.from (veE V i _ ρ1) fun y ρ => VRS.opt none _) _
      cases veE V i (frz ve (mvE v ++ mvE i)) ρ1 <;> exact sims_bad
    | some k =>
      have ha : a = .var k := by
        cases a with
        | var j => cases hv; rfl
        | _ => cases hv
      subst ha
      cases hs : (frz ve (mvE v ++ mvE i))[k]? with
      | none =>
        show SimS _ (VRS.from (veE V i _ ρ1) fun y ρ => VRS.opt (some k) fun k => match (frz ve (mvE v ++ mvE i))[k]? with
          | some (.own d) => _
          | _ => _) _
        cases veE V i (frz ve (mvE v ++ mvE i)) ρ1 with
        | bad => exact sims_bad
        | ok y ρ2 =>
          show SimS _ (match (frz ve (mvE v ++ mvE i))[k]? with
          | some (.own d) => _
          | _ => _) _
          rw [hs]; exact sims_bad
      | some x =>
        have go : ∀ {m : RS}, (∀ d, x ≠ .own d) → SimS m (VRS.from (veE V i (frz ve (mvE v ++ mvE i)) ρ1) fun y ρ => VRS.opt (some k) fun k => match (frz ve (mvE v ++ mvE i))[k]? with
          | some (.own d) => VRS.opt (vput d y.1 p1.1) fun d' => .ok .nx ((frz ve (mvE v ++ mvE i)).set k (.own d')) ρ
          | _ => .bad) (PSt X r base Z' s) := by
          intro m hx
          cases veE V i (frz ve (mvE v ++ mvE i)) ρ1 with
          | bad => exact sims_bad
          | ok y ρ2 =>
            show SimS _ (match (frz ve (mvE v ++ mvE i))[k]? with
            | some (.own d) => _
            | _ => _) _
            rw [hs]
            cases x with
            | own d => exact (hx d rfl).elim
            | _ => exact sims_bad
        cases x with
        | own d =>
          obtain ⟨n, h1, h2, h3, h4⟩ := i1.er.at_ k _ hs
          show SimS (RS.from (evalE C (.var k) env s1) env fun x st => RS.from (evalE C i env st) env fun y st => RS.from (MP.setixM x y z st) env fun _ st => .ok .nx env st) _ _
          rw [eval_var h1]
          refine sims_from (m := evalE C i env s1) (simE hC hG i i1.cx i1.er) fun y s2 p2 ρ2 q2 => ?_
          have i2 := i1.next q2.keep q2.rng
          have h4' : OwnOb Z' s2 n d := h4.keep (Keeps.up q2.keep h'.cx.rZ) (q2.keep.2 n h4.lt (by have := h'.cx.rb; simp; omega))
          show SimS _ (match (frz ve (mvE v ++ mvE i))[k]? with
            | some (.own d) => VRS.opt (vput d p2.1 p1.1) fun d' => .ok .nx ((frz ve (mvE v ++ mvE i)).set k (.own d')) ρ2
            | _ => .bad) _
          rw [hs]
          refine sims_opt fun d' ed => ?_
          obtain ⟨o, o1, o2⟩ := put_ok h4' q2.rep (q1.rep.keep (Keeps.up q2.keep h'.cx.rZ)) h2 ed
          rw [o1]
          obtain ⟨u1, u2, u3⟩ := inv_upd i2 hs h1 h2 h3 o2
          exact nx_ok (((Aft.exp h' q1.keep q1.rng).trans (Aft.exp i1 q2.keep q2.rng)).trans ⟨u1, u2, u3, fun n hn => .inl hn⟩)
        | none => exact go fun d e => nomatch e
        | val d => exact go fun d e => nomatch e
        | rng => exact go fun d e => nomatch e
  | .aug i op e, Z, env, ve, s, ρ, h => by
    show SimS _ (match ve[i]? with
      | some (.val x) => VRS.from (veE V e ve ρ) fun y ρ => VRS.opt (vaug op x y.1) fun z => .ok .nx (ve.set i (.val z)) ρ
      | _ => .bad) _
    cases hv : ve[i]? with
    | none => exact sims_bad
    | some x =>
      cases x with
      | val d =>
        obtain ⟨v, h1, h2⟩ := h.er.at_ i _ hv
        show SimS (match env[i]?.join with
          | some x => RS.from (evalE C e env s) env fun y st => RS.from (MP.augM op x y st) env fun z st => .ok .nx (env.set i (some z)) st
          | none => .bad) _ _
        rw [h1]
        refine sims_from (simE hC hG e h.cx h.er) fun y s1 p ρ1 q => sims_opt fun dz ez => ?_
        have a := Aft.exp h q.keep q.rng
        obtain ⟨z, z1, z2⟩ := aug_ok (h2.keep (Keeps.up q.keep h.cx.rZ)) q.rep ez
        rw [z1]
        exact nx_ok ⟨inv_val a.inv i z2, a.kz, a.kb, a.new⟩
      | _ => exact sims_bad
  | .ex e, Z, env, ve, s, ρ, h => sim_ex hC hG e h
  | .ret e, Z, env, ve, s, ρ, h => sim_ret hC hG e h
  | .ret0, Z, env, ve, s, ρ, h => ⟨⟨Z, .refl h⟩, .none, rfl, .none, fun e => nomatch e⟩
  | .ifs c a b, Z, env, ve, s, ρ, h => by
    refine sims_frz (mvE c) h fun Z' h' => sims_from (simE hC hG c h'.cx h'.er) fun v s1 p ρ1 q => ?_
    have h1 := q.rep
    have a1 := Aft.exp h' q.keep q.rng
    cases hd : p.1 with
    | bool k =>
      rw [hd] at h1
      cases h1
      cases k with
      | true => exact (simSs a a1.inv).mono fun f e s g e' ρ w => w.up a1
      | false => exact (simSs b a1.inv).mono fun f e s g e' ρ w => w.up a1
    | _ => exact sims_bad
  | .whl c b, Z, env, ve, s, ρ, h => sim_whl (fun h => simE hC hG c h.cx h.er) (fun h => simSs b h) F h
  | .loop t it b, Z, env, ve, s, ρ, h => by
    refine sims_frz (mvLo it) h fun Z' h' => sims_from (simIt hC hG false it h'.cx h'.er) fun src s1 is ρ1 q => ?_
    have a1 := Aft.exp h' q.keep q.rng
    refine SimS.mono (sim_for (Z := Z') (s := s1) (fun p hp => ⟨(q.chk p hp).1, q.out rfl p hp⟩) ?_ q.items (.refl a1.inv)) fun f e s g e' ρ w => w.up a1
    intro Z2 env2 ve2 s2 ρ2 i x i2 hx
    refine sims_opt fun ve3 e3 => ?_
    obtain ⟨env3, s3, e4, hs, h3⟩ := Ok.get (bind_I hx i2.er e3)
    rw [e4, hs]
    have i3 : Inv X r base Z2 env3 ve3 s2 ρ2 := ⟨i2.cx, h3, i2.sub, i2.xb, i2.rX⟩
    exact (simSs b i3).mono fun f e s g e' ρ w => w.up ⟨i3, .refl, .refl, fun n hn => .inl hn⟩
  | .raise _ _, Z, env, ve, s, ρ, h => sims_bad
  | .pass, Z, env, ve, s, ρ, h => nx_ok (.refl h)
theorem simSs : ∀ (x : Ss) {Z : List Nat} {env : En} {ve : VEn} {s : Store} {ρ : Rn}, Inv X r base Z env ve s ρ → SimS (execs C F x env s) (veSs V F x ve ρ) (PSt X r base Z s)
  | .nil, Z, env, ve, s, ρ, h => nx_ok (.refl h)
  | .cons x r, Z, env, ve, s, ρ, h => sims_then (simS x h) fun Z1 env1 s1 ve1 ρ1 a => simSs r a.inv
end
end
end VE
set_option Elab.async false
set_option linter.all false
set_option maxRecDepth 100000
/-! The helpers of the laws: draw, pick, same. -/
namespace MP
open PySem (Str PyData sizeLine)
local macro_rules
  | `(tactic| walk_at "m") => `(tactic| repeat (first
    | with_reducible refine ws_cons ?_
    | with_reducible refine ws_nil ?_
    | with_reducible refine seq_nx ?_
    | with_reducible refine seq_rt ?_
    | with_reducible refine ws_set ?_
    | with_reducible refine ws_ret ?_
    | with_reducible refine ws_ex ?_
    | with_reducible refine ws_pass ?_
    | with_reducible refine ws_setix ?_
    | with_reducible refine ws_unp ?_
    | with_reducible refine ws_par ?_
    | with_reducible refine we_int ?_
    | with_reducible refine we_bool ?_
    | with_reducible refine we_none ?_
    | with_reducible refine we_str ?_
    | (refine we_var (by rfl) ?_)
    | with_reducible refine we_bin ?_
    | with_reducible refine we_cmp ?_
    | with_reducible refine we_ix ?_
    | with_reducible refine we_call ?_
    | with_reducible refine we_bi ?_
    | with_reducible refine we_isi ?_
    | with_reducible refine wes_nil ?_
    | with_reducible refine wes_cons ?_
    | with_reducible refine wb_add ?_
    | with_reducible refine wb_sub ?_
    | with_reducible refine wb_mul (by first | assumption | omega) ?_
    | with_reducible refine wb_mod (by first | assumption | omega) ?_
    | with_reducible refine wb_fdiv (by first | assumption | omega) ?_
    | with_reducible refine wc_lt ?_
    | with_reducible refine wc_le ?_
    | with_reducible refine wc_gt ?_
    | with_reducible refine wc_ge ?_
    | with_reducible refine wn_t ?_
    | refine wn_l (by assumption) ?_
    | refine wi_l (by first | assumption | exact List.getElem?_set_self (by assumption)) (by rfl) ?_
    | refine wx_l (by first | assumption | exact List.getElem?_set_self (by assumption)) (by rfl) ?_))
namespace H
def draw : Fn := ⟨2, 4, .cons (.ifs (.cmp .gt (.ix (.var 0) (.int 0)) (.int 0)) (.cons (.set 3 (.bin .mod (.ix (.var 0) (.int 0)) (.var 1))) (.cons (.setix (.var 0) (.int 0) (.bin .fdiv (.ix (.var 0) (.int 0)) (.var 1))) (.cons (.ret (.var 3)) (.nil)))) (.nil)) (.cons (.setix (.var 0) (.int 2) (.bin .add (.ix (.var 0) (.int 2)) (.int 1))) (.cons (.set 2 (.bin .mod (.bin .pow (.bin .add (.ix (.var 0) (.int 1)) (.bin .mul (.int 40009) (.ix (.var 0) (.int 2)))) (.int 5)) (.int 2147483629))) (.cons (.ret (.bin .mod (.bin .fdiv (.bin .mod (.bin .add (.bin .mul (.var 2) (.bin .add (.bin .mod (.var 2) (.int 39373)) (.int 11))) (.bin .mul (.ix (.var 0) (.int 2)) (.int 6151))) (.int 2147483647)) (.int 64)) (.var 1))) (.nil))))⟩
def pick : Fn := ⟨2, 2, .cons (.ret (.ix (.var 1) (.call "_law_draw" (.cons (.var 0) (.cons (.bi .len (.cons (.var 1) (.nil))) (.nil)))))) (.nil)⟩
def same : Fn := ⟨2, 4, .cons (.ifs (.isi (.var 1) [.list, .tuple]) (.cons (.ifs (.or (.cmp .ne (.isi (.var 0) [.list]) (.isi (.var 1) [.list])) (.cmp .ne (.isi (.var 0) [.tuple]) (.isi (.var 1) [.tuple]))) (.cons (.ret (.bool false)) (.nil)) (.nil)) (.cons (.ret (.and (.cmp .eq (.bi .len (.cons (.var 0) (.nil))) (.bi .len (.cons (.var 1) (.nil)))) (.bi .all (.cons (.lc (.tp [.nm 2, .nm 3]) (.zip (.var 0) (.var 1)) (.none) (.call "_law_same" (.cons (.var 2) (.cons (.var 3) (.nil)))) [2, 3]) (.nil))))) (.nil))) (.nil)) (.cons (.ifs (.or (.cmp .is (.var 1) (.none)) (.isi (.var 1) [.bool, .str])) (.cons (.ret (.and (.cmp .eq (.var 0) (.var 1)) (.and (.cmp .eq (.isi (.var 0) [.bool]) (.isi (.var 1) [.bool])) (.cmp .eq (.cmp .is (.var 0) (.none)) (.cmp .is (.var 1) (.none)))))) (.nil)) (.nil)) (.cons (.ret (.and (.isi (.var 0) [.int]) (.and (.not (.isi (.var 0) [.bool])) (.cmp .eq (.var 0) (.var 1))))) (.nil)))⟩
end H
/-- the drawing list at r: at most m draws by formula -/
def Rng (st : Store) (r : Nat) (m : Int) : Prop := ∃ a b c : Int, st[r]? = some (.lst [.int a, .int b, .int c]) ∧ 0 ≤ a ∧ 0 ≤ b ∧ b < 2 ^ 40 ∧ 0 ≤ c ∧ c ≤ m
theorem Rng.mono {st : Store} {r : Nat} {m m' : Int} (h : Rng st r m) (l : m ≤ m') : Rng st r m' := by
  obtain ⟨a, b, c, h1, h2, h3, h4, h5, h6⟩ := h
  exact ⟨a, b, c, h1, h2, h3, h4, h5, by omega⟩
theorem Rng.lt {st : Store} {r : Nat} {m : Int} (h : Rng st r m) : r < st.length := by
  obtain ⟨a, b, c, h1, _⟩ := h
  exact (List.getElem?_eq_some_iff.mp h1).1
theorem Rng.of {st s' : Store} {r : Nat} {m : Int} (h : Rng st r m) (e : s'[r]? = st[r]?) : Rng s' r m := by
  obtain ⟨a, b, c, h1, h2⟩ := h
  exact ⟨a, b, c, e.trans h1, h2⟩
theorem Rng.app {st t : Store} {r : Nat} {m : Int} (h : Rng st r m) : Rng (st ++ t) r m := h.of (List.getElem?_append_left h.lt)
theorem Rng.other {st : Store} {r n : Nat} {o : Ob} {m : Int} (h : Rng st r m) (e : n ≠ r) : Rng (st.set n o) r m := h.of (List.getElem?_set_ne e)
section
variable {P : Prog} {F d : Nat} {Q : Val → Store → Prop} {st : Store} {r : Nat} {m n : Int}
theorem draw_ok {C : Cfg} (h : Rng st r m) (hm : m < 2 ^ 40) (h0 : 0 < n) (hn : n < 2 ^ 30) :
    OkS (execs C F H.draw.body [some (.ref r), some (.int n), none, none] st) fun f e s => ∃ k, f = .rt (.int k) ∧ 0 ≤ k ∧ k < n ∧ ∃ o, s = st.set r o ∧ Rng s r (m + 1) := by
  obtain ⟨a, b, c, hr, ha, hb, hb2, hc, hcm⟩ := h
  have hlen : r < st.length := (List.getElem?_eq_some_iff.mp hr).1
  unfold H.draw
  refine ws_cons (ws_if ?_)
  walk_at "m"
  refine ⟨_, rfl, fun h => ?_, fun h => ?_⟩
  · walk_at "m"
    refine ⟨_, rfl, Int.emod_nonneg _ (by omega), Int.emod_lt_of_pos _ h0, _, rfl, _, b, c, List.getElem?_set_self hlen, Int.ediv_nonneg ha (by omega), hb, hb2, hc, by omega⟩
  · walk_at "m"
    refine wb_pow ⟨by decide, by decide, by omega⟩ ?_
    have hlen2 : r < (st.set r (.lst ([Val.int a, .int b, .int c].set 2 (.int (c + 1))))).length := by rw [List.length_set]; exact hlen
    have h1 := Int.emod_nonneg ((b + 40009 * (c + 1)) ^ (5 : Int).toNat) (by decide : (2147483629 : Int) ≠ 0)
    have h2 := Int.emod_lt_of_pos ((b + 40009 * (c + 1)) ^ (5 : Int).toNat) (by decide : (0 : Int) < 2147483629)
    walk_at "m"
    refine ⟨_, rfl, Int.emod_nonneg _ (by omega), Int.emod_lt_of_pos _ h0, _, rfl, a, b, c + 1, List.getElem?_set_self hlen, ha, hb, hb2, by omega, by omega⟩
theorem draw_call (hP : P.fns.lookup ("_law_draw" : Str) = some H.draw) (h : Rng st r m) (hm : m < 2 ^ 40) (h0 : 0 < n) (hn : n < 2 ^ 30)
    (q : ∀ (k : Int) (o : Ob), 0 ≤ k → k < n → Rng (st.set r o) r (m + 1) → Q (.int k) (st.set r o)) : Ok (callN P F (d + 1) "_law_draw" [.ref r, .int n] st) Q := by
  refine ok_call hP rfl ((draw_ok h hm h0 hn).mono ?_)
  rintro f e s ⟨k, rfl, h1, h2, o, rfl, h3⟩
  exact q k o h1 h2 h3
theorem atV_in {xs : List Val} {k : Int} (h : 0 ≤ k) (h2 : k < xs.length) : ∃ x, atV xs k = some x ∧ x ∈ xs := by
  have hk : k.toNat < xs.length := by omega
  refine ⟨xs[k.toNat], ?_, List.getElem_mem hk⟩
  unfold atV ixN
  rw [if_pos h, if_pos h2]
  exact List.getElem?_eq_getElem hk
theorem pick_call (hP : P.fns.lookup ("_law_draw" : Str) = some H.draw) (hP2 : P.fns.lookup ("_law_pick" : Str) = some H.pick) {l : Nat} {xs : List Val} (hl : st[l]? = some (.lst xs)) (hlr : l ≠ r) (h : Rng st r m) (hm : m < 2 ^ 40) (h0 : 0 < xs.length) (hn : xs.length < 2 ^ 30)
    (q : ∀ (x : Val) (o : Ob), x ∈ xs → Rng (st.set r o) r (m + 1) → Q x (st.set r o)) : Ok (callN P F (d + 2) "_law_pick" [.ref r, .ref l] st) Q := by
  refine ok_call hP2 rfl ?_
  unfold H.pick
  walk_at "m"
  refine ⟨rfl, draw_call hP h hm (by omega) (by omega) fun k o h1 h2 h3 => ?_⟩
  obtain ⟨x, hx, hm⟩ := atV_in h1 h2
  refine wi_l ((List.getElem?_set_ne (Ne.symm hlr)).trans hl) hx ?_
  walk_at "m"
  exact q x o hm h3
end
end MP
set_option Elab.async false
set_option linter.all false
set_option maxRecDepth 100000
set_option maxHeartbeats 4000000
/-! Calls: the same run. -/
namespace MP
open PySem (Str PyData sizeLine)
local macro_rules
  | `(tactic| walk_at "m") => `(tactic| repeat (first
    | with_reducible refine ws_cons ?_
    | with_reducible refine ws_nil ?_
    | with_reducible refine seq_nx ?_
    | with_reducible refine seq_rt ?_
    | with_reducible refine ws_set ?_
    | with_reducible refine ws_ret ?_
    | with_reducible refine ws_ex ?_
    | with_reducible refine ws_pass ?_
    | with_reducible refine ws_setix ?_
    | with_reducible refine ws_unp ?_
    | with_reducible refine ws_par ?_
    | with_reducible refine we_int ?_
    | with_reducible refine we_bool ?_
    | with_reducible refine we_none ?_
    | with_reducible refine we_str ?_
    | (refine we_var (by rfl) ?_)
    | with_reducible refine we_bin ?_
    | with_reducible refine we_cmp ?_
    | with_reducible refine we_ix ?_
    | with_reducible refine we_call ?_
    | with_reducible refine we_bi ?_
    | with_reducible refine we_isi ?_
    | with_reducible refine wes_nil ?_
    | with_reducible refine wes_cons ?_
    | with_reducible refine wb_add ?_
    | with_reducible refine wb_sub ?_
    | with_reducible refine wb_mul (by first | assumption | omega) ?_
    | with_reducible refine wb_mod (by first | assumption | omega) ?_
    | with_reducible refine wb_fdiv (by first | assumption | omega) ?_
    | with_reducible refine wc_lt ?_
    | with_reducible refine wc_le ?_
    | with_reducible refine wc_gt ?_
    | with_reducible refine wc_ge ?_
    | with_reducible refine wn_t ?_
    | refine wn_l (by assumption) ?_
    | refine wi_l (by first | assumption | exact List.getElem?_set_self (by assumption)) (by rfl) ?_
    | refine wx_l (by first | assumption | exact List.getElem?_set_self (by assumption)) (by rfl) ?_))
theorem draw_exact {C : Cfg} {F : Nat} {st : Store} {r : Nat} {ρ : VE.Rn} {n : Int} (h : VE.RngAt st r ρ) (hm : ρ.c < 2 ^ 40) (h0 : 0 < n) (hn : n < 2 ^ 30) :
    OkS (execs C F H.draw.body [some (.ref r), some (.int n), none, none] st) fun f e s => f = .rt (.int (VE.drawR ρ n).1) ∧ ∃ o, s = st.set r o ∧ VE.RngAt s r (VE.drawR ρ n).2 := by
  obtain ⟨hr, ha, hb, hb2, hc⟩ := h
  obtain ⟨a, b, c⟩ := ρ
  simp only at hr ha hb hb2 hc hm
  have hlen : r < st.length := (List.getElem?_eq_some_iff.mp hr).1
  unfold H.draw
  refine ws_cons (ws_if ?_)
  walk_at "m"
  refine ⟨_, rfl, fun h => ?_, fun h => ?_⟩
  · have h := of_decide_eq_true h
    have e : VE.drawR ⟨a, b, c⟩ n = (a % n, ⟨a / n, b, c⟩) := by unfold VE.drawR; rw [if_pos h]
    rw [e]
    walk_at "m"
    refine ⟨rfl, _, rfl, List.getElem?_set_self hlen, Int.ediv_nonneg ha (by omega), hb, hb2, hc⟩
  · have h := of_decide_eq_false h
    have e : VE.drawR ⟨a, b, c⟩ n = ((((b + 40009 * (c + 1)) ^ (5 : Int).toNat % 2147483629) * ((b + 40009 * (c + 1)) ^ (5 : Int).toNat % 2147483629 % 39373 + 11) + (c + 1) * 6151) % 2147483647 / 64 % n, ⟨a, b, c + 1⟩) := by unfold VE.drawR; rw [if_neg h]
    rw [e]
    walk_at "m"
    refine wb_pow ⟨by decide, by decide, by omega⟩ ?_
    have hlen2 : r < (st.set r (.lst ([Val.int a, .int b, .int c].set 2 (.int (c + 1))))).length := by rw [List.length_set]; exact hlen
    have h1 := Int.emod_nonneg ((b + 40009 * (c + 1)) ^ (5 : Int).toNat) (by decide : (2147483629 : Int) ≠ 0)
    have h2 := Int.emod_lt_of_pos ((b + 40009 * (c + 1)) ^ (5 : Int).toNat) (by decide : (0 : Int) < 2147483629)
    walk_at "m"
    refine ⟨rfl, _, rfl, List.getElem?_set_self hlen, ha, hb, hb2, by simp only; omega⟩
end MP
namespace VE
open MP (Val Ob Store E Es Oe It Rg S Ss Tg Op Cmp Ty Bi Mt Fn Prog Fl En Keeps Ok OkS M Res RS evalE evalEs evalOe evalIt evalRg exec execs)
open PySem (Str PyData sizeLine)
theorem args_er {X : List Nat} {r base : Nat} {s : Store} {vs : List Val} {as : List Ar} (h : ArsR X r s vs as) (k : Nat) : ER X r base s (vs.map some ++ List.replicate k none) (as.map arSl ++ List.replicate k .none) := by
  have hat : ∀ (i : Nat) (x : Sl), (as.map arSl ++ List.replicate k .none)[i]? = some x → SlR X r base s ((vs.map some ++ List.replicate k none)[i]?.join) x ∧ ∀ d, x ≠ .own d := by
    induction h with
    | nil =>
      intro i x e
      simp only [List.map_nil, List.nil_append] at e
      rw [List.getElem?_replicate] at e
      split at e
      · cases e; exact ⟨trivial, fun d e => nomatch e⟩
      · cases e
    | cons a b ih =>
      intro i x e
      cases i with
      | succ i => simpa using ih i x (by simpa using e)
      | zero =>
        simp at e
        subst e
        cases a with
        | d h => exact ⟨⟨_, rfl, h⟩, fun d e => nomatch e⟩
        | rng => exact ⟨rfl, fun d e => nomatch e⟩
  refine ⟨?_, fun i x e => (hat i x e).1, fun i j d d' _ e1 _ => ((hat i _ e1).2 d rfl).elim⟩
  simp [h.len]
theorem vcall_draw {VP : VProg} {F d : Nat} {as : List Ar} : vcallN VP F (d + 1) drawS as = (match as with
        | [.rng, .d n] => drawV n
        | _ => vbad) := by
  show (if drawS = drawS then _ else _) = _
  rw [if_pos rfl]
  all_goals rfl
theorem simCall {P : Prog} {VP : VProg} (hf : VP.fns = P.fns) (hG : GlobOk P.glob VP.glob) (hd : P.fns.lookup drawS = some MP.H.draw) (F : Nat) : ∀ d, CallOk (MP.callN P F d) (vcallN VP F d)
  | 0 => fun f as vs X r base s ρ ha c => sim_bad
  | d + 1 => by
    intro f as vs X r base s ρ ha c
    have ih := simCall hf hG hd F d
    by_cases e : f = drawS
    · subst e
      rw [vcall_draw]
      cases ha with
      | nil => exact sim_bad
      | cons a t =>
        cases a with
        | d _ => exact sim_bad
        | rng =>
          cases t with
          | nil => exact sim_bad
          | cons b t =>
            cases b with
            | rng => exact sim_bad
            | @d v dn h =>
              cases t with
              | cons _ _ => exact sim_bad
              | nil =>
                cases dn with
                | int n =>
                  cases h
                  show Sim _ (if 0 < n ∧ n < 2 ^ 30 ∧ ρ.c < 2 ^ 40 then VR.ok ((PyData.int (drawR ρ n).1, false) : VV) (drawR ρ n).2 else VR.bad) _
                  split
                  · rename_i hn
                    show Ok _ _
                    refine MP.ok_call hd rfl ((MP.draw_exact c.rng hn.2.2 hn.1 hn.2.1).mono ?_)
                    rintro f e s' ⟨rfl, o, rfl, h2⟩
                    exact ⟨.put (List.mem_singleton_self r), h2, .int _, fun e => nomatch e⟩
                  · exact sim_bad
                | _ => exact sim_bad
    · have ev : vcallN VP F (d + 1) f as = (match VP.fns.lookup f with
        | some fd => vrunFn ⟨vcallN VP F d, VP.glob⟩ F fd as
        | none => vbad) := by
        show (if f = drawS then _ else _) = _
        rw [if_neg e]
        all_goals rfl
      have em : MP.callN P F (d + 1) f vs = (match P.fns.lookup f with
        | some fd => MP.runFn ⟨MP.callN P F d, P.glob⟩ F fd vs
        | none => MP.bad) := rfl
      rw [ev, em, hf]
      cases hl : P.fns.lookup f with
      | none => exact sim_bad
      | some fd =>
        show Sim (MP.runFn ⟨MP.callN P F d, P.glob⟩ F fd vs s) (vrunFn ⟨vcallN VP F d, VP.glob⟩ F fd as ρ) _
        unfold MP.runFn vrunFn
        by_cases hn : as.length = fd.np
        · rw [if_pos hn, if_pos (ha.len.trans hn)]
          have inv : Inv X r s.length X (vs.map some ++ List.replicate (fd.ns - fd.np) none) (as.map arSl ++ List.replicate (fd.ns - fd.np) .none) s ρ :=
            ⟨⟨c.rZ, c.zb, c.zb r c.rZ, Nat.le_refl _, c.rng⟩, args_er ha _, fun n h => h, c.zb, c.rZ⟩
          have q := simSs (C := ⟨MP.callN P F d, P.glob⟩) (V := ⟨vcallN VP F d, VP.glob⟩) (F := F) ih hG fd.body inv
          have keep : ∀ {s' : Store}, KB r s.length s s' → Keeps [r] s s' := fun h => ⟨h.1, fun n h1 h2 => h.2 n h1 (by simpa using h2)⟩
          cases hv : veSs ⟨vcallN VP F d, VP.glob⟩ F fd.body (as.map arSl ++ List.replicate (fd.ns - fd.np) .none) ρ with
          | bad => exact sim_bad
          | ok g ve' ρ' =>
            rw [hv] at q
            obtain ⟨f', env', s', h1, ⟨Z', a⟩, h2⟩ := OkS.get q
            rw [h1]
            cases g with
            | nx => have h2 : f' = .nx := h2; subst h2; exact sim_ok ⟨keep a.kb, a.inv.cx.rng, .none, fun e => nomatch e⟩
            | br => exact sim_bad
            | ct => exact sim_bad
            | rt p =>
              obtain ⟨v, h2, h3, h4⟩ := h2
              subst h2
              exact sim_ok ⟨keep a.kb, a.inv.cx.rng, h3, h4⟩
        · rw [if_neg hn]
          exact sim_bad
end VE
set_option Elab.async false
set_option linter.all false
set_option maxRecDepth 100000
/-! The same data are the same. -/
namespace MP
open PySem (Str PyData sizeLine)
local macro_rules
  | `(tactic| walk_at "m") => `(tactic| repeat (first
    | with_reducible refine ws_cons ?_
    | with_reducible refine ws_nil ?_
    | with_reducible refine seq_nx ?_
    | with_reducible refine seq_rt ?_
    | with_reducible refine ws_set ?_
    | with_reducible refine ws_ret ?_
    | with_reducible refine ws_ex ?_
    | with_reducible refine ws_pass ?_
    | with_reducible refine ws_setix ?_
    | with_reducible refine ws_unp ?_
    | with_reducible refine ws_par ?_
    | with_reducible refine we_int ?_
    | with_reducible refine we_bool ?_
    | with_reducible refine we_none ?_
    | with_reducible refine we_str ?_
    | (refine we_var (by rfl) ?_)
    | with_reducible refine we_bin ?_
    | with_reducible refine we_cmp ?_
    | with_reducible refine we_ix ?_
    | with_reducible refine we_call ?_
    | with_reducible refine we_bi ?_
    | with_reducible refine we_isi ?_
    | with_reducible refine wes_nil ?_
    | with_reducible refine wes_cons ?_
    | with_reducible refine wb_add ?_
    | with_reducible refine wb_sub ?_
    | with_reducible refine wb_mul (by first | assumption | omega) ?_
    | with_reducible refine wb_mod (by first | assumption | omega) ?_
    | with_reducible refine wb_fdiv (by first | assumption | omega) ?_
    | with_reducible refine wc_lt ?_
    | with_reducible refine wc_le ?_
    | with_reducible refine wc_gt ?_
    | with_reducible refine wc_ge ?_
    | with_reducible refine wn_t ?_
    | refine wn_l (by assumption) ?_
    | refine wi_l (by first | assumption | exact List.getElem?_set_self (by assumption)) (by rfl) ?_
    | refine wx_l (by first | assumption | exact List.getElem?_set_self (by assumption)) (by rfl) ?_))
theorem datS_bool {s : Store} {b : Bool} : datS s (.bool b) = some (.bool b) := rfl
theorem datS_int {s : Store} {b : Int} : datS s (.int b) = some (.int b) := rfl
theorem datS_none {s : Store} : datS s .none = some .none := rfl
theorem Keeps.apps {r : List Nat} {s t : Store} : Keeps r s (s ++ t) := ⟨by simp, fun n h _ => List.getElem?_append_left h⟩
theorem eqv_bool {b : Bool} : PyData.eqv (.bool b) (.bool b) = true := PySem.SeqAt.eqv_refl _ rfl
theorem eqv_int {b : Int} : PyData.eqv (.int b) (.int b) = true := PySem.SeqAt.eqv_refl _ rfl
theorem wts_len : ∀ ds : List PyData, 2 * ds.length ≤ wts ds
  | [] => Nat.le_refl _
  | d :: ds => by have := wts_len ds; simp only [wts, List.length_cons]; omega
theorem wts_at : ∀ {ds : List PyData} {d : PyData}, d ∈ ds → wt d ≤ wts ds
  | x :: ds, d, h => by
    simp only [wts]
    rcases List.mem_cons.mp h with rfl | h
    · omega
    · have := wts_at h; omega
theorem dep_at : ∀ {ds : List PyData} {d : PyData}, d ∈ ds → d.depth ≤ PyData.depthAll ds
  | x :: ds, d, h => by
    simp only [PyData.depthAll]
    rcases List.mem_cons.mp h with rfl | h
    · omega
    · have := dep_at h; omega
theorem asc_at : ∀ {ds : List PyData} {d : PyData}, d ∈ ds → ascs ds = true → asc d = true
  | x :: ds, d, h, e => by
    simp only [ascs, Bool.and_eq_true] at e
    rcases List.mem_cons.mp h with rfl | h
    · exact e.1
    · exact asc_at h e.2
theorem Gd.inL {W D : Nat} {ds : List PyData} {d : PyData} (g : Gd W (D + 1) (.list ds)) (h : d ∈ ds) : Gd W D d := by
  have h1 := g.w
  have h2 := g.dep
  have h3 := g.a
  simp only [wt] at h1
  simp only [PyData.depth] at h2
  simp only [asc] at h3
  exact ⟨by have := wts_at h; omega, by have := dep_at h; omega, asc_at h h3⟩
theorem Gd.inT {W D : Nat} {ds : List PyData} {d : PyData} (g : Gd W (D + 1) (.tuple ds)) (h : d ∈ ds) : Gd W D d := by
  have h1 := g.w
  have h2 := g.dep
  have h3 := g.a
  simp only [wt] at h1
  simp only [PyData.depth] at h2
  simp only [asc] at h3
  exact ⟨by have := wts_at h; omega, by have := dep_at h; omega, asc_at h h3⟩
theorem zipV_le : ∀ xs ys : List Val, (zipV xs ys).length ≤ xs.length
  | [], _ => by simp [zipV]
  | x :: xs, [] => by simp [zipV]
  | x :: xs, y :: ys => by have := zipV_le xs ys; simp [zipV]; exact this
section
variable {P : Prog} {F : Nat} {r : List Nat} {W : Nat}
/-- the items of two equal lists -/
theorem same_items (hP : P.fns.lookup ("_law_same" : Str) = some H.same) {D : Nat} {C : Cfg} (hC : C.call = callN P F D) {ds : List PyData}
    (ih : ∀ d ∈ ds, ∀ (u v : Val) (st : Store) (Q : Val → Store → Prop), Rep r st u d → Rep r st v d → (∀ t, Q (.bool true) (st ++ t)) → Ok (callN P F D "_law_same" [u, v] st) Q)
    {env : En} (henv : env.length = 4) {st : Store} {Q : Val → Store → Prop} {src : Src} {us vs : List Val} (hs : src.items = zipV us vs) (hl : us.length ≤ 100000) (hu : Reps r st us ds) (hv : Reps r st vs ds) (hc : ChkOk src.chk st)
    {a b : E} (he : ∀ Q : Src → Store → Prop, Q src st → Ok (evalIt C (.zip a b) env st) Q) (q : ∀ t, Q (.bool true) (st ++ t)) :
    Ok (evalE C (.bi .all (.cons (.lc (.tp [.nm 2, .nm 3]) (.zip a b) (.none) (.call "_law_same" (.cons (.var 2) (.cons (.var 3) (.nil)))) [2, 3]) (.nil))) env st) Q := by
  refine we_bi (wes_cons (we_lc (he _ ⟨?_, fun rest ys s => (∃ t, s = st ++ t) ∧ (∃ k, ys = (List.replicate k true).map .bool) ∧ ∃ us vs es, rest = zipV us vs ∧ (∀ d ∈ es, d ∈ ds) ∧ Reps r st us es ∧ Reps r st vs es, ?_, ?_, ?_, ?_⟩)))
  · rw [hs]
    have := zipV_le us vs
    rw [PySem.sizeLine_eq]; omega
  · exact ⟨⟨[], by simp⟩, ⟨0, rfl⟩, us, vs, ds, hs, fun _ h => h, hu, hv⟩
  · rintro rest ys s ⟨⟨t, rfl⟩, _⟩ p hp
    have h1 := hc p hp
    exact (List.getElem?_append_left (List.getElem?_eq_some_iff.mp h1).1).trans h1
  · rintro x rest ys s ⟨⟨t, rfl⟩, ⟨k, rfl⟩, us, vs, es, h1, h2, h3, h4⟩
    match us, vs, es, h1, h3, h4 with
    | [], _, _, h1, _, _ => simp [zipV] at h1
    | _ :: _, [], _, h1, _, _ => simp [zipV] at h1
    | u :: us, v :: vs, e :: es, h1, .cons u1 u2, .cons v1 v2 =>
      injection h1 with ha hb
      subst ha
      match env, henv with
      | [e0, e1, e2, e3], _ =>
        show Ok (evalE C (.call "_law_same" (.cons (.var 2) (.cons (.var 3) .nil))) [e0, e1, some u, some v] (st ++ t)) _
        refine we_call (wes_cons (we_var rfl (wes_cons (we_var rfl (wes_nil ⟨rfl, ?_⟩)))))
        rw [hC]
        refine ih e (h2 e (List.mem_cons_self ..)) u v (st ++ t) _ (Rep.keep Keeps.apps _ _ u1) (Rep.keep Keeps.apps _ _ v1) fun t2 => ?_
        refine ⟨⟨t ++ t2, by rw [List.append_assoc]⟩, ⟨k + 1, ?_⟩, us, vs, es, hb, fun d h => h2 d (List.mem_cons_of_mem _ h), u2, v2⟩
        rw [List.replicate_succ', List.map_append]; rfl
  · rintro zs s ⟨⟨t, rfl⟩, ⟨k, rfl⟩, _⟩
    refine wes_nil (wa_all (bs := List.replicate k true) (by simp) ?_)
    have e : (List.replicate k true).all id = true := by simp
    rw [e, List.append_assoc]
    exact q _
def atomD : PyData → Bool
  | .list _ => false
  | .tuple _ => false
  | .dict _ => false
  | _ => true
theorem same_atom (hP : P.fns.lookup ("_law_same" : Str) = some H.same) {D D' : Nat} {d : PyData} {u v : Val} {st : Store} {Q : Val → Store → Prop} (hd : atomD d = true) (g : Gd W D' d) (hD : D' ≤ 20) (hu : Rep r st u d) (hv : Rep r st v d) (q : Q (.bool true) st) : Ok (callN P F (D + 1) "_law_same" [u, v] st) Q := by
  refine ok_call hP rfl ?_
  have hdu := datS_of_rep hu g hD
  have hdv := datS_of_rep hv g hD
  have he : PyData.eqv d d = true := PySem.SeqAt.eqv_refl d (asc_lay d g.a)
  have eB : ∀ b : Bool, PyData.eqv (.bool b) (.bool b) = true := fun b => eqv_bool
  have main : ∀ S : Fl → En → Store → Prop, S (.rt (.bool true)) ([u, v].map some ++ List.replicate 2 none) st → OkS (execs ⟨callN P F D, P.glob⟩ F (.cons (.ret (.and (.cmp .eq (.var 0) (.var 1)) (.and (.cmp .eq (.isi (.var 0) [.bool]) (.isi (.var 1) [.bool])) (.cmp .eq (.cmp .is (.var 0) (.none)) (.cmp .is (.var 1) (.none)))))) (.nil)) ([u, v].map some ++ List.replicate 2 none) st) S := by
    intro S hS
    refine ws_cons (ws_ret (we_and (we_cmp (we_var rfl (we_var rfl (wc_eqd hdu hdv ⟨_, rfl, fun _ => ?_, fun e => absurd (he.symm.trans e) (by decide)⟩))))))
    refine we_and (we_cmp (we_isi (we_var rfl (wk_isi hu (we_isi (we_var rfl (wk_isi hv (wc_eqd datS_bool datS_bool ⟨_, rfl, fun _ => ?_, fun e => absurd ((eB _).symm.trans e) (by decide)⟩))))))))
    refine we_cmp (we_cmp (we_var rfl (we_none (wc_is (we_cmp (we_var rfl (we_none (wc_is (wc_eqd datS_bool datS_bool ?_)))))))))
    have e2 : decide (u = Val.none) = decide (v = Val.none) := by
      cases hu <;> cases hv <;> rfl
    rw [e2, eB]
    exact seq_rt hS
  have last : ∀ S : Fl → En → Store → Prop, tyD d = some .int → S (.rt (.bool true)) ([u, v].map some ++ List.replicate 2 none) st → OkS (execs ⟨callN P F D, P.glob⟩ F (.cons (.ret (.and (.isi (.var 0) [.int]) (.and (.not (.isi (.var 0) [.bool])) (.cmp .eq (.var 0) (.var 1))))) (.nil)) ([u, v].map some ++ List.replicate 2 none) st) S := by
    intro S ht hS
    have h1 : isD [.int] d = true := by unfold isD; rw [ht]; rfl
    have h2 : isD [.bool] d = false := by unfold isD; rw [ht]; rfl
    refine ws_cons (ws_ret (we_and (we_isi (we_var rfl (wk_isi hu ⟨_, rfl, fun _ => ?_, fun e => absurd (h1.symm.trans e) (by decide)⟩)))))
    refine we_and (we_not (we_isi (we_var rfl (wk_isi hu ⟨_, rfl, _, rfl, fun _ => ?_, fun e => absurd e (by rw [h2]; decide)⟩))))
    refine we_cmp (we_var rfl (we_var rfl (wc_eqd hdu hdv ?_)))
    rw [he]
    exact seq_rt hS
  have nl : isD [.list, .tuple] d = false := by cases d <;> first | rfl | cases hd
  unfold H.same
  refine ws_cons (ws_ifF (we_isi (we_var rfl (wk_isi hv ⟨congrArg Val.bool nl, ws_nil (seq_nx (ws_cons ?_))⟩))))
  cases hv with
  | none =>
    refine ws_ifT (we_or (we_cmp (we_var rfl (we_none (wc_is ⟨_, rfl, fun e => absurd e (by decide), fun _ => ⟨rfl, main _ (seq_rt q)⟩⟩)))))
  | bool b =>
    refine ws_ifT (we_or (we_cmp (we_var rfl (we_none (wc_is ⟨_, rfl, fun _ => we_isi (we_var rfl ⟨rfl, main _ (seq_rt q)⟩), fun e => nomatch (show false = true from e)⟩)))))
  | int i =>
    refine ws_ifF (we_or (we_cmp (we_var rfl (we_none (wc_is ⟨_, rfl, fun _ => we_isi (we_var rfl ⟨rfl, ws_nil (seq_nx (last _ rfl q))⟩), fun e => nomatch (show false = true from e)⟩)))))
  | str x =>
    refine ws_ifT (we_or (we_cmp (we_var rfl (we_none (wc_is ⟨_, rfl, fun _ => we_isi (we_var rfl ⟨rfl, main _ (seq_rt q)⟩), fun e => nomatch (show false = true from e)⟩)))))
  | tup _ => cases hd
  | lst _ _ _ => cases hd
theorem same_call (hP : P.fns.lookup ("_law_same" : Str) = some H.same) (hW : W ≤ 100000) : ∀ (D : Nat) (d : PyData) (u v : Val) (st : Store) (Q : Val → Store → Prop), D ≤ 20 → Gd W D d → Rep r st u d → Rep r st v d → (∀ t, Q (.bool true) (st ++ t)) → Ok (callN P F (D + 1) "_law_same" [u, v] st) Q := by
  intro D
  induction D with
  | zero =>
    intro d u v st Q hD g hu hv q
    have q0 : Q (.bool true) st := by have := q []; rwa [List.append_nil] at this
    have g2 := g.dep
    refine same_atom hP ?_ g (by omega) hu hv q0
    cases d <;> first | rfl | (simp only [PyData.depth] at g2; omega)
  | succ D ihD =>
    intro d u v st Q hD g hu hv q
    have q0 : Q (.bool true) st := by have := q []; rwa [List.append_nil] at this
    by_cases ha : atomD d = true
    · exact same_atom hP ha g hD hu hv q0
    have eB : ∀ b : Bool, PyData.eqv (.bool b) (.bool b) = true := fun b => eqv_bool
    have tests : ∀ S : Fl → En → Store → Prop, OkS (execs ⟨callN P F (D + 1), P.glob⟩ F (.nil) ([u, v].map some ++ List.replicate 2 none) st) S → OkS (exec ⟨callN P F (D + 1), P.glob⟩ F (.ifs (.or (.cmp .ne (.isi (.var 0) [.list]) (.isi (.var 1) [.list])) (.cmp .ne (.isi (.var 0) [.tuple]) (.isi (.var 1) [.tuple]))) (.cons (.ret (.bool false)) (.nil)) (.nil)) ([u, v].map some ++ List.replicate 2 none) st) S := by
      intro S hS
      refine ws_ifF (we_or (we_cmp (we_isi (we_var rfl (wk_isi hu (we_isi (we_var rfl (wk_isi hv (wc_ned datS_bool datS_bool ⟨_, rfl, fun _ => ?_, fun e => ?_⟩)))))))))
      · refine we_cmp (we_isi (we_var rfl (wk_isi hu (we_isi (we_var rfl (wk_isi hv (wc_ned datS_bool datS_bool ⟨?_, hS⟩)))))))
        rw [eB]; rfl
      · rw [eB] at e; exact nomatch e
    refine ok_call hP rfl ?_
    unfold H.same
    cases hu with
    | none => exact absurd rfl ha
    | bool b => exact absurd rfl ha
    | int i => exact absurd rfl ha
    | str x => exact absurd rfl ha
    | @tup us ds tu =>
      cases hv with
      | @tup vs _ tv =>
        have hl := tu.len
        have hl2 := tv.len
        have hw := g.w
        simp only [wt] at hw
        have := wts_len ds
        refine ws_cons (ws_ifT (we_isi (we_var rfl (wk_isi (.tup tv) ⟨rfl, ws_cons (tests _ (ws_nil (seq_nx (ws_cons (ws_ret (we_and ?_))))))⟩))))
        refine we_cmp (we_bi (wes_cons (we_var rfl (wes_nil (wn_t (we_bi (wes_cons (we_var rfl (wes_nil (wn_t (wc_eqd datS_int datS_int ⟨_, rfl, fun _ => ?_, fun e => ?_⟩)))))))))))
        · refine same_items hP rfl (fun d hd u v st Q hu hv q => ihD d u v st Q (by omega) (g.inT hd) hu hv q) rfl (src := ⟨zipV us vs, []⟩) rfl (by omega) tu tv (fun p hp => nomatch hp) (fun Q hQ => wt_zipT (we_var rfl (we_var rfl ⟨us, vs, rfl, rfl, hQ⟩))) fun t => seq_rt (seq_rt (q t))
        · rw [hl, hl2, eqv_int] at e; exact nomatch e
    | @lst n us ds hn hs tu =>
      cases hv with
      | @lst n2 vs _ hn2 hs2 tv =>
        have hl := tu.len
        have hl2 := tv.len
        have hw := g.w
        simp only [wt] at hw
        have := wts_len ds
        refine ws_cons (ws_ifT (we_isi (we_var rfl (wk_isi (.lst hn2 hs2 tv) ⟨rfl, ws_cons (tests _ (ws_nil (seq_nx (ws_cons (ws_ret (we_and ?_))))))⟩))))
        refine we_cmp (we_bi (wes_cons (we_var rfl (wes_nil (wn_l hs (we_bi (wes_cons (we_var rfl (wes_nil (wn_l hs2 (wc_eqd datS_int datS_int ⟨_, rfl, fun _ => ?_, fun e => ?_⟩)))))))))))
        · refine same_items hP rfl (fun d hd u v st Q hu hv q => ihD d u v st Q (by omega) (g.inL hd) hu hv q) rfl (src := ⟨zipV us vs, [(n, .lst us), (n2, .lst vs)]⟩) rfl (by omega) tu tv (fun p hp => ?_) (fun Q hQ => wt_zipL (we_var rfl (we_var rfl ⟨n, n2, us, vs, rfl, rfl, hs, hs2, hQ⟩))) fun t => seq_rt (seq_rt (q t))
          rcases List.mem_cons.mp hp with rfl | hp
          · exact hs
          rcases List.mem_cons.mp hp with rfl | hp
          · exact hs2
          cases hp
        · rw [hl, hl2, eqv_int] at e; exact nomatch e
end
end MP
set_option Elab.async false
set_option linter.all false
set_option maxRecDepth 100000
/-! What mutates a value: the replacement. -/
namespace MP
open PySem (Str PyData sizeLine)
theorem len_ok {α : Type} {xs : List α} (h : xs.length ≤ 1000) : xs.length ≤ sizeLine := by rw [PySem.sizeLine_eq]; omega
theorem we_negI {C : Cfg} {env : En} {s : Store} {Q : Val → Store → Prop} {i : Int} (q : Q (.int (-i)) s) : Ok (evalE C (.neg (.int i)) env s) Q := q
local macro_rules
  | `(tactic| walk_at "m") => `(tactic| repeat (first
    | with_reducible refine ws_cons ?_
    | with_reducible refine ws_nil ?_
    | with_reducible refine seq_nx ?_
    | with_reducible refine seq_rt ?_
    | with_reducible refine ws_set ?_
    | with_reducible refine ws_ret ?_
    | with_reducible refine ws_ex ?_
    | with_reducible refine ws_pass ?_
    | with_reducible refine ws_setix ?_
    | with_reducible refine ws_unp ?_
    | with_reducible refine ws_par ?_
    | with_reducible refine we_int ?_
    | with_reducible refine we_bool ?_
    | with_reducible refine we_none ?_
    | with_reducible refine we_str ?_
    | (refine we_var (by rfl) ?_)
    | with_reducible refine we_bin ?_
    | with_reducible refine we_cmp ?_
    | with_reducible refine we_ix ?_
    | with_reducible refine we_negI ?_
    | with_reducible refine we_call ?_
    | with_reducible refine we_lst ?_
    | with_reducible refine we_tup ?_
    | refine And.intro (len_ok (Nat.le_of_ble_eq_true rfl)) ?_
    | with_reducible refine we_bi ?_
    | with_reducible refine we_isi ?_
    | with_reducible refine wes_nil ?_
    | with_reducible refine wes_cons ?_
    | with_reducible refine wb_add ?_
    | with_reducible refine wb_sub ?_
    | with_reducible refine wb_mul (by first | assumption | omega) ?_
    | with_reducible refine wb_mod (by first | assumption | omega) ?_
    | with_reducible refine wb_fdiv (by first | assumption | omega) ?_
    | with_reducible refine wc_lt ?_
    | with_reducible refine wc_le ?_
    | with_reducible refine wc_gt ?_
    | with_reducible refine wc_ge ?_
    | with_reducible refine wn_t ?_
    | refine wn_l (by assumption) ?_
    | refine wi_l (by first | assumption | exact List.getElem?_set_self (by assumption)) (by rfl) ?_
    | refine wx_l (by first | assumption | exact List.getElem?_set_self (by assumption)) (by rfl) ?_))
namespace H
def consts : E := (.lst (.cons (.none) (.cons (.bool true) (.cons (.bool false) (.cons (.int 0) (.cons (.int 1) (.cons (.neg (.int 1)) (.cons (.int 9) (.cons (.str "") (.cons (.str "forward") (.cons (.str "start") (.cons (.tup (.nil)) (.cons (.lst (.nil)) (.cons (.tup (.cons (.int 0) (.nil))) (.cons (.lst (.cons (.int 0) (.nil))) (.cons (.tup (.cons (.int 0) (.cons (.int 1) (.nil)))) (.cons (.tup (.cons (.int 1) (.cons (.int 0) (.nil)))) (.cons (.tup (.cons (.int 0) (.cons (.int 0) (.cons (.tup (.cons (.int 0) (.nil))) (.nil))))) (.nil)))))))))))))))))))
def replR : Ss := (.cons (.ifs (.isi (.var 1) [.int]) (.cons (.set 2 (.bin .add (.var 2) (.bin .mul (.lst (.cons (.bin .add (.var 1) (.int 1)) (.cons (.bin .sub (.var 1) (.int 1)) (.cons (.bi .str (.cons (.var 1) (.nil))) (.cons (.cmp .eq (.var 1) (.int 1)) (.nil)))))) (.int 2)))) (.nil)) (.nil)) (.cons (.ifs (.isi (.var 1) [.str]) (.cons (.set 2 (.bin .add (.var 2) (.lst (.cons (.bin .add (.var 1) (.str " ")) (.cons (.sl (.var 1) (.some (.int 1)) (.none)) (.cons (.mt .upper (.var 1) (.nil)) (.cons (.lst (.cons (.var 1) (.nil))) (.cons (.str "end") (.cons (.str "backward") (.nil)))))))))) (.nil)) (.nil)) (.cons (.ret (.call "_law_pick" (.cons (.var 0) (.cons (.var 2) (.nil))))) (.nil))))
def replaced : Fn := ⟨2, 3, .cons (.set 2 consts) replR⟩
end H
/-- a list of good data -/
def Pool (r : List Nat) (s : Store) (W D : Nat) (xs : List Val) : Prop := ∃ ds, Reps r s xs ds ∧ ∀ d ∈ ds, Gd W D d
theorem Gd.mono {W W' D D' : Nat} {d : PyData} (g : Gd W D d) (h : W ≤ W') (h2 : D ≤ D') : Gd W' D' d := ⟨Nat.le_trans g.w h, Nat.le_trans g.dep h2, g.a⟩
section
variable {r : List Nat} {s s1 : Store} {W D W' D' : Nat} {xs ys : List Val}
theorem Pool.mono (h : Pool r s W D xs) (a : W ≤ W') (b : D ≤ D') : Pool r s W' D' xs := h.imp fun ds ⟨h1, h2⟩ => ⟨h1, fun d hd => (h2 d hd).mono a b⟩
theorem Pool.keep (h : Pool r s W D xs) (k : Keeps r s s1) : Pool r s1 W D xs := h.imp fun ds ⟨h1, h2⟩ => ⟨Reps.keep k _ _ h1, h2⟩
theorem Pool.app (h : Pool r s W D xs) (h' : Pool r s W D ys) : Pool r s W D (xs ++ ys) := by
  obtain ⟨ds, h1, h2⟩ := h
  obtain ⟨es, h3, h4⟩ := h'
  exact ⟨ds ++ es, h1.app h3, fun d hd => (List.mem_append.mp hd).elim (h2 d) (h4 d)⟩
theorem Pool.nil : Pool r s W D [] := ⟨[], .nil, fun _ h => nomatch h⟩
theorem Pool.cons {x : Val} {d : PyData} (h : Rep r s x d) (g : Gd W D d) (h' : Pool r s W D ys) : Pool r s W D (x :: ys) := by
  obtain ⟨es, h3, h4⟩ := h'
  refine ⟨d :: es, .cons h h3, fun e he => ?_⟩
  rcases List.mem_cons.mp he with rfl | he
  · exact g
  · exact h4 e he
theorem Pool.mem {x : Val} (h : Pool r s W D xs) (hx : x ∈ xs) : ∃ d, Rep r s x d ∧ Gd W D d := by
  obtain ⟨ds, h1, h2⟩ := h
  obtain ⟨i, hi, e⟩ := List.mem_iff_getElem.mp hx
  obtain ⟨d, h3, h4⟩ := h1.at (i := i) (v := x) (by rw [List.getElem?_eq_getElem hi, e])
  exact ⟨d, h4, h2 d (List.mem_of_getElem? h3)⟩
end
/-- a check of good closed data -/
def gdB (d : PyData) : Bool := decide (wt d ≤ 100) && decide (d.depth ≤ 2) && asc d
theorem Gd.of_b {W D : Nat} {d : PyData} (h : gdB d = true) (a : 100 ≤ W) (b : 2 ≤ D) : Gd W D d := by
  unfold gdB at h
  simp only [Bool.and_eq_true, decide_eq_true_eq] at h
  exact ⟨by omega, by omega, h.2⟩
/-! numbers and texts -/
theorem log2_le {n k : Nat} (h : n < 2 ^ (k + 1)) : n.log2 ≤ k := by
  by_cases e : n = 0
  · subst e; simp
  · have := (Nat.log2_lt e).mpr h; omega
theorem log2_near {n m : Nat} (h : m ≤ n + 1) : m.log2 ≤ n.log2 + 1 := by
  refine log2_le ?_
  have h1 := Nat.lt_log2_self (n := n)
  have h2 : 2 ^ (n.log2 + 1 + 1) = 2 * 2 ^ (n.log2 + 1) := by rw [Nat.pow_succ]; omega
  omega
theorem asc_upper : ∀ (l : List Nat), (∀ c ∈ l, c < 128) → ∀ c ∈ (PySem.Txt.upper ⟨l.toArray⟩).cps.toList, c < 128
  | [], _, c, hc => by
    have e : (PySem.Txt.upper ⟨#[]⟩).cps.toList = [] := by decide +kernel
    rw [e] at hc; cases hc
  | a :: l, h, c, hc => by
    have e : (⟨(a :: l).toArray⟩ : Str) = (⟨#[a]⟩ : Str) ++ ⟨l.toArray⟩ := PySem.Str.ext' (by show _ = #[a] ++ l.toArray; simp)
    have ha := h a (List.mem_cons_self ..)
    rw [e, PySem.W.KOpn.upper_app, PySem.W.KOpn.upper_one ha, PySem.W.KT.app_list] at hc
    rcases List.mem_append.mp hc with h1 | h1
    · have : c = if 97 ≤ a ∧ a ≤ 122 then a - 32 else a := by simpa using h1
      rw [this]; split <;> omega
    · exact asc_upper l (fun c hc => h c (List.mem_cons_of_mem _ hc)) c h1
theorem asc_str {x : Str} : asc (.str x) = true ↔ ∀ c ∈ x.cps.toList, c < 128 := by
  simp only [asc]
  rw [Array.all_eq_true']
  constructor
  · intro h c hc
    have := h c (by simpa using hc)
    simpa using this
  · intro h c hc
    have := h c (by simpa using hc)
    simpa using this
theorem gd_str {W D : Nat} {x : Str} (h : ∀ c ∈ x.cps.toList, c < 128) (hl : 10 * x.length + 2 ≤ W) : Gd W D (.str x) := ⟨hl, Nat.zero_le _, asc_str.mpr h⟩
theorem gd_int {W D : Nat} {i : Int} (hl : i.natAbs.log2 + 3 ≤ W) : Gd W D (.int i) := ⟨hl, Nat.zero_le _, rfl⟩
section
variable {P : Prog} {F d0 : Nat} {Q : Val → Store → Prop} {st : Store} {X : List Nat} {r : Nat} {m : Int} {W D : Nat}
theorem ws_setMono {C : Cfg} {env : En} {s : Store} {S : Fl → En → Store → Prop} {i : Nat} {e : E} {Q : Val → Store → Prop} (h : Ok (evalE C e env s) Q) (q : ∀ v s', Q v s' → S .nx (env.set i (some v)) s') : OkS (exec C F (.set i e) env s) S := ws_set (h.mono q)
theorem Keeps.up {X : List Nat} {s s1 : Store} (k : Keeps [r] s s1) (h : r ∈ X) : Keeps X s s1 := k.sub fun n hn => by rw [List.mem_singleton.mp hn]; exact h
theorem wb_addL {s : Store} {n k : Nat} {xs ys : List Val} (h1 : s[n]? = some (.lst xs)) (h2 : s[k]? = some (.lst ys)) (hl : xs.length + ys.length ≤ 1000000) (q : Q (.ref s.length) (s ++ [.lst (xs ++ ys)])) : Ok (binop .add (.ref n) (.ref k) s) Q := by
  show Ok (onL n _ s) Q
  rw [ok_onL]
  refine ⟨xs, h1, ?_⟩
  rw [ok_onL]
  refine ⟨ys, h2, ?_⟩
  rw [ok_need]
  exact ⟨decide_eq_true (by rw [PySem.sizeLine_eq]; omega), q⟩
theorem wb_mulL {s : Store} {n : Nat} {k : Int} {xs : List Val} (h1 : s[n]? = some (.lst xs)) (hk : 0 ≤ k ∧ k ≤ 1000) (hl : xs.length ≤ 1000) (q : Q (.ref s.length) (s ++ [.lst (reps xs k)])) : Ok (binop .mul (.ref n) (.int k) s) Q := by
  show Ok (onL n _ s) Q
  rw [ok_onL]
  refine ⟨xs, h1, ?_⟩
  rw [ok_need]
  refine ⟨?_, q⟩
  rw [Bool.and_eq_true]
  refine ⟨by unfold small63; rw [decide_eq_true_eq]; omega, decide_eq_true ?_⟩
  rw [PySem.sizeLine_eq]
  have : xs.length * k.toNat ≤ 1000 * 1000 := Nat.mul_le_mul hl (by omega)
  omega
theorem at_end {s : Store} {o : Ob} : (s ++ [o])[s.length]? = some o := by simp
theorem at_last {s : Store} {o : Ob} : (s ++ [o])[(s ++ [o]).length - 1]? = some o := by simp
/-- what the choices are -/
structure RI (X : List Nat) (r : Nat) (st : Store) (W D n : Nat) (l : Nat) (s : Store) (xs : List Val) : Prop where
  rX : r ∈ X
  fX : ∀ n ∈ X, n < st.length
  k : Keeps [r] st s
  e : s[r]? = st[r]?
  hl : s[l]? = some (.lst xs)
  lo : st.length ≤ l
  n0 : 0 < xs.length
  n1 : xs.length ≤ n
  p : Pool X s W D xs
/-- the constants -/
theorem repl_consts {C : Cfg} {env : En} (hX : r ∈ X) (hF : ∀ n ∈ X, n < st.length) (hW : 100 ≤ W) (hD : 2 ≤ D) : Ok (evalE C H.consts env st) fun v s' => ∃ l xs, v = .ref l ∧ RI X r st W D 17 l s' xs := by
  unfold H.consts
  walk_at "m"
  have hr : r < st.length := hF r hX
  have k : Keeps [r] st (st ++ [.lst []] ++ [.lst [.int 0]]) := Keeps.app.trans .app
  have hne : st.length ∉ X := fun e => absurd (hF _ e) (Nat.lt_irrefl _)
  have hne2 : (st ++ [Ob.lst []]).length ∉ X := fun e => absurd (hF _ e) (by simp)
  refine ⟨_, _, rfl, hX, hF, k.trans .app, ?_, at_end, by simp, Nat.zero_lt_succ _, Nat.le_refl _, ?_⟩
  · rw [List.append_assoc, List.append_assoc]; exact List.getElem?_append_left hr
  refine Pool.keep (s := st ++ [.lst []] ++ [.lst [.int 0]]) ?_ .app
  have h1 : Rep X (st ++ [.lst []] ++ [.lst [.int 0]]) (.ref st.length) (.list []) := .lst hne (by simp) .nil
  have h2 : Rep X (st ++ [.lst []] ++ [.lst [.int 0]]) (.ref (st ++ [Ob.lst []]).length) (.list [.int 0]) := .lst hne2 (by simp) (.cons (.int 0) .nil)
  repeat (first
    | exact Pool.nil
    | exact Pool.cons h1 (Gd.of_b (by decide +kernel) hW hD) (by assumption)
    | refine Pool.cons .none (Gd.of_b (by decide +kernel) hW hD) ?_
    | refine Pool.cons (.bool _) (Gd.of_b (by decide +kernel) hW hD) ?_
    | refine Pool.cons (.int _) (Gd.of_b (by decide +kernel) hW hD) ?_
    | refine Pool.cons (.str _) (Gd.of_b (by decide +kernel) hW hD) ?_
    | refine Pool.cons h1 (Gd.of_b (by decide +kernel) hW hD) ?_
    | refine Pool.cons h2 (Gd.of_b (by decide +kernel) hW hD) ?_
    | refine Pool.cons (.tup .nil) (Gd.of_b (by decide +kernel) hW hD) ?_
    | refine Pool.cons (.tup (.cons (.int _) .nil)) (Gd.of_b (by decide +kernel) hW hD) ?_
    | refine Pool.cons (.tup (.cons (.int _) (.cons (.int _) .nil))) (Gd.of_b (by decide +kernel) hW hD) ?_
    | refine Pool.cons (.tup (.cons (.int _) (.cons (.int _) (.cons (.tup (.cons (.int _) .nil)) .nil)))) (Gd.of_b (by decide +kernel) hW hD) ?_)
theorem Ri.a {W' D' : Nat} {n : Nat} {l : Nat} {s : Store} {xs : List Val} (h : RI X r st W D n l s xs) (a : W ≤ W') (b : D ≤ D') {s1 : Store} {ys : List Val} (k : Keeps [r] s s1) (e : s1[r]? = s[r]?) (p : Pool X s1 W' D' ys) {n' : Nat} (hn : n + ys.length ≤ n') : RI X r st W' D' n' s1.length (s1 ++ [.lst (xs ++ ys)]) (xs ++ ys) := by
  have h1 := h.n0
  have h2 := h.n1
  have h3 := h.k.1
  have h4 := k.1
  have hr := h.fX r h.rX
  refine ⟨h.rX, h.fX, (h.k.trans k).trans .app, ?_, at_end, by omega, by simp; omega, by simp; omega, ((h.p.mono a b).keep (k.up h.rX) |>.app p).keep .app⟩
  rw [List.getElem?_append_left (by omega), e, h.e]
theorem repl_tail {P : Prog} {v : Val} {n l : Nat} {s : Store} {xs : List Val} {S : Fl → En → Store → Prop} (hP : P.fns.lookup ("_law_draw" : Str) = some H.draw) (hP2 : P.fns.lookup ("_law_pick" : Str) = some H.pick)
    (hr : Rng st r m) (hm : m < 2 ^ 40) (h : RI X r st W D n l s xs) (hn : n ≤ 1000) (q : ∀ e x s', Keeps [r] st s' → Rng s' r (m + 1) → (∃ d', Rep X s' x d' ∧ Gd W D d') → S (.rt x) e s') :
    OkS (execs ⟨callN P F (d0 + 2), P.glob⟩ F (.cons (.ret (.call "_law_pick" (.cons (.var 0) (.cons (.var 2) (.nil))))) (.nil)) [some (.ref r), some v, some (.ref l)] s) S := by
  have hr2 : Rng s r m := hr.of h.e
  have h1 := h.n0
  have h2 := h.n1
  have h3 := hr.lt
  have h4 := h.lo
  walk_at "m"
  refine ⟨rfl, pick_call hP hP2 h.hl (by omega) hr2 hm h1 (by omega) fun x o hx hr3 => ?_⟩
  refine seq_rt (q _ x _ (h.k.trans (.put (List.mem_singleton_self r))) hr3 ?_)
  obtain ⟨d, h5, h6⟩ := h.p.mem hx
  exact ⟨d, Rep.keep (.put h.rX) _ _ h5, h6⟩
end
end MP
set_option Elab.async false
set_option linter.all false
set_option maxRecDepth 100000
/-! What mutates a value: the replacement of a number or a text. -/
namespace MP
open PySem (Str PyData sizeLine)
local macro_rules
  | `(tactic| walk_at "m") => `(tactic| repeat (first
    | with_reducible refine ws_cons ?_
    | with_reducible refine ws_nil ?_
    | with_reducible refine seq_nx ?_
    | with_reducible refine seq_rt ?_
    | with_reducible refine ws_set ?_
    | with_reducible refine ws_ret ?_
    | with_reducible refine ws_ex ?_
    | with_reducible refine ws_pass ?_
    | with_reducible refine ws_setix ?_
    | with_reducible refine ws_unp ?_
    | with_reducible refine ws_par ?_
    | with_reducible refine we_int ?_
    | with_reducible refine we_bool ?_
    | with_reducible refine we_none ?_
    | with_reducible refine we_str ?_
    | (refine we_var (by rfl) ?_)
    | with_reducible refine we_bin ?_
    | with_reducible refine we_cmp ?_
    | with_reducible refine we_ix ?_
    | with_reducible refine we_negI ?_
    | with_reducible refine we_call ?_
    | with_reducible refine we_lst ?_
    | with_reducible refine we_tup ?_
    | refine And.intro (len_ok (Nat.le_of_ble_eq_true rfl)) ?_
    | with_reducible refine we_bi ?_
    | with_reducible refine we_isi ?_
    | with_reducible refine wes_nil ?_
    | with_reducible refine wes_cons ?_
    | with_reducible refine wb_add ?_
    | with_reducible refine wb_sub ?_
    | with_reducible refine wb_mul (by first | assumption | omega) ?_
    | with_reducible refine wb_mod (by first | assumption | omega) ?_
    | with_reducible refine wb_fdiv (by first | assumption | omega) ?_
    | with_reducible refine wc_lt ?_
    | with_reducible refine wc_le ?_
    | with_reducible refine wc_gt ?_
    | with_reducible refine wc_ge ?_
    | with_reducible refine wn_t ?_
    | refine wn_l (by assumption) ?_
    | refine wi_l (by first | assumption | exact List.getElem?_set_self (by assumption)) (by rfl) ?_
    | refine wx_l (by first | assumption | exact List.getElem?_set_self (by assumption)) (by rfl) ?_))
namespace H
def ifInt : MP.S := .ifs (.isi (.var 1) [.int]) (.cons (.set 2 (.bin .add (.var 2) (.bin .mul (.lst (.cons (.bin .add (.var 1) (.int 1)) (.cons (.bin .sub (.var 1) (.int 1)) (.cons (.bi .str (.cons (.var 1) (.nil))) (.cons (.cmp .eq (.var 1) (.int 1)) (.nil)))))) (.int 2)))) (.nil)) (.nil)
def ifStr : MP.S := .ifs (.isi (.var 1) [.str]) (.cons (.set 2 (.bin .add (.var 2) (.lst (.cons (.bin .add (.var 1) (.str " ")) (.cons (.sl (.var 1) (.some (.int 1)) (.none)) (.cons (.mt .upper (.var 1) (.nil)) (.cons (.lst (.cons (.var 1) (.nil))) (.cons (.str "end") (.cons (.str "backward") (.nil)))))))))) (.nil)) (.nil)
theorem replR_eq : replR = .cons ifInt (.cons ifStr (.cons (.ret (.call "_law_pick" (.cons (.var 0) (.cons (.var 2) (.nil))))) (.nil))) := rfl
end H
section
variable {C : Cfg} {F : Nat} {env : En} {st s : Store} {X : List Nat} {r : Nat} {m : Int} {W D : Nat} {Q : Val → Store → Prop}
theorem wb_addB {b : Bool} {j : Int} (q : Q (.int (b2i b + j)) s) : Ok (binop .add (.bool b) (.int j) s) Q := q
theorem wb_subB {b : Bool} {j : Int} (q : Q (.int (b2i b - j)) s) : Ok (binop .sub (.bool b) (.int j) s) Q := q
theorem wa_str {i : Int} (h : i.natAbs.log2 < 1920) (q : Q (.str (strOfInt i)) s) : Ok (bi .str [.int i] s) Q := by
  show Ok (need (decide (i.natAbs.log2 < 1920)) (pure (.str (strOfInt i))) s) Q
  rw [ok_need]; exact ⟨decide_eq_true h, q⟩
theorem wa_strB {b : Bool} (q : Q (.str (if b = true then "True" else "False")) s) : Ok (bi .str [.bool b] s) Q := q
theorem RI.more {W' D' n n' l : Nat} {xs : List Val} (h : RI X r st W D n l s xs) (a : W ≤ W') (b : D ≤ D') (c : n ≤ n') : RI X r st W' D' n' l s xs := ⟨h.rX, h.fX, h.k, h.e, h.hl, h.lo, h.n0, Nat.le_trans h.n1 c, h.p.mono a b⟩
theorem gd_num {i : Int} (h : i.natAbs.log2 + 3 ≤ W) : Gd (10 * W + 100) D (.str (strOfInt i)) := by
  refine gd_str (PySem.W.KSb.asc_num i) ?_
  have := PySem.int_text_length_le (a := i) (k := i.natAbs.log2 + 1) (by omega) (by omega)
  have e : (strOfInt i).length = (toString i).length := PySem.ofString_length _
  omega
theorem repl_int {v : Val} {d : PyData} {l : Nat} {xs : List Val} {S : Fl → En → Store → Prop} (hr : r < st.length) (hv : Rep X st v d) (g : Gd W D d) (hW : W ≤ 1900) (h : RI X r st (10 * W + 100) (D + 2) 17 l s xs)
    (q : ∀ l s xs, RI X r st (10 * W + 100) (D + 2) 25 l s xs → S .nx [some (.ref r), some v, some (.ref l)] s) : OkS (exec C F H.ifInt [some (.ref r), some v, some (.ref l)] s) S := by
  unfold H.ifInt
  have hv2 := Rep.keep (h.k.up h.rX) _ _ hv
  have h1 := h.n1
  have hl := (List.getElem?_eq_some_iff.mp h.hl).1
  have h3 := h.k.1
  refine ws_if (we_isi (we_var rfl (wk_isi hv2 ⟨_, rfl, fun e => ?_, fun e => ws_nil (q _ _ _ (h.more (Nat.le_refl _) (Nat.le_refl _) (by omega)))⟩)))
  cases hv with
  | none => cases e
  | str x => cases e
  | tup _ => cases e
  | lst _ _ _ => cases e
  | int i =>
    have hw := g.w
    simp only [wt] at hw
    walk_at "m"
    refine wa_str (by omega) ?_
    walk_at "m"
    refine wb_mulL at_end (by decide) (Nat.le_of_ble_eq_true rfl) ?_
    refine wb_addL (xs := xs) (by rw [List.append_assoc]; exact (List.getElem?_append_left hl).trans h.hl) at_end (by show _ + 8 ≤ _; omega) ?_
    walk_at "m"
    refine q _ _ _ (Ri.a h (Nat.le_refl _) (Nat.le_refl _) (Keeps.app.trans .app) (by rw [List.append_assoc]; exact List.getElem?_append_left (by omega)) ?_ (Nat.le_refl _))
    have g1 : Gd (10 * W + 100) (D + 2) (.int (i + 1)) := gd_int (by have := log2_near (n := i.natAbs) (m := (i + 1).natAbs) (by omega); omega)
    have g2 : Gd (10 * W + 100) (D + 2) (.int (i - 1)) := gd_int (by have := log2_near (n := i.natAbs) (m := (i - 1).natAbs) (by omega); omega)
    have g3 : Gd (10 * W + 100) (D + 2) (.str (strOfInt i)) := gd_num hw
    have g4 : ∀ b : Bool, Gd (10 * W + 100) (D + 2) (.bool b) := fun b => ⟨by simp only [wt]; omega, Nat.zero_le _, rfl⟩
    exact .cons (.int _) g1 (.cons (.int _) g2 (.cons (.str _) g3 (.cons (.bool _) (g4 _) (.cons (.int _) g1 (.cons (.int _) g2 (.cons (.str _) g3 (.cons (.bool _) (g4 _) .nil)))))))
  | bool b =>
    walk_at "m"
    refine wb_mulL at_end (by decide) (Nat.le_of_ble_eq_true rfl) ?_
    refine wb_addL (xs := xs) (by rw [List.append_assoc]; exact (List.getElem?_append_left hl).trans h.hl) at_end (by show _ + 8 ≤ _; omega) ?_
    walk_at "m"
    refine q _ _ _ (Ri.a h (Nat.le_refl _) (Nat.le_refl _) (Keeps.app.trans .app) (by rw [List.append_assoc]; exact List.getElem?_append_left (by omega)) ?_ (Nat.le_refl _))
    have g1 : Gd (10 * W + 100) (D + 2) (.int (b2i b + 1)) := Gd.of_b (by cases b <;> decide +kernel) (by omega) (by omega)
    have g2 : Gd (10 * W + 100) (D + 2) (.int (b2i b - 1)) := Gd.of_b (by cases b <;> decide +kernel) (by omega) (by omega)
    have g3 : Gd (10 * W + 100) (D + 2) (.str (if b = true then "True" else "False")) := Gd.of_b (by cases b <;> decide +kernel) (by omega) (by omega)
    have g4 : ∀ b : Bool, Gd (10 * W + 100) (D + 2) (.bool b) := fun b => ⟨by simp only [wt]; omega, Nat.zero_le _, rfl⟩
    exact .cons (.int _) g1 (.cons (.int _) g2 (.cons (.str _) g3 (.cons (.bool _) (g4 _) (.cons (.int _) g1 (.cons (.int _) g2 (.cons (.str _) g3 (.cons (.bool _) (g4 _) .nil)))))))
theorem we_slV {v : Val} {i : Nat} {k : Int} (h : env[i]? = some (some v)) (q : Ok (slM v (some k) none s) Q) : Ok (evalE C (.sl (.var i) (.some (.int k)) .none) env s) Q := by
  show Ok ((evalE C (.var i) env >>= fun x => evalOe C (.some (.int k)) env >>= fun l => ofOpt (partM l) fun l => evalOe C .none env >>= fun h => ofOpt (partM h) fun h => slM x l h) s) Q
  rw [ok_bind]
  exact we_var h q
theorem wsl_str {x : Str} {lo hi : Option Int} (h : x.length ≤ 1000000) (q : Q (.str ⟨(cutV x.cps.toList lo hi).toArray⟩) s) : Ok (slM (.str x) lo hi s) Q := by
  show Ok (need (szOk x.length) (pure (.str ⟨(cutV x.cps.toList lo hi).toArray⟩)) s) Q
  rw [ok_need]
  exact ⟨decide_eq_true (by rw [PySem.sizeLine_eq]; omega), q⟩
theorem wu_str {x : Str} {i : Nat} (h : env[i]? = some (some (.str x))) (hl : x.length ≤ 1000000) (q : Q (.str (PySem.Txt.upper x)) s) : Ok (evalE C (.mt .upper (.var i) .nil) env s) Q := by
  refine we_mt (we_var h ?_)
  show Ok (((evalEs C .nil env >>= fun vs => mt .upper (.str x) vs) : M Val) s) Q
  rw [ok_bind]
  refine wes_nil ?_
  show Ok (need (decide (x.length ≤ 5592405)) (pure (.str (PySem.Txt.upper x))) s) Q
  rw [ok_need]
  exact ⟨decide_eq_true (by omega), q⟩
theorem wb_addS {x y : Str} (h : x.length + y.length ≤ 1000000) (q : Q (.str (x ++ y)) s) : Ok (binop .add (.str x) (.str y) s) Q := by
  show Ok (need (szOk (x.length + y.length)) (pure (.str (x ++ y))) s) Q
  rw [ok_need]
  exact ⟨decide_eq_true (by rw [PySem.sizeLine_eq]; omega), q⟩
theorem cut_len {α : Type} (xs : List α) (lo hi : Option Int) : (cutV xs lo hi).length ≤ xs.length := by
  unfold cutV
  rw [List.length_take, List.length_drop]; omega
theorem cut_mem {α : Type} {xs : List α} {lo hi : Option Int} {x : α} (h : x ∈ cutV xs lo hi) : x ∈ xs := List.mem_of_mem_drop (List.mem_of_mem_take h)
theorem repl_str {n : Nat} {v : Val} {d : PyData} {l : Nat} {xs : List Val} {S : Fl → En → Store → Prop} (hr : r < st.length) (hv : Rep X st v d) (g : Gd W D d) (hW : W ≤ 1900) (hn : n ≤ 100) (h : RI X r st (10 * W + 100) (D + 2) n l s xs)
    (q : ∀ l s xs, RI X r st (10 * W + 100) (D + 2) (n + 6) l s xs → S .nx [some (.ref r), some v, some (.ref l)] s) : OkS (exec C F H.ifStr [some (.ref r), some v, some (.ref l)] s) S := by
  unfold H.ifStr
  have hv2 := Rep.keep (h.k.up h.rX) _ _ hv
  have h1 := h.n1
  have hl := (List.getElem?_eq_some_iff.mp h.hl).1
  have h3 := h.k.1
  refine ws_if (we_isi (we_var rfl (wk_isi hv2 ⟨_, rfl, fun e => ?_, fun e => ws_nil (q _ _ _ (h.more (Nat.le_refl _) (Nat.le_refl _) (by omega)))⟩)))
  cases hv with
  | none => cases e
  | int _ => cases e
  | bool _ => cases e
  | tup _ => cases e
  | lst _ _ _ => cases e
  | str x =>
    have hw := g.w
    simp only [wt] at hw
    have ha := asc_str.mp g.a
    refine ws_cons (ws_set (we_bin (we_var rfl (we_lst ?_))))
    refine wes_cons (we_bin (we_var rfl (we_str (wb_addS (by show _ + 1 ≤ _; omega) ?_))))
    refine wes_cons (we_slV rfl (wsl_str (by omega) ?_))
    refine wes_cons (wu_str rfl (by omega) ?_)
    refine wes_cons (we_lst (wes_cons (we_var rfl (wes_nil ⟨len_ok (Nat.le_of_ble_eq_true rfl), ?_⟩))))
    refine wes_cons (we_str (wes_cons (we_str (wes_nil ⟨len_ok (Nat.le_of_ble_eq_true rfl), ?_⟩))))
    refine wb_addL (xs := xs) (by rw [List.append_assoc]; exact (List.getElem?_append_left hl).trans h.hl) at_end (by show _ + 6 ≤ _; omega) ?_
    refine seq_nx (ws_nil ?_)
    have k1 : Keeps [r] s (s ++ [.lst [.str x]]) := .app
    refine q _ _ _ (Ri.a h (Nat.le_refl _) (Nat.le_refl _) (k1.trans .app) (by rw [List.append_assoc]; exact List.getElem?_append_left (by omega)) ?_ (Nat.le_refl _))
    refine Pool.keep ?_ .app
    have e1 : (" " : Str).length = 1 := rfl
    have g1 : Gd (10 * W + 100) (D + 2) (.str (x ++ " ")) := gd_str (PySem.W.KSb.asc_app ha (PySem.W.KSb.asc_of (by decide +kernel))) (by rw [PySem.strLen_append, e1]; omega)
    have g2 : Gd (10 * W + 100) (D + 2) (.str ⟨(cutV x.cps.toList (some 1) none).toArray⟩) := gd_str (fun c hc => ha c (cut_mem (by simpa using hc))) (by
      have := cut_len x.cps.toList (some 1) none
      have e : (⟨(cutV x.cps.toList (some 1) none).toArray⟩ : Str).length = (cutV x.cps.toList (some 1) none).length := by show (List.toArray _).size = _; simp
      have e2 : x.cps.toList.length = x.length := by show _ = x.cps.size; simp
      omega)
    have g3 : Gd (10 * W + 100) (D + 2) (.str (PySem.Txt.upper x)) := gd_str (fun c hc => asc_upper x.cps.toList ha c (by simpa using hc)) (by have := PyProof.Rows.len_upper x; omega)
    have g4 : Gd (10 * W + 100) (D + 2) (.list [.str x]) := ⟨by simp only [wt, wts]; omega, by simp only [PyData.depth, PyData.depthAll]; omega, by simp only [asc, ascs, Bool.and_true]; exact g.a⟩
    exact .cons (.str _) g1 (.cons (.str _) g2 (.cons (.str _) g3 (.cons (.lst (fun e => absurd (h.fX _ e) (by omega)) at_end (.cons (.str _) .nil)) g4 (.cons (.str _) (Gd.of_b (by decide +kernel) (by omega) (by omega)) (.cons (.str _) (Gd.of_b (by decide +kernel) (by omega) (by omega)) .nil)))))
theorem replaced_call {P : Prog} {d0 : Nat} {v : Val} {d : PyData} (hP : P.fns.lookup ("_law_draw" : Str) = some H.draw) (hP2 : P.fns.lookup ("_law_pick" : Str) = some H.pick) (hP3 : P.fns.lookup ("_law_replaced" : Str) = some H.replaced)
    (hr : Rng st r m) (hX : r ∈ X) (hF : ∀ n ∈ X, n < st.length) (hm : m < 2 ^ 40) (hv : Rep X st v d) (g : Gd W D d) (hW : W ≤ 1900)
    (q : ∀ x s', Keeps [r] st s' → Rng s' r (m + 1) → (∃ d', Rep X s' x d' ∧ Gd (10 * W + 100) (D + 2) d') → Q x s') : Ok (callN P F (d0 + 3) "_law_replaced" [.ref r, v] st) Q := by
  refine ok_call hP3 rfl ?_
  unfold H.replaced
  refine ws_cons (ws_set ((repl_consts hX hF (W := 10 * W + 100) (D := D + 2) (by omega) (by omega)).mono ?_))
  rintro _ s1 ⟨l, xs, rfl, h⟩
  refine seq_nx ?_
  rw [H.replR_eq]
  refine ws_cons (repl_int hr.lt hv g hW h fun l s xs h => ?_)
  refine seq_nx (ws_cons (repl_str hr.lt hv g hW (by omega) h fun l s xs h => ?_))
  refine seq_nx (repl_tail hP hP2 hr hm h (by omega) fun e x s' a b c => ?_)
  exact q x s' a b c
end
end MP
set_option Elab.async false
set_option linter.all false
set_option maxRecDepth 100000
/-! What mutates a value: lists. -/
namespace MP
open PySem (Str PyData sizeLine)
local macro_rules
  | `(tactic| walk_at "m") => `(tactic| repeat (first
    | with_reducible refine ws_cons ?_
    | with_reducible refine ws_nil ?_
    | with_reducible refine seq_nx ?_
    | with_reducible refine seq_rt ?_
    | with_reducible refine ws_set ?_
    | with_reducible refine ws_ret ?_
    | with_reducible refine ws_ex ?_
    | with_reducible refine ws_pass ?_
    | with_reducible refine ws_setix ?_
    | with_reducible refine ws_unp ?_
    | with_reducible refine ws_par ?_
    | with_reducible refine we_int ?_
    | with_reducible refine we_bool ?_
    | with_reducible refine we_none ?_
    | with_reducible refine we_str ?_
    | (refine we_var (by rfl) ?_)
    | with_reducible refine we_bin ?_
    | with_reducible refine we_cmp ?_
    | with_reducible refine we_ix ?_
    | with_reducible refine we_negI ?_
    | with_reducible refine we_call ?_
    | with_reducible refine we_lst ?_
    | with_reducible refine we_tup ?_
    | refine And.intro (len_ok (Nat.le_of_ble_eq_true rfl)) ?_
    | with_reducible refine we_bi ?_
    | with_reducible refine we_isi ?_
    | with_reducible refine wes_nil ?_
    | with_reducible refine wes_cons ?_
    | with_reducible refine wb_add ?_
    | with_reducible refine wb_sub ?_
    | with_reducible refine wb_mul (by first | assumption | omega) ?_
    | with_reducible refine wb_mod (by first | assumption | omega) ?_
    | with_reducible refine wb_fdiv (by first | assumption | omega) ?_
    | with_reducible refine wc_lt ?_
    | with_reducible refine wc_le ?_
    | with_reducible refine wc_gt ?_
    | with_reducible refine wc_ge ?_
    | with_reducible refine wn_t ?_
    | refine wn_l (by assumption) ?_
    | refine wi_l (by first | assumption | exact List.getElem?_set_self (by assumption)) (by rfl) ?_
    | refine wx_l (by first | assumption | exact List.getElem?_set_self (by assumption)) (by rfl) ?_))
/-! lists of good data -/
theorem wts_app : ∀ a b : List PyData, wts (a ++ b) = wts a + wts b
  | [], b => by simp [wts]
  | x :: a, b => by simp only [List.cons_append, wts, wts_app a b]; omega
theorem wts_rev : ∀ a : List PyData, wts a.reverse = wts a
  | [] => rfl
  | x :: a => by rw [List.reverse_cons, wts_app, wts_rev a]; simp only [wts]; omega
theorem wts_take (a : List PyData) (n : Nat) : wts (a.take n) ≤ wts a := by
  have := wts_app (a.take n) (a.drop n)
  rw [List.take_append_drop] at this; omega
theorem wts_drop (a : List PyData) (n : Nat) : wts (a.drop n) ≤ wts a := by
  have := wts_app (a.take n) (a.drop n)
  rw [List.take_append_drop] at this; omega
theorem wts_cut (a : List PyData) (lo hi : Option Int) : wts (cutV a lo hi) ≤ wts a := by
  unfold cutV
  exact Nat.le_trans (wts_take _ _) (wts_drop _ _)
theorem wts_set : ∀ {a : List PyData} {i : Nat} {y : PyData} (x : PyData), a[i]? = some y → wts (a.set i x) + wt y = wts a + wt x
  | [], i, y, x, h => by simp at h
  | z :: a, 0, y, x, h => by simp at h; subst h; simp only [List.set_cons_zero, wts]; omega
  | z :: a, i + 1, y, x, h => by
    have := wts_set (a := a) (i := i) x (by simpa using h)
    simp only [List.set_cons_succ, wts]; omega
theorem wts_erase : ∀ (a : List PyData) (i : Nat), wts (a.eraseIdx i) ≤ wts a
  | [], i => by simp
  | z :: a, 0 => by simp [wts]
  | z :: a, i + 1 => by have := wts_erase a i; simp only [List.eraseIdx_cons_succ, wts]; omega
theorem wts_ins (a : List PyData) (i : Nat) (x : PyData) : wts (insAt a i x) = wts a + (wt x + 2) := by
  unfold insAt
  have := wts_app (a.take i) (a.drop i)
  rw [List.take_append_drop] at this
  rw [wts_app]; simp only [wts]; omega
theorem depAll_of : ∀ {ds : List PyData} {n : Nat}, (∀ d ∈ ds, d.depth ≤ n) → PyData.depthAll ds ≤ n
  | [], n, _ => by simp [PyData.depthAll]
  | d :: ds, n, h => by
    have h1 := h d (List.mem_cons_self ..)
    have h2 := depAll_of fun d hd => h d (List.mem_cons_of_mem _ hd)
    simp only [PyData.depthAll]; omega
theorem ascs_of : ∀ {ds : List PyData}, (∀ d ∈ ds, asc d = true) → ascs ds = true
  | [], _ => rfl
  | d :: ds, h => by
    simp only [ascs, Bool.and_eq_true]
    exact ⟨h d (List.mem_cons_self ..), ascs_of fun d hd => h d (List.mem_cons_of_mem _ hd)⟩
structure GdL (W D : Nat) (ds : List PyData) : Prop where
  w : wts ds + 3 ≤ W
  e : ∀ d ∈ ds, d.depth ≤ D ∧ asc d = true
section
variable {W D W' D' : Nat} {ds : List PyData}
theorem GdL.list (g : GdL W D ds) : Gd W (D + 1) (.list ds) := ⟨by simp only [wt]; exact g.w, by have := depAll_of fun d hd => (g.e d hd).1; simp only [PyData.depth]; omega, by simp only [asc]; exact ascs_of fun d hd => (g.e d hd).2⟩
theorem GdL.tuple (g : GdL W D ds) : Gd W (D + 1) (.tuple ds) := ⟨by simp only [wt]; exact g.w, by have := depAll_of fun d hd => (g.e d hd).1; simp only [PyData.depth]; omega, by simp only [asc]; exact ascs_of fun d hd => (g.e d hd).2⟩
theorem Gd.listL (g : Gd W (D + 1) (.list ds)) : GdL W D ds := ⟨by have := g.w; simpa only [wt] using this, fun d hd => ⟨(g.inL hd).dep, (g.inL hd).a⟩⟩
theorem Gd.tupleL (g : Gd W (D + 1) (.tuple ds)) : GdL W D ds := ⟨by have := g.w; simpa only [wt] using this, fun d hd => ⟨(g.inT hd).dep, (g.inT hd).a⟩⟩
end
/-! rules for lists -/
section
variable {C : Cfg} {F : Nat} {env : En} {s : Store} {Q : Val → Store → Prop} {n : Nat} {xs : List Val}
theorem wm_insert {i : Int} {v : Val} (h : s[n]? = some (.lst xs)) (hl : xs.length ≤ 1000000) (hi : 0 ≤ i ∧ i ≤ xs.length) (q : Q .none (s.set n (.lst (insAt xs i.toNat v)))) : Ok (mt .insert (.ref n) [.int i, v] s) Q := by
  show Ok (onL n _ s) Q
  rw [ok_onL]
  refine ⟨xs, h, ?_⟩
  rw [ok_need]
  refine ⟨?_, q⟩
  rw [Bool.and_eq_true]
  exact ⟨decide_eq_true (by rw [PySem.sizeLine_eq]; omega), decide_eq_true hi⟩
theorem wm_popAt {i : Int} {y : Val} (h : s[n]? = some (.lst xs)) (h0 : 0 ≤ i) (hi : i < xs.length) (hl : xs.length ≤ 1000000) (hy : xs[i.toNat]? = some y) (q : Q y (s.set n (.lst (xs.eraseIdx i.toNat)))) : Ok (mt .popAt (.ref n) [.int i] s) Q := by
  show Ok (onL n _ s) Q
  rw [ok_onL]
  refine ⟨xs, h, ?_⟩
  rw [ok_need]
  refine ⟨by unfold small63; rw [decide_eq_true_eq]; omega, ?_⟩
  rw [ok_ofOpt]
  refine ⟨i.toNat, by unfold ixN; rw [if_pos h0, if_pos hi], ?_⟩
  rw [ok_ofOpt]
  exact ⟨y, hy, q⟩
theorem we_rev {a : E} (h : Ok (evalE C a env s) fun x s1 => ∃ n xs, x = .ref n ∧ s1[n]? = some (.lst xs) ∧ Q (.ref s1.length) (s1 ++ [.lst xs.reverse])) : Ok (evalE C (.rev a) env s) Q := by
  show Ok ((evalE C a env >>= fun x => revM x) s) Q
  rw [ok_bind]
  refine h.mono ?_
  rintro x s1 ⟨n, xs, rfl, h1, q⟩
  show Ok (onL n _ s1) Q
  rw [ok_onL]
  exact ⟨xs, h1, q⟩
theorem wsl_l {lo hi : Option Int} (h : s[n]? = some (.lst xs)) (q : Q (.ref s.length) (s ++ [.lst (cutV xs lo hi)])) : Ok (slM (.ref n) lo hi s) Q := by
  show Ok (onL n _ s) Q
  rw [ok_onL]
  exact ⟨xs, h, q⟩
/-- a slice with both ends, one, none -/
theorem we_sl2 {a b c : E} (h : Ok (evalE C a env s) fun x s1 => Ok (evalE C b env s1) fun y s2 => ∃ i, y = .int i ∧ Ok (evalE C c env s2) fun z s3 => ∃ j, z = .int j ∧ Ok (slM x (some i) (some j) s3) Q) : Ok (evalE C (.sl a (.some b) (.some c)) env s) Q := by
  show Ok ((evalE C a env >>= fun x => (evalE C b env >>= fun v => pure (some v)) >>= fun l => ofOpt (partM l) fun l => (evalE C c env >>= fun v => pure (some v)) >>= fun h => ofOpt (partM h) fun h => slM x l h) s) Q
  simp only [ok_bind]
  refine h.mono fun x s1 h => h.mono ?_
  rintro y s2 ⟨i, rfl, h⟩
  show Ok (((evalE C c env >>= fun v => pure (some v)) >>= fun h => ofOpt (partM h) fun h => slM x (some i) h) s2) Q
  simp only [ok_bind]
  refine h.mono ?_
  rintro z s3 ⟨j, rfl, q⟩
  exact q
theorem we_slL {a b : E} (h : Ok (evalE C a env s) fun x s1 => Ok (evalE C b env s1) fun y s2 => ∃ i, y = .int i ∧ Ok (slM x (some i) none s2) Q) : Ok (evalE C (.sl a (.some b) .none) env s) Q := by
  show Ok ((evalE C a env >>= fun x => (evalE C b env >>= fun v => pure (some v)) >>= fun l => ofOpt (partM l) fun l => evalOe C .none env >>= fun h => ofOpt (partM h) fun h => slM x l h) s) Q
  simp only [ok_bind]
  refine h.mono fun x s1 h => h.mono ?_
  rintro y s2 ⟨i, rfl, h⟩
  exact h
theorem we_slH {a b : E} (h : Ok (evalE C a env s) fun x s1 => Ok (evalE C b env s1) fun y s2 => ∃ i, y = .int i ∧ Ok (slM x none (some i) s2) Q) : Ok (evalE C (.sl a .none (.some b)) env s) Q := by
  show Ok ((evalE C a env >>= fun x => evalOe C .none env >>= fun l => ofOpt (partM l) fun l => (evalE C b env >>= fun v => pure (some v)) >>= fun h => ofOpt (partM h) fun h => slM x l h) s) Q
  simp only [ok_bind]
  refine h.mono fun x s1 h => ?_
  show Ok (((evalE C b env >>= fun v => pure (some v)) >>= fun h => ofOpt (partM h) fun h => slM x none h) s1) Q
  simp only [ok_bind]
  refine h.mono ?_
  rintro y s2 ⟨i, rfl, h⟩
  exact h
end
end MP
set_option Elab.async false
set_option linter.all false
set_option maxRecDepth 100000
/-! What mutates a value: lists. -/
namespace MP
open PySem (Str PyData sizeLine)
local macro_rules
  | `(tactic| walk_at "m") => `(tactic| repeat (first
    | with_reducible refine ws_cons ?_
    | with_reducible refine ws_nil ?_
    | with_reducible refine seq_nx ?_
    | with_reducible refine seq_rt ?_
    | with_reducible refine ws_set ?_
    | with_reducible refine ws_ret ?_
    | with_reducible refine ws_ex ?_
    | with_reducible refine ws_pass ?_
    | with_reducible refine ws_setix ?_
    | with_reducible refine ws_unp ?_
    | with_reducible refine ws_par ?_
    | with_reducible refine we_int ?_
    | with_reducible refine we_bool ?_
    | with_reducible refine we_none ?_
    | with_reducible refine we_str ?_
    | (refine we_var (by rfl) ?_)
    | with_reducible refine we_bin ?_
    | with_reducible refine we_cmp ?_
    | with_reducible refine we_ix ?_
    | with_reducible refine we_negI ?_
    | with_reducible refine we_call ?_
    | with_reducible refine we_lst ?_
    | with_reducible refine we_tup ?_
    | refine And.intro (len_ok (Nat.le_of_ble_eq_true rfl)) ?_
    | with_reducible refine we_bi ?_
    | with_reducible refine we_isi ?_
    | with_reducible refine wes_nil ?_
    | with_reducible refine wes_cons ?_
    | with_reducible refine wb_add ?_
    | with_reducible refine wb_sub ?_
    | with_reducible refine wb_mul (by first | assumption | omega) ?_
    | with_reducible refine wb_mod (by first | assumption | omega) ?_
    | with_reducible refine wb_fdiv (by first | assumption | omega) ?_
    | with_reducible refine wc_lt ?_
    | with_reducible refine wc_le ?_
    | with_reducible refine wc_gt ?_
    | with_reducible refine wc_ge ?_
    | with_reducible refine wn_t ?_
    | refine wn_l (by assumption) ?_
    | refine wi_l (by first | assumption | exact List.getElem?_set_self (by assumption)) (by rfl) ?_
    | refine wx_l (by first | assumption | exact List.getElem?_set_self (by assumption)) (by rfl) ?_))
section
variable {s : Store} {X Y : List Nat}
mutual
theorem Rep.weak (h : ∀ n ∈ X, n ∈ Y) : ∀ (d : PyData) (v : Val), Rep Y s v d → Rep X s v d
  | .none, _, q => by cases q; exact .none
  | .bool _, _, q => by cases q; exact .bool _
  | .int _, _, q => by cases q; exact .int _
  | .str _, _, q => by cases q; exact .str _
  | .tuple ds, _, q => by
    cases q with
    | tup t => exact .tup (Reps.weak h ds _ t)
  | .list ds, _, q => by
    cases q with
    | lst h1 h2 t => exact .lst (fun e => h1 (h _ e)) h2 (Reps.weak h ds _ t)
  | .dict _, _, q => by cases q
theorem Reps.weak (h : ∀ n ∈ X, n ∈ Y) : ∀ (ds : List PyData) (vs : List Val), Reps Y s vs ds → Reps X s vs ds
  | [], _, q => by cases q; exact .nil
  | d :: ds, _, q => by
    cases q with
    | cons a b => exact .cons (Rep.weak h d _ a) (Reps.weak h ds _ b)
end
mutual
theorem Rep.more {l : Nat} (h : s.length ≤ l) : ∀ (d : PyData) (v : Val), Rep X s v d → Rep (l :: X) s v d
  | .none, _, q => by cases q; exact .none
  | .bool _, _, q => by cases q; exact .bool _
  | .int _, _, q => by cases q; exact .int _
  | .str _, _, q => by cases q; exact .str _
  | .tuple ds, _, q => by
    cases q with
    | tup t => exact .tup (Reps.more h ds _ t)
  | .list ds, _, q => by
    cases q with
    | lst h1 h2 t =>
      have := (List.getElem?_eq_some_iff.mp h2).1
      refine .lst (fun e => ?_) h2 (Reps.more h ds _ t)
      rcases List.mem_cons.mp e with e | e
      · omega
      · exact h1 e
  | .dict _, _, q => by cases q
theorem Reps.more {l : Nat} (h : s.length ≤ l) : ∀ (ds : List PyData) (vs : List Val), Reps X s vs ds → Reps (l :: X) s vs ds
  | [], _, q => by cases q; exact .nil
  | d :: ds, _, q => by
    cases q with
    | cons a b => exact .cons (Rep.more h d _ a) (Reps.more h ds _ b)
end
end
namespace H
def mutRet : Ss := .cons (.ret (.ite (.isi (.var 1) [.list]) (.var 4) (.bi .tuple (.cons (.var 4) (.nil))))) (.nil)
def mut7 : Ss := .cons (.set 4 (.bin .add (.bin .add (.sl (.var 4) (.none) (.some (.var 3))) (.rev (.sl (.var 4) (.some (.var 3)) (.some (.bin .add (.var 3) (.int 2)))))) (.sl (.var 4) (.some (.bin .add (.var 3) (.int 2))) (.none)))) (.nil)
def mut8 : Ss := .cons (.ret (.ite (.isi (.var 1) [.list]) (.bi .tuple (.cons (.var 4) (.nil))) (.var 4))) (.nil)
def mutIf : MP.S := .ifs (.cmp .lt (.var 2) (.int 4)) (.cons (.setix (.var 4) (.var 3) (.call "_law_mutate" (.cons (.var 0) (.cons (.ix (.var 4) (.var 3)) (.nil))))) (.nil)) (.cons (.ifs (.cmp .eq (.var 2) (.int 4)) (.cons (.ex (.mt .popAt (.var 4) (.cons (.var 3) (.nil)))) (.nil)) (.cons (.ifs (.cmp .eq (.var 2) (.int 5)) (.cons (.ex (.mt .insert (.var 4) (.cons (.var 3) (.cons (.ix (.var 4) (.var 3)) (.nil))))) (.nil)) (.cons (.ifs (.cmp .eq (.var 2) (.int 6)) (.cons (.set 4 (.rev (.var 4))) (.nil)) (.cons (.ifs (.cmp .eq (.var 2) (.int 7)) mut7 mut8) (.nil))) (.nil))) (.nil))) (.nil))
def mutHead : MP.S := .ifs (.or (.not (.isi (.var 1) [.list, .tuple])) (.or (.cmp .eq (.bi .len (.cons (.var 1) (.nil))) (.int 0)) (.cmp .eq (.call "_law_draw" (.cons (.var 0) (.cons (.int 7) (.nil)))) (.int 0)))) (.cons (.ret (.call "_law_replaced" (.cons (.var 0) (.cons (.var 1) (.nil))))) (.nil)) (.nil)
def mutPar : MP.S := .par [2, 3, 4] (.cons (.call "_law_draw" (.cons (.var 0) (.cons (.int 9) (.nil)))) (.cons (.call "_law_draw" (.cons (.var 0) (.cons (.bi .len (.cons (.var 1) (.nil))) (.nil)))) (.cons (.bi .list (.cons (.var 1) (.nil))) (.nil))))
def mutate : Fn := ⟨2, 5, .cons mutHead (.cons mutPar (.cons mutIf mutRet))⟩
end H
section
variable {C : Cfg} {F : Nat} {st s : Store} {X : List Nat} {r l : Nat} {m : Int} {W D : Nat} {v : Val} {d : PyData} {ys : List Val} {es : List PyData} {S : Fl → En → Store → Prop} {env : En}
theorem mut_ret (h1 : env[1]? = some (some v)) (h4 : env[4]? = some (some (.ref l))) (hv : Rep X s v d) (hs : s[l]? = some (.lst ys)) (hl : l ∉ X) (hy : Reps X s ys es) (g : GdL W D es)
    (q : ∀ x d', Rep X s x d' → Gd W (D + 1) d' → S (.rt x) env s) : OkS (execs C F H.mutRet env s) S := by
  unfold H.mutRet
  refine ws_cons (ws_ret (we_ite (we_isi (we_var h1 (wk_isi hv ⟨_, rfl, fun e => we_var h4 (seq_rt (q _ _ (.lst hl hs hy) g.list)), fun e => ?_⟩)))))
  exact we_bi (wes_cons (we_var h4 (wes_nil (wp_l hs (seq_rt (q _ _ (.tup hy) g.tuple))))))
theorem mut_8 (h1 : env[1]? = some (some v)) (h4 : env[4]? = some (some (.ref l))) (hv : Rep X s v d) (hs : s[l]? = some (.lst ys)) (hl : l ∉ X) (hy : Reps X s ys es) (g : GdL W D es)
    (q : ∀ x d', Rep X s x d' → Gd W (D + 1) d' → S (.rt x) env s) : OkS (execs C F H.mut8 env s) S := by
  unfold H.mut8
  refine ws_cons (ws_ret (we_ite (we_isi (we_var h1 (wk_isi hv ⟨_, rfl, fun e => ?_, fun e => we_var h4 (seq_rt (q _ _ (.lst hl hs hy) g.list))⟩)))))
  exact we_bi (wes_cons (we_var h4 (wes_nil (wp_l hs (seq_rt (q _ _ (.tup hy) g.tuple))))))
end
end MP
set_option Elab.async false
set_option linter.all false
set_option maxRecDepth 100000
/-! What mutates a value: lists. -/
namespace MP
open PySem (Str PyData sizeLine)
local macro_rules
  | `(tactic| walk_at "m") => `(tactic| repeat (first
    | with_reducible refine ws_cons ?_
    | with_reducible refine ws_nil ?_
    | with_reducible refine seq_nx ?_
    | with_reducible refine seq_rt ?_
    | with_reducible refine ws_set ?_
    | with_reducible refine ws_ret ?_
    | with_reducible refine ws_ex ?_
    | with_reducible refine ws_pass ?_
    | with_reducible refine ws_setix ?_
    | with_reducible refine ws_unp ?_
    | with_reducible refine ws_par ?_
    | with_reducible refine we_int ?_
    | with_reducible refine we_bool ?_
    | with_reducible refine we_none ?_
    | with_reducible refine we_str ?_
    | (refine we_var (by rfl) ?_)
    | with_reducible refine we_bin ?_
    | with_reducible refine we_cmp ?_
    | with_reducible refine we_ix ?_
    | with_reducible refine we_negI ?_
    | with_reducible refine we_call ?_
    | with_reducible refine we_lst ?_
    | with_reducible refine we_tup ?_
    | refine And.intro (len_ok (Nat.le_of_ble_eq_true rfl)) ?_
    | with_reducible refine we_bi ?_
    | with_reducible refine we_isi ?_
    | with_reducible refine wes_nil ?_
    | with_reducible refine wes_cons ?_
    | with_reducible refine wb_add ?_
    | with_reducible refine wb_sub ?_
    | with_reducible refine wb_mul (by first | assumption | omega) ?_
    | with_reducible refine wb_mod (by first | assumption | omega) ?_
    | with_reducible refine wb_fdiv (by first | assumption | omega) ?_
    | with_reducible refine wc_lt ?_
    | with_reducible refine wc_le ?_
    | with_reducible refine wc_gt ?_
    | with_reducible refine wc_ge ?_
    | with_reducible refine wn_t ?_
    | refine wn_l (by assumption) ?_
    | refine wi_l (by first | assumption | exact List.getElem?_set_self (by assumption)) (by rfl) ?_
    | refine wx_l (by first | assumption | exact List.getElem?_set_self (by assumption)) (by rfl) ?_))
theorem Reps.cut {r : List Nat} {s : Store} {vs : List Val} {ds : List PyData} (h : Reps r s vs ds) (lo hi : Option Int) : Reps r s (cutV vs lo hi) (cutV ds lo hi) := by
  unfold cutV
  rw [h.len]
  exact (h.drop _).take _
theorem Reps.ins {r : List Nat} {s : Store} {vs : List Val} {ds : List PyData} {v : Val} {d : PyData} (n : Nat) (h : Reps r s vs ds) (q : Rep r s v d) : Reps r s (insAt vs n v) (insAt ds n d) := (h.take n).app (.cons q (h.drop n))
/-- the list that is built, after its change -/
structure MI (X : List Nat) (r : Nat) (st : Store) (m : Int) (W D : Nat) (v : Val) (l : Nat) (env : En) (s : Store) (ys : List Val) (es : List PyData) : Prop where
  v1 : env[1]? = some (some v)
  v4 : env[4]? = some (some (.ref l))
  k : Keeps [r] st s
  rg : Rng s r m
  hs : s[l]? = some (.lst ys)
  hl : l ∉ X
  hy : Reps X s ys es
  g : GdL W D es
section
variable {C : Cfg} {F : Nat} {st s : Store} {X : List Nat} {r l : Nat} {m a b : Int} {W D : Nat} {v : Val} {d : PyData} {ys : List Val} {es : List PyData} {S : Fl → En → Store → Prop}
theorem lift1 {o o' : Ob} (h : s[l]? = some o) : (s ++ [o'])[l]? = some o := (List.getElem?_append_left (List.getElem?_eq_some_iff.mp h).1).trans h
theorem mut_7 (hF : ∀ n ∈ X, n < st.length) (h : MI X r st m W D v l [some (.ref r), some v, some (.int a), some (.int b), some (.ref l)] s ys es) (hW : W ≤ 1900)
    (q : ∀ l s ys es, MI X r st m (10 * W + 100) (D + 2) v l [some (.ref r), some v, some (.int a), some (.int b), some (.ref l)] s ys es → S .nx [some (.ref r), some v, some (.int a), some (.int b), some (.ref l)] s) : OkS (execs C F H.mut7 [some (.ref r), some v, some (.int a), some (.int b), some (.ref l)] s) S := by
  unfold H.mut7
  have hw := h.g.w
  have h1 := wts_len es
  have h2 := h.hy.len
  have c1 := cut_len ys none (some b)
  have c2 := cut_len ys (some b) (some (b + 2))
  have c3 := cut_len ys (some (b + 2)) none
  have hk := h.k.1
  refine ws_cons (ws_set (we_bin (we_bin (we_slH (we_var rfl (we_var rfl ⟨_, rfl, wsl_l h.hs ?_⟩))))))
  refine we_rev (we_sl2 (we_var rfl (we_var rfl ⟨_, rfl, we_bin (we_var rfl (we_int (wb_add ⟨_, rfl, wsl_l (lift1 h.hs) ?_⟩)))⟩)))
  refine ⟨_, _, rfl, at_end, wb_addL (lift1 (lift1 at_end)) at_end (by rw [List.length_reverse]; omega) ?_⟩
  refine we_slL (we_var rfl (we_bin (we_var rfl (we_int (wb_add ⟨_, rfl, wsl_l (lift1 (lift1 (lift1 (lift1 h.hs)))) ?_⟩)))))
  refine wb_addL (lift1 at_end) at_end (by rw [List.length_append, List.length_reverse]; omega) ?_
  refine seq_nx (ws_nil ?_)
  refine q _ _ (cutV ys none (some b) ++ (cutV ys (some b) (some (b + 2))).reverse ++ cutV ys (some (b + 2)) none) (cutV es none (some b) ++ (cutV es (some b) (some (b + 2))).reverse ++ cutV es (some (b + 2)) none) ⟨rfl, rfl, ((((((h.k.trans .app).trans .app).trans .app).trans .app).trans .app).trans .app), (((((h.rg.app).app).app).app).app).app, at_end, fun e => absurd (hF _ e) (by simp; omega), ?_, ?_, ?_⟩
  · have y0 := h.hy
    refine Reps.keep (s := s) ((((((Keeps.app.trans .app).trans .app).trans .app).trans .app).trans .app)) _ _ ?_
    exact ((y0.cut _ _).app (y0.cut _ _).rev).app (y0.cut _ _)
  · rw [wts_app, wts_app, wts_rev]
    have d1 := wts_cut es none (some b)
    have d2 := wts_cut es (some b) (some (b + 2))
    have d3 := wts_cut es (some (b + 2)) none
    omega
  · intro d hd
    have : d ∈ es := by
      rcases List.mem_append.mp hd with hd | hd
      · rcases List.mem_append.mp hd with hd | hd
        · exact cut_mem hd
        · exact cut_mem (List.mem_reverse.mp hd)
      · exact cut_mem hd
    have := h.g.e d this
    exact ⟨by omega, this.2⟩
end
end MP
set_option Elab.async false
set_option linter.all false
set_option maxRecDepth 100000
set_option maxHeartbeats 1000000
/-! What mutates a value: lists. -/
namespace MP
open PySem (Str PyData sizeLine)
local macro_rules
  | `(tactic| walk_at "m") => `(tactic| repeat (first
    | with_reducible refine ws_cons ?_
    | with_reducible refine ws_nil ?_
    | with_reducible refine seq_nx ?_
    | with_reducible refine seq_rt ?_
    | with_reducible refine ws_set ?_
    | with_reducible refine ws_ret ?_
    | with_reducible refine ws_ex ?_
    | with_reducible refine ws_pass ?_
    | with_reducible refine ws_setix ?_
    | with_reducible refine ws_unp ?_
    | with_reducible refine ws_par ?_
    | with_reducible refine we_int ?_
    | with_reducible refine we_bool ?_
    | with_reducible refine we_none ?_
    | with_reducible refine we_str ?_
    | (refine we_var (by rfl) ?_)
    | with_reducible refine we_bin ?_
    | with_reducible refine we_cmp ?_
    | with_reducible refine we_ix ?_
    | with_reducible refine we_negI ?_
    | with_reducible refine we_call ?_
    | with_reducible refine we_lst ?_
    | with_reducible refine we_tup ?_
    | refine And.intro (len_ok (Nat.le_of_ble_eq_true rfl)) ?_
    | with_reducible refine we_bi ?_
    | with_reducible refine we_isi ?_
    | with_reducible refine wes_nil ?_
    | with_reducible refine wes_cons ?_
    | with_reducible refine wb_add ?_
    | with_reducible refine wb_sub ?_
    | with_reducible refine wb_mul (by first | assumption | omega) ?_
    | with_reducible refine wb_mod (by first | assumption | omega) ?_
    | with_reducible refine wb_fdiv (by first | assumption | omega) ?_
    | with_reducible refine wc_lt ?_
    | with_reducible refine wc_le ?_
    | with_reducible refine wc_gt ?_
    | with_reducible refine wc_ge ?_
    | with_reducible refine wn_t ?_
    | refine wn_l (by assumption) ?_
    | refine wi_l (by first | assumption | exact List.getElem?_set_self (by assumption)) (by rfl) ?_
    | refine wx_l (by first | assumption | exact List.getElem?_set_self (by assumption)) (by rfl) ?_))
namespace H
def shuffle : Fn := ⟨2, 4, .cons (.set 2 (.lst (.nil))) (.cons (.loop (.nm 3) (.val (.var 1)) (.cons (.ex (.mt .insert (.var 2) (.cons (.call "_law_draw" (.cons (.var 0) (.cons (.bin .add (.bi .len (.cons (.var 2) (.nil))) (.int 1)) (.nil)))) (.cons (.var 3) (.nil))))) (.nil))) (.cons (.ret (.var 2)) (.nil)))⟩
end H
theorem insAt_perm {α : Type} (xs : List α) (i : Nat) (x : α) : (insAt xs i x).Perm (x :: xs) := by
  unfold insAt
  have := List.perm_middle (a := x) (l₁ := xs.take i) (l₂ := xs.drop i)
  rwa [List.take_append_drop] at this
section
variable {P : Prog} {F d r n : Nat} {st : Store} {m : Int} {xs : List Val} {Q : Val → Store → Prop}
theorem shuffle_call (hP : P.fns.lookup ("_law_draw" : Str) = some H.draw) (hP5 : P.fns.lookup ("_law_shuffle" : Str) = some H.shuffle) (hr : Rng st r m) (hm : m + xs.length < 2 ^ 40) (hn : st[n]? = some (.lst xs)) (hnr : n ≠ r) (hl : xs.length ≤ 1000000)
    (q : ∀ l s ys, ys.Perm xs → Keeps [r] st s → Rng s r (m + xs.length) → st.length ≤ l → s[l]? = some (.lst ys) → Q (.ref l) s) : Ok (callN P F (d + 2) "_law_shuffle" [.ref r, .ref n] st) Q := by
  refine ok_call hP5 rfl ?_
  unfold H.shuffle
  have hrl := hr.lt
  have hnl := (List.getElem?_eq_some_iff.mp hn).1
  refine ws_cons (ws_set (we_lst (wes_nil ⟨Nat.zero_le _, seq_nx ?_⟩)))
  refine ws_cons (ws_loop (wt_val (we_var rfl (wt_l (lift1 hn) ⟨fun rest env s => ∃ (x : Option Val) (ys done vs : List Val), env = [some (.ref r), some (.ref n), some (.ref st.length), x] ∧ rest = vs.map .one ∧ done ++ vs = xs ∧ ys.Perm done ∧ Keeps [r] st s ∧ Rng s r (m + done.length) ∧ s[st.length]? = some (.lst ys) ∧ s[n]? = some (.lst xs), ?_, ?_, ?_, ?_⟩))))
  · exact ⟨none, [], [], xs, rfl, rfl, rfl, .refl _, .app, (hr.app).mono (by simp), at_end, lift1 hn⟩
  · rintro rest env s ⟨x, ys, done, vs, _, _, _, _, _, _, _, h⟩ p hp
    rcases List.mem_cons.mp hp with rfl | hp
    · exact h
    · cases hp
  · rintro w rest env s ⟨x, ys, done, vs, rfl, h1, h2, h3, h4, h5, h6, h7⟩
    cases vs with
    | nil => cases h1
    | cons y vs =>
      injection h1 with ha hb
      subst ha
      have hlen : done.length + 1 + vs.length = xs.length := by rw [← h2]; simp; omega
      have hyl := h3.length_eq
      show OkS (execs _ F _ [some (.ref r), some (.ref n), some (.ref st.length), some y] s) _
      refine ws_cons (ws_ex (we_mtL (.inr (.inl rfl)) (we_var rfl ⟨st.length, ys, rfl, h6, ?_⟩)))
      refine wes_cons (we_call (wes_cons (we_var rfl (wes_cons (we_bin (we_bi (wes_cons (we_var rfl (wes_nil (wn_l h6 (we_int (wb_add (wes_nil ⟨rfl, ?_⟩)))))))))))))
      refine draw_call hP h5 (by omega) (by omega) (by omega) fun k o hk1 hk2 hr3 => ?_
      have hne : st.length ≠ r := by omega
      have h6' : (s.set r o)[st.length]? = some (.lst ys) := (List.getElem?_set_ne (Ne.symm hne)).trans h6
      refine wes_cons (we_var rfl (wes_nil ?_))
      refine wm_insert h6' (by omega) ⟨hk1, by omega⟩ (seq_nx (ws_nil ?_))
      refine ⟨some y, _, done ++ [y], vs, rfl, hb, by simpa using h2, (insAt_perm ys k.toNat y).trans ?_, (h4.trans (.put (List.mem_singleton_self r))).own (Nat.le_refl _), (hr3.other hne).mono (by simp; omega), List.getElem?_set_self (List.getElem?_eq_some_iff.mp h6').1, ?_⟩
      · exact (List.Perm.cons y h3).trans (List.perm_append_singleton y done).symm
      · exact (List.getElem?_set_ne (by omega)).trans ((List.getElem?_set_ne (Ne.symm hnr)).trans h7)
  · rintro env s ⟨x, ys, done, vs, rfl, h1, h2, h3, h4, h5, h6, h7⟩
    cases vs with
    | cons y vs => cases h1
    | nil =>
      rw [List.append_nil] at h2
      subst h2
      exact seq_nx (ws_cons (ws_ret (we_var rfl (seq_rt (q _ s ys h3 h4 h5 (Nat.le_refl _) h6)))))
end
end MP
set_option Elab.async false
set_option linter.all false
set_option maxRecDepth 100000
set_option maxHeartbeats 1000000
/-! What mutates a value: lists. -/
namespace MP
open PySem (Str PyData sizeLine)
local macro_rules
  | `(tactic| walk_at "m") => `(tactic| repeat (first
    | with_reducible refine ws_cons ?_
    | with_reducible refine ws_nil ?_
    | with_reducible refine seq_nx ?_
    | with_reducible refine seq_rt ?_
    | with_reducible refine ws_set ?_
    | with_reducible refine ws_ret ?_
    | with_reducible refine ws_ex ?_
    | with_reducible refine ws_pass ?_
    | with_reducible refine ws_setix ?_
    | with_reducible refine ws_unp ?_
    | with_reducible refine ws_par ?_
    | with_reducible refine we_int ?_
    | with_reducible refine we_bool ?_
    | with_reducible refine we_none ?_
    | with_reducible refine we_str ?_
    | (refine we_var (by rfl) ?_)
    | with_reducible refine we_bin ?_
    | with_reducible refine we_cmp ?_
    | with_reducible refine we_ix ?_
    | with_reducible refine we_negI ?_
    | with_reducible refine we_call ?_
    | with_reducible refine we_lst ?_
    | with_reducible refine we_tup ?_
    | refine And.intro (len_ok (Nat.le_of_ble_eq_true rfl)) ?_
    | with_reducible refine we_bi ?_
    | with_reducible refine we_isi ?_
    | with_reducible refine wes_nil ?_
    | with_reducible refine wes_cons ?_
    | with_reducible refine wb_add ?_
    | with_reducible refine wb_sub ?_
    | with_reducible refine wb_mul (by first | assumption | omega) ?_
    | with_reducible refine wb_mod (by first | assumption | omega) ?_
    | with_reducible refine wb_fdiv (by first | assumption | omega) ?_
    | with_reducible refine wc_lt ?_
    | with_reducible refine wc_le ?_
    | with_reducible refine wc_gt ?_
    | with_reducible refine wc_ge ?_
    | with_reducible refine wn_t ?_
    | refine wn_l (by assumption) ?_
    | refine wi_l (by first | assumption | exact List.getElem?_set_self (by assumption)) (by rfl) ?_
    | refine wx_l (by first | assumption | exact List.getElem?_set_self (by assumption)) (by rfl) ?_))
namespace H
def box : Fn := ⟨2, 3, .cons (.set 2 (.ite (.cmp .lt (.var 1) (.bi .len (.cons (.var 0) (.nil)))) (.ix (.var 0) (.var 1)) (.int 0))) (.cons (.ret (.lst (.cons (.bin .mul (.bi .abs (.cons (.var 2) (.nil))) (.bi .int (.cons (.cmp .ge (.bi .abs (.cons (.var 2) (.nil))) (.bin .pow (.int 10) (.int 18))) (.nil)))) (.cons (.bin .add (.bin .add (.bin .mod (.var 2) (.int 2147483587)) (.bin .mul (.int 7907) (.var 1))) (.int 31)) (.cons (.int 0) (.nil)))))) (.nil))⟩
def integer : Fn := ⟨1, 1, .cons (.ret (.and (.isi (.var 0) [.int]) (.not (.isi (.var 0) [.bool])))) (.nil)⟩
end H
theorem ifb (b : Bool) : 0 ≤ (if b = true then (1 : Int) else 0) ∧ (if b = true then (1 : Int) else 0) ≤ 1 := by cases b <;> decide
section
variable {P : Prog} {F d r : Nat} {st : Store} {X : List Nat} {Q : Val → Store → Prop}
theorem box_call (hP : P.fns.lookup ("_law_box" : Str) = some H.box) {ns : List Int} {k : Int} (h0 : 0 ≤ k) (hk : k < 64)
    (q : ∀ s, (∀ t, s = st ++ [t] → True) → Keeps [] st s → s.length = st.length + 1 → Rng s st.length 0 → Q (.ref st.length) s) : Ok (callN P F (d + 1) "_law_box" [.frz (ns.map .int), .int k] st) Q := by
  refine ok_call hP rfl ?_
  unfold H.box
  have main : ∀ c : Int, OkS (execs ⟨callN P F d, P.glob⟩ F (.cons (.ret (.lst (.cons (.bin .mul (.bi .abs (.cons (.var 2) (.nil))) (.bi .int (.cons (.cmp .ge (.bi .abs (.cons (.var 2) (.nil))) (.bin .pow (.int 10) (.int 18))) (.nil)))) (.cons (.bin .add (.bin .add (.bin .mod (.var 2) (.int 2147483587)) (.bin .mul (.int 7907) (.var 1))) (.int 31)) (.cons (.int 0) (.nil)))))) (.nil)) [some (.frz (ns.map .int)), some (.int k), some (.int c)] st) fun fl _ s' => match fl with
      | .nx => Q .none s'
      | .rt v => Q v s'
      | .br => False
      | .ct => False := by
    intro c
    have hm1 := Int.emod_nonneg c (by decide : (2147483587 : Int) ≠ 0)
    have hm2 := Int.emod_lt_of_pos c (by decide : (0 : Int) < 2147483587)
    refine ws_cons (ws_ret (we_lst (wes_cons (we_bin (we_bi (wes_cons (we_var rfl (wes_nil (wa_abs ?_)))))))))
    refine we_bi (wes_cons (we_cmp (we_bi (wes_cons (we_var rfl (wes_nil (wa_abs (we_bin (we_int (we_int (wb_pow (by decide) (wc_ge (wes_nil (wa_intb ?_)))))))))))))) 
    refine wb_mul (.inr ⟨Int.lt_of_lt_of_le (by decide) (ifb _).1, Int.lt_of_le_of_lt (ifb _).2 (by decide)⟩) ?_
    refine wes_cons (we_bin (we_bin (we_bin (we_var rfl (we_int (wb_mod (by decide) (we_bin (we_int (we_var rfl (wb_mul (.inl (by decide)) (wb_add (we_int (wb_add ?_)))))))))))))
    refine wes_cons (we_int (wes_nil ⟨len_ok (Nat.le_of_ble_eq_true rfl), seq_rt ?_⟩))
    refine q _ (fun _ _ => trivial) .app (by simp) ⟨_, _, _, at_end, ?_, by omega, by omega, Int.le_refl _, Int.le_refl _⟩
    refine Int.mul_nonneg ?_ ?_
    · split <;> omega
    · exact (ifb _).1
  refine ws_cons (ws_set (we_ite (we_cmp (we_var rfl (we_bi (wes_cons (we_var rfl (wes_nil (wn_f (wc_lt ⟨_, rfl, fun e => ?_, fun _ => we_int (seq_nx (main 0))⟩)))))))))) 
  have e := of_decide_eq_true e
  obtain ⟨x, hx, hm⟩ := atV_in h0 e
  obtain ⟨c, _, rfl⟩ := List.mem_map.mp hm
  exact we_ix (we_var rfl (we_var rfl (wi_f hx (seq_nx (main c)))))
theorem integer_body {C : Cfg} {s : Store} {v : Val} {dt : PyData} {S : Fl → En → Store → Prop} (hv : Rep X s v dt) (q : S (.rt (.bool (isD [.int] dt && !isD [.bool] dt))) [some v] s) : OkS (execs C F H.integer.body [some v] s) S := by
  unfold H.integer
  refine ws_cons (ws_ret (we_and (we_isi (we_var rfl (wk_isi hv ⟨_, rfl, fun e => ?_, fun e => ?_⟩)))))
  · refine we_not (we_isi (we_var rfl (wk_isi hv ⟨_, rfl, seq_rt ?_⟩)))
    rw [e] at q; exact q
  · rw [e] at q; exact seq_rt q
end
end MP
set_option Elab.async false
set_option linter.all false
set_option maxRecDepth 100000
set_option maxHeartbeats 4000000
/-! From a check over plain data to the law. -/
namespace VE
open MP (Val Ob Store E Es Oe It Rg S Ss Tg Op Cmp Ty Bi Mt Fn Prog Fl En Keeps Ok OkS M Res RS evalE evalEs evalOe evalIt evalRg exec execs Rng)
open PySem (Str PyData sizeLine)
def lawBody (m K : Int) : Ss := .cons (.set 1 (.lc (.nm 2) (.rng (.one (.bin .add (.int 1) (.bi .min (.cons (.int m) (.cons (.bi .len (.cons (.var 0) (.nil))) (.nil))))))) (.none) (.call "_law_box" (.cons (.var 0) (.cons (.var 2) (.nil)))) [2])) (.cons (.ret (.bi .all (.cons (.lc (.nm 3) (.val (.bin .mul (.var 1) (.int K))) (.none) (.call "_law_check" (.cons (.var 3) (.nil))) [3]) (.nil)))) (.nil))
def RnOk (ρ : Rn) (m : Int) : Prop := 0 ≤ ρ.a ∧ 0 ≤ ρ.b ∧ ρ.b < 2 ^ 40 ∧ 0 ≤ ρ.c ∧ ρ.c ≤ m
theorem rng_at {s : Store} {r : Nat} {m : Int} (h : Rng s r m) : ∃ ρ, RngAt s r ρ ∧ RnOk ρ m := by
  obtain ⟨a, b, c, h1, h2, h3, h4, h5, h6⟩ := h
  exact ⟨⟨a, b, c⟩, ⟨h1, h2, h3, h4, h5⟩, h2, h3, h4, h5, h6⟩
theorem rng_of {s : Store} {r : Nat} {m : Int} {ρ : Rn} (h : RngAt s r ρ) (hm : ρ.c ≤ m) : Rng s r m := ⟨ρ.a, ρ.b, ρ.c, h.1, h.2.1, h.2.2.1, h.2.2.2.1, h.2.2.2.2, hm⟩
/-- a check that takes the drawing list alone -/
def CheckOk (VP : VProg) (F d : Nat) (f : Str) (N : Int) : Prop := ∀ ρ : Rn, RnOk ρ (2 ^ 38) → ∃ ρ' b, vcallN VP F d f [.rng] ρ = .ok (.bool true, b) ρ' ∧ ρ'.c ≤ ρ.c + N
section
variable {P : Prog} {VP : VProg} {F d : Nat} {N : Int}
theorem check_call (hf : VP.fns = P.fns) (hG : GlobOk P.glob VP.glob) (hd : P.fns.lookup drawS = some MP.H.draw) {f : Str} (hk : CheckOk VP F d f N) {s : Store} {r : Nat} {m : Int} (hr : Rng s r m) (hm : m ≤ 2 ^ 38) {Q : Val → Store → Prop}
    (q : ∀ s', Keeps [r] s s' → Rng s' r (m + N) → Q (.bool true) s') : Ok (MP.callN P F d f [.ref r] s) Q := by
  obtain ⟨ρ, h1, h2⟩ := rng_at hr
  obtain ⟨ρ', b, h3, h4⟩ := hk ρ ⟨h2.1, h2.2.1, h2.2.2.1, h2.2.2.2.1, by have := h2.2.2.2.2; omega⟩
  have hs := simCall hf hG hd F d f [.rng] [.ref r] [r] r s.length s ρ (.cons .rng .nil) ⟨List.mem_singleton_self r, fun n hn => by rw [List.mem_singleton] at hn; subst hn; exact lt_of_at h1.1, lt_of_at h1.1, Nat.le_refl _, h1⟩
  rw [h3] at hs
  refine Ok.mono hs ?_
  rintro v s' ⟨a1, a2, a3, _⟩
  cases a3
  exact q s' a1 (rng_of a2 (by have := h2.2.2.2.2; omega))
theorem mem_reps {α : Type} {xs : List α} {k : Nat} {x : α} (h : x ∈ (List.replicate k xs).flatten) : x ∈ xs := by
  rw [List.mem_flatten] at h
  obtain ⟨l, h1, h2⟩ := h
  rw [List.mem_replicate] at h1
  rw [← h1.2]; exact h2
theorem law_top (hf : VP.fns = P.fns) (hG : GlobOk P.glob VP.glob) (hd : P.fns.lookup drawS = some MP.H.draw) (hb : P.fns.lookup ("_law_box" : Str) = some MP.H.box) {m K : Int} (hm : 0 ≤ m ∧ m ≤ 20) (hK : 0 ≤ K ∧ K ≤ 20)
    (hl : P.fns.lookup ("law" : Str) = some ⟨1, 4, lawBody m K⟩) (hk : CheckOk VP F (d + 1) "_law_check" N) (hN : 0 ≤ N ∧ N ≤ 2 ^ 29) (ns : List Int) (hns : ns.length ≤ 63) :
    ∃ st, MP.callN P F (d + 2) "law" [.frz (ns.map .int)] [] = .ok (.bool true) st := by
  have main : Ok (MP.callN P F (d + 2) "law" [.frz (ns.map .int)] []) (fun v _ => v = .bool true) := by
    refine MP.ok_call hl rfl ?_
    unfold lawBody
    have hlen : (ns.map Val.int).length = ns.length := List.length_map ..
    let n : Nat := (1 + (if ns.length < m then (ns.length : Int) else m)).toNat
    have hn : ((n : Nat) : Int) = 1 + (if ns.length < m then (ns.length : Int) else m) := by
      show (((1 + (if ns.length < m then (ns.length : Int) else m)).toNat : Nat) : Int) = _
      have : 0 ≤ 1 + (if (ns.length : Int) < m then (ns.length : Int) else m) := by split <;> omega
      omega
    have hn2 : n ≤ 21 := by
      have : 1 + (if (ns.length : Int) < m then (ns.length : Int) else m) ≤ 21 := by split <;> omega
      omega
    refine (MP.ws_cons (MP.ws_set (MP.we_lc (MP.wt_rng (MP.we_bin (MP.we_int (MP.we_bi (MP.wes_cons (MP.we_int (MP.wes_cons (MP.we_bi (MP.wes_cons (MP.we_var rfl (MP.wes_nil (MP.wn_f (MP.wes_nil (MP.wa_min (MP.wb_add ⟨n, ?_, ?_, ?_, ?_⟩))))))))))))))))))
    · rw [hlen, hn]
    · omega
    · simp; rw [PySem.sizeLine_eq]; omega
    refine ⟨fun rest ys s => ∃ j, j ≤ n ∧ rest = ((List.range' j (n - j)).map fun (i : Nat) => Val.int (i : Int)).map .one ∧ ys = (List.range j).map .ref ∧ s.length = j ∧ ∀ i, i < j → Rng s i 0, ?_, ?_, ?_, ?_⟩
    · refine ⟨0, Nat.zero_le _, ?_, rfl, rfl, fun i hi => absurd hi (by omega)⟩
      rw [List.range_eq_range']; rfl
    · intro r ys s _ p hp; cases hp
    · rintro x rest ys s ⟨j, hj, h1, rfl, h3, h4⟩
      have hjn : j < n := by
        rcases Nat.lt_or_ge j n with h | h
        · exact h
        · have : n - j = 0 := by omega
          rw [this] at h1; cases h1
      obtain ⟨k, hk⟩ : ∃ k, n - j = k + 1 := ⟨n - j - 1, by omega⟩
      rw [hk, List.range'_succ] at h1
      injection h1 with h1 h2
      subst h1
      show Ok (evalE _ (.call "_law_box" (.cons (.var 0) (.cons (.var 2) .nil))) [some (.frz (ns.map .int)), none, some (.int (j : Int)), none] s) _
      refine MP.we_call (MP.wes_cons (MP.we_var rfl (MP.wes_cons (MP.we_var rfl (MP.wes_nil ⟨rfl, ?_⟩)))))
      refine MP.box_call hb (by omega) (by omega) fun s' _ k1 k2 k3 => ?_
      refine ⟨j + 1, hjn, ?_, ?_, by omega, fun i hi => ?_⟩
      · have : n - (j + 1) = k := by omega
        rw [this]; exact h2
      · rw [List.range_succ, List.map_append, h3]; rfl
      · rcases Nat.lt_succ_iff_lt_or_eq.mp hi with h | h
        · exact (h4 i h).of (k1.2 i (by omega) (by simp))
        · subst h; rw [← h3]; exact k3
    · rintro zs s ⟨j, hj, h1, rfl, h3, h4⟩
      have hjn : j = n := by
        rcases Nat.lt_or_ge j n with h | h
        · obtain ⟨k, hk⟩ : ∃ k, n - j = k + 1 := ⟨n - j - 1, by omega⟩
          rw [hk, List.range'_succ] at h1; cases h1
        · omega
      refine (MP.seq_nx (MP.ws_cons (MP.ws_ret (MP.we_bi (MP.wes_cons (MP.we_lc (MP.wt_val (MP.we_bin (MP.we_var rfl (MP.we_int (MP.wb_mulL (n := s.length) MP.at_end (by omega) (by simp; omega) (MP.wt_l MP.at_end ⟨?_, ?_⟩))))))))))))
      · have : ∀ (k : Nat) (xs : List Val), (MP.reps xs (k : Int)).length = k * xs.length := by
          intro k xs; unfold MP.reps; simp
        obtain ⟨k, rfl⟩ : ∃ k : Nat, K = k := ⟨K.toNat, by omega⟩
        rw [List.length_map, this]
        simp
        rw [PySem.sizeLine_eq]
        have : k * j ≤ 20 * 21 := Nat.mul_le_mul (by omega) (hjn ▸ hn2)
        omega
      · let bl : List Val := MP.reps ((List.range j).map .ref) K
        have hbl : bl.length ≤ 420 := by
          have : ∀ (k : Nat) (xs : List Val), (MP.reps xs (k : Int)).length = k * xs.length := by
            intro k xs; unfold MP.reps; simp
          obtain ⟨k, rfl⟩ : ∃ k : Nat, K = k := ⟨K.toNat, by omega⟩
          show (MP.reps _ _).length ≤ _
          rw [this]
          simp
          exact Nat.mul_le_mul (by omega : k ≤ 20) (hjn ▸ hn2)
        have hmem : ∀ x ∈ bl, ∃ i, i < j ∧ x = .ref i := by
          intro x hx
          have := mem_reps hx
          obtain ⟨i, h1, rfl⟩ := List.mem_map.mp this
          exact ⟨i, List.mem_range.mp h1, rfl⟩
        refine ⟨fun rest ys s' => ∃ done : Nat, ∃ vs : List Val, rest = vs.map .one ∧ (∀ x ∈ vs, x ∈ bl) ∧ done + vs.length = bl.length ∧ ys = (List.replicate done true).map .bool ∧ (∀ i, i < j → Rng s' i (done * N)) ∧ s'[s.length + 1]? = some (.lst bl), ?_, ?_, ?_, ?_⟩
        · refine ⟨0, bl, rfl, fun x h => h, by omega, rfl, fun i hi => ?_, ?_⟩
          · have := ((h4 i hi).app (t := [Ob.lst ((List.range j).map .ref)])).app (t := [Ob.lst bl])
            exact this.mono (by simp)
          · have : (s ++ [Ob.lst ((List.range j).map Val.ref)]).length = s.length + 1 := by simp
            rw [← this]; exact MP.at_end
        · rintro rest ys s' ⟨done, vs, _, _, _, _, _, h⟩ p hp
          rw [List.mem_singleton] at hp
          subst hp
          have : (s ++ [Ob.lst ((List.range j).map Val.ref)]).length = s.length + 1 := by simp
          simp only [this]
          exact h
        · rintro x rest ys s' ⟨done, vs, h5, h6, h7, rfl, h8, h9⟩
          cases vs with
          | nil => cases h5
          | cons v vs =>
            injection h5 with ha hb'
            subst ha
            obtain ⟨i, hi, rfl⟩ := hmem v (h6 v (List.mem_cons_self ..))
            show Ok (evalE _ (.call "_law_check" (.cons (.var 3) .nil)) [some (.frz (ns.map .int)), some (.ref s.length), none, some (.ref i)] s') _
            refine MP.we_call (MP.wes_cons (MP.we_var rfl (MP.wes_nil ⟨rfl, ?_⟩)))
            have hdN : (done : Int) * N ≤ 420 * 2 ^ 29 := by
              simp only [List.length_cons] at h7
              refine Int.mul_le_mul (by omega) hN.2 hN.1 (by omega)
            refine check_call (d := d + 1) hf hG hd hk (h8 i hi) (by omega) fun s2 k2 r2 => ?_
            have e1 : ((done + 1 : Nat) : Int) * N = done * N + N := by rw [Int.natCast_succ, Int.add_mul, Int.one_mul]
            refine ⟨done + 1, vs, hb', fun x hx => h6 x (List.mem_cons_of_mem _ hx), by simp only [List.length_cons] at h7; omega, by rw [List.replicate_succ', List.map_append]; rfl, fun k hk => ?_, ?_⟩
            · rw [e1]
              by_cases hki : k = i
              · subst hki; exact r2
              · exact ((h8 k hk).of (k2.2 k (h8 k hk).lt (by simpa using hki))).mono (by omega)
            · exact (k2.2 _ (lt_of_at h9) (by simp; omega)).trans h9
        · rintro zs s' ⟨done, vs, h5, h6, h7, rfl, h8, h9⟩
          refine MP.wes_nil (MP.wa_all (bs := List.replicate done true) MP.at_end (MP.seq_rt ?_))
          show Val.bool _ = _
          simp
  obtain ⟨v, st, h1, h2⟩ := Ok.get main
  exact ⟨st, by rw [h1, h2]⟩
end
end VE
set_option Elab.async false
set_option linter.all false
set_option maxRecDepth 100000
/-! What a run over plain data ends with: a rule for each construct. -/
namespace VE
namespace Z
open MP (Val E Es Oe It Rg S Ss Tg Op Cmp Ty Bi Mt Fn)
open PySem (Str PyData sizeLine)
def VOk0 {α : Type} (r : VR α) (Q : α → Rn → Prop) : Prop := match r with
  | .ok a ρ => Q a ρ
  | .bad => False
def VOkS0 (r : VRS) (Q : VFl → VEn → Rn → Prop) : Prop := match r with
  | .ok f e ρ => Q f e ρ
  | .bad => False
section
variable {α β : Type} {Q : α → Rn → Prop} {R : β → Rn → Prop} {T : VFl → VEn → Rn → Prop} {ρ : Rn}
theorem VOk0.mono {r : VR α} {Q' : α → Rn → Prop} (h : VOk0 r Q) (w : ∀ a ρ, Q a ρ → Q' a ρ) : VOk0 r Q' := by
  cases r with
  | ok a ρ => exact w _ _ h
  | bad => exact h
theorem VOkS0.mono {r : VRS} {Q' : VFl → VEn → Rn → Prop} (h : VOkS0 r T) (w : ∀ f e ρ, T f e ρ → Q' f e ρ) : VOkS0 r Q' := by
  cases r with
  | ok f e ρ => exact w _ _ _ h
  | bad => exact h
theorem VOk0.get {r : VR α} (h : VOk0 r Q) : ∃ a ρ, r = .ok a ρ ∧ Q a ρ := by
  cases r with
  | ok a ρ => exact ⟨a, ρ, rfl, h⟩
  | bad => exact h.elim
theorem vok_bind {m : VM α} {f : α → VM β} : VOk0 ((m >>= f) ρ) R = VOk0 (m ρ) fun a ρ' => VOk0 (f a ρ') R := by
  rw [vbind_eq]
  cases m ρ <;> rfl
theorem vok_pure {a : α} : VOk0 ((pure a : VM α) ρ) Q = Q a ρ := rfl
theorem vok_need {b : Bool} {m : VM α} : VOk0 (vneed b m ρ) Q = (b = true ∧ VOk0 (m ρ) Q) := by
  cases b <;> simp [vneed, VOk0]
theorem vok_opt {o : Option β} {f : β → VM α} : VOk0 (vopt o f ρ) Q = ∃ a, o = some a ∧ VOk0 (f a ρ) Q := by
  cases o <;> simp [vopt, VOk0, vbad]
theorem vok_from {r : VR α} {k : α → Rn → VRS} : VOkS0 (VRS.from r k) T = VOk0 r fun a ρ => VOkS0 (k a ρ) T := by cases r <;> rfl
theorem vok_sopt {o : Option α} {k : α → VRS} : VOkS0 (VRS.opt o k) T = ∃ a, o = some a ∧ VOkS0 (k a) T := by
  cases o <;> simp [VRS.opt, VOkS0]
theorem vok_then {r : VRS} {k : VEn → Rn → VRS} : VOkS0 (r.then k) T = VOkS0 r fun f e ρ => match f with
    | .nx => VOkS0 (k e ρ) T
    | .br => T .br e ρ
    | .ct => T .ct e ρ
    | .rt v => T (.rt v) e ρ := by
  cases r with
  | ok f e s => cases f <;> rfl
  | bad => rfl
theorem vok_turn {r : VRS} {k : VEn → Rn → VRS} : VOkS0 (r.turn k) T = VOkS0 r fun f e ρ => match f with
    | .nx => VOkS0 (k e ρ) T
    | .br => T .nx e ρ
    | .ct => VOkS0 (k e ρ) T
    | .rt v => T (.rt v) e ρ := by
  cases r with
  | ok f e s => cases f <;> rfl
  | bad => rfl
theorem vonB_ok {v : PyData} {f : Bool → VM α} : VOk0 (vonB v f ρ) Q = ∃ b, v = .bool b ∧ VOk0 (f b ρ) Q := by
  cases v <;> simp [vonB, VOk0, vbad]
end
section
variable {C : VCfg} {F : Nat} {env : VEn} {ρ : Rn} {Q : VV → Rn → Prop} {T : VFl → VEn → Rn → Prop}
/-! ### calls -/
theorem v_call {P : VProg} {d : Nat} {f : Str} {fd : Fn} {as : List Ar} (h : P.fns.lookup f = some fd) (hf : f ≠ drawS) (hl : as.length = fd.np)
    (hb : VOkS0 (veSs ⟨vcallN P F d, P.glob⟩ F fd.body (as.map arSl ++ List.replicate (fd.ns - fd.np) .none) ρ) fun fl _ ρ' => match fl with
      | .nx => Q (.none, false) ρ'
      | .rt v => Q v ρ'
      | .br => False
      | .ct => False) : VOk0 (vcallN P F (d + 1) f as ρ) Q := by
  have e : vcallN P F (d + 1) f as = vrunFn ⟨vcallN P F d, P.glob⟩ F fd as := by
    show (if f = drawS then _ else _) = _
    rw [if_neg hf, h]
  rw [e]
  unfold vrunFn
  rw [if_pos hl]
  cases e2 : veSs ⟨vcallN P F d, P.glob⟩ F fd.body (as.map arSl ++ List.replicate (fd.ns - fd.np) .none) ρ with
  | bad => rw [e2] at hb; exact hb
  | ok fl en s' =>
    rw [e2] at hb
    cases fl <;> exact hb
theorem v_draw {P : VProg} {d : Nat} {n m : Int} (h : RnOk ρ m) (hm : m < 2 ^ 40) (h0 : 0 < n) (hn : n < 2 ^ 30)
    (q : ∀ (k : Int) (ρ' : Rn), 0 ≤ k → k < n → RnOk ρ' (m + 1) → Q (.int k, false) ρ') : VOk0 (vcallN P F (d + 1) "_law_draw" [.rng, .d (.int n)] ρ) Q := by
  show VOk0 (vcallN P F (d + 1) drawS [.rng, .d (.int n)] ρ) Q
  rw [vcall_draw]
  show VOk0 (if 0 < n ∧ n < 2 ^ 30 ∧ ρ.c < 2 ^ 40 then VR.ok ((PyData.int (drawR ρ n).1, false) : VV) (drawR ρ n).2 else VR.bad) Q
  have hc := h.2.2.2.2
  rw [if_pos ⟨h0, hn, by omega⟩]
  obtain ⟨a, b, c, e⟩ := drawR_ok (ρ := ρ) ⟨h.1, h.2.1, h.2.2.1, h.2.2.2.1⟩ h0
  exact q _ _ a b ⟨c.1, c.2.1, c.2.2.1, c.2.2.2, by omega⟩
/-! ### statements -/
def VSeq (C : VCfg) (F : Nat) (r : Ss) (T : VFl → VEn → Rn → Prop) : VFl → VEn → Rn → Prop := fun f e s => match f with
  | .nx => VOkS0 (veSs C F r e s) T
  | .br => T .br e s
  | .ct => T .ct e s
  | .rt v => T (.rt v) e s
theorem vs_nx {r : Ss} (h : VOkS0 (veSs C F r env ρ) T) : VSeq C F r T .nx env ρ := h
theorem vs_rt {r : Ss} {v : VV} (h : T (.rt v) env ρ) : VSeq C F r T (.rt v) env ρ := h
theorem vs_nil (h : T .nx env ρ) : VOkS0 (veSs C F .nil env ρ) T := h
theorem vs_cons {x : MP.S} {r : Ss} (h : VOkS0 (veS C F x env ρ) (VSeq C F r T)) : VOkS0 (veSs C F (.cons x r) env ρ) T := by
  show VOkS0 ((veS C F x env ρ).then fun env st => veSs C F r env st) T
  rw [vok_then]
  exact h.mono fun f e s' h => by cases f <;> exact h
theorem vs_setF {i : Nat} {e : E} (h : VOk0 (veE C e (frz env (mvE e)) ρ) fun v ρ' => T .nx ((frz env (mvE e)).set i (slOf v)) ρ') : VOkS0 (veS C F (.set i e) env ρ) T := by
  show VOkS0 (VRS.from _ _) T; rw [vok_from]; exact h
theorem vs_set {i : Nat} {e : E} (hf : frz env (mvE e) = env) (h : VOk0 (veE C e env ρ) fun v ρ' => T .nx (env.set i (slOf v)) ρ') : VOkS0 (veS C F (.set i e) env ρ) T := by
  refine vs_setF ?_; rw [hf]; exact h
theorem vs_retV {i : Nat} {d : PyData} (hi : env[i]? = some (.val d)) (hf : frz env [i] = env) (h : T (.rt (d, false)) env ρ) : VOkS0 (veS C F (.ret (.var i)) env ρ) T := by
  show VOkS0 (match env[i]? with
    | some (.own d) => _
    | _ => VRS.from (veE C (.var i) (frz env [i]) ρ) fun v ρ => .ok (.rt v) (frz env [i]) ρ) T
  rw [hf, hi]
  show VOkS0 (VRS.from (veE C (.var i) env ρ) fun v ρ => .ok (.rt v) env ρ) T
  rw [vok_from]
  show VOk0 ((match env[i]? with
    | some (.val d) => (pure (d, false) : VM VV)
    | _ => vbad) ρ) _
  rw [hi]; exact h
theorem vs_retO {i : Nat} {d : PyData} (hi : env[i]? = some (.own d)) (h : T (.rt (d, true)) env ρ) : VOkS0 (veS C F (.ret (.var i)) env ρ) T := by
  show VOkS0 (match env[i]? with
    | some (.own d) => VRS.ok (.rt (d, true)) env ρ
    | _ => _) T
  rw [hi]; exact h
theorem vs_retF {e : E} (hv : varOf e = none) (h : VOk0 (veE C e (frz env (mvE e)) ρ) fun v ρ' => T (.rt v) (frz env (mvE e)) ρ') : VOkS0 (veS C F (.ret e) env ρ) T := by
  have e1 : veS C F (.ret e) env ρ = VRS.from (veE C e (frz env (mvE e)) ρ) fun v ρ => .ok (.rt v) (frz env (mvE e)) ρ := by
    show veRet C e env ρ = _
    unfold veRet
    rw [hv]; rfl
  rw [e1, vok_from]; exact h
theorem vs_ret {e : E} (hv : varOf e = none) (hf : frz env (mvE e) = env) (h : VOk0 (veE C e env ρ) fun v ρ' => T (.rt v) env ρ') : VOkS0 (veS C F (.ret e) env ρ) T := by
  refine vs_retF hv ?_; rw [hf]; exact h
theorem vs_ret0 (h : T (.rt (.none, false)) env ρ) : VOkS0 (veS C F .ret0 env ρ) T := h
theorem vs_pass (h : T .nx env ρ) : VOkS0 (veS C F .pass env ρ) T := h
/-- a statement o.m(..), o an own variable -/
theorem vs_exM {m : Mt} {i : Nat} {es : Es} {d : PyData} (hf : frz env (mvEs es) = env) (hi : env[i]? = some (.own d)) (h : VOk0 (veEs C es env ρ) fun vs ρ' => ∃ d', vmtS m d vs = some d' ∧ T .nx (env.set i (.own d')) ρ') : VOkS0 (veS C F (.ex (.mt m (.var i) es)) env ρ) T := by
  show VOkS0 (match (frz env (mvEs es))[i]? with
      | some (.own d) => VRS.from (veEs C es (frz env (mvEs es)) ρ) fun vs ρ => VRS.opt (vmtS m d vs) fun d' => .ok .nx ((frz env (mvEs es)).set i (.own d')) ρ
      | _ => _) T
  rw [hf, hi]
  show VOkS0 (VRS.from _ _) T
  rw [vok_from]
  exact h.mono fun vs ρ' ⟨d', h1, h2⟩ => by rw [vok_sopt]; exact ⟨d', h1, h2⟩
theorem vs_ifF {c : E} {a b : Ss} (h : VOk0 (veE C c (frz env (mvE c)) ρ) fun v ρ' => ∃ k, v.1 = .bool k ∧ (k = true → VOkS0 (veSs C F a (frz env (mvE c)) ρ') T) ∧ (k = false → VOkS0 (veSs C F b (frz env (mvE c)) ρ') T)) : VOkS0 (veS C F (.ifs c a b) env ρ) T := by
  show VOkS0 (VRS.from _ _) T
  rw [vok_from]
  refine h.mono ?_
  rintro ⟨d, fr⟩ ρ' ⟨k, e, h1, h2⟩
  simp only at e
  subst e
  cases k with
  | true => exact h1 rfl
  | false => exact h2 rfl
theorem vs_if {c : E} {a b : Ss} (hf : frz env (mvE c) = env) (h : VOk0 (veE C c env ρ) fun v ρ' => ∃ k, v.1 = .bool k ∧ (k = true → VOkS0 (veSs C F a env ρ') T) ∧ (k = false → VOkS0 (veSs C F b env ρ') T)) : VOkS0 (veS C F (.ifs c a b) env ρ) T := by
  refine vs_ifF ?_; rw [hf]; exact h
theorem vs_setix {k : Nat} {i v : E} {d : PyData} (hf : frz env (mvE v ++ mvE i) = env) (hk : env[k]? = some (.own d)) (h : VOk0 (veE C v env ρ) fun z ρ1 => VOk0 (veE C i env ρ1) fun y ρ2 => ∃ d', vput d y.1 z.1 = some d' ∧ T .nx (env.set k (.own d')) ρ2) : VOkS0 (veS C F (.setix (.var k) i v) env ρ) T := by
  show VOkS0 (VRS.from (veE C v (frz env (mvE v ++ mvE i)) ρ) fun z ρ => VRS.from (veE C i (frz env (mvE v ++ mvE i)) ρ) fun y ρ => match (frz env (mvE v ++ mvE i))[k]? with
      | some (.own d) => VRS.opt (vput d y.1 z.1) fun d' => .ok .nx ((frz env (mvE v ++ mvE i)).set k (.own d')) ρ
      | _ => .bad) T
  rw [hf, vok_from]
  refine h.mono fun z ρ1 h => ?_
  rw [vok_from]
  refine h.mono fun y ρ2 ⟨d', h1, h2⟩ => ?_
  rw [hk]
  show VOkS0 (VRS.opt _ _) T
  rw [vok_sopt]
  exact ⟨d', h1, h2⟩
theorem vs_unp {ts : List Tg} {e : E} (hf : frz env (mvE e) = env) (h : VOk0 (veE C e env ρ) fun v ρ' => ∃ env', vbindT (.tp ts) v.1 env = some env' ∧ T .nx env' ρ') : VOkS0 (veS C F (.unp ts e) env ρ) T := by
  show VOkS0 (VRS.from (veE C e (frz env (mvE e)) ρ) fun v ρ => VRS.opt (vbindT (.tp ts) v.1 (frz env (mvE e))) fun env' => .ok .nx env' ρ) T
  rw [hf, vok_from]
  refine h.mono fun v ρ' ⟨env', h1, h2⟩ => ?_
  rw [vok_sopt]
  exact ⟨env', h1, h2⟩
theorem vs_parF {is : List Nat} {es : Es} (h : VOk0 (vePar C es (frz env (mvEs es)) ρ) fun vs ρ' => vs.length = is.length ∧ T .nx (vparSet (frz env (mvEs es)) is vs) ρ') : VOkS0 (veS C F (.par is es) env ρ) T := by
  show VOkS0 (VRS.from _ _) T
  rw [vok_from]
  exact h.mono fun vs ρ' ⟨hl, h⟩ => by rw [if_pos hl]; exact h
theorem vs_par {is : List Nat} {es : Es} (hf : frz env (mvEs es) = env) (h : VOk0 (vePar C es env ρ) fun vs ρ' => vs.length = is.length ∧ T .nx (vparSet env is vs) ρ') : VOkS0 (veS C F (.par is es) env ρ) T := by
  refine vs_parF ?_; rw [hf]; exact h
theorem vp_nil {Q : List Sl → Rn → Prop} (q : Q [] ρ) : VOk0 (vePar C .nil env ρ) Q := q
theorem vp_cons {e : E} {es : Es} {Q : List Sl → Rn → Prop} (h : VOk0 (veE C e env ρ) fun v ρ1 => VOk0 (vePar C es env ρ1) fun vs ρ2 => Q (slOf v :: vs) ρ2) : VOk0 (vePar C (.cons e es) env ρ) Q := by
  show VOk0 ((veE C e env >>= fun v => vePar C es env >>= fun vs => pure (slOf v :: vs)) ρ) Q
  simp only [vok_bind]; exact h
theorem vs_aug {i : Nat} {op : Op} {e : E} {x : PyData} (hi : env[i]? = some (.val x)) (h : VOk0 (veE C e env ρ) fun y ρ' => ∃ z, vaug op x y.1 = some z ∧ T .nx (env.set i (.val z)) ρ') : VOkS0 (veS C F (.aug i op e) env ρ) T := by
  show VOkS0 (match env[i]? with
    | some (.val x) => VRS.from (veE C e env ρ) fun y ρ => VRS.opt (vaug op x y.1) fun z => .ok .nx (env.set i (.val z)) ρ
    | _ => .bad) T
  rw [hi]
  show VOkS0 (VRS.from _ _) T
  rw [vok_from]
  exact h.mono fun y ρ' ⟨z, h1, h2⟩ => by rw [vok_sopt]; exact ⟨z, h1, h2⟩
/-! ### expressions -/
theorem ve_var {i : Nat} {d : PyData} (h : env[i]? = some (.val d)) (q : Q (d, false) ρ) : VOk0 (veE C (.var i) env ρ) Q := by
  show VOk0 ((match env[i]? with
    | some (.val d) => pure (d, false)
    | _ => vbad) ρ) Q
  rw [h]; exact q
theorem ve_none (q : Q (.none, false) ρ) : VOk0 (veE C .none env ρ) Q := q
theorem ve_bool {b : Bool} (q : Q (.bool b, false) ρ) : VOk0 (veE C (.bool b) env ρ) Q := q
theorem ve_int {b : Int} (q : Q (.int b, false) ρ) : VOk0 (veE C (.int b) env ρ) Q := q
theorem ve_str {b : Str} (q : Q (.str b, false) ρ) : VOk0 (veE C (.str b) env ρ) Q := q
theorem ve_glob {x : Str} {d : PyData} (h : C.glob x = some d) (q : Q (d, false) ρ) : VOk0 (veE C (.glob x) env ρ) Q := by
  show VOk0 (vopt (C.glob x) old ρ) Q
  rw [h]; exact q
/-- a place that reads -/
theorem rd_own {i : Nat} {d : PyData} {m : VM VV} (h : env[i]? = some (.own d)) (q : Q (d, false) ρ) : VOk0 (rdV env (.var i) m ρ) Q := by
  rw [rdV_own (e := .var i) (d := d) h]; exact q
theorem rd_val {i : Nat} {d : PyData} (h : env[i]? = some (.val d)) (q : Q (d, false) ρ) : VOk0 (rdV env (.var i) (veE C (.var i) env) ρ) Q := by
  rw [rdV_else (fun d' e => by have e : env[i]? = some (.own d') := e; rw [h] at e; cases e)]
  exact ve_var h q
theorem rd_e {e : E} {m : VM VV} (hv : varOf e = none) (h : VOk0 (m ρ) Q) : VOk0 (rdV env e m ρ) Q := by
  rw [rdV_else (fun d' e' => by rw [hv] at e'; cases e')]; exact h
theorem ve_bin {op : Op} {a b : E} (h : VOk0 (rdV env a (veE C a env) ρ) fun x ρ1 => VOk0 (rdV env b (veE C b env) ρ1) fun y ρ2 => VOk0 (vbin op x.1 y.1 ρ2) Q) : VOk0 (veE C (.bin op a b) env ρ) Q := by
  show VOk0 ((rdV env a (veE C a env) >>= fun x => rdV env b (veE C b env) >>= fun y => vbin op x.1 y.1) ρ) Q
  simp only [vok_bind]; exact h
theorem ve_cmp {op : Cmp} {a b : E} (h : VOk0 (rdV env a (veE C a env) ρ) fun x ρ1 => VOk0 (rdV env b (veE C b env) ρ1) fun y ρ2 => VOk0 (vcmp op x.1 y.1 ρ2) Q) : VOk0 (veE C (.cmp op a b) env ρ) Q := by
  show VOk0 ((rdV env a (veE C a env) >>= fun x => rdV env b (veE C b env) >>= fun y => vcmp op x.1 y.1) ρ) Q
  simp only [vok_bind]; exact h
theorem ve_neg {a : E} (h : VOk0 (veE C a env ρ) fun x ρ1 => ∃ i, x.1 = .int i ∧ Q (.int (-i), false) ρ1) : VOk0 (veE C (.neg a) env ρ) Q := by
  show VOk0 ((veE C a env >>= _) ρ) Q
  rw [vok_bind]
  refine h.mono ?_
  rintro ⟨d, fr⟩ ρ1 ⟨i, e, q⟩
  simp only at e; subst e; exact q
theorem ve_not {a : E} (h : VOk0 (veE C a env ρ) fun x ρ1 => ∃ k, x.1 = .bool k ∧ Q (.bool !k, false) ρ1) : VOk0 (veE C (.not a) env ρ) Q := by
  show VOk0 ((veE C a env >>= fun x => vonB x.1 fun b => old (.bool !b)) ρ) Q
  rw [vok_bind]
  refine h.mono ?_
  rintro ⟨d, fr⟩ ρ1 ⟨i, e, q⟩
  simp only at e; subst e; exact q
theorem ve_and {a b : E} (h : VOk0 (veE C a env ρ) fun x ρ1 => ∃ k, x.1 = .bool k ∧ (k = true → VOk0 (veE C b env ρ1) Q) ∧ (k = false → Q (.bool false, false) ρ1)) : VOk0 (veE C (.and a b) env ρ) Q := by
  show VOk0 ((veE C a env >>= _) ρ) Q
  rw [vok_bind]
  refine h.mono ?_
  rintro ⟨d, fr⟩ ρ1 ⟨i, e, q1, q2⟩
  simp only at e; subst e
  cases i with
  | true => exact q1 rfl
  | false => exact q2 rfl
theorem ve_or {a b : E} (h : VOk0 (veE C a env ρ) fun x ρ1 => ∃ k, x.1 = .bool k ∧ (k = false → VOk0 (veE C b env ρ1) Q) ∧ (k = true → Q (.bool true, false) ρ1)) : VOk0 (veE C (.or a b) env ρ) Q := by
  show VOk0 ((veE C a env >>= _) ρ) Q
  rw [vok_bind]
  refine h.mono ?_
  rintro ⟨d, fr⟩ ρ1 ⟨i, e, q1, q2⟩
  simp only at e; subst e
  cases i with
  | true => exact q2 rfl
  | false => exact q1 rfl
theorem ve_ite {c a b : E} (h : VOk0 (veE C c env ρ) fun x ρ1 => ∃ k, x.1 = .bool k ∧ (k = true → VOk0 (veE C a env ρ1) Q) ∧ (k = false → VOk0 (veE C b env ρ1) Q)) : VOk0 (veE C (.ite c a b) env ρ) Q := by
  show VOk0 ((veE C c env >>= _) ρ) Q
  rw [vok_bind]
  refine h.mono ?_
  rintro ⟨d, fr⟩ ρ1 ⟨i, e, q1, q2⟩
  simp only at e; subst e
  cases i with
  | true => exact q1 rfl
  | false => exact q2 rfl
theorem ve_chain {o1 o2 : Cmp} {a b c : E} (h : VOk0 (rdV env a (veE C a env) ρ) fun x ρ1 => VOk0 (rdV env b (veE C b env) ρ1) fun y ρ2 => VOk0 (vcmp o1 x.1 y.1 ρ2) fun u ρ3 => ∃ k, u.1 = .bool k ∧ (k = true → VOk0 (rdV env c (veE C c env) ρ3) fun z ρ4 => VOk0 (vcmp o2 y.1 z.1 ρ4) Q) ∧ (k = false → Q (.bool false, false) ρ3)) : VOk0 (veE C (.chain o1 o2 a b c) env ρ) Q := by
  show VOk0 ((rdV env a (veE C a env) >>= fun x => rdV env b (veE C b env) >>= fun y => vcmp o1 x.1 y.1 >>= fun u => vonB u.1 fun k => match k with
      | true => rdV env c (veE C c env) >>= fun z => vcmp o2 y.1 z.1
      | false => old (.bool false)) ρ) Q
  simp only [vok_bind]
  refine h.mono fun x ρ1 h => h.mono fun y ρ2 h => h.mono ?_
  rintro ⟨d, fr⟩ ρ3 ⟨i, e, q1, q2⟩
  simp only at e; subst e
  cases i with
  | true => have := q1 rfl; show VOk0 ((rdV env c (veE C c env) >>= fun z => vcmp o2 y.1 z.1) ρ3) Q; rw [vok_bind]; exact this
  | false => exact q2 rfl
theorem ve_ix {a b : E} (h : VOk0 (rdV env a (veE C a env) ρ) fun x ρ1 => VOk0 (veE C b env ρ1) fun y ρ2 => VOk0 (vix x.1 y.1 ρ2) Q) : VOk0 (veE C (.ix a b) env ρ) Q := by
  show VOk0 ((rdV env a (veE C a env) >>= fun x => veE C b env >>= fun y => vix x.1 y.1) ρ) Q
  simp only [vok_bind]; exact h
theorem ve_rev {a : E} (h : VOk0 (rdV env a (veE C a env) ρ) fun x ρ1 => VOk0 (vrev x.1 ρ1) Q) : VOk0 (veE C (.rev a) env ρ) Q := by
  show VOk0 ((rdV env a (veE C a env) >>= fun x => vrev x.1) ρ) Q
  simp only [vok_bind]; exact h
theorem ve_sl {a : E} {lo hi : Oe} (h : VOk0 (rdV env a (veE C a env) ρ) fun x ρ1 => VOk0 (veOe C lo env ρ1) fun l ρ2 => ∃ i, partP l = some i ∧ VOk0 (veOe C hi env ρ2) fun u ρ3 => ∃ j, partP u = some j ∧ VOk0 (vsl x.1 i j ρ3) Q) : VOk0 (veE C (.sl a lo hi) env ρ) Q := by
  show VOk0 ((rdV env a (veE C a env) >>= fun x => veOe C lo env >>= fun l => vopt (partP l) fun l => veOe C hi env >>= fun h => vopt (partP h) fun h => vsl x.1 l h) ρ) Q
  simp only [vok_bind, vok_opt]; exact h
theorem vo_none {Q : Option PyData → Rn → Prop} (q : Q Option.none ρ) : VOk0 (veOe C .none env ρ) Q := q
theorem vo_some {e : E} {Q : Option PyData → Rn → Prop} (h : VOk0 (veE C e env ρ) fun v ρ1 => Q (some v.1) ρ1) : VOk0 (veOe C (.some e) env ρ) Q := by
  show VOk0 ((veE C e env >>= fun v => pure (some v.1)) ρ) Q
  rw [vok_bind]; exact h
theorem ve_isi {a : E} {ts : List Ty} (h : VOk0 (rdV env a (veE C a env) ρ) fun x ρ1 => Q (.bool (isD ts x.1), false) ρ1) : VOk0 (veE C (.isi a ts) env ρ) Q := by
  show VOk0 ((rdV env a (veE C a env) >>= fun x => old (.bool (isD ts x.1))) ρ) Q
  rw [vok_bind]; exact h
theorem ve_tup {es : Es} (h : VOk0 (veEs C es env ρ) fun vs ρ1 => vs.length ≤ sizeLine ∧ Q (.tuple vs, false) ρ1) : VOk0 (veE C (.tup es) env ρ) Q := by
  show VOk0 ((veEs C es env >>= fun vs => vneed (MP.szOk vs.length) (old (.tuple vs))) ρ) Q
  rw [vok_bind]
  exact h.mono fun vs s1 ⟨hl, q⟩ => by rw [vok_need]; exact ⟨decide_eq_true hl, q⟩
theorem ve_lst {es : Es} (h : VOk0 (veEs C es env ρ) fun vs ρ1 => vs.length ≤ sizeLine ∧ Q (.list vs, true) ρ1) : VOk0 (veE C (.lst es) env ρ) Q := by
  show VOk0 ((veEs C es env >>= fun vs => vneed (MP.szOk vs.length) (fresh (.list vs))) ρ) Q
  rw [vok_bind]
  exact h.mono fun vs s1 ⟨hl, q⟩ => by rw [vok_need]; exact ⟨decide_eq_true hl, q⟩
theorem ve_dic0 (q : Q (.dict [], true) ρ) : VOk0 (veE C .dic0 env ρ) Q := q
theorem ve_dic1 {k v : E} (h : VOk0 (veE C k env ρ) fun a ρ1 => VOk0 (veE C v env ρ1) fun b ρ2 => kOk a.1 = true ∧ Q (.dict [(a.1, b.1)], true) ρ2) : VOk0 (veE C (.dic1 k v) env ρ) Q := by
  show VOk0 ((veE C k env >>= fun a => veE C v env >>= fun b => vneed (kOk a.1) (fresh (.dict [(a.1, b.1)]))) ρ) Q
  simp only [vok_bind, vok_need]; exact h
theorem vl_nil {Q : List PyData → Rn → Prop} (q : Q [] ρ) : VOk0 (veEs C .nil env ρ) Q := q
theorem vl_cons {e : E} {es : Es} {Q : List PyData → Rn → Prop} (h : VOk0 (veE C e env ρ) fun v ρ1 => VOk0 (veEs C es env ρ1) fun vs ρ2 => Q (v.1 :: vs) ρ2) : VOk0 (veEs C (.cons e es) env ρ) Q := by
  show VOk0 ((veE C e env >>= fun v => veEs C es env >>= fun vs => pure (v.1 :: vs)) ρ) Q
  simp only [vok_bind]; exact h
theorem vr_nil {Q : List PyData → Rn → Prop} (q : Q [] ρ) : VOk0 (veRs C .nil env ρ) Q := q
theorem vr_cons {e : E} {es : Es} {Q : List PyData → Rn → Prop} (h : VOk0 (rdV env e (veE C e env) ρ) fun v ρ1 => VOk0 (veRs C es env ρ1) fun vs ρ2 => Q (v.1 :: vs) ρ2) : VOk0 (veRs C (.cons e es) env ρ) Q := by
  show VOk0 ((rdV env e (veE C e env) >>= fun v => veRs C es env >>= fun vs => pure (v.1 :: vs)) ρ) Q
  simp only [vok_bind]; exact h
theorem va_nil {Q : List Ar → Rn → Prop} (q : Q [] ρ) : VOk0 (veAs C .nil env ρ) Q := q
theorem va_rng {i : Nat} {es : Es} {Q : List Ar → Rn → Prop} (hi : env[i]? = some .rng) (h : VOk0 (veAs C es env ρ) fun vs ρ2 => Q (.rng :: vs) ρ2) : VOk0 (veAs C (.cons (.var i) es) env ρ) Q := by
  show VOk0 ((arOf env (.var i) (veE C (.var i) env) >>= fun v => veAs C es env >>= fun vs => pure (v :: vs)) ρ) Q
  rw [arOf_rng (show (varOf (.var i)).bind (env[·]?) = some .rng from hi)]
  simp only [vok_bind, vok_pure]; exact h
theorem va_var {i : Nat} {d : PyData} {es : Es} {Q : List Ar → Rn → Prop} (hi : env[i]? = some (.val d)) (h : VOk0 (veAs C es env ρ) fun vs ρ2 => Q (.d d :: vs) ρ2) : VOk0 (veAs C (.cons (.var i) es) env ρ) Q := by
  show VOk0 ((arOf env (.var i) (veE C (.var i) env) >>= fun v => veAs C es env >>= fun vs => pure (v :: vs)) ρ) Q
  rw [arOf_else (show (varOf (.var i)).bind (env[·]?) ≠ some .rng from fun e => by have e : env[i]? = some .rng := e; rw [hi] at e; cases e)]
  simp only [vok_bind, vok_pure]
  exact ve_var hi h
theorem va_e {e : E} {es : Es} {Q : List Ar → Rn → Prop} (hv : varOf e = none) (h : VOk0 (veE C e env ρ) fun v ρ1 => VOk0 (veAs C es env ρ1) fun vs ρ2 => Q (.d v.1 :: vs) ρ2) : VOk0 (veAs C (.cons e es) env ρ) Q := by
  show VOk0 ((arOf env e (veE C e env) >>= fun v => veAs C es env >>= fun vs => pure (v :: vs)) ρ) Q
  rw [arOf_else (fun e' => by rw [hv] at e'; cases e')]
  simp only [vok_bind, vok_pure]; exact h
theorem ve_call {f : Str} {es : Es} (h : VOk0 (veAs C es env ρ) fun vs ρ1 => VOk0 (C.call f vs ρ1) Q) : VOk0 (veE C (.call f es) env ρ) Q := by
  show VOk0 ((veAs C es env >>= fun vs => C.call f vs) ρ) Q
  rw [vok_bind]; exact h
theorem ve_callk {f : Str} {es ks : Es} {sel : List Nat} (h : VOk0 (veAs C es env ρ) fun vs ρ1 => VOk0 (veAs C ks env ρ1) fun ws ρ2 => VOk0 (C.call f (MP.pickL (vs ++ ws) sel) ρ2) Q) : VOk0 (veE C (.callk f es ks sel) env ρ) Q := by
  show VOk0 ((veAs C es env >>= fun vs => veAs C ks env >>= fun ws => C.call f (MP.pickL (vs ++ ws) sel)) ρ) Q
  simp only [vok_bind]; exact h
theorem ve_bi {f : Bi} {es : Es} (h : VOk0 (veRs C es env ρ) fun vs ρ1 => VOk0 (vbi f vs ρ1) Q) : VOk0 (veE C (.bi f es) env ρ) Q := by
  show VOk0 ((veRs C es env >>= fun vs => vbi f vs) ρ) Q
  rw [vok_bind]; exact h
theorem ve_mt {m : Mt} {o : E} {es : Es} (h : VOk0 (rdV env o (veE C o env) ρ) fun x ρ1 => VOk0 (veEs C es env ρ1) fun vs ρ2 => VOk0 (vmtE m x.1 vs ρ2) Q) : VOk0 (veE C (.mt m o es) env ρ) Q := by
  show VOk0 ((rdV env o (veE C o env) >>= fun x => veEs C es env >>= fun vs => vmtE m x.1 vs) ρ) Q
  simp only [vok_bind]; exact h
/-! operations -/
theorem vb_add {i j : Int} (q : Q (.int (i + j), false) ρ) : VOk0 (vbin .add (.int i) (.int j) ρ) Q := q
theorem vb_addT {a b : List PyData} (h : a.length + b.length ≤ sizeLine) (q : Q (.tuple (a ++ b), false) ρ) : VOk0 (vbin .add (.tuple a) (.tuple b) ρ) Q := by
  show VOk0 (vneed _ _ ρ) Q
  rw [vok_need]; exact ⟨decide_eq_true h, q⟩
theorem vb_addL {a b : List PyData} (h : a.length + b.length ≤ sizeLine) (q : Q (.list (a ++ b), true) ρ) : VOk0 (vbin .add (.list a) (.list b) ρ) Q := by
  show VOk0 (vneed _ _ ρ) Q
  rw [vok_need]; exact ⟨decide_eq_true h, q⟩
theorem vb_addS {a b : Str} (h : a.length + b.length ≤ sizeLine) (q : Q (.str (a ++ b), false) ρ) : VOk0 (vbin .add (.str a) (.str b) ρ) Q := by
  show VOk0 (vneed _ _ ρ) Q
  rw [vok_need]; exact ⟨decide_eq_true h, q⟩
theorem vb_sub {i j : Int} (q : Q (.int (i - j), false) ρ) : VOk0 (vbin .sub (.int i) (.int j) ρ) Q := q
theorem vb_mul {i j : Int} (h : (-(2 ^ 64) < i ∧ i < 2 ^ 64) ∨ (-(2 ^ 64) < j ∧ j < 2 ^ 64)) (q : Q (.int (i * j), false) ρ) : VOk0 (vbin .mul (.int i) (.int j) ρ) Q := by
  show VOk0 (vneed _ _ ρ) Q
  rw [vok_need]; exact ⟨decide_eq_true h, q⟩
theorem vb_mulL {a : List PyData} {k : Int} (hk : 0 ≤ k ∧ k ≤ 1000) (h : a.length ≤ 1000) (q : Q (.list (repsP a k), true) ρ) : VOk0 (vbin .mul (.list a) (.int k) ρ) Q := by
  show VOk0 (vneed _ _ ρ) Q
  rw [vok_need, Bool.and_eq_true]
  refine ⟨⟨decide_eq_true (by omega), decide_eq_true ?_⟩, q⟩
  have : a.length * k.toNat ≤ 1000 * 1000 := Nat.mul_le_mul h (by omega)
  rw [PySem.sizeLine_eq]; omega
theorem vb_mod {i j : Int} (h : 0 < j) (q : Q (.int (i % j), false) ρ) : VOk0 (vbin .mod (.int i) (.int j) ρ) Q := by
  show VOk0 (vneed _ _ ρ) Q
  rw [vok_need]; exact ⟨decide_eq_true h, q⟩
theorem vb_fdiv {i j : Int} (h : 0 < j ∧ j < 1073741824) (q : Q (.int (i / j), false) ρ) : VOk0 (vbin .fdiv (.int i) (.int j) ρ) Q := by
  show VOk0 (vneed _ _ ρ) Q
  rw [vok_need]; exact ⟨decide_eq_true h, q⟩
theorem vb_pow {i j : Int} (h : 0 ≤ j ∧ j ≤ 1000000 ∧ i.natAbs < 2 ^ 64) (q : Q (.int (i ^ j.toNat), false) ρ) : VOk0 (vbin .pow (.int i) (.int j) ρ) Q := by
  show VOk0 (vneed _ _ ρ) Q
  rw [vok_need]; exact ⟨decide_eq_true h, q⟩
theorem vc_lt {i j : Int} (q : Q (.bool (decide (i < j)), false) ρ) : VOk0 (vcmp .lt (.int i) (.int j) ρ) Q := q
theorem vc_le {i j : Int} (q : Q (.bool (decide (i ≤ j)), false) ρ) : VOk0 (vcmp .le (.int i) (.int j) ρ) Q := q
theorem vc_gt {i j : Int} (q : Q (.bool (decide (j < i)), false) ρ) : VOk0 (vcmp .gt (.int i) (.int j) ρ) Q := q
theorem vc_ge {i j : Int} (q : Q (.bool (decide (j ≤ i)), false) ρ) : VOk0 (vcmp .ge (.int i) (.int j) ρ) Q := q
theorem eqv_int {i j : Int} : PyData.eqv (.int i) (.int j) = decide (i = j) := rfl
theorem eqv_boolD {i j : Bool} : PyData.eqv (.bool i) (.bool j) = decide (i = j) := by cases i <;> cases j <;> rfl
theorem vc_eqI {i j : Int} (q : Q (.bool (decide (i = j)), false) ρ) : VOk0 (vcmp .eq (.int i) (.int j) ρ) Q := q
theorem vc_neI {i j : Int} (q : Q (.bool (!decide (i = j)), false) ρ) : VOk0 (vcmp .ne (.int i) (.int j) ρ) Q := q
theorem vc_eqB {i j : Bool} (q : Q (.bool (decide (i = j)), false) ρ) : VOk0 (vcmp .eq (.bool i) (.bool j) ρ) Q := by cases i <;> cases j <;> exact q
theorem vc_neB {i j : Bool} (q : Q (.bool (!decide (i = j)), false) ρ) : VOk0 (vcmp .ne (.bool i) (.bool j) ρ) Q := by cases i <;> cases j <;> exact q
theorem vc_eq {x y : PyData} (h1 : shp x = true) (h2 : shp y = true) (q : Q (.bool (PyData.eqv x y), false) ρ) : VOk0 (vcmp .eq x y ρ) Q := by
  show VOk0 (vneed _ _ ρ) Q
  rw [vok_need, h1, h2]; exact ⟨rfl, q⟩
theorem vc_ne {x y : PyData} (h1 : shp x = true) (h2 : shp y = true) (q : Q (.bool (!PyData.eqv x y), false) ρ) : VOk0 (vcmp .ne x y ρ) Q := by
  show VOk0 (vneed _ _ ρ) Q
  rw [vok_need, h1, h2]; exact ⟨rfl, q⟩
def isNone : PyData → Bool
  | .none => true
  | _ => false
theorem vc_is {x : PyData} (q : Q (.bool (isNone x), false) ρ) : VOk0 (vcmp .is x .none ρ) Q := by cases x <;> exact q
theorem vc_isnot {x : PyData} (q : Q (.bool (!isNone x), false) ρ) : VOk0 (vcmp .isnot x .none ρ) Q := by cases x <;> exact q
theorem vx_t {xs : List PyData} {i : Int} {d : PyData} (h : MP.atV xs i = some d) (q : Q (d, false) ρ) : VOk0 (vix (.tuple xs) (.int i) ρ) Q := by
  show VOk0 (vopt _ _ ρ) Q
  rw [vok_opt]; exact ⟨d, h, q⟩
theorem vx_l {xs : List PyData} {i : Int} {d : PyData} (h : MP.atV xs i = some d) (q : Q (d, false) ρ) : VOk0 (vix (.list xs) (.int i) ρ) Q := by
  show VOk0 (vopt _ _ ρ) Q
  rw [vok_opt]; exact ⟨d, h, q⟩
theorem vn_t {xs : List PyData} (q : Q (.int xs.length, false) ρ) : VOk0 (vbi .len [.tuple xs] ρ) Q := q
theorem vn_l {xs : List PyData} (q : Q (.int xs.length, false) ρ) : VOk0 (vbi .len [.list xs] ρ) Q := q
theorem vn_d {xs : List (PyData × PyData)} (q : Q (.int xs.length, false) ρ) : VOk0 (vbi .len [.dict xs] ρ) Q := q
theorem vt_t {xs : List PyData} (q : Q (.tuple xs, false) ρ) : VOk0 (vbi .tuple [.tuple xs] ρ) Q := q
theorem vt_l {xs : List PyData} (q : Q (.tuple xs, false) ρ) : VOk0 (vbi .tuple [.list xs] ρ) Q := q
theorem vl_t {xs : List PyData} (q : Q (.list xs, true) ρ) : VOk0 (vbi .list [.tuple xs] ρ) Q := q
theorem vl_l {xs : List PyData} (q : Q (.list xs, true) ρ) : VOk0 (vbi .list [.list xs] ρ) Q := q
theorem boolsP_map (bs : List Bool) : boolsP (bs.map .bool) = some bs := by
  induction bs with
  | nil => rfl
  | cons b r ih => show (boolsP (r.map .bool)).map (b :: ·) = _; rw [ih]; rfl
theorem va_all {bs : List Bool} (q : Q (.bool (bs.all id), false) ρ) : VOk0 (vbi .all [.list (bs.map .bool)] ρ) Q := by
  show VOk0 (vopt _ _ ρ) Q
  rw [vok_opt]
  exact ⟨bs, boolsP_map bs, q⟩
theorem va_any {bs : List Bool} (q : Q (.bool (bs.any id), false) ρ) : VOk0 (vbi .any [.list (bs.map .bool)] ρ) Q := by
  show VOk0 (vopt _ _ ρ) Q
  rw [vok_opt]
  exact ⟨bs, boolsP_map bs, q⟩
theorem v_sorted_t {xs ys : List PyData} (h : sortP xs = some ys) (q : Q (.list ys, true) ρ) : VOk0 (vbi .sorted [.tuple xs] ρ) Q := by
  show VOk0 (vopt _ _ ρ) Q
  rw [vok_opt]; exact ⟨ys, h, q⟩
theorem v_sorted_l {xs ys : List PyData} (h : sortP xs = some ys) (q : Q (.list ys, true) ρ) : VOk0 (vbi .sorted [.list xs] ρ) Q := by
  show VOk0 (vopt _ _ ρ) Q
  rw [vok_opt]; exact ⟨ys, h, q⟩
theorem v_min {i j : Int} (q : Q (.int (if j < i then j else i), false) ρ) : VOk0 (vbi .min [.int i, .int j] ρ) Q := q
theorem v_max {i j : Int} (q : Q (.int (if j > i then j else i), false) ρ) : VOk0 (vbi .max [.int i, .int j] ρ) Q := q
theorem v_intB {b : Bool} (q : Q (.int (if b then 1 else 0), false) ρ) : VOk0 (vbi .int [.bool b] ρ) Q := q
theorem v_repr {d : PyData} (h : shp d = true) (h2 : d.showable = true) (h3 : d.shown.length ≤ sizeLine) (q : Q (.str d.shown, false) ρ) : VOk0 (vbi .repr [d] ρ) Q := by
  show VOk0 (vneed _ _ ρ) Q
  rw [vok_need, h, h2, show MP.szOk d.shown.length = true from decide_eq_true h3]
  exact ⟨rfl, q⟩
theorem atV_in {xs : List PyData} {k : Int} (h : 0 ≤ k) (h2 : k < xs.length) : ∃ x, MP.atV xs k = some x ∧ x ∈ xs := by
  have hk : k.toNat < xs.length := by omega
  refine ⟨xs[k.toNat], ?_, List.getElem_mem hk⟩
  unfold MP.atV MP.ixN
  rw [if_pos h, if_pos h2]
  exact List.getElem?_eq_getElem hk
/-! what is walked -/
theorem vi_t {q : Bool} {i : Nat} {xs : List PyData} {Q : List VItm → Rn → Prop} (h : env[i]? = some (.val (.tuple xs))) (w : Q (xs.map .one) ρ) : VOk0 (veIt C q (.val (.var i)) env ρ) Q := by
  show VOk0 (((if q = true then rdV env (.var i) (veE C (.var i) env) else veE C (.var i) env) >>= fun v => vsrc v.1) ρ) Q
  rw [vok_bind]
  cases q with
  | true => exact rd_val (C := C) h w
  | false => exact ve_var (C := C) h w
theorem vi_l {q : Bool} {i : Nat} {xs : List PyData} {Q : List VItm → Rn → Prop} (h : env[i]? = some (.val (.list xs))) (w : Q (xs.map .one) ρ) : VOk0 (veIt C q (.val (.var i)) env ρ) Q := by
  show VOk0 (((if q = true then rdV env (.var i) (veE C (.var i) env) else veE C (.var i) env) >>= fun v => vsrc v.1) ρ) Q
  rw [vok_bind]
  cases q with
  | true => exact rd_val (C := C) h w
  | false => exact ve_var (C := C) h w
theorem vi_o {i : Nat} {xs : List PyData} {Q : List VItm → Rn → Prop} (h : env[i]? = some (.own (.list xs))) (w : Q (xs.map .one) ρ) : VOk0 (veIt C true (.val (.var i)) env ρ) Q := by
  show VOk0 ((rdV env (.var i) (veE C (.var i) env) >>= fun v => vsrc v.1) ρ) Q
  rw [vok_bind]
  exact rd_own h w
theorem vi_e {q : Bool} {e : E} {Q : List VItm → Rn → Prop} (hv : varOf e = none) (h : VOk0 (veE C e env ρ) fun v ρ' => VOk0 (vsrc v.1 ρ') Q) : VOk0 (veIt C q (.val e) env ρ) Q := by
  show VOk0 (((if q = true then rdV env e (veE C e env) else veE C e env) >>= fun v => vsrc v.1) ρ) Q
  rw [vok_bind]
  cases q with
  | true => exact rd_e hv h
  | false => exact h
theorem vsrc_t {xs : List PyData} {Q : List VItm → Rn → Prop} (w : Q (xs.map .one) ρ) : VOk0 (vsrc (.tuple xs) ρ) Q := w
theorem vsrc_l {xs : List PyData} {Q : List VItm → Rn → Prop} (w : Q (xs.map .one) ρ) : VOk0 (vsrc (.list xs) ρ) Q := w
theorem rgP_one (n : Nat) : rgP ⟨0, 1, n⟩ = (List.range n).map fun (i : Nat) => .int (i : Int) := by
  unfold rgP
  refine List.map_congr_left fun i _ => ?_
  show PyData.int (0 + (i : Int) * 1) = _
  rw [Int.mul_one, Int.zero_add]
theorem vi_rng {q : Bool} {a : E} {Q : List VItm → Rn → Prop} (h : VOk0 (veE C a env ρ) fun x ρ1 => ∃ n : Nat, x.1 = .int (n : Int) ∧ n < 2 ^ 62 ∧ Q (((List.range n).map fun (i : Nat) => PyData.int (i : Int)).map .one) ρ1) : VOk0 (veIt C q (.rng (.one a)) env ρ) Q := by
  have e0 : veIt C q (.rng (.one a)) env = ((veE C a env >>= fun x => pure [x.1]) >>= fun vs => vopt (MP.rngV (valsOf vs)) fun g => pure ((rgP g).map .one)) := by cases q <;> rfl
  rw [e0]
  simp only [vok_bind, vok_pure, vok_opt]
  refine h.mono ?_
  rintro ⟨d, fr⟩ ρ1 ⟨n, e, hn, w⟩
  simp only at e
  subst e
  refine ⟨⟨0, 1, n⟩, ?_, ?_⟩
  · show MP.rng2V [.int n] = _
    unfold MP.rng2V
    have : MP.small62 (n : Int) = true := by unfold MP.small62; rw [decide_eq_true_eq]; omega
    simp only
    rw [if_pos this]; rfl
  · rw [rgP_one]; exact w
theorem ve_lrng {a : E} (h : VOk0 (veE C a env ρ) fun x ρ1 => ∃ n : Nat, x.1 = .int (n : Int) ∧ n ≤ 1000000 ∧ Q (.list ((List.range n).map fun (i : Nat) => PyData.int (i : Int)), true) ρ1) : VOk0 (veE C (.lrng (.one a)) env ρ) Q := by
  show VOk0 (((veE C a env >>= fun x => pure [x.1]) >>= fun vs => vopt (MP.rng2V (valsOf vs)) fun g => vneed (MP.szOk g.n) (fresh (.list (rgP g)))) ρ) Q
  simp only [vok_bind, vok_pure, vok_opt, vok_need]
  refine h.mono ?_
  rintro ⟨d, fr⟩ ρ1 ⟨n, e, hn, w⟩
  simp only at e
  subst e
  refine ⟨⟨0, 1, n⟩, ?_, decide_eq_true (by rw [PySem.sizeLine_eq]; show n ≤ _; omega), ?_⟩
  · show MP.rng2V [.int n] = _
    unfold MP.rng2V
    have : MP.small62 (n : Int) = true := by unfold MP.small62; rw [decide_eq_true_eq]; omega
    simp only
    rw [if_pos this]; rfl
  · rw [rgP_one]; exact w
theorem ve_trng {a : E} (h : VOk0 (veE C a env ρ) fun x ρ1 => ∃ n : Nat, x.1 = .int (n : Int) ∧ n ≤ 1000000 ∧ Q (.tuple ((List.range n).map fun (i : Nat) => PyData.int (i : Int)), false) ρ1) : VOk0 (veE C (.trng (.one a)) env ρ) Q := by
  show VOk0 (((veE C a env >>= fun x => pure [x.1]) >>= fun vs => vopt (MP.rng2V (valsOf vs)) fun g => vneed (MP.szOk g.n) (old (.tuple (rgP g)))) ρ) Q
  simp only [vok_bind, vok_pure, vok_opt, vok_need]
  refine h.mono ?_
  rintro ⟨d, fr⟩ ρ1 ⟨n, e, hn, w⟩
  simp only at e
  subst e
  refine ⟨⟨0, 1, n⟩, ?_, decide_eq_true (by rw [PySem.sizeLine_eq]; show n ≤ _; omega), ?_⟩
  · show MP.rng2V [.int n] = _
    unfold MP.rng2V
    have : MP.small62 (n : Int) = true := by unfold MP.small62; rw [decide_eq_true_eq]; omega
    simp only
    rw [if_pos this]; rfl
  · rw [rgP_one]; exact w
/-! ### comprehensions, loops -/
/-- with an invariant: what is left, what was made, the drawing list -/
theorem vok_lcGo {body : VItm → VM (Option PyData)} {I : List VItm → List PyData → Rn → Prop}
    (hb : ∀ x r ys ρ, I (x :: r) ys ρ → VOk0 (body x ρ) fun o ρ' => I r (ys ++ o.toList) ρ') :
    ∀ (xs : List VItm) (ys : List PyData) (ρ : Rn), I xs ys ρ → VOk0 (vlcGo body xs ρ) fun zs ρ' => I [] (ys ++ zs) ρ'
  | [], ys, ρ, h => by show I [] (ys ++ []) ρ; rw [List.append_nil]; exact h
  | x :: xs, ys, ρ, h => by
    show VOk0 ((body x >>= fun r => vlcGo body xs >>= fun ys => pure (match r with | some y => y :: ys | none => ys)) ρ) _
    rw [vok_bind]
    refine (hb x xs ys ρ h).mono fun o ρ1 h1 => ?_
    rw [vok_bind]
    refine (vok_lcGo hb xs _ _ h1).mono fun zs ρ2 h2 => ?_
    rw [List.append_assoc] at h2
    cases o <;> exact h2
theorem ve_lc {t : Tg} {it : It} {e : E} {own : List Nat} (h : VOk0 (veIt C true it env ρ) fun src ρ1 => src.length ≤ sizeLine ∧ ∃ I : List VItm → List PyData → Rn → Prop,
      I src [] ρ1 ∧ (∀ x r ys ρ, I (x :: r) ys ρ → ∃ env2, vbindI t x (vwipe env own) = some env2 ∧ VOk0 (veE C e env2 ρ) fun y ρ' => I r (ys ++ [y.1]) ρ') ∧
      ∀ zs ρ', I [] zs ρ' → Q (.list zs, true) ρ') : VOk0 (veE C (.lc t it .none e own) env ρ) Q := by
  show VOk0 ((veIt C true it env >>= fun src => vneed (MP.szOk src.length) (vlcGo (fun v => vopt (vbindI t v (vwipe env own)) fun env2 => veOe C .none env2 >>= fun k => match k with
        | Option.none => veE C e env2 >>= fun y => pure (some y.1)
        | some z => vonB z fun k => match k with
          | true => veE C e env2 >>= fun y => pure (some y.1)
          | false => pure Option.none) src >>= fun ys => fresh (.list ys))) ρ) Q
  rw [vok_bind]
  refine h.mono ?_
  rintro src ρ1 ⟨hl, I, h0, hb, he⟩
  rw [vok_need]
  refine ⟨decide_eq_true hl, ?_⟩
  rw [vok_bind]
  refine (vok_lcGo (I := I) ?_ src [] ρ1 h0).mono fun zs ρ2 h2 => he zs ρ2 h2
  intro x r ys ρ hI
  obtain ⟨env2, h1, h2⟩ := hb x r ys ρ hI
  rw [vok_opt]
  refine ⟨env2, h1, ?_⟩
  show VOk0 ((veE C e env2 >>= fun y => pure (some y.1)) ρ) _
  rw [vok_bind]
  exact h2
/-- with a test -/
theorem ve_lcIf {t : Tg} {it : It} {c e : E} {own : List Nat} (h : VOk0 (veIt C true it env ρ) fun src ρ1 => src.length ≤ sizeLine ∧ ∃ I : List VItm → List PyData → Rn → Prop,
      I src [] ρ1 ∧ (∀ x r ys ρ, I (x :: r) ys ρ → ∃ env2, vbindI t x (vwipe env own) = some env2 ∧ VOk0 (veE C c env2 ρ) fun k ρ' => ∃ b, k.1 = .bool b ∧ (b = true → VOk0 (veE C e env2 ρ') fun y ρ'' => I r (ys ++ [y.1]) ρ'') ∧ (b = false → I r ys ρ')) ∧
      ∀ zs ρ', I [] zs ρ' → Q (.list zs, true) ρ') : VOk0 (veE C (.lc t it (.some c) e own) env ρ) Q := by
  show VOk0 ((veIt C true it env >>= fun src => vneed (MP.szOk src.length) (vlcGo (fun v => vopt (vbindI t v (vwipe env own)) fun env2 => (veE C c env2 >>= fun v => pure (some v.1)) >>= fun k => match k with
        | Option.none => veE C e env2 >>= fun y => pure (some y.1)
        | some z => vonB z fun k => match k with
          | true => veE C e env2 >>= fun y => pure (some y.1)
          | false => pure Option.none) src >>= fun ys => fresh (.list ys))) ρ) Q
  rw [vok_bind]
  refine h.mono ?_
  rintro src ρ1 ⟨hl, I, h0, hb, he⟩
  rw [vok_need]
  refine ⟨decide_eq_true hl, ?_⟩
  rw [vok_bind]
  refine (vok_lcGo (I := I) ?_ src [] ρ1 h0).mono fun zs ρ2 h2 => he zs ρ2 h2
  intro x r ys ρ hI
  obtain ⟨env2, h1, h2⟩ := hb x r ys ρ hI
  rw [vok_opt]
  refine ⟨env2, h1, ?_⟩
  rw [vok_bind, vok_bind]
  refine h2.mono ?_
  rintro ⟨d, fr⟩ ρ2 ⟨b, e1, q1, q2⟩
  simp only at e1
  subst e1
  show VOk0 (vonB (.bool b) _ ρ2) _
  cases b with
  | true =>
    show VOk0 ((veE C e env2 >>= fun y => pure (some y.1)) ρ2) _
    rw [vok_bind]; exact q1 rfl
  | false => show I r (ys ++ []) ρ2; rw [List.append_nil]; exact q2 rfl
theorem vok_forGo {body : VItm → VEn → Rn → VRS} {I : List VItm → VEn → Rn → Prop}
    (hb : ∀ x r e ρ, I (x :: r) e ρ → VOkS0 (body x e ρ) fun f e ρ => match f with
      | .nx => I r e ρ
      | .ct => I r e ρ
      | .br => T .nx e ρ
      | .rt v => T (.rt v) e ρ) (he : ∀ e ρ, I [] e ρ → T .nx e ρ) :
    ∀ (xs : List VItm) (e : VEn) (ρ : Rn), I xs e ρ → VOkS0 (vforGo body xs e ρ) T
  | [], e, ρ, h => he e ρ h
  | x :: xs, e, ρ, h => by
    show VOkS0 ((body x e ρ).turn (vforGo body xs)) T
    rw [vok_turn]
    refine (hb x xs e ρ h).mono ?_
    intro f e1 s1 h1
    cases f with
    | nx => exact vok_forGo hb he xs e1 s1 h1
    | ct => exact vok_forGo hb he xs e1 s1 h1
    | br => exact h1
    | rt v => exact h1
theorem vs_loopF {t : Tg} {it : It} {b : Ss} (h : VOk0 (veIt C false it (frz env (mvLo it)) ρ) fun src ρ1 => ∃ I : List VItm → VEn → Rn → Prop,
      I src (frz env (mvLo it)) ρ1 ∧
      (∀ x r e ρ, I (x :: r) e ρ → ∃ e2, vbindI t x e = some e2 ∧ VOkS0 (veSs C F b e2 ρ) fun f e ρ => match f with
        | .nx => I r e ρ
        | .ct => I r e ρ
        | .br => T .nx e ρ
        | .rt v => T (.rt v) e ρ) ∧
      ∀ e ρ, I [] e ρ → T .nx e ρ) : VOkS0 (veS C F (.loop t it b) env ρ) T := by
  show VOkS0 (VRS.from (veIt C false it (frz env (mvLo it)) ρ) fun src ρ => vforGo (fun x env ρ => VRS.opt (vbindI t x env) fun env' => veSs C F b env' ρ) src (frz env (mvLo it)) ρ) T
  rw [vok_from]
  refine h.mono ?_
  rintro src ρ1 ⟨I, h0, hb, he⟩
  refine vok_forGo (I := I) ?_ he src _ ρ1 h0
  intro x r e ρ hI
  rw [vok_sopt]
  exact hb x r e ρ hI
theorem vs_loop {t : Tg} {it : It} {b : Ss} (hf : frz env (mvLo it) = env) (h : VOk0 (veIt C false it env ρ) fun src ρ1 => ∃ I : List VItm → VEn → Rn → Prop,
      I src env ρ1 ∧
      (∀ x r e ρ, I (x :: r) e ρ → ∃ e2, vbindI t x e = some e2 ∧ VOkS0 (veSs C F b e2 ρ) fun f e ρ => match f with
        | .nx => I r e ρ
        | .ct => I r e ρ
        | .br => T .nx e ρ
        | .rt v => T (.rt v) e ρ) ∧
      ∀ e ρ, I [] e ρ → T .nx e ρ) : VOkS0 (veS C F (.loop t it b) env ρ) T := by
  refine vs_loopF ?_; rw [hf]; exact h
/-- while: an invariant with a measure -/
theorem vs_whl {c : E} {b : Ss} {I : Nat → VEn → Rn → Prop} (n : Nat) (hn : n < F) (h0 : I n env ρ)
    (hb : ∀ n e ρ, I n e ρ → VOk0 (veE C c e ρ) fun v ρ' => ∃ k, v.1 = .bool k ∧ (k = true → VOkS0 (veSs C F b e ρ') fun f e ρ => match f with
        | .nx => ∃ m, m < n ∧ I m e ρ
        | .ct => ∃ m, m < n ∧ I m e ρ
        | .br => T .nx e ρ
        | .rt v => T (.rt v) e ρ) ∧ (k = false → T .nx e ρ')) : VOkS0 (veS C F (.whl c b) env ρ) T := by
  show VOkS0 (vwhlGo (fun env => veE C c env) (fun env ρ => veSs C F b env ρ) F env ρ) T
  have key : ∀ (f n : Nat) (env : VEn) (ρ : Rn), n < f → I n env ρ → VOkS0 (vwhlGo (fun env => veE C c env) (fun env ρ => veSs C F b env ρ) f env ρ) T := by
    intro f
    induction f with
    | zero => intro n env ρ h; omega
    | succ f ih =>
      intro n env ρ hf hI
      show VOkS0 (VRS.from _ _) T
      rw [vok_from]
      refine (hb n env ρ hI).mono ?_
      rintro ⟨d, fr⟩ ρ' ⟨k, e, h1, h2⟩
      simp only at e
      subst e
      cases k with
      | false => exact h2 rfl
      | true =>
        show VOkS0 (VRS.turn _ _) T
        rw [vok_turn]
        refine (h1 rfl).mono ?_
        intro g e1 ρ1 hg
        cases g with
        | nx => obtain ⟨m, hm, hI⟩ := hg; exact ih m _ _ (by omega) hI
        | ct => obtain ⟨m, hm, hI⟩ := hg; exact ih m _ _ (by omega) hI
        | br => exact hg
        | rt v => exact hg
  exact key F n env ρ hn h0
end
end Z
end VE
set_option linter.all false
/-! Tests whose outcome is known. -/
namespace VE
namespace Z
open PySem (Str PyData sizeLine)
theorem exT {x : PyData} {A B : Prop} (h : x = .bool true) (a : A) : ∃ k, x = .bool k ∧ (k = true → A) ∧ (k = false → B) := ⟨true, h, fun _ => a, fun e => Bool.noConfusion e⟩
theorem exF {x : PyData} {A B : Prop} (h : x = .bool false) (b : B) : ∃ k, x = .bool k ∧ (k = true → A) ∧ (k = false → B) := ⟨false, h, fun e => Bool.noConfusion e, fun _ => b⟩
theorem exT' {x : PyData} {A B : Prop} (h : x = .bool true) (b : B) : ∃ k, x = .bool k ∧ (k = false → A) ∧ (k = true → B) := ⟨true, h, fun e => Bool.noConfusion e, fun _ => b⟩
theorem exF' {x : PyData} {A B : Prop} (h : x = .bool false) (a : A) : ∃ k, x = .bool k ∧ (k = false → A) ∧ (k = true → B) := ⟨false, h, fun _ => a, fun e => Bool.noConfusion e⟩
theorem exTd {p : Prop} [Decidable p] {A B : Prop} (h : p) (a : A) : ∃ k, (PyData.bool (decide p), false).1 = .bool k ∧ (k = true → A) ∧ (k = false → B) := exT (congrArg PyData.bool (decide_eq_true h)) a
theorem exFd {p : Prop} [Decidable p] {A B : Prop} (h : ¬ p) (b : B) : ∃ k, (PyData.bool (decide p), false).1 = .bool k ∧ (k = true → A) ∧ (k = false → B) := exF (congrArg PyData.bool (decide_eq_false h)) b
theorem exTd' {p : Prop} [Decidable p] {A B : Prop} (h : p) (b : B) : ∃ k, (PyData.bool (decide p), false).1 = .bool k ∧ (k = false → A) ∧ (k = true → B) := exT' (congrArg PyData.bool (decide_eq_true h)) b
theorem exFd' {p : Prop} [Decidable p] {A B : Prop} (h : ¬ p) (a : A) : ∃ k, (PyData.bool (decide p), false).1 = .bool k ∧ (k = false → A) ∧ (k = true → B) := exF' (congrArg PyData.bool (decide_eq_false h)) a
def notOwn : Sl → Bool
  | .own _ => false
  | _ => true
theorem frz_id {env : VEn} {l : List Nat} (h : env.all notOwn = true) : frz env l = env := by
  have one : ∀ i, frz1 env i = env := by
    intro i
    unfold frz1
    split
    · rename_i d e
      have := List.all_eq_true.mp h _ (List.mem_of_getElem? e)
      cases this
    · rfl
  unfold frz
  induction l with
  | nil => rfl
  | cons i l ih => rw [List.foldl_cons, one i]; exact ih
def NotQ (x : PyData) (A : Bool → Prop) : Prop := ∃ k, x = .bool k ∧ A (!k)
theorem exN {k : Bool} {A : Bool → Prop} (a : A (!k)) : NotQ (PyData.bool k, false).1 A := ⟨k, rfl, a⟩
theorem ve_notQ {C : VCfg} {env : VEn} {ρ : Rn} {Q : VV → Rn → Prop} {a : MP.E} (h : VOk0 (veE C a env ρ) fun x ρ1 => NotQ x.1 fun k => Q (.bool k, false) ρ1) : VOk0 (veE C (.not a) env ρ) Q := ve_not h
/-- both ways -/
theorem exB {k : Bool} {A B : Prop} (a : k = true → A) (b : k = false → B) : ∃ j, (PyData.bool k, false).1 = .bool j ∧ (j = true → A) ∧ (j = false → B) := ⟨k, rfl, a, b⟩
theorem exB' {k : Bool} {A B : Prop} (a : k = false → A) (b : k = true → B) : ∃ j, (PyData.bool k, false).1 = .bool j ∧ (j = false → A) ∧ (j = true → B) := ⟨k, rfl, a, b⟩
theorem len_and {α : Type} {xs : List α} {A : Prop} (h : xs.length ≤ 1000) (a : A) : xs.length ≤ sizeLine ∧ A := ⟨by rw [PySem.sizeLine_eq]; omega, a⟩
theorem ret_q {A B C' D : VV → Prop} {v : VV} (q : A v) : A v := q
theorem exI {k : Int} {A : Int → Prop} (a : A k) : ∃ j, (PyData.int k, false).1 = .int j ∧ A j := ⟨k, rfl, a⟩
theorem exPn {A : Option Int → Prop} (a : A none) : ∃ j, partP none = some j ∧ A j := ⟨none, rfl, a⟩
theorem exPi {k : Int} {A : Option Int → Prop} (a : A (some k)) : ∃ j, partP (some (PyData.int k, false).1) = some j ∧ A j := ⟨some k, rfl, a⟩
section
variable {ρ : Rn} {Q : VV → Rn → Prop}
theorem vb_addB {b : Bool} {j : Int} (q : Q (.int (MP.b2i b + j), false) ρ) : VOk0 (vbin .add (.bool b) (.int j) ρ) Q := q
theorem vb_subB {b : Bool} {j : Int} (q : Q (.int (MP.b2i b - j), false) ρ) : VOk0 (vbin .sub (.bool b) (.int j) ρ) Q := q
theorem vb_mulT {a : List PyData} {k : Int} (h : 2 ≤ k ∧ k ≤ 1000 ∧ a.length ≠ 0 ∧ a.length ≤ 1000) (q : Q (.tuple (repsP a k), false) ρ) : VOk0 (vbin .mul (.tuple a) (.int k) ρ) Q := by
  show VOk0 (vneed _ _ ρ) Q
  rw [vok_need]; exact ⟨decide_eq_true h, q⟩
theorem v_strI {i : Int} (h : i.natAbs.log2 < 1920) (q : Q (.str (MP.strOfInt i), false) ρ) : VOk0 (vbi .str [.int i] ρ) Q := by
  show VOk0 (vneed _ _ ρ) Q
  rw [vok_need]; exact ⟨decide_eq_true h, q⟩
theorem v_strB {b : Bool} (q : Q (.str (if b = true then "True" else "False"), false) ρ) : VOk0 (vbi .str [.bool b] ρ) Q := q
theorem v_upper {a : Str} (h : a.length ≤ 5592405) (q : Q (.str (PySem.Txt.upper a), false) ρ) : VOk0 (vmtE .upper (.str a) [] ρ) Q := by
  show VOk0 (vneed _ _ ρ) Q
  rw [vok_need]; exact ⟨decide_eq_true h, q⟩
theorem vsl_t {xs : List PyData} {lo hi : Option Int} (q : Q (.tuple (MP.cutV xs lo hi), false) ρ) : VOk0 (vsl (.tuple xs) lo hi ρ) Q := q
theorem vsl_l {xs : List PyData} {lo hi : Option Int} (q : Q (.list (MP.cutV xs lo hi), true) ρ) : VOk0 (vsl (.list xs) lo hi ρ) Q := q
theorem vsl_s {x : Str} {lo hi : Option Int} (h : x.length ≤ sizeLine) (q : Q (.str ⟨(MP.cutV x.cps.toList lo hi).toArray⟩, false) ρ) : VOk0 (vsl (.str x) lo hi ρ) Q := by
  show VOk0 (vneed _ _ ρ) Q
  rw [vok_need]; exact ⟨decide_eq_true h, q⟩
theorem vrev_l {xs : List PyData} (q : Q (.list xs.reverse, true) ρ) : VOk0 (vrev (.list xs) ρ) Q := q
end
open MP (E Es)
section
variable {P : VProg} {F n : Nat} {g : Str → Option PyData} {env : VEn} {ρ : Rn} {Q : VV → Rn → Prop}
theorem ve_callN {f : Str} {es : Es} (h : VOk0 (veAs ⟨vcallN P F n, g⟩ es env ρ) fun vs ρ1 => VOk0 (vcallN P F n f vs ρ1) Q) : VOk0 (veE ⟨vcallN P F n, g⟩ (.call f es) env ρ) Q := ve_call h
theorem ve_callkN {f : Str} {es ks : Es} {sel : List Nat} (h : VOk0 (veAs ⟨vcallN P F n, g⟩ es env ρ) fun vs ρ1 => VOk0 (veAs ⟨vcallN P F n, g⟩ ks env ρ1) fun ws ρ2 => VOk0 (vcallN P F n f (MP.pickL (vs ++ ws) sel) ρ2) Q) : VOk0 (veE ⟨vcallN P F n, g⟩ (.callk f es ks sel) env ρ) Q := ve_callk h
end
open MP (It Mt)
theorem ex_append {items : List PyData} {d : PyData} {A : PyData → Prop} (h : items.length < 1000000) (a : A (.list (items ++ [d]))) : ∃ d', vmtS .append (.list items) [d] = some d' ∧ A d' := by
  refine ⟨_, ?_, a⟩
  show (if items.length < sizeLine then some (PyData.list (items ++ [d])) else none) = _
  rw [if_pos (by rw [PySem.sizeLine_eq]; omega)]
theorem rq_val {C : VCfg} {env : VEn} {ρ : Rn} {i : Nat} {d : PyData} {q : Bool} {Q : VV → Rn → Prop} (h : env[i]? = some (.val d)) (w : Q (d, false) ρ) : VOk0 ((if q = true then rdV env (.var i) (veE C (.var i) env) else veE C (.var i) env) ρ) Q := by
  cases q with
  | true => exact rd_val (C := C) h w
  | false => exact ve_var (C := C) h w
theorem rq_own {C : VCfg} {env : VEn} {ρ : Rn} {i : Nat} {d : PyData} {Q : VV → Rn → Prop} (h : env[i]? = some (.own d)) (w : Q (d, false) ρ) : VOk0 ((if true = true then rdV env (.var i) (veE C (.var i) env) else veE C (.var i) env) ρ) Q := rd_own h w
theorem rq_e {C : VCfg} {env : VEn} {ρ : Rn} {e : E} {q : Bool} {Q : VV → Rn → Prop} (hv : varOf e = none) (w : VOk0 (veE C e env ρ) Q) : VOk0 ((if q = true then rdV env e (veE C e env) else veE C e env) ρ) Q := by
  cases q with
  | true => exact rd_e hv w
  | false => exact w
theorem vi_zip {C : VCfg} {env : VEn} {ρ : Rn} {a b : E} {q : Bool} {Q : List VItm → Rn → Prop} (h : VOk0 ((if q = true then rdV env a (veE C a env) else veE C a env) ρ) fun x ρ1 => VOk0 ((if q = true then rdV env b (veE C b env) else veE C b env) ρ1) fun y ρ2 => ∃ xs ys, (x.1 = .list xs ∧ y.1 = .list ys ∨ x.1 = .tuple xs ∧ y.1 = .tuple ys) ∧ Q (vzipV xs ys) ρ2) : VOk0 (veIt C q (.zip a b) env ρ) Q := by
  have e0 : veIt C q (.zip a b) env = ((if q = true then rdV env a (veE C a env) else veE C a env) >>= fun x => (if q = true then rdV env b (veE C b env) else veE C b env) >>= fun y => vopt (vseq x.1) fun s => vopt (vseq y.1) fun u => vneed (decide (isList x.1 = isList y.1)) (pure (vzipV s u))) := by cases q <;> rfl
  rw [e0]
  simp only [vok_bind]
  refine h.mono fun x ρ1 h => h.mono ?_
  rintro y ρ2 ⟨xs, ys, h1, w⟩
  rcases h1 with ⟨e1, e2⟩ | ⟨e1, e2⟩ <;> rw [e1, e2] <;> exact w
theorem vi_enum {C : VCfg} {env : VEn} {ρ : Rn} {a : E} {q : Bool} {Q : List VItm → Rn → Prop} (h : VOk0 ((if q = true then rdV env a (veE C a env) else veE C a env) ρ) fun x ρ1 => ∃ xs, (x.1 = .list xs ∨ x.1 = .tuple xs) ∧ Q (venumV 0 xs) ρ1) : VOk0 (veIt C q (.enum a) env ρ) Q := by
  have e0 : veIt C q (.enum a) env = ((if q = true then rdV env a (veE C a env) else veE C a env) >>= fun x => vopt (vseq x.1) fun s => pure (venumV 0 s)) := by cases q <;> rfl
  rw [e0]
  simp only [vok_bind]
  refine h.mono ?_
  rintro x ρ1 ⟨xs, h1, w⟩
  rcases h1 with e1 | e1 <;> rw [e1] <;> exact w
section
variable {F : Nat} {ρ : Rn}
theorem vs_exMF {C : VCfg} {env : VEn} {T : VFl → VEn → Rn → Prop} {m : Mt} {i : Nat} {es : Es} {d : PyData} (hi : (frz env (mvEs es))[i]? = some (.own d)) (h : VOk0 (veEs C es (frz env (mvEs es)) ρ) fun vs ρ' => ∃ d', vmtS m d vs = some d' ∧ T .nx ((frz env (mvEs es)).set i (.own d')) ρ') : VOkS0 (veS C F (.ex (.mt m (.var i) es)) env ρ) T := by
  show VOkS0 (match (frz env (mvEs es))[i]? with
      | some (.own d) => VRS.from (veEs C es (frz env (mvEs es)) ρ) fun vs ρ => VRS.opt (vmtS m d vs) fun d' => .ok .nx ((frz env (mvEs es)).set i (.own d')) ρ
      | _ => _) T
  rw [hi]
  show VOkS0 (VRS.from _ _) T
  rw [vok_from]
  exact h.mono fun vs ρ' ⟨d', h1, h2⟩ => by rw [vok_sopt]; exact ⟨d', h1, h2⟩
end
theorem vc_inT {x : PyData} {ds : List PyData} {ρ : Rn} {Q : VV → Rn → Prop} (h1 : shp x = true) (h2 : shps ds = true) (q : Q (.bool (ds.any fun d => PyData.eqv d x), false) ρ) : VOk0 (vcmp .isin x (.tuple ds) ρ) Q := by
  show VOk0 (vneed _ _ ρ) Q
  rw [vok_need, h1, h2]; exact ⟨rfl, q⟩
theorem vc_inL {x : PyData} {ds : List PyData} {ρ : Rn} {Q : VV → Rn → Prop} (h1 : shp x = true) (h2 : shps ds = true) (q : Q (.bool (ds.any fun d => PyData.eqv d x), false) ρ) : VOk0 (vcmp .isin x (.list ds) ρ) Q := by
  show VOk0 (vneed _ _ ρ) Q
  rw [vok_need, h1, h2]; exact ⟨rfl, q⟩
end Z
end VE
set_option Elab.async false
set_option linter.all false
set_option maxRecDepth 100000
/-! The rules again, over a proposition that is not unfolded. -/
namespace VE
open MP (Val E Es Oe It Rg S Ss Tg Op Cmp Ty Bi Mt Fn)
open PySem (Str PyData sizeLine)
open Z (eqv_int eqv_boolD isNone boolsP_map atV_in rgP_one exT exF exT' exF' exTd exFd exTd' exFd' notOwn frz_id NotQ exN exB exB' len_and ret_q exI exPn exPi ex_append)
structure VOk {α : Type} (r : VR α) (Q : α → Rn → Prop) : Prop where
  intro ::
  out : Z.VOk0 r Q
structure VOkS (r : VRS) (Q : VFl → VEn → Rn → Prop) : Prop where
  intro ::
  out : Z.VOkS0 r Q
theorem vokE {α : Type} (r : VR α) (Q : α → Rn → Prop) : VOk r Q = Z.VOk0 r Q := propext ⟨fun h => h.out, fun h => ⟨h⟩⟩
theorem voksE (r : VRS) (Q : VFl → VEn → Rn → Prop) : VOkS r Q = Z.VOkS0 r Q := propext ⟨fun h => h.out, fun h => ⟨h⟩⟩
def VSeq (C : VCfg) (F : Nat) (r : Ss) (T : VFl → VEn → Rn → Prop) : VFl → VEn → Rn → Prop := fun f e s => match f with
  | .nx => VOkS (veSs C F r e s) T
  | .br => T .br e s
  | .ct => T .ct e s
  | .rt v => T (.rt v) e s
theorem vseqE (C : VCfg) (F : Nat) (r : Ss) (T : VFl → VEn → Rn → Prop) (f : VFl) (e : VEn) (s : Rn) : VSeq C F r T f e s = Z.VSeq C F r T f e s := by
  cases f with
  | nx => exact voksE _ _
  | _ => rfl
theorem vseqE0 : VSeq = Z.VSeq := funext fun C => funext fun F => funext fun r => funext fun T => funext fun f => funext fun e => funext fun s => vseqE C F r T f e s
section
variable {α β : Type} {Q : α → Rn → Prop} {R : β → Rn → Prop} {T : VFl → VEn → Rn → Prop} {ρ : Rn}
theorem VOk.mono {r : VR α} {Q' : α → Rn → Prop} (h : VOk r Q) (w : ∀ a ρ, Q a ρ → Q' a ρ) : VOk r Q' := by
  simp only [vokE, voksE, vseqE0] at *
  exact Z.VOk0.mono h w
theorem VOkS.mono {r : VRS} {Q' : VFl → VEn → Rn → Prop} (h : VOkS r T) (w : ∀ f e ρ, T f e ρ → Q' f e ρ) : VOkS r Q' := by
  simp only [vokE, voksE, vseqE0] at *
  exact Z.VOkS0.mono h w
theorem VOk.get {r : VR α} (h : VOk r Q) : ∃ a ρ, r = .ok a ρ ∧ Q a ρ := by
  simp only [vokE, voksE, vseqE0] at *
  exact Z.VOk0.get h
theorem vok_bind {m : VM α} {f : α → VM β} : VOk ((m >>= f) ρ) R = VOk (m ρ) fun a ρ' => VOk (f a ρ') R := by
  simp only [vokE, voksE, vseqE0] at *
  exact Z.vok_bind 
theorem vok_pure {a : α} : VOk ((pure a : VM α) ρ) Q = Q a ρ := by
  simp only [vokE, voksE, vseqE0] at *
  exact Z.vok_pure 
theorem vok_need {b : Bool} {m : VM α} : VOk (vneed b m ρ) Q = (b = true ∧ VOk (m ρ) Q) := by
  simp only [vokE, voksE, vseqE0] at *
  exact Z.vok_need 
theorem vok_opt {o : Option β} {f : β → VM α} : VOk (vopt o f ρ) Q = ∃ a, o = some a ∧ VOk (f a ρ) Q := by
  simp only [vokE, voksE, vseqE0] at *
  exact Z.vok_opt 
theorem vok_from {r : VR α} {k : α → Rn → VRS} : VOkS (VRS.from r k) T = VOk r fun a ρ => VOkS (k a ρ) T := by
  simp only [vokE, voksE, vseqE0] at *
  exact Z.vok_from 
theorem vok_sopt {o : Option α} {k : α → VRS} : VOkS (VRS.opt o k) T = ∃ a, o = some a ∧ VOkS (k a) T := by
  simp only [vokE, voksE, vseqE0] at *
  exact Z.vok_sopt 
theorem vok_then {r : VRS} {k : VEn → Rn → VRS} : VOkS (r.then k) T = VOkS r fun f e ρ => match f with
    | .nx => VOkS (k e ρ) T
    | .br => T .br e ρ
    | .ct => T .ct e ρ
    | .rt v => T (.rt v) e ρ := by
  simp only [vokE, voksE, vseqE0] at *
  exact Z.vok_then 
theorem vok_turn {r : VRS} {k : VEn → Rn → VRS} : VOkS (r.turn k) T = VOkS r fun f e ρ => match f with
    | .nx => VOkS (k e ρ) T
    | .br => T .nx e ρ
    | .ct => VOkS (k e ρ) T
    | .rt v => T (.rt v) e ρ := by
  simp only [vokE, voksE, vseqE0] at *
  exact Z.vok_turn 
theorem vonB_ok {v : PyData} {f : Bool → VM α} : VOk (vonB v f ρ) Q = ∃ b, v = .bool b ∧ VOk (f b ρ) Q := by
  simp only [vokE, voksE, vseqE0] at *
  exact Z.vonB_ok 
end
section
variable {C : VCfg} {F : Nat} {env : VEn} {ρ : Rn} {Q : VV → Rn → Prop} {T : VFl → VEn → Rn → Prop}
theorem v_call {P : VProg} {d : Nat} {f : Str} {fd : Fn} {as : List Ar} (h : P.fns.lookup f = some fd) (hf : f ≠ drawS) (hl : as.length = fd.np)
    (hb : VOkS (veSs ⟨vcallN P F d, P.glob⟩ F fd.body (as.map arSl ++ List.replicate (fd.ns - fd.np) .none) ρ) fun fl _ ρ' => match fl with
      | .nx => Q (.none, false) ρ'
      | .rt v => Q v ρ'
      | .br => False
      | .ct => False) : VOk (vcallN P F (d + 1) f as ρ) Q := by
  simp only [vokE, voksE, vseqE0] at *
  exact Z.v_call h hf hl hb
theorem v_draw {P : VProg} {d : Nat} {n m : Int} (h : RnOk ρ m) (hm : m < 2 ^ 40) (h0 : 0 < n) (hn : n < 2 ^ 30)
    (q : ∀ (k : Int) (ρ' : Rn), 0 ≤ k → k < n → RnOk ρ' (m + 1) → Q (.int k, false) ρ') : VOk (vcallN P F (d + 1) "_law_draw" [.rng, .d (.int n)] ρ) Q := by
  simp only [vokE, voksE, vseqE0] at *
  exact Z.v_draw h hm h0 hn q
theorem vs_nx {r : Ss} (h : VOkS (veSs C F r env ρ) T) : VSeq C F r T .nx env ρ := by
  simp only [vokE, voksE, vseqE0] at *
  exact Z.vs_nx h
theorem vs_rt {r : Ss} {v : VV} (h : T (.rt v) env ρ) : VSeq C F r T (.rt v) env ρ := by
  simp only [vokE, voksE, vseqE0] at *
  exact Z.vs_rt h
theorem vs_nil (h : T .nx env ρ) : VOkS (veSs C F .nil env ρ) T := by
  simp only [vokE, voksE, vseqE0] at *
  exact Z.vs_nil h
theorem vs_cons {x : MP.S} {r : Ss} (h : VOkS (veS C F x env ρ) (VSeq C F r T)) : VOkS (veSs C F (.cons x r) env ρ) T := by
  simp only [vokE, voksE, vseqE0] at *
  exact Z.vs_cons h
theorem vs_setF {i : Nat} {e : E} (h : VOk (veE C e (frz env (mvE e)) ρ) fun v ρ' => T .nx ((frz env (mvE e)).set i (slOf v)) ρ') : VOkS (veS C F (.set i e) env ρ) T := by
  simp only [vokE, voksE, vseqE0] at *
  exact Z.vs_setF h
theorem vs_set {i : Nat} {e : E} (hf : frz env (mvE e) = env) (h : VOk (veE C e env ρ) fun v ρ' => T .nx (env.set i (slOf v)) ρ') : VOkS (veS C F (.set i e) env ρ) T := by
  simp only [vokE, voksE, vseqE0] at *
  exact Z.vs_set hf h
theorem vs_retV {i : Nat} {d : PyData} (hi : env[i]? = some (.val d)) (hf : frz env [i] = env) (h : T (.rt (d, false)) env ρ) : VOkS (veS C F (.ret (.var i)) env ρ) T := by
  simp only [vokE, voksE, vseqE0] at *
  exact Z.vs_retV hi hf h
theorem vs_retO {i : Nat} {d : PyData} (hi : env[i]? = some (.own d)) (h : T (.rt (d, true)) env ρ) : VOkS (veS C F (.ret (.var i)) env ρ) T := by
  simp only [vokE, voksE, vseqE0] at *
  exact Z.vs_retO hi h
theorem vs_retF {e : E} (hv : varOf e = none) (h : VOk (veE C e (frz env (mvE e)) ρ) fun v ρ' => T (.rt v) (frz env (mvE e)) ρ') : VOkS (veS C F (.ret e) env ρ) T := by
  simp only [vokE, voksE, vseqE0] at *
  exact Z.vs_retF hv h
theorem vs_ret {e : E} (hv : varOf e = none) (hf : frz env (mvE e) = env) (h : VOk (veE C e env ρ) fun v ρ' => T (.rt v) env ρ') : VOkS (veS C F (.ret e) env ρ) T := by
  simp only [vokE, voksE, vseqE0] at *
  exact Z.vs_ret hv hf h
theorem vs_ret0 (h : T (.rt (.none, false)) env ρ) : VOkS (veS C F .ret0 env ρ) T := by
  simp only [vokE, voksE, vseqE0] at *
  exact Z.vs_ret0 h
theorem vs_pass (h : T .nx env ρ) : VOkS (veS C F .pass env ρ) T := by
  simp only [vokE, voksE, vseqE0] at *
  exact Z.vs_pass h
theorem vs_exM {m : Mt} {i : Nat} {es : Es} {d : PyData} (hf : frz env (mvEs es) = env) (hi : env[i]? = some (.own d)) (h : VOk (veEs C es env ρ) fun vs ρ' => ∃ d', vmtS m d vs = some d' ∧ T .nx (env.set i (.own d')) ρ') : VOkS (veS C F (.ex (.mt m (.var i) es)) env ρ) T := by
  simp only [vokE, voksE, vseqE0] at *
  exact Z.vs_exM hf hi h
theorem vs_ifF {c : E} {a b : Ss} (h : VOk (veE C c (frz env (mvE c)) ρ) fun v ρ' => ∃ k, v.1 = .bool k ∧ (k = true → VOkS (veSs C F a (frz env (mvE c)) ρ') T) ∧ (k = false → VOkS (veSs C F b (frz env (mvE c)) ρ') T)) : VOkS (veS C F (.ifs c a b) env ρ) T := by
  simp only [vokE, voksE, vseqE0] at *
  exact Z.vs_ifF h
theorem vs_if {c : E} {a b : Ss} (hf : frz env (mvE c) = env) (h : VOk (veE C c env ρ) fun v ρ' => ∃ k, v.1 = .bool k ∧ (k = true → VOkS (veSs C F a env ρ') T) ∧ (k = false → VOkS (veSs C F b env ρ') T)) : VOkS (veS C F (.ifs c a b) env ρ) T := by
  simp only [vokE, voksE, vseqE0] at *
  exact Z.vs_if hf h
theorem vs_setix {k : Nat} {i v : E} {d : PyData} (hf : frz env (mvE v ++ mvE i) = env) (hk : env[k]? = some (.own d)) (h : VOk (veE C v env ρ) fun z ρ1 => VOk (veE C i env ρ1) fun y ρ2 => ∃ d', vput d y.1 z.1 = some d' ∧ T .nx (env.set k (.own d')) ρ2) : VOkS (veS C F (.setix (.var k) i v) env ρ) T := by
  simp only [vokE, voksE, vseqE0] at *
  exact Z.vs_setix hf hk h
theorem vs_unp {ts : List Tg} {e : E} (hf : frz env (mvE e) = env) (h : VOk (veE C e env ρ) fun v ρ' => ∃ env', vbindT (.tp ts) v.1 env = some env' ∧ T .nx env' ρ') : VOkS (veS C F (.unp ts e) env ρ) T := by
  simp only [vokE, voksE, vseqE0] at *
  exact Z.vs_unp hf h
theorem vs_parF {is : List Nat} {es : Es} (h : VOk (vePar C es (frz env (mvEs es)) ρ) fun vs ρ' => vs.length = is.length ∧ T .nx (vparSet (frz env (mvEs es)) is vs) ρ') : VOkS (veS C F (.par is es) env ρ) T := by
  simp only [vokE, voksE, vseqE0] at *
  exact Z.vs_parF h
theorem vs_par {is : List Nat} {es : Es} (hf : frz env (mvEs es) = env) (h : VOk (vePar C es env ρ) fun vs ρ' => vs.length = is.length ∧ T .nx (vparSet env is vs) ρ') : VOkS (veS C F (.par is es) env ρ) T := by
  simp only [vokE, voksE, vseqE0] at *
  exact Z.vs_par hf h
theorem vp_nil {Q : List Sl → Rn → Prop} (q : Q [] ρ) : VOk (vePar C .nil env ρ) Q := by
  simp only [vokE, voksE, vseqE0] at *
  exact Z.vp_nil q
theorem vp_cons {e : E} {es : Es} {Q : List Sl → Rn → Prop} (h : VOk (veE C e env ρ) fun v ρ1 => VOk (vePar C es env ρ1) fun vs ρ2 => Q (slOf v :: vs) ρ2) : VOk (vePar C (.cons e es) env ρ) Q := by
  simp only [vokE, voksE, vseqE0] at *
  exact Z.vp_cons h
theorem vs_aug {i : Nat} {op : Op} {e : E} {x : PyData} (hi : env[i]? = some (.val x)) (h : VOk (veE C e env ρ) fun y ρ' => ∃ z, vaug op x y.1 = some z ∧ T .nx (env.set i (.val z)) ρ') : VOkS (veS C F (.aug i op e) env ρ) T := by
  simp only [vokE, voksE, vseqE0] at *
  exact Z.vs_aug hi h
theorem ve_var {i : Nat} {d : PyData} (h : env[i]? = some (.val d)) (q : Q (d, false) ρ) : VOk (veE C (.var i) env ρ) Q := by
  simp only [vokE, voksE, vseqE0] at *
  exact Z.ve_var h q
theorem ve_none (q : Q (.none, false) ρ) : VOk (veE C .none env ρ) Q := by
  simp only [vokE, voksE, vseqE0] at *
  exact Z.ve_none q
theorem ve_bool {b : Bool} (q : Q (.bool b, false) ρ) : VOk (veE C (.bool b) env ρ) Q := by
  simp only [vokE, voksE, vseqE0] at *
  exact Z.ve_bool q
theorem ve_int {b : Int} (q : Q (.int b, false) ρ) : VOk (veE C (.int b) env ρ) Q := by
  simp only [vokE, voksE, vseqE0] at *
  exact Z.ve_int q
theorem ve_str {b : Str} (q : Q (.str b, false) ρ) : VOk (veE C (.str b) env ρ) Q := by
  simp only [vokE, voksE, vseqE0] at *
  exact Z.ve_str q
theorem ve_glob {x : Str} {d : PyData} (h : C.glob x = some d) (q : Q (d, false) ρ) : VOk (veE C (.glob x) env ρ) Q := by
  simp only [vokE, voksE, vseqE0] at *
  exact Z.ve_glob h q
theorem rd_own {i : Nat} {d : PyData} {m : VM VV} (h : env[i]? = some (.own d)) (q : Q (d, false) ρ) : VOk (rdV env (.var i) m ρ) Q := by
  simp only [vokE, voksE, vseqE0] at *
  exact Z.rd_own h q
theorem rd_val {i : Nat} {d : PyData} (h : env[i]? = some (.val d)) (q : Q (d, false) ρ) : VOk (rdV env (.var i) (veE C (.var i) env) ρ) Q := by
  simp only [vokE, voksE, vseqE0] at *
  exact Z.rd_val h q
theorem rd_e {e : E} {m : VM VV} (hv : varOf e = none) (h : VOk (m ρ) Q) : VOk (rdV env e m ρ) Q := by
  simp only [vokE, voksE, vseqE0] at *
  exact Z.rd_e hv h
theorem ve_bin {op : Op} {a b : E} (h : VOk (rdV env a (veE C a env) ρ) fun x ρ1 => VOk (rdV env b (veE C b env) ρ1) fun y ρ2 => VOk (vbin op x.1 y.1 ρ2) Q) : VOk (veE C (.bin op a b) env ρ) Q := by
  simp only [vokE, voksE, vseqE0] at *
  exact Z.ve_bin h
theorem ve_cmp {op : Cmp} {a b : E} (h : VOk (rdV env a (veE C a env) ρ) fun x ρ1 => VOk (rdV env b (veE C b env) ρ1) fun y ρ2 => VOk (vcmp op x.1 y.1 ρ2) Q) : VOk (veE C (.cmp op a b) env ρ) Q := by
  simp only [vokE, voksE, vseqE0] at *
  exact Z.ve_cmp h
theorem ve_neg {a : E} (h : VOk (veE C a env ρ) fun x ρ1 => ∃ i, x.1 = .int i ∧ Q (.int (-i), false) ρ1) : VOk (veE C (.neg a) env ρ) Q := by
  simp only [vokE, voksE, vseqE0] at *
  exact Z.ve_neg h
theorem ve_not {a : E} (h : VOk (veE C a env ρ) fun x ρ1 => ∃ k, x.1 = .bool k ∧ Q (.bool !k, false) ρ1) : VOk (veE C (.not a) env ρ) Q := by
  simp only [vokE, voksE, vseqE0] at *
  exact Z.ve_not h
theorem ve_and {a b : E} (h : VOk (veE C a env ρ) fun x ρ1 => ∃ k, x.1 = .bool k ∧ (k = true → VOk (veE C b env ρ1) Q) ∧ (k = false → Q (.bool false, false) ρ1)) : VOk (veE C (.and a b) env ρ) Q := by
  simp only [vokE, voksE, vseqE0] at *
  exact Z.ve_and h
theorem ve_or {a b : E} (h : VOk (veE C a env ρ) fun x ρ1 => ∃ k, x.1 = .bool k ∧ (k = false → VOk (veE C b env ρ1) Q) ∧ (k = true → Q (.bool true, false) ρ1)) : VOk (veE C (.or a b) env ρ) Q := by
  simp only [vokE, voksE, vseqE0] at *
  exact Z.ve_or h
theorem ve_ite {c a b : E} (h : VOk (veE C c env ρ) fun x ρ1 => ∃ k, x.1 = .bool k ∧ (k = true → VOk (veE C a env ρ1) Q) ∧ (k = false → VOk (veE C b env ρ1) Q)) : VOk (veE C (.ite c a b) env ρ) Q := by
  simp only [vokE, voksE, vseqE0] at *
  exact Z.ve_ite h
theorem ve_chain {o1 o2 : Cmp} {a b c : E} (h : VOk (rdV env a (veE C a env) ρ) fun x ρ1 => VOk (rdV env b (veE C b env) ρ1) fun y ρ2 => VOk (vcmp o1 x.1 y.1 ρ2) fun u ρ3 => ∃ k, u.1 = .bool k ∧ (k = true → VOk (rdV env c (veE C c env) ρ3) fun z ρ4 => VOk (vcmp o2 y.1 z.1 ρ4) Q) ∧ (k = false → Q (.bool false, false) ρ3)) : VOk (veE C (.chain o1 o2 a b c) env ρ) Q := by
  simp only [vokE, voksE, vseqE0] at *
  exact Z.ve_chain h
theorem ve_ix {a b : E} (h : VOk (rdV env a (veE C a env) ρ) fun x ρ1 => VOk (veE C b env ρ1) fun y ρ2 => VOk (vix x.1 y.1 ρ2) Q) : VOk (veE C (.ix a b) env ρ) Q := by
  simp only [vokE, voksE, vseqE0] at *
  exact Z.ve_ix h
theorem ve_rev {a : E} (h : VOk (rdV env a (veE C a env) ρ) fun x ρ1 => VOk (vrev x.1 ρ1) Q) : VOk (veE C (.rev a) env ρ) Q := by
  simp only [vokE, voksE, vseqE0] at *
  exact Z.ve_rev h
theorem ve_sl {a : E} {lo hi : Oe} (h : VOk (rdV env a (veE C a env) ρ) fun x ρ1 => VOk (veOe C lo env ρ1) fun l ρ2 => ∃ i, partP l = some i ∧ VOk (veOe C hi env ρ2) fun u ρ3 => ∃ j, partP u = some j ∧ VOk (vsl x.1 i j ρ3) Q) : VOk (veE C (.sl a lo hi) env ρ) Q := by
  simp only [vokE, voksE, vseqE0] at *
  exact Z.ve_sl h
theorem vo_none {Q : Option PyData → Rn → Prop} (q : Q Option.none ρ) : VOk (veOe C .none env ρ) Q := by
  simp only [vokE, voksE, vseqE0] at *
  exact Z.vo_none q
theorem vo_some {e : E} {Q : Option PyData → Rn → Prop} (h : VOk (veE C e env ρ) fun v ρ1 => Q (some v.1) ρ1) : VOk (veOe C (.some e) env ρ) Q := by
  simp only [vokE, voksE, vseqE0] at *
  exact Z.vo_some h
theorem ve_isi {a : E} {ts : List Ty} (h : VOk (rdV env a (veE C a env) ρ) fun x ρ1 => Q (.bool (isD ts x.1), false) ρ1) : VOk (veE C (.isi a ts) env ρ) Q := by
  simp only [vokE, voksE, vseqE0] at *
  exact Z.ve_isi h
theorem ve_tup {es : Es} (h : VOk (veEs C es env ρ) fun vs ρ1 => vs.length ≤ sizeLine ∧ Q (.tuple vs, false) ρ1) : VOk (veE C (.tup es) env ρ) Q := by
  simp only [vokE, voksE, vseqE0] at *
  exact Z.ve_tup h
theorem ve_lst {es : Es} (h : VOk (veEs C es env ρ) fun vs ρ1 => vs.length ≤ sizeLine ∧ Q (.list vs, true) ρ1) : VOk (veE C (.lst es) env ρ) Q := by
  simp only [vokE, voksE, vseqE0] at *
  exact Z.ve_lst h
theorem ve_dic0 (q : Q (.dict [], true) ρ) : VOk (veE C .dic0 env ρ) Q := by
  simp only [vokE, voksE, vseqE0] at *
  exact Z.ve_dic0 q
theorem ve_dic1 {k v : E} (h : VOk (veE C k env ρ) fun a ρ1 => VOk (veE C v env ρ1) fun b ρ2 => kOk a.1 = true ∧ Q (.dict [(a.1, b.1)], true) ρ2) : VOk (veE C (.dic1 k v) env ρ) Q := by
  simp only [vokE, voksE, vseqE0] at *
  exact Z.ve_dic1 h
theorem vl_nil {Q : List PyData → Rn → Prop} (q : Q [] ρ) : VOk (veEs C .nil env ρ) Q := by
  simp only [vokE, voksE, vseqE0] at *
  exact Z.vl_nil q
theorem vl_cons {e : E} {es : Es} {Q : List PyData → Rn → Prop} (h : VOk (veE C e env ρ) fun v ρ1 => VOk (veEs C es env ρ1) fun vs ρ2 => Q (v.1 :: vs) ρ2) : VOk (veEs C (.cons e es) env ρ) Q := by
  simp only [vokE, voksE, vseqE0] at *
  exact Z.vl_cons h
theorem vr_nil {Q : List PyData → Rn → Prop} (q : Q [] ρ) : VOk (veRs C .nil env ρ) Q := by
  simp only [vokE, voksE, vseqE0] at *
  exact Z.vr_nil q
theorem vr_cons {e : E} {es : Es} {Q : List PyData → Rn → Prop} (h : VOk (rdV env e (veE C e env) ρ) fun v ρ1 => VOk (veRs C es env ρ1) fun vs ρ2 => Q (v.1 :: vs) ρ2) : VOk (veRs C (.cons e es) env ρ) Q := by
  simp only [vokE, voksE, vseqE0] at *
  exact Z.vr_cons h
theorem va_nil {Q : List Ar → Rn → Prop} (q : Q [] ρ) : VOk (veAs C .nil env ρ) Q := by
  simp only [vokE, voksE, vseqE0] at *
  exact Z.va_nil q
theorem va_rng {i : Nat} {es : Es} {Q : List Ar → Rn → Prop} (hi : env[i]? = some .rng) (h : VOk (veAs C es env ρ) fun vs ρ2 => Q (.rng :: vs) ρ2) : VOk (veAs C (.cons (.var i) es) env ρ) Q := by
  simp only [vokE, voksE, vseqE0] at *
  exact Z.va_rng hi h
theorem va_var {i : Nat} {d : PyData} {es : Es} {Q : List Ar → Rn → Prop} (hi : env[i]? = some (.val d)) (h : VOk (veAs C es env ρ) fun vs ρ2 => Q (.d d :: vs) ρ2) : VOk (veAs C (.cons (.var i) es) env ρ) Q := by
  simp only [vokE, voksE, vseqE0] at *
  exact Z.va_var hi h
theorem va_e {e : E} {es : Es} {Q : List Ar → Rn → Prop} (hv : varOf e = none) (h : VOk (veE C e env ρ) fun v ρ1 => VOk (veAs C es env ρ1) fun vs ρ2 => Q (.d v.1 :: vs) ρ2) : VOk (veAs C (.cons e es) env ρ) Q := by
  simp only [vokE, voksE, vseqE0] at *
  exact Z.va_e hv h
theorem ve_call {f : Str} {es : Es} (h : VOk (veAs C es env ρ) fun vs ρ1 => VOk (C.call f vs ρ1) Q) : VOk (veE C (.call f es) env ρ) Q := by
  simp only [vokE, voksE, vseqE0] at *
  exact Z.ve_call h
theorem ve_callk {f : Str} {es ks : Es} {sel : List Nat} (h : VOk (veAs C es env ρ) fun vs ρ1 => VOk (veAs C ks env ρ1) fun ws ρ2 => VOk (C.call f (MP.pickL (vs ++ ws) sel) ρ2) Q) : VOk (veE C (.callk f es ks sel) env ρ) Q := by
  simp only [vokE, voksE, vseqE0] at *
  exact Z.ve_callk h
theorem ve_bi {f : Bi} {es : Es} (h : VOk (veRs C es env ρ) fun vs ρ1 => VOk (vbi f vs ρ1) Q) : VOk (veE C (.bi f es) env ρ) Q := by
  simp only [vokE, voksE, vseqE0] at *
  exact Z.ve_bi h
theorem ve_mt {m : Mt} {o : E} {es : Es} (h : VOk (rdV env o (veE C o env) ρ) fun x ρ1 => VOk (veEs C es env ρ1) fun vs ρ2 => VOk (vmtE m x.1 vs ρ2) Q) : VOk (veE C (.mt m o es) env ρ) Q := by
  simp only [vokE, voksE, vseqE0] at *
  exact Z.ve_mt h
theorem vb_add {i j : Int} (q : Q (.int (i + j), false) ρ) : VOk (vbin .add (.int i) (.int j) ρ) Q := by
  simp only [vokE, voksE, vseqE0] at *
  exact Z.vb_add q
theorem vb_addT {a b : List PyData} (h : a.length + b.length ≤ sizeLine) (q : Q (.tuple (a ++ b), false) ρ) : VOk (vbin .add (.tuple a) (.tuple b) ρ) Q := by
  simp only [vokE, voksE, vseqE0] at *
  exact Z.vb_addT h q
theorem vb_addL {a b : List PyData} (h : a.length + b.length ≤ sizeLine) (q : Q (.list (a ++ b), true) ρ) : VOk (vbin .add (.list a) (.list b) ρ) Q := by
  simp only [vokE, voksE, vseqE0] at *
  exact Z.vb_addL h q
theorem vb_addS {a b : Str} (h : a.length + b.length ≤ sizeLine) (q : Q (.str (a ++ b), false) ρ) : VOk (vbin .add (.str a) (.str b) ρ) Q := by
  simp only [vokE, voksE, vseqE0] at *
  exact Z.vb_addS h q
theorem vb_sub {i j : Int} (q : Q (.int (i - j), false) ρ) : VOk (vbin .sub (.int i) (.int j) ρ) Q := by
  simp only [vokE, voksE, vseqE0] at *
  exact Z.vb_sub q
theorem vb_mul {i j : Int} (h : (-(2 ^ 64) < i ∧ i < 2 ^ 64) ∨ (-(2 ^ 64) < j ∧ j < 2 ^ 64)) (q : Q (.int (i * j), false) ρ) : VOk (vbin .mul (.int i) (.int j) ρ) Q := by
  simp only [vokE, voksE, vseqE0] at *
  exact Z.vb_mul h q
theorem vb_mulL {a : List PyData} {k : Int} (hk : 0 ≤ k ∧ k ≤ 1000) (h : a.length ≤ 1000) (q : Q (.list (repsP a k), true) ρ) : VOk (vbin .mul (.list a) (.int k) ρ) Q := by
  simp only [vokE, voksE, vseqE0] at *
  exact Z.vb_mulL hk h q
theorem vb_mod {i j : Int} (h : 0 < j) (q : Q (.int (i % j), false) ρ) : VOk (vbin .mod (.int i) (.int j) ρ) Q := by
  simp only [vokE, voksE, vseqE0] at *
  exact Z.vb_mod h q
theorem vb_fdiv {i j : Int} (h : 0 < j ∧ j < 1073741824) (q : Q (.int (i / j), false) ρ) : VOk (vbin .fdiv (.int i) (.int j) ρ) Q := by
  simp only [vokE, voksE, vseqE0] at *
  exact Z.vb_fdiv h q
theorem vb_pow {i j : Int} (h : 0 ≤ j ∧ j ≤ 1000000 ∧ i.natAbs < 2 ^ 64) (q : Q (.int (i ^ j.toNat), false) ρ) : VOk (vbin .pow (.int i) (.int j) ρ) Q := by
  simp only [vokE, voksE, vseqE0] at *
  exact Z.vb_pow h q
theorem vc_lt {i j : Int} (q : Q (.bool (decide (i < j)), false) ρ) : VOk (vcmp .lt (.int i) (.int j) ρ) Q := by
  simp only [vokE, voksE, vseqE0] at *
  exact Z.vc_lt q
theorem vc_le {i j : Int} (q : Q (.bool (decide (i ≤ j)), false) ρ) : VOk (vcmp .le (.int i) (.int j) ρ) Q := by
  simp only [vokE, voksE, vseqE0] at *
  exact Z.vc_le q
theorem vc_gt {i j : Int} (q : Q (.bool (decide (j < i)), false) ρ) : VOk (vcmp .gt (.int i) (.int j) ρ) Q := by
  simp only [vokE, voksE, vseqE0] at *
  exact Z.vc_gt q
theorem vc_ge {i j : Int} (q : Q (.bool (decide (j ≤ i)), false) ρ) : VOk (vcmp .ge (.int i) (.int j) ρ) Q := by
  simp only [vokE, voksE, vseqE0] at *
  exact Z.vc_ge q
theorem vc_eqI {i j : Int} (q : Q (.bool (decide (i = j)), false) ρ) : VOk (vcmp .eq (.int i) (.int j) ρ) Q := by
  simp only [vokE, voksE, vseqE0] at *
  exact Z.vc_eqI q
theorem vc_neI {i j : Int} (q : Q (.bool (!decide (i = j)), false) ρ) : VOk (vcmp .ne (.int i) (.int j) ρ) Q := by
  simp only [vokE, voksE, vseqE0] at *
  exact Z.vc_neI q
theorem vc_eqB {i j : Bool} (q : Q (.bool (decide (i = j)), false) ρ) : VOk (vcmp .eq (.bool i) (.bool j) ρ) Q := by
  simp only [vokE, voksE, vseqE0] at *
  exact Z.vc_eqB q
theorem vc_neB {i j : Bool} (q : Q (.bool (!decide (i = j)), false) ρ) : VOk (vcmp .ne (.bool i) (.bool j) ρ) Q := by
  simp only [vokE, voksE, vseqE0] at *
  exact Z.vc_neB q
theorem vc_eq {x y : PyData} (h1 : shp x = true) (h2 : shp y = true) (q : Q (.bool (PyData.eqv x y), false) ρ) : VOk (vcmp .eq x y ρ) Q := by
  simp only [vokE, voksE, vseqE0] at *
  exact Z.vc_eq h1 h2 q
theorem vc_ne {x y : PyData} (h1 : shp x = true) (h2 : shp y = true) (q : Q (.bool (!PyData.eqv x y), false) ρ) : VOk (vcmp .ne x y ρ) Q := by
  simp only [vokE, voksE, vseqE0] at *
  exact Z.vc_ne h1 h2 q
theorem vc_is {x : PyData} (q : Q (.bool (isNone x), false) ρ) : VOk (vcmp .is x .none ρ) Q := by
  simp only [vokE, voksE, vseqE0] at *
  exact Z.vc_is q
theorem vc_isnot {x : PyData} (q : Q (.bool (!isNone x), false) ρ) : VOk (vcmp .isnot x .none ρ) Q := by
  simp only [vokE, voksE, vseqE0] at *
  exact Z.vc_isnot q
theorem vx_t {xs : List PyData} {i : Int} {d : PyData} (h : MP.atV xs i = some d) (q : Q (d, false) ρ) : VOk (vix (.tuple xs) (.int i) ρ) Q := by
  simp only [vokE, voksE, vseqE0] at *
  exact Z.vx_t h q
theorem vx_l {xs : List PyData} {i : Int} {d : PyData} (h : MP.atV xs i = some d) (q : Q (d, false) ρ) : VOk (vix (.list xs) (.int i) ρ) Q := by
  simp only [vokE, voksE, vseqE0] at *
  exact Z.vx_l h q
theorem vn_t {xs : List PyData} (q : Q (.int xs.length, false) ρ) : VOk (vbi .len [.tuple xs] ρ) Q := by
  simp only [vokE, voksE, vseqE0] at *
  exact Z.vn_t q
theorem vn_l {xs : List PyData} (q : Q (.int xs.length, false) ρ) : VOk (vbi .len [.list xs] ρ) Q := by
  simp only [vokE, voksE, vseqE0] at *
  exact Z.vn_l q
theorem vn_d {xs : List (PyData × PyData)} (q : Q (.int xs.length, false) ρ) : VOk (vbi .len [.dict xs] ρ) Q := by
  simp only [vokE, voksE, vseqE0] at *
  exact Z.vn_d q
theorem vt_t {xs : List PyData} (q : Q (.tuple xs, false) ρ) : VOk (vbi .tuple [.tuple xs] ρ) Q := by
  simp only [vokE, voksE, vseqE0] at *
  exact Z.vt_t q
theorem vt_l {xs : List PyData} (q : Q (.tuple xs, false) ρ) : VOk (vbi .tuple [.list xs] ρ) Q := by
  simp only [vokE, voksE, vseqE0] at *
  exact Z.vt_l q
theorem vl_t {xs : List PyData} (q : Q (.list xs, true) ρ) : VOk (vbi .list [.tuple xs] ρ) Q := by
  simp only [vokE, voksE, vseqE0] at *
  exact Z.vl_t q
theorem vl_l {xs : List PyData} (q : Q (.list xs, true) ρ) : VOk (vbi .list [.list xs] ρ) Q := by
  simp only [vokE, voksE, vseqE0] at *
  exact Z.vl_l q
theorem va_all {bs : List Bool} (q : Q (.bool (bs.all id), false) ρ) : VOk (vbi .all [.list (bs.map .bool)] ρ) Q := by
  simp only [vokE, voksE, vseqE0] at *
  exact Z.va_all q
theorem va_any {bs : List Bool} (q : Q (.bool (bs.any id), false) ρ) : VOk (vbi .any [.list (bs.map .bool)] ρ) Q := by
  simp only [vokE, voksE, vseqE0] at *
  exact Z.va_any q
theorem v_sorted_t {xs ys : List PyData} (h : sortP xs = some ys) (q : Q (.list ys, true) ρ) : VOk (vbi .sorted [.tuple xs] ρ) Q := by
  simp only [vokE, voksE, vseqE0] at *
  exact Z.v_sorted_t h q
theorem v_sorted_l {xs ys : List PyData} (h : sortP xs = some ys) (q : Q (.list ys, true) ρ) : VOk (vbi .sorted [.list xs] ρ) Q := by
  simp only [vokE, voksE, vseqE0] at *
  exact Z.v_sorted_l h q
theorem v_min {i j : Int} (q : Q (.int (if j < i then j else i), false) ρ) : VOk (vbi .min [.int i, .int j] ρ) Q := by
  simp only [vokE, voksE, vseqE0] at *
  exact Z.v_min q
theorem v_max {i j : Int} (q : Q (.int (if j > i then j else i), false) ρ) : VOk (vbi .max [.int i, .int j] ρ) Q := by
  simp only [vokE, voksE, vseqE0] at *
  exact Z.v_max q
theorem v_intB {b : Bool} (q : Q (.int (if b then 1 else 0), false) ρ) : VOk (vbi .int [.bool b] ρ) Q := by
  simp only [vokE, voksE, vseqE0] at *
  exact Z.v_intB q
theorem v_repr {d : PyData} (h : shp d = true) (h2 : d.showable = true) (h3 : d.shown.length ≤ sizeLine) (q : Q (.str d.shown, false) ρ) : VOk (vbi .repr [d] ρ) Q := by
  simp only [vokE, voksE, vseqE0] at *
  exact Z.v_repr h h2 h3 q
theorem vi_t {q : Bool} {i : Nat} {xs : List PyData} {Q : List VItm → Rn → Prop} (h : env[i]? = some (.val (.tuple xs))) (w : Q (xs.map .one) ρ) : VOk (veIt C q (.val (.var i)) env ρ) Q := by
  simp only [vokE, voksE, vseqE0] at *
  exact Z.vi_t h w
theorem vi_l {q : Bool} {i : Nat} {xs : List PyData} {Q : List VItm → Rn → Prop} (h : env[i]? = some (.val (.list xs))) (w : Q (xs.map .one) ρ) : VOk (veIt C q (.val (.var i)) env ρ) Q := by
  simp only [vokE, voksE, vseqE0] at *
  exact Z.vi_l h w
theorem vi_o {i : Nat} {xs : List PyData} {Q : List VItm → Rn → Prop} (h : env[i]? = some (.own (.list xs))) (w : Q (xs.map .one) ρ) : VOk (veIt C true (.val (.var i)) env ρ) Q := by
  simp only [vokE, voksE, vseqE0] at *
  exact Z.vi_o h w
theorem vi_e {q : Bool} {e : E} {Q : List VItm → Rn → Prop} (hv : varOf e = none) (h : VOk (veE C e env ρ) fun v ρ' => VOk (vsrc v.1 ρ') Q) : VOk (veIt C q (.val e) env ρ) Q := by
  simp only [vokE, voksE, vseqE0] at *
  exact Z.vi_e hv h
theorem vsrc_t {xs : List PyData} {Q : List VItm → Rn → Prop} (w : Q (xs.map .one) ρ) : VOk (vsrc (.tuple xs) ρ) Q := by
  simp only [vokE, voksE, vseqE0] at *
  exact Z.vsrc_t w
theorem vsrc_l {xs : List PyData} {Q : List VItm → Rn → Prop} (w : Q (xs.map .one) ρ) : VOk (vsrc (.list xs) ρ) Q := by
  simp only [vokE, voksE, vseqE0] at *
  exact Z.vsrc_l w
theorem vi_rng {q : Bool} {a : E} {Q : List VItm → Rn → Prop} (h : VOk (veE C a env ρ) fun x ρ1 => ∃ n : Nat, x.1 = .int (n : Int) ∧ n < 2 ^ 62 ∧ Q (((List.range n).map fun (i : Nat) => PyData.int (i : Int)).map .one) ρ1) : VOk (veIt C q (.rng (.one a)) env ρ) Q := by
  simp only [vokE, voksE, vseqE0] at *
  exact Z.vi_rng h
theorem ve_lrng {a : E} (h : VOk (veE C a env ρ) fun x ρ1 => ∃ n : Nat, x.1 = .int (n : Int) ∧ n ≤ 1000000 ∧ Q (.list ((List.range n).map fun (i : Nat) => PyData.int (i : Int)), true) ρ1) : VOk (veE C (.lrng (.one a)) env ρ) Q := by
  simp only [vokE, voksE, vseqE0] at *
  exact Z.ve_lrng h
theorem ve_trng {a : E} (h : VOk (veE C a env ρ) fun x ρ1 => ∃ n : Nat, x.1 = .int (n : Int) ∧ n ≤ 1000000 ∧ Q (.tuple ((List.range n).map fun (i : Nat) => PyData.int (i : Int)), false) ρ1) : VOk (veE C (.trng (.one a)) env ρ) Q := by
  simp only [vokE, voksE, vseqE0] at *
  exact Z.ve_trng h
theorem ve_lc {t : Tg} {it : It} {e : E} {own : List Nat} (h : VOk (veIt C true it env ρ) fun src ρ1 => src.length ≤ sizeLine ∧ ∃ I : List VItm → List PyData → Rn → Prop,
      I src [] ρ1 ∧ (∀ x r ys ρ, I (x :: r) ys ρ → ∃ env2, vbindI t x (vwipe env own) = some env2 ∧ VOk (veE C e env2 ρ) fun y ρ' => I r (ys ++ [y.1]) ρ') ∧
      ∀ zs ρ', I [] zs ρ' → Q (.list zs, true) ρ') : VOk (veE C (.lc t it .none e own) env ρ) Q := by
  simp only [vokE, voksE, vseqE0] at *
  exact Z.ve_lc h
theorem ve_lcIf {t : Tg} {it : It} {c e : E} {own : List Nat} (h : VOk (veIt C true it env ρ) fun src ρ1 => src.length ≤ sizeLine ∧ ∃ I : List VItm → List PyData → Rn → Prop,
      I src [] ρ1 ∧ (∀ x r ys ρ, I (x :: r) ys ρ → ∃ env2, vbindI t x (vwipe env own) = some env2 ∧ VOk (veE C c env2 ρ) fun k ρ' => ∃ b, k.1 = .bool b ∧ (b = true → VOk (veE C e env2 ρ') fun y ρ'' => I r (ys ++ [y.1]) ρ'') ∧ (b = false → I r ys ρ')) ∧
      ∀ zs ρ', I [] zs ρ' → Q (.list zs, true) ρ') : VOk (veE C (.lc t it (.some c) e own) env ρ) Q := by
  simp only [vokE, voksE, vseqE0] at *
  exact Z.ve_lcIf h
theorem vs_loopF {t : Tg} {it : It} {b : Ss} (h : VOk (veIt C false it (frz env (mvLo it)) ρ) fun src ρ1 => ∃ I : List VItm → VEn → Rn → Prop,
      I src (frz env (mvLo it)) ρ1 ∧
      (∀ x r e ρ, I (x :: r) e ρ → ∃ e2, vbindI t x e = some e2 ∧ VOkS (veSs C F b e2 ρ) fun f e ρ => match f with
        | .nx => I r e ρ
        | .ct => I r e ρ
        | .br => T .nx e ρ
        | .rt v => T (.rt v) e ρ) ∧
      ∀ e ρ, I [] e ρ → T .nx e ρ) : VOkS (veS C F (.loop t it b) env ρ) T := by
  simp only [vokE, voksE, vseqE0] at *
  exact Z.vs_loopF h
theorem vs_loop {t : Tg} {it : It} {b : Ss} (hf : frz env (mvLo it) = env) (h : VOk (veIt C false it env ρ) fun src ρ1 => ∃ I : List VItm → VEn → Rn → Prop,
      I src env ρ1 ∧
      (∀ x r e ρ, I (x :: r) e ρ → ∃ e2, vbindI t x e = some e2 ∧ VOkS (veSs C F b e2 ρ) fun f e ρ => match f with
        | .nx => I r e ρ
        | .ct => I r e ρ
        | .br => T .nx e ρ
        | .rt v => T (.rt v) e ρ) ∧
      ∀ e ρ, I [] e ρ → T .nx e ρ) : VOkS (veS C F (.loop t it b) env ρ) T := by
  simp only [vokE, voksE, vseqE0] at *
  exact Z.vs_loop hf h
theorem vs_whl {c : E} {b : Ss} {I : Nat → VEn → Rn → Prop} (n : Nat) (hn : n < F) (h0 : I n env ρ)
    (hb : ∀ n e ρ, I n e ρ → VOk (veE C c e ρ) fun v ρ' => ∃ k, v.1 = .bool k ∧ (k = true → VOkS (veSs C F b e ρ') fun f e ρ => match f with
        | .nx => ∃ m, m < n ∧ I m e ρ
        | .ct => ∃ m, m < n ∧ I m e ρ
        | .br => T .nx e ρ
        | .rt v => T (.rt v) e ρ) ∧ (k = false → T .nx e ρ')) : VOkS (veS C F (.whl c b) env ρ) T := by
  simp only [vokE, voksE, vseqE0] at *
  exact Z.vs_whl n hn h0 hb
end
theorem ve_notQ {C : VCfg} {env : VEn} {ρ : Rn} {Q : VV → Rn → Prop} {a : MP.E} (h : VOk (veE C a env ρ) fun x ρ1 => NotQ x.1 fun k => Q (.bool k, false) ρ1) : VOk (veE C (.not a) env ρ) Q := by
  simp only [vokE, voksE, vseqE0] at *
  exact Z.ve_notQ h
section
variable {ρ : Rn} {Q : VV → Rn → Prop}
theorem vb_addB {b : Bool} {j : Int} (q : Q (.int (MP.b2i b + j), false) ρ) : VOk (vbin .add (.bool b) (.int j) ρ) Q := by
  simp only [vokE, voksE, vseqE0] at *
  exact Z.vb_addB q
theorem vb_subB {b : Bool} {j : Int} (q : Q (.int (MP.b2i b - j), false) ρ) : VOk (vbin .sub (.bool b) (.int j) ρ) Q := by
  simp only [vokE, voksE, vseqE0] at *
  exact Z.vb_subB q
theorem vb_mulT {a : List PyData} {k : Int} (h : 2 ≤ k ∧ k ≤ 1000 ∧ a.length ≠ 0 ∧ a.length ≤ 1000) (q : Q (.tuple (repsP a k), false) ρ) : VOk (vbin .mul (.tuple a) (.int k) ρ) Q := by
  simp only [vokE, voksE, vseqE0] at *
  exact Z.vb_mulT h q
theorem v_strI {i : Int} (h : i.natAbs.log2 < 1920) (q : Q (.str (MP.strOfInt i), false) ρ) : VOk (vbi .str [.int i] ρ) Q := by
  simp only [vokE, voksE, vseqE0] at *
  exact Z.v_strI h q
theorem v_strB {b : Bool} (q : Q (.str (if b = true then "True" else "False"), false) ρ) : VOk (vbi .str [.bool b] ρ) Q := by
  simp only [vokE, voksE, vseqE0] at *
  exact Z.v_strB q
theorem v_upper {a : Str} (h : a.length ≤ 5592405) (q : Q (.str (PySem.Txt.upper a), false) ρ) : VOk (vmtE .upper (.str a) [] ρ) Q := by
  simp only [vokE, voksE, vseqE0] at *
  exact Z.v_upper h q
theorem vsl_t {xs : List PyData} {lo hi : Option Int} (q : Q (.tuple (MP.cutV xs lo hi), false) ρ) : VOk (vsl (.tuple xs) lo hi ρ) Q := by
  simp only [vokE, voksE, vseqE0] at *
  exact Z.vsl_t q
theorem vsl_l {xs : List PyData} {lo hi : Option Int} (q : Q (.list (MP.cutV xs lo hi), true) ρ) : VOk (vsl (.list xs) lo hi ρ) Q := by
  simp only [vokE, voksE, vseqE0] at *
  exact Z.vsl_l q
theorem vsl_s {x : Str} {lo hi : Option Int} (h : x.length ≤ sizeLine) (q : Q (.str ⟨(MP.cutV x.cps.toList lo hi).toArray⟩, false) ρ) : VOk (vsl (.str x) lo hi ρ) Q := by
  simp only [vokE, voksE, vseqE0] at *
  exact Z.vsl_s h q
theorem vrev_l {xs : List PyData} (q : Q (.list xs.reverse, true) ρ) : VOk (vrev (.list xs) ρ) Q := by
  simp only [vokE, voksE, vseqE0] at *
  exact Z.vrev_l q
end
open MP (E Es)
section
variable {P : VProg} {F n : Nat} {g : Str → Option PyData} {env : VEn} {ρ : Rn} {Q : VV → Rn → Prop}
theorem ve_callN {f : Str} {es : Es} (h : VOk (veAs ⟨vcallN P F n, g⟩ es env ρ) fun vs ρ1 => VOk (vcallN P F n f vs ρ1) Q) : VOk (veE ⟨vcallN P F n, g⟩ (.call f es) env ρ) Q := by
  simp only [vokE, voksE, vseqE0] at *
  exact Z.ve_callN h
theorem ve_callkN {f : Str} {es ks : Es} {sel : List Nat} (h : VOk (veAs ⟨vcallN P F n, g⟩ es env ρ) fun vs ρ1 => VOk (veAs ⟨vcallN P F n, g⟩ ks env ρ1) fun ws ρ2 => VOk (vcallN P F n f (MP.pickL (vs ++ ws) sel) ρ2) Q) : VOk (veE ⟨vcallN P F n, g⟩ (.callk f es ks sel) env ρ) Q := by
  simp only [vokE, voksE, vseqE0] at *
  exact Z.ve_callkN h
end
open MP (It Mt)
theorem rq_val {C : VCfg} {env : VEn} {ρ : Rn} {i : Nat} {d : PyData} {q : Bool} {Q : VV → Rn → Prop} (h : env[i]? = some (.val d)) (w : Q (d, false) ρ) : VOk ((if q = true then rdV env (.var i) (veE C (.var i) env) else veE C (.var i) env) ρ) Q := by
  simp only [vokE, voksE, vseqE0] at *
  exact Z.rq_val h w
theorem rq_own {C : VCfg} {env : VEn} {ρ : Rn} {i : Nat} {d : PyData} {Q : VV → Rn → Prop} (h : env[i]? = some (.own d)) (w : Q (d, false) ρ) : VOk ((if true = true then rdV env (.var i) (veE C (.var i) env) else veE C (.var i) env) ρ) Q := by
  simp only [vokE, voksE, vseqE0] at *
  exact Z.rq_own h w
theorem rq_e {C : VCfg} {env : VEn} {ρ : Rn} {e : E} {q : Bool} {Q : VV → Rn → Prop} (hv : varOf e = none) (w : VOk (veE C e env ρ) Q) : VOk ((if q = true then rdV env e (veE C e env) else veE C e env) ρ) Q := by
  simp only [vokE, voksE, vseqE0] at *
  exact Z.rq_e hv w
theorem vi_zip {C : VCfg} {env : VEn} {ρ : Rn} {a b : E} {q : Bool} {Q : List VItm → Rn → Prop} (h : VOk ((if q = true then rdV env a (veE C a env) else veE C a env) ρ) fun x ρ1 => VOk ((if q = true then rdV env b (veE C b env) else veE C b env) ρ1) fun y ρ2 => ∃ xs ys, (x.1 = .list xs ∧ y.1 = .list ys ∨ x.1 = .tuple xs ∧ y.1 = .tuple ys) ∧ Q (vzipV xs ys) ρ2) : VOk (veIt C q (.zip a b) env ρ) Q := by
  simp only [vokE, voksE, vseqE0] at *
  exact Z.vi_zip h
theorem vi_enum {C : VCfg} {env : VEn} {ρ : Rn} {a : E} {q : Bool} {Q : List VItm → Rn → Prop} (h : VOk ((if q = true then rdV env a (veE C a env) else veE C a env) ρ) fun x ρ1 => ∃ xs, (x.1 = .list xs ∨ x.1 = .tuple xs) ∧ Q (venumV 0 xs) ρ1) : VOk (veIt C q (.enum a) env ρ) Q := by
  simp only [vokE, voksE, vseqE0] at *
  exact Z.vi_enum h
section
variable {F : Nat} {ρ : Rn}
theorem vs_exMF {C : VCfg} {env : VEn} {T : VFl → VEn → Rn → Prop} {m : Mt} {i : Nat} {es : Es} {d : PyData} (hi : (frz env (mvEs es))[i]? = some (.own d)) (h : VOk (veEs C es (frz env (mvEs es)) ρ) fun vs ρ' => ∃ d', vmtS m d vs = some d' ∧ T .nx ((frz env (mvEs es)).set i (.own d')) ρ') : VOkS (veS C F (.ex (.mt m (.var i) es)) env ρ) T := by
  simp only [vokE, voksE, vseqE0] at *
  exact Z.vs_exMF hi h
end
theorem vc_inT {x : PyData} {ds : List PyData} {ρ : Rn} {Q : VV → Rn → Prop} (h1 : shp x = true) (h2 : shps ds = true) (q : Q (.bool (ds.any fun d => PyData.eqv d x), false) ρ) : VOk (vcmp .isin x (.tuple ds) ρ) Q := by
  simp only [vokE, voksE, vseqE0] at *
  exact Z.vc_inT h1 h2 q
theorem vc_inL {x : PyData} {ds : List PyData} {ρ : Rn} {Q : VV → Rn → Prop} (h1 : shp x = true) (h2 : shps ds = true) (q : Q (.bool (ds.any fun d => PyData.eqv d x), false) ρ) : VOk (vcmp .isin x (.list ds) ρ) Q := by
  simp only [vokE, voksE, vseqE0] at *
  exact Z.vc_inL h1 h2 q
end VE
set_option Elab.async false
set_option linter.all false
set_option maxRecDepth 100000
set_option maxHeartbeats 1000000
namespace VE
open MP (Val E Es Oe It Rg S Ss Tg Op Cmp Ty Bi Mt Fn)
open PySem (Str PyData sizeLine)
open Z (eqv_int eqv_boolD isNone boolsP_map atV_in rgP_one exT exF exT' exF' exTd exFd exTd' exFd' notOwn frz_id NotQ exN exB exB' len_and exI exPn exPi ex_append)
local macro_rules
  | `(tactic| walk_at "v") => `(tactic| repeat (first
    | with_reducible refine vs_cons ?_
    | with_reducible refine vs_nil ?_
    | with_reducible refine vs_nx ?_
    | with_reducible refine vs_rt ?_
    | ((with_reducible show VOkS (veS _ _ (S.set _ _) _ _) _); refine vs_set (by first | exact frz_id (by rfl) | with_unfolding_all rfl) ?_)
    | ((with_reducible show VOkS (veS _ _ (S.ret (E.var _)) _ _) _); first | refine vs_retV (by rfl) (by first | exact frz_id (by rfl) | with_unfolding_all rfl) ?_ | refine vs_retO (by rfl) ?_)
    | ((with_reducible show VOkS (veS _ _ (S.ret _) _ _) _); refine vs_ret (by rfl) (by first | exact frz_id (by rfl) | with_unfolding_all rfl) ?_)
    | with_reducible refine vs_pass ?_
    | ((with_reducible show VOkS (veS _ _ (S.unp _ _) _ _) _); refine vs_unp (by first | exact frz_id (by rfl) | with_unfolding_all rfl) ?_)
    | ((with_reducible show VOkS (veS _ _ (S.par _ _) _ _) _); refine vs_par (by first | exact frz_id (by rfl) | with_unfolding_all rfl) ?_)
    | ((with_reducible show VOkS (veS _ _ (S.ifs _ _ _) _ _) _); refine vs_if (by first | exact frz_id (by rfl) | with_unfolding_all rfl) ?_)
    | with_reducible refine vp_nil ?_
    | with_reducible refine vp_cons ?_
    | with_reducible refine ve_int ?_
    | with_reducible refine ve_bool ?_
    | with_reducible refine ve_none ?_
    | with_reducible refine ve_str ?_
    | ((with_reducible show VOk (veE _ (E.var _) _ _) _); refine ve_var (by rfl) ?_)
    | ((with_reducible show VOk (rdV _ (E.var _) _ _) _); first | refine rd_val (by rfl) ?_ | refine rd_own (by rfl) ?_)
    | ((with_reducible show VOk (rdV _ _ _ _) _); refine rd_e (by rfl) ?_)
    | with_reducible refine ve_bin ?_
    | with_reducible refine ve_cmp ?_
    | with_reducible refine ve_chain ?_
    | with_reducible refine ve_ix ?_
    | with_reducible refine ve_sl ?_
    | with_reducible refine ve_rev ?_
    | with_reducible refine vo_none ?_
    | with_reducible refine vo_some ?_
    | with_reducible refine ve_callN ?_
    | with_reducible refine ve_callkN ?_
    | with_reducible refine ve_bi ?_
    | with_reducible refine ve_mt ?_
    | with_reducible refine ve_isi ?_
    | with_reducible refine ve_lst ?_
    | with_reducible refine ve_tup ?_
    | with_reducible refine ve_dic0 ?_
    | with_reducible refine ve_and ?_
    | with_reducible refine ve_or ?_
    | with_reducible refine ve_notQ ?_
    | with_reducible refine ve_ite ?_
    | with_reducible refine ve_lrng ?_
    | with_reducible refine ve_trng ?_
    | with_reducible refine ve_neg ?_
    | with_reducible refine va_nil ?_
    | ((with_reducible show VOk (veAs _ (Es.cons (E.var _) _) _ _) _); first | refine va_var (by rfl) ?_ | refine va_rng (by rfl) ?_)
    | ((with_reducible show VOk (veAs _ (Es.cons _ _) _ _) _); refine va_e (by rfl) ?_)
    | with_reducible refine vr_nil ?_
    | with_reducible refine vr_cons ?_
    | with_reducible refine vl_nil ?_
    | with_reducible refine vl_cons ?_
    | with_reducible refine vb_add ?_
    | with_reducible refine vb_sub ?_
    | with_reducible refine vb_addB ?_
    | with_reducible refine vb_subB ?_
    | with_reducible refine v_strB ?_
    | with_reducible refine vsl_t ?_
    | with_reducible refine vsl_l ?_
    | with_reducible refine vrev_l ?_
    | with_reducible refine vb_mod (by first | assumption | omega) ?_
    | with_reducible refine vc_lt ?_
    | with_reducible refine vc_le ?_
    | with_reducible refine vc_gt ?_
    | with_reducible refine vc_ge ?_
    | with_reducible refine vc_eqI ?_
    | with_reducible refine vc_neI ?_
    | with_reducible refine vc_eqB ?_
    | with_reducible refine vc_neB ?_
    | ((with_reducible show VOk (vcmp Cmp.eq _ _ _) _); refine vc_eq (by rfl) (by rfl) ?_)
    | ((with_reducible show VOk (vcmp Cmp.ne _ _ _) _); refine vc_ne (by rfl) (by rfl) ?_)
    | with_reducible refine vc_is ?_
    | with_reducible refine vc_isnot ?_
    | with_reducible refine vn_t ?_
    | with_reducible refine vn_l ?_
    | with_reducible refine vn_d ?_
    | with_reducible refine vt_t ?_
    | with_reducible refine vt_l ?_
    | with_reducible refine vl_t ?_
    | with_reducible refine vl_l ?_
    | with_reducible refine va_all ?_
    | with_reducible refine va_any ?_
    | with_reducible refine vsrc_t ?_
    | with_reducible refine vsrc_l ?_
    | ((with_reducible refine exT ?_ ?_); focus rfl)
    | ((with_reducible refine exF ?_ ?_); focus rfl)
    | ((with_reducible refine exT' ?_ ?_); focus rfl)
    | ((with_reducible refine exF' ?_ ?_); focus rfl)
    | ((with_reducible refine exTd ?_ ?_); focus (first | rfl | assumption | omega))
    | ((with_reducible refine exFd ?_ ?_); focus (first | rfl | assumption | omega))
    | ((with_reducible refine exTd' ?_ ?_); focus (first | rfl | assumption | omega))
    | ((with_reducible refine exFd' ?_ ?_); focus (first | rfl | assumption | omega))
    | with_reducible refine exN ?_
    | with_reducible refine exI ?_
    | with_reducible refine exPn ?_
    | with_reducible refine exPi ?_
    | ((with_reducible refine len_and ?_ ?_); focus exact Nat.le_of_ble_eq_true rfl)))
theorem asc_noDict : ∀ (d : PyData), MP.asc d = true → noDict d = true
  | .none, _ => rfl
  | .bool _, _ => rfl
  | .int _, _ => rfl
  | .str _, _ => rfl
  | .list xs, h => by simp only [MP.asc] at h; simp only [noDict]; exact ascs_noDict xs h
  | .tuple xs, h => by simp only [MP.asc] at h; simp only [noDict]; exact ascs_noDict xs h
  | .dict _, h => by simp [MP.asc] at h
where ascs_noDict : ∀ (ds : List PyData), MP.ascs ds = true → noDicts ds = true
  | [], _ => rfl
  | d :: ds, h => by simp only [MP.ascs, Bool.and_eq_true] at h; simp only [noDicts, Bool.and_eq_true]; exact ⟨asc_noDict d h.1, ascs_noDict ds h.2⟩
theorem shp_gd {W D : Nat} {d : PyData} (g : MP.Gd W D d) (h : D ≤ 20) : shp d = true := by
  unfold shp
  rw [asc_noDict d g.a, g.shaped h]
  have := g.dep
  simp; omega
theorem zip_self (ds : List PyData) : vzipV ds ds = ds.map fun d => .many [d, d] := by
  induction ds with
  | nil => rfl
  | cons d ds ih => simp only [vzipV, List.map_cons, ih]
section
variable {P : VProg} {F : Nat} {ρ : Rn} {Q : VV → Rn → Prop} {W : Nat}
theorem same_items {n : Nat} {C : VCfg} (hC : C.call = vcallN P F n) {ds : List PyData} (hl : ds.length ≤ 100000)
    (ih : ∀ d ∈ ds, ∀ (ρ : Rn) (Q : VV → Rn → Prop), Q (.bool true, false) ρ → VOk (vcallN P F n "_law_same" [.d d, .d d] ρ) Q) {x y : Sl}
    {a b : E} (he : ∀ Q : List VItm → Rn → Prop, Q (vzipV ds ds) ρ → VOk (veIt C true (.zip a b) [x, y, .none, .none] ρ) Q) (q : ∀ k, Q (.list ((List.replicate k true).map .bool), true) ρ) :
    VOk (veE C (.lc (.tp [.nm 2, .nm 3]) (.zip a b) (.none) (.call "_law_same" (.cons (.var 2) (.cons (.var 3) (.nil)))) [2, 3]) [x, y, .none, .none] ρ) Q := by
  refine ve_lc (he _ ⟨?_, fun rest ys ρ' => ρ' = ρ ∧ (∃ k, ys = (List.replicate k true).map .bool) ∧ ∃ es : List PyData, rest = es.map (fun d => VItm.many [d, d]) ∧ ∀ d ∈ es, d ∈ ds, ?_, ?_, ?_⟩)
  · rw [zip_self, List.length_map, PySem.sizeLine_eq]; omega
  · exact ⟨rfl, ⟨0, rfl⟩, ds, zip_self ds, fun d h => h⟩
  · rintro x' rest ys ρ' ⟨rfl, ⟨k, rfl⟩, es, h1, h2⟩
    cases es with
    | nil => cases h1
    | cons d es =>
      injection h1 with ha hb
      subst ha
      refine ⟨[x, y, .val d, .val d], rfl, ?_⟩
      refine ve_call (va_var rfl (va_var rfl (va_nil ?_)))
      rw [hC]
      refine ih d (h2 d (List.mem_cons_self ..)) ρ' _ ⟨rfl, ⟨k + 1, ?_⟩, es, hb, fun d h => h2 d (List.mem_cons_of_mem _ h)⟩
      rw [List.replicate_succ', List.map_append]; rfl
  · rintro zs ρ' ⟨rfl, ⟨k, rfl⟩, _⟩
    exact q k
theorem same_call (hP : P.fns.lookup ("_law_same" : Str) = some MP.H.same) (hW : W ≤ 100000) : ∀ (D n : Nat) (d : PyData) (ρ : Rn) (Q : VV → Rn → Prop), D ≤ 20 → D < n → MP.Gd W D d → Q (.bool true, false) ρ → VOk (vcallN P F n "_law_same" [.d d, .d d] ρ) Q := by
  have atom : ∀ (D n : Nat) (d : PyData) (ρ : Rn) (Q : VV → Rn → Prop), D ≤ 20 → D < n → MP.Gd W D d → MP.atomD d = true → Q (.bool true, false) ρ → VOk (vcallN P F n "_law_same" [.d d, .d d] ρ) Q := by
    intro D n d ρ Q h1 h2 h3 ha h4
    obtain ⟨n, rfl⟩ : ∃ k, n = k + 1 := ⟨n - 1, by omega⟩
    refine v_call hP (by decide) rfl ?_
    show VOkS (veSs _ _ MP.H.same.body [.val d, .val d, .none, .none] ρ) _
    unfold MP.H.same
    cases d with
    | none => walk_at "v"; exact h4
    | bool b => walk_at "v"; exact h4
    | int i => walk_at "v"; have e : decide (i = i) = true := decide_eq_true rfl
               rw [e]; exact h4
    | str s =>
      walk_at "v"
      refine vc_eq (shp_gd h3 h1) (shp_gd h3 h1) ?_
      rw [PySem.SeqAt.eqv_refl _ (MP.asc_lay _ h3.a)]
      walk_at "v"; exact h4
    | list ds => cases ha
    | tuple ds => cases ha
    | dict ds => cases ha
  intro D
  induction D with
  | zero =>
    intro n d ρ Q h1 h2 h3 h4
    refine atom 0 n d ρ Q h1 h2 h3 ?_ h4
    have hdep := h3.dep
    cases d with
    | list ds => simp only [PyData.depth] at hdep; omega
    | tuple ds => simp only [PyData.depth] at hdep; omega
    | dict ds => have := h3.a; simp [MP.asc] at this
    | _ => rfl
  | succ D ih =>
    intro n d ρ Q h1 h2 h3 h4
    by_cases ha : MP.atomD d = true
    · exact atom (D + 1) n d ρ Q h1 h2 h3 ha h4
    obtain ⟨n, rfl⟩ : ∃ k, n = k + 1 := ⟨n - 1, by omega⟩
    refine v_call hP (by decide) rfl ?_
    show VOkS (veSs _ _ MP.H.same.body [.val d, .val d, .none, .none] ρ) _
    unfold MP.H.same
    cases d with
    | list ds =>
      have hlen : ds.length ≤ 100000 := by have := h3.w; have := MP.wts_len ds; simp only [MP.wt] at *; omega
      walk_at "v"
      refine same_items (n := n) (C := ⟨vcallN P F n, P.glob⟩) rfl hlen (fun d hd ρ Q q => ih n d ρ Q (by omega) (by omega) (h3.inL hd) q) (x := .val (.list ds)) (y := .val (.list ds)) (fun Q q => vi_zip (rq_val (i := 0) rfl (rq_val (i := 1) rfl ⟨ds, ds, .inl ⟨rfl, rfl⟩, q⟩))) fun k => ?_
      walk_at "v"
      have e : (List.replicate k true).all id = true := by simp
      rw [e]; exact h4
    | tuple ds =>
      have hlen : ds.length ≤ 100000 := by have := h3.w; have := MP.wts_len ds; simp only [MP.wt] at *; omega
      walk_at "v"
      refine same_items (n := n) (C := ⟨vcallN P F n, P.glob⟩) rfl hlen (fun d hd ρ Q q => ih n d ρ Q (by omega) (by omega) (h3.inT hd) q) (x := .val (.tuple ds)) (y := .val (.tuple ds)) (fun Q q => vi_zip (rq_val (i := 0) rfl (rq_val (i := 1) rfl ⟨ds, ds, .inr ⟨rfl, rfl⟩, q⟩))) fun k => ?_
      walk_at "v"
      have e : (List.replicate k true).all id = true := by simp
      rw [e]; exact h4
    | dict ds => have := h3.a; simp [MP.asc] at this
    | _ => exact (ha rfl).elim
end
end VE
set_option Elab.async false
set_option linter.all false
set_option maxRecDepth 100000
set_option maxHeartbeats 1000000
namespace VE
open MP (Val E Es Oe It Rg S Ss Tg Op Cmp Ty Bi Mt Fn)
open PySem (Str PyData sizeLine)
open Z (eqv_int eqv_boolD isNone boolsP_map atV_in rgP_one exT exF exT' exF' exTd exFd exTd' exFd' notOwn frz_id NotQ exN exB exB' len_and exI exPn exPi ex_append)
local macro_rules
  | `(tactic| walk_at "v") => `(tactic| repeat (first
    | with_reducible refine vs_cons ?_
    | with_reducible refine vs_nil ?_
    | with_reducible refine vs_nx ?_
    | with_reducible refine vs_rt ?_
    | ((with_reducible show VOkS (veS _ _ (S.set _ _) _ _) _); refine vs_set (by first | exact frz_id (by rfl) | with_unfolding_all rfl) ?_)
    | ((with_reducible show VOkS (veS _ _ (S.ret (E.var _)) _ _) _); first | refine vs_retV (by rfl) (by first | exact frz_id (by rfl) | with_unfolding_all rfl) ?_ | refine vs_retO (by rfl) ?_)
    | ((with_reducible show VOkS (veS _ _ (S.ret _) _ _) _); refine vs_ret (by rfl) (by first | exact frz_id (by rfl) | with_unfolding_all rfl) ?_)
    | with_reducible refine vs_pass ?_
    | ((with_reducible show VOkS (veS _ _ (S.unp _ _) _ _) _); refine vs_unp (by first | exact frz_id (by rfl) | with_unfolding_all rfl) ?_)
    | ((with_reducible show VOkS (veS _ _ (S.par _ _) _ _) _); refine vs_par (by first | exact frz_id (by rfl) | with_unfolding_all rfl) ?_)
    | ((with_reducible show VOkS (veS _ _ (S.ifs _ _ _) _ _) _); refine vs_if (by first | exact frz_id (by rfl) | with_unfolding_all rfl) ?_)
    | with_reducible refine vp_nil ?_
    | with_reducible refine vp_cons ?_
    | with_reducible refine ve_int ?_
    | with_reducible refine ve_bool ?_
    | with_reducible refine ve_none ?_
    | with_reducible refine ve_str ?_
    | ((with_reducible show VOk (veE _ (E.var _) _ _) _); refine ve_var (by rfl) ?_)
    | ((with_reducible show VOk (rdV _ (E.var _) _ _) _); first | refine rd_val (by rfl) ?_ | refine rd_own (by rfl) ?_)
    | ((with_reducible show VOk (rdV _ _ _ _) _); refine rd_e (by rfl) ?_)
    | with_reducible refine ve_bin ?_
    | with_reducible refine ve_cmp ?_
    | with_reducible refine ve_chain ?_
    | with_reducible refine ve_ix ?_
    | with_reducible refine ve_sl ?_
    | with_reducible refine ve_rev ?_
    | with_reducible refine vo_none ?_
    | with_reducible refine vo_some ?_
    | with_reducible refine ve_callN ?_
    | with_reducible refine ve_callkN ?_
    | with_reducible refine ve_bi ?_
    | with_reducible refine ve_mt ?_
    | with_reducible refine ve_isi ?_
    | with_reducible refine ve_lst ?_
    | with_reducible refine ve_tup ?_
    | with_reducible refine ve_dic0 ?_
    | with_reducible refine ve_and ?_
    | with_reducible refine ve_or ?_
    | with_reducible refine ve_notQ ?_
    | with_reducible refine ve_ite ?_
    | with_reducible refine ve_lrng ?_
    | with_reducible refine ve_trng ?_
    | with_reducible refine ve_neg ?_
    | with_reducible refine va_nil ?_
    | ((with_reducible show VOk (veAs _ (Es.cons (E.var _) _) _ _) _); first | refine va_var (by rfl) ?_ | refine va_rng (by rfl) ?_)
    | ((with_reducible show VOk (veAs _ (Es.cons _ _) _ _) _); refine va_e (by rfl) ?_)
    | with_reducible refine vr_nil ?_
    | with_reducible refine vr_cons ?_
    | with_reducible refine vl_nil ?_
    | with_reducible refine vl_cons ?_
    | with_reducible refine vb_add ?_
    | with_reducible refine vb_sub ?_
    | with_reducible refine vb_addB ?_
    | with_reducible refine vb_subB ?_
    | with_reducible refine v_strB ?_
    | with_reducible refine vsl_t ?_
    | with_reducible refine vsl_l ?_
    | with_reducible refine vrev_l ?_
    | with_reducible refine vb_mod (by first | assumption | omega) ?_
    | with_reducible refine vc_lt ?_
    | with_reducible refine vc_le ?_
    | with_reducible refine vc_gt ?_
    | with_reducible refine vc_ge ?_
    | with_reducible refine vc_eqI ?_
    | with_reducible refine vc_neI ?_
    | with_reducible refine vc_eqB ?_
    | with_reducible refine vc_neB ?_
    | ((with_reducible show VOk (vcmp Cmp.eq _ _ _) _); refine vc_eq (by rfl) (by rfl) ?_)
    | ((with_reducible show VOk (vcmp Cmp.ne _ _ _) _); refine vc_ne (by rfl) (by rfl) ?_)
    | with_reducible refine vc_is ?_
    | with_reducible refine vc_isnot ?_
    | with_reducible refine vn_t ?_
    | with_reducible refine vn_l ?_
    | with_reducible refine vn_d ?_
    | with_reducible refine vt_t ?_
    | with_reducible refine vt_l ?_
    | with_reducible refine vl_t ?_
    | with_reducible refine vl_l ?_
    | with_reducible refine va_all ?_
    | with_reducible refine va_any ?_
    | with_reducible refine vsrc_t ?_
    | with_reducible refine vsrc_l ?_
    | ((with_reducible refine exT ?_ ?_); focus rfl)
    | ((with_reducible refine exF ?_ ?_); focus rfl)
    | ((with_reducible refine exT' ?_ ?_); focus rfl)
    | ((with_reducible refine exF' ?_ ?_); focus rfl)
    | ((with_reducible refine exTd ?_ ?_); focus (first | rfl | assumption | omega))
    | ((with_reducible refine exFd ?_ ?_); focus (first | rfl | assumption | omega))
    | ((with_reducible refine exTd' ?_ ?_); focus (first | rfl | assumption | omega))
    | ((with_reducible refine exFd' ?_ ?_); focus (first | rfl | assumption | omega))
    | with_reducible refine exN ?_
    | with_reducible refine exI ?_
    | with_reducible refine exPn ?_
    | with_reducible refine exPi ?_
    | ((with_reducible refine len_and ?_ ?_); focus exact Nat.le_of_ble_eq_true rfl)))
/-! ### good data -/
mutual
/-- the longest int -/
def mx : PyData → Nat
  | .int i => i.natAbs.log2 + 1
  | .list xs => mxs xs
  | .tuple xs => mxs xs
  | _ => 0
def mxs : List PyData → Nat
  | [] => 0
  | x :: xs => max (mx x) (mxs xs)
end
theorem mxs_le {ds : List PyData} {B : Nat} : mxs ds ≤ B ↔ ∀ d ∈ ds, mx d ≤ B := by
  induction ds with
  | nil => simp [mxs]
  | cons d ds ih =>
    simp only [mxs, List.mem_cons, forall_eq_or_imp]
    rw [← ih]; omega
structure G (W D B : Nat) (d : PyData) : Prop where
  g : MP.Gd W D d
  b : mx d ≤ B
structure GL (W D B : Nat) (ds : List PyData) : Prop where
  w : MP.wts ds + 3 ≤ W
  e : ∀ d ∈ ds, d.depth ≤ D ∧ MP.asc d = true ∧ mx d ≤ B
section
variable {W W' D D' B B' : Nat} {d : PyData} {ds es : List PyData}
theorem G.mono (h : G W D B d) (a : W ≤ W') (b : D ≤ D') (c : B ≤ B') : G W' D' B' d := ⟨h.g.mono a b, Nat.le_trans h.b c⟩
theorem GL.mono (h : GL W D B ds) (a : W ≤ W') (b : D ≤ D') (c : B ≤ B') : GL W' D' B' ds := ⟨Nat.le_trans h.w a, fun d hd => ⟨Nat.le_trans (h.e d hd).1 b, (h.e d hd).2.1, Nat.le_trans (h.e d hd).2.2 c⟩⟩
theorem GL.list (h : GL W D B ds) : G W (D + 1) B (.list ds) := ⟨MP.GdL.list ⟨h.w, fun d hd => ⟨(h.e d hd).1, (h.e d hd).2.1⟩⟩, by simp only [mx]; exact mxs_le.mpr fun d hd => (h.e d hd).2.2⟩
theorem GL.tuple (h : GL W D B ds) : G W (D + 1) B (.tuple ds) := ⟨MP.GdL.tuple ⟨h.w, fun d hd => ⟨(h.e d hd).1, (h.e d hd).2.1⟩⟩, by simp only [mx]; exact mxs_le.mpr fun d hd => (h.e d hd).2.2⟩
theorem G.listL (h : G W (D + 1) B (.list ds)) : GL W D B ds := ⟨h.g.listL.w, fun d hd => ⟨(h.g.listL.e d hd).1, (h.g.listL.e d hd).2, by have := h.b; simp only [mx] at this; exact mxs_le.mp this d hd⟩⟩
theorem G.tupleL (h : G W (D + 1) B (.tuple ds)) : GL W D B ds := ⟨h.g.tupleL.w, fun d hd => ⟨(h.g.tupleL.e d hd).1, (h.g.tupleL.e d hd).2, by have := h.b; simp only [mx] at this; exact mxs_le.mp this d hd⟩⟩
theorem GL.at (h : GL W D B ds) {i : Nat} (e : ds[i]? = some d) : G (MP.wt d) D B d := ⟨⟨Nat.le_refl _, (h.e d (List.mem_of_getElem? e)).1, (h.e d (List.mem_of_getElem? e)).2.1⟩, (h.e d (List.mem_of_getElem? e)).2.2⟩
theorem GL.mem (h : GL W D B ds) (hd : d ∈ ds) : G W D B d := ⟨⟨by have := MP.wts_at hd; have := h.w; omega, (h.e d hd).1, (h.e d hd).2.1⟩, (h.e d hd).2.2⟩
theorem GL.len (h : GL W D B ds) : 2 * ds.length + 3 ≤ W := by have := MP.wts_len ds; have := h.w; omega
theorem G.no0 (h : G W 0 B d) : MP.atomD d = true := by
  have hdep := h.g.dep
  cases d with
  | list ds => simp only [PyData.depth] at hdep; omega
  | tuple ds => simp only [PyData.depth] at hdep; omega
  | dict ds => have := h.g.a; simp [MP.asc] at this
  | _ => rfl
/-- closed good data -/
def gB (d : PyData) : Bool := decide (MP.wt d ≤ 100) && decide (d.depth ≤ 2) && MP.asc d && decide (mx d ≤ 5)
theorem G.of_b (h : gB d = true) (a : 100 ≤ W) (b : 2 ≤ D) (c : 5 ≤ B) : G W D B d := by
  unfold gB at h
  simp only [Bool.and_eq_true, decide_eq_true_eq] at h
  exact ⟨⟨by omega, by omega, h.1.2⟩, by omega⟩
mutual
theorem showable_of : ∀ d : PyData, MP.asc d = true → mx d ≤ 1900 → d.showable = true
  | .none, _, _ => rfl
  | .bool _, _, _ => rfl
  | .str _, _, _ => rfl
  | .int i, _, h => by simp only [mx] at h; simp only [PyData.showable, decide_eq_true_eq]; omega
  | .list xs, h, hw => by
    simp only [MP.asc] at h; simp only [mx] at hw
    simp only [PyData.showable]
    exact showableAll_of xs h hw
  | .tuple xs, h, hw => by
    simp only [MP.asc] at h; simp only [mx] at hw
    simp only [PyData.showable]
    exact showableAll_of xs h hw
  | .dict _, h, _ => by simp [MP.asc] at h
theorem showableAll_of : ∀ ds : List PyData, MP.ascs ds = true → mxs ds ≤ 1900 → PyData.showableAll ds = true
  | [], _, _ => rfl
  | d :: ds, h, hw => by
    simp only [MP.ascs, Bool.and_eq_true] at h
    simp only [mxs] at hw
    simp only [PyData.showableAll, Bool.and_eq_true]
    exact ⟨showable_of d h.1 (by omega), showableAll_of ds h.2 (by omega)⟩
end
theorem G.repr {ρ : Rn} {Q : VV → Rn → Prop} (h : G W D B d) (hW : W ≤ 1000000) (hD : D ≤ 20) (hB : B ≤ 1900) (q : Q (.str d.shown, false) ρ) : VOk (vbi .repr [d] ρ) Q := by
  refine v_repr (shp_gd h.g hD) (showable_of d h.g.a (Nat.le_trans h.b hB)) ?_ q
  have h1 := h.g.w
  have h2 := MP.shown_le d h.g.a
  rw [PySem.sizeLine_eq]; omega
end
/-! ### the helpers -/
section
variable {P : VProg} {F n : Nat} {ρ : Rn} {Q : VV → Rn → Prop} {m : Int}
theorem pick_call (hP : P.fns.lookup ("_law_pick" : Str) = some MP.H.pick) (hn : 2 ≤ n) {xs : List PyData} (h : RnOk ρ m) (hm : m < 2 ^ 39) (h0 : 0 < xs.length) (hl : xs.length < 2 ^ 30)
    (q : ∀ x ρ', x ∈ xs → RnOk ρ' (m + 1) → Q (x, false) ρ') : VOk (vcallN P F n "_law_pick" [.rng, .d (.list xs)] ρ) Q := by
  obtain ⟨n, rfl⟩ : ∃ k, n = k + 2 := ⟨n - 2, by omega⟩
  refine v_call hP (by decide) rfl ?_
  show VOkS (veSs _ _ MP.H.pick.body [.rng, .val (.list xs)] ρ) _
  unfold MP.H.pick
  walk_at "v"
  refine v_draw h (by omega) (by omega) (by omega) fun k ρ' h1 h2 h3 => ?_
  obtain ⟨x, hx, hm⟩ := atV_in h1 h2
  refine vx_l hx ?_
  walk_at "v"
  exact q x ρ' hm h3
theorem shuffle_call (hP : P.fns.lookup ("_law_shuffle" : Str) = some MP.H.shuffle) (hn : 2 ≤ n) {xs : List PyData} (h : RnOk ρ m) (hm : m + xs.length < 2 ^ 39) (hl : xs.length < 1000000)
    (q : ∀ ys ρ', ys.Perm xs → RnOk ρ' (m + xs.length) → Q (.list ys, true) ρ') : VOk (vcallN P F n "_law_shuffle" [.rng, .d (.list xs)] ρ) Q := by
  obtain ⟨n, rfl⟩ : ∃ k, n = k + 2 := ⟨n - 2, by omega⟩
  refine v_call hP (by decide) rfl ?_
  show VOkS (veSs _ _ MP.H.shuffle.body [.rng, .val (.list xs), .none, .none] ρ) _
  unfold MP.H.shuffle
  walk_at "v"
  refine vs_loop (by rfl) (vi_l rfl ⟨fun rest e ρ' => ∃ (x : Sl) (ys done vs : List PyData), e = [.rng, .val (.list xs), .own (.list ys), x] ∧ rest = vs.map .one ∧ done ++ vs = xs ∧ ys.Perm done ∧ RnOk ρ' (m + done.length) ∧ (∀ d, x ≠ .own d), ?_, ?_, ?_⟩)
  · exact ⟨.none, [], [], xs, rfl, rfl, rfl, .refl _, by simpa using h, fun d e => nomatch e⟩
  · rintro w rest e ρ' ⟨x, ys, done, vs, rfl, h1, h2, h3, h4, h5⟩
    cases vs with
    | nil => cases h1
    | cons y vs =>
      injection h1 with ha hb
      subst ha
      have hlen : done.length + 1 + vs.length = xs.length := by rw [← h2]; simp; omega
      have hyl := h3.length_eq
      refine ⟨[.rng, .val (.list xs), .own (.list ys), .val y], rfl, ?_⟩
      refine vs_cons (vs_exM (by rfl) (by rfl) ?_)
      walk_at "v"
      refine v_draw h4 (by omega) (by omega) (by omega) fun k ρ2 h6 h7 h8 => ?_
      walk_at "v"
      refine ⟨.list (MP.insAt ys k.toNat y), ?_, ?_⟩
      · show (if ys.length < sizeLine ∧ 0 ≤ k ∧ k ≤ ys.length then some (PyData.list (MP.insAt ys k.toNat y)) else none) = _
        rw [if_pos ⟨by rw [PySem.sizeLine_eq]; omega, h6, by omega⟩]
      · walk_at "v"
        refine ⟨.val y, _, done ++ [y], vs, rfl, hb, by simpa using h2, ?_, by simpa [Int.add_assoc] using h8, fun d e => nomatch e⟩
        exact (MP.insAt_perm ys k.toNat y).trans ((List.Perm.cons y h3).trans (List.perm_append_singleton y done).symm)
  · rintro e ρ' ⟨x, ys, done, vs, rfl, h1, h2, h3, h4, h5⟩
    cases vs with
    | cons y vs => cases h1
    | nil =>
      rw [List.append_nil] at h2
      subst h2
      walk_at "v"
      exact q ys ρ' h3 h4
end
end VE
set_option Elab.async false
set_option linter.all false
set_option maxRecDepth 100000
set_option maxHeartbeats 1000000
namespace VE
open MP (Val E Es Oe It Rg S Ss Tg Op Cmp Ty Bi Mt Fn)
open PySem (Str PyData sizeLine)
open Z (eqv_int eqv_boolD isNone boolsP_map atV_in rgP_one exT exF exT' exF' exTd exFd exTd' exFd' notOwn frz_id NotQ exN exB exB' len_and exI exPn exPi ex_append)
local macro_rules
  | `(tactic| walk_at "v") => `(tactic| repeat (first
    | with_reducible refine vs_cons ?_
    | with_reducible refine vs_nil ?_
    | with_reducible refine vs_nx ?_
    | with_reducible refine vs_rt ?_
    | ((with_reducible show VOkS (veS _ _ (S.set _ _) _ _) _); refine vs_set (by first | exact frz_id (by rfl) | with_unfolding_all rfl) ?_)
    | ((with_reducible show VOkS (veS _ _ (S.ret (E.var _)) _ _) _); first | refine vs_retV (by rfl) (by first | exact frz_id (by rfl) | with_unfolding_all rfl) ?_ | refine vs_retO (by rfl) ?_)
    | ((with_reducible show VOkS (veS _ _ (S.ret _) _ _) _); refine vs_ret (by rfl) (by first | exact frz_id (by rfl) | with_unfolding_all rfl) ?_)
    | with_reducible refine vs_pass ?_
    | ((with_reducible show VOkS (veS _ _ (S.unp _ _) _ _) _); refine vs_unp (by first | exact frz_id (by rfl) | with_unfolding_all rfl) ?_)
    | ((with_reducible show VOkS (veS _ _ (S.par _ _) _ _) _); refine vs_par (by first | exact frz_id (by rfl) | with_unfolding_all rfl) ?_)
    | ((with_reducible show VOkS (veS _ _ (S.ifs _ _ _) _ _) _); refine vs_if (by first | exact frz_id (by rfl) | with_unfolding_all rfl) ?_)
    | with_reducible refine vp_nil ?_
    | with_reducible refine vp_cons ?_
    | with_reducible refine ve_int ?_
    | with_reducible refine ve_bool ?_
    | with_reducible refine ve_none ?_
    | with_reducible refine ve_str ?_
    | ((with_reducible show VOk (veE _ (E.var _) _ _) _); refine ve_var (by rfl) ?_)
    | ((with_reducible show VOk (rdV _ (E.var _) _ _) _); first | refine rd_val (by rfl) ?_ | refine rd_own (by rfl) ?_)
    | ((with_reducible show VOk (rdV _ _ _ _) _); refine rd_e (by rfl) ?_)
    | with_reducible refine ve_bin ?_
    | with_reducible refine ve_cmp ?_
    | with_reducible refine ve_chain ?_
    | with_reducible refine ve_ix ?_
    | with_reducible refine ve_sl ?_
    | with_reducible refine ve_rev ?_
    | with_reducible refine vo_none ?_
    | with_reducible refine vo_some ?_
    | with_reducible refine ve_callN ?_
    | with_reducible refine ve_callkN ?_
    | with_reducible refine ve_bi ?_
    | with_reducible refine ve_mt ?_
    | with_reducible refine ve_isi ?_
    | with_reducible refine ve_lst ?_
    | with_reducible refine ve_tup ?_
    | with_reducible refine ve_dic0 ?_
    | with_reducible refine ve_and ?_
    | with_reducible refine ve_or ?_
    | with_reducible refine ve_notQ ?_
    | with_reducible refine ve_ite ?_
    | with_reducible refine ve_lrng ?_
    | with_reducible refine ve_trng ?_
    | with_reducible refine ve_neg ?_
    | with_reducible refine va_nil ?_
    | ((with_reducible show VOk (veAs _ (Es.cons (E.var _) _) _ _) _); first | refine va_var (by rfl) ?_ | refine va_rng (by rfl) ?_)
    | ((with_reducible show VOk (veAs _ (Es.cons _ _) _ _) _); refine va_e (by rfl) ?_)
    | with_reducible refine vr_nil ?_
    | with_reducible refine vr_cons ?_
    | with_reducible refine vl_nil ?_
    | with_reducible refine vl_cons ?_
    | with_reducible refine vb_add ?_
    | with_reducible refine vb_sub ?_
    | with_reducible refine vb_addB ?_
    | with_reducible refine vb_subB ?_
    | with_reducible refine v_strB ?_
    | with_reducible refine vsl_t ?_
    | with_reducible refine vsl_l ?_
    | with_reducible refine vrev_l ?_
    | with_reducible refine vb_mod (by first | assumption | omega) ?_
    | with_reducible refine vc_lt ?_
    | with_reducible refine vc_le ?_
    | with_reducible refine vc_gt ?_
    | with_reducible refine vc_ge ?_
    | with_reducible refine vc_eqI ?_
    | with_reducible refine vc_neI ?_
    | with_reducible refine vc_eqB ?_
    | with_reducible refine vc_neB ?_
    | ((with_reducible show VOk (vcmp Cmp.eq _ _ _) _); refine vc_eq (by rfl) (by rfl) ?_)
    | ((with_reducible show VOk (vcmp Cmp.ne _ _ _) _); refine vc_ne (by rfl) (by rfl) ?_)
    | with_reducible refine vc_is ?_
    | with_reducible refine vc_isnot ?_
    | with_reducible refine vn_t ?_
    | with_reducible refine vn_l ?_
    | with_reducible refine vn_d ?_
    | with_reducible refine vt_t ?_
    | with_reducible refine vt_l ?_
    | with_reducible refine vl_t ?_
    | with_reducible refine vl_l ?_
    | with_reducible refine va_all ?_
    | with_reducible refine va_any ?_
    | with_reducible refine vsrc_t ?_
    | with_reducible refine vsrc_l ?_
    | ((with_reducible refine exT ?_ ?_); focus rfl)
    | ((with_reducible refine exF ?_ ?_); focus rfl)
    | ((with_reducible refine exT' ?_ ?_); focus rfl)
    | ((with_reducible refine exF' ?_ ?_); focus rfl)
    | ((with_reducible refine exTd ?_ ?_); focus (first | rfl | assumption | omega))
    | ((with_reducible refine exFd ?_ ?_); focus (first | rfl | assumption | omega))
    | ((with_reducible refine exTd' ?_ ?_); focus (first | rfl | assumption | omega))
    | ((with_reducible refine exFd' ?_ ?_); focus (first | rfl | assumption | omega))
    | with_reducible refine exN ?_
    | with_reducible refine exI ?_
    | with_reducible refine exPn ?_
    | with_reducible refine exPi ?_
    | ((with_reducible refine len_and ?_ ?_); focus exact Nat.le_of_ble_eq_true rfl)))
def Pl (W D B : Nat) (xs : List PyData) : Prop := ∀ d ∈ xs, G W D B d
theorem Pl.app {W D B : Nat} {xs ys : List PyData} (h : Pl W D B xs) (h' : Pl W D B ys) : Pl W D B (xs ++ ys) := fun d hd => (List.mem_append.mp hd).elim (h d) (h' d)
theorem Pl.nil {W D B : Nat} : Pl W D B [] := fun d hd => nomatch hd
theorem Pl.cons {W D B : Nat} {x : PyData} {xs : List PyData} (a : G W D B x) (h : Pl W D B xs) : Pl W D B (x :: xs) := fun d hd => (List.mem_cons.mp hd).elim (fun e => e ▸ a) (h d)
theorem Pl.reps {W D B : Nat} {xs : List PyData} (h : Pl W D B xs) (k : Int) : Pl W D B (repsP xs k) := fun d hd => by
  unfold repsP at hd
  rw [List.mem_flatten] at hd
  obtain ⟨l, h1, h2⟩ := hd
  rw [List.mem_replicate] at h1
  exact h d (h1.2 ▸ h2)
theorem G.str {W D B : Nat} {x : Str} (h : ∀ c ∈ x.cps.toList, c < 128) (hl : 10 * x.length + 2 ≤ W) : G W D B (.str x) := ⟨MP.gd_str h hl, Nat.zero_le _⟩
theorem G.int {W D B : Nat} {i : Int} (hl : i.natAbs.log2 + 3 ≤ W) (hb : i.natAbs.log2 + 1 ≤ B) : G W D B (.int i) := ⟨MP.gd_int hl, hb⟩
theorem le_line {n : Nat} (h : n ≤ 1000) : n ≤ sizeLine := by rw [PySem.sizeLine_eq]; omega
theorem le_mill {n : Nat} (h : n ≤ 1000000) : n ≤ sizeLine := by rw [PySem.sizeLine_eq]; omega
section
variable {P : VProg} {F n : Nat} {ρ : Rn} {m : Int} {W D B : Nat} {d : PyData} {T : VFl → VEn → Rn → Prop}
theorem repl_tail (hP2 : P.fns.lookup ("_law_pick" : Str) = some MP.H.pick) (hn : 2 ≤ n) {xs : List PyData} (h : RnOk ρ m) (hm : m < 2 ^ 39) (h0 : 0 < xs.length) (hl : xs.length < 2 ^ 30)
    (q : ∀ x ρ', x ∈ xs → RnOk ρ' (m + 1) → T (.rt (x, false)) [.rng, .val d, .val (.list xs)] ρ') : VOkS (veS ⟨vcallN P F n, P.glob⟩ F (.ret (.call "_law_pick" (.cons (.var 0) (.cons (.var 2) (.nil))))) [.rng, .val d, .own (.list xs)] ρ) T := by
  refine vs_retF (by rfl) ?_
  show VOk (veE _ _ [.rng, .val d, .val (.list xs)] ρ) _
  walk_at "v"
  refine pick_call hP2 hn h hm h0 hl fun x ρ' hx h' => ?_
  exact q x ρ' hx h'
theorem replaced_call (hP2 : P.fns.lookup ("_law_pick" : Str) = some MP.H.pick) (hP3 : P.fns.lookup ("_law_replaced" : Str) = some MP.H.replaced) (hn : 3 ≤ n) {Q : VV → Rn → Prop}
    (h : RnOk ρ m) (hm : m < 2 ^ 39) (g : G W D B d) (hW : W ≤ 100000) (hB : B ≤ 1900) (hB2 : 5 ≤ B)
    (q : ∀ d' ρ', RnOk ρ' (m + 1) → G (10 * W + 100) (D + 2) (B + 1) d' → Q (d', false) ρ') : VOk (vcallN P F n "_law_replaced" [.rng, .d d] ρ) Q := by
  obtain ⟨n, rfl⟩ : ∃ k, n = k + 1 := ⟨n - 1, by omega⟩
  refine v_call hP3 (by decide) rfl ?_
  show VOkS (veSs _ _ MP.H.replaced.body [.rng, .val d, .none] ρ) _
  unfold MP.H.replaced MP.H.consts
  rw [MP.H.replR_eq]
  unfold MP.H.ifInt MP.H.ifStr
  have cst : ∀ {x : PyData}, gB x = true → G (10 * W + 100) (D + 2) (B + 1) x := fun e => G.of_b e (by omega) (by omega) (by omega)
  have fin : ∀ xs : List PyData, Pl (10 * W + 100) (D + 2) (B + 1) xs → 0 < xs.length ∧ xs.length < 2 ^ 30 → VOkS (veS ⟨vcallN P F n, P.glob⟩ F (.ret (.call "_law_pick" (.cons (.var 0) (.cons (.var 2) (.nil))))) [.rng, .val d, .own (.list xs)] ρ) (VSeq ⟨vcallN P F n, P.glob⟩ F .nil fun fl x ρ' => match fl with
      | .nx => Q (.none, false) ρ'
      | .rt v => Q v ρ'
      | .br => False
      | .ct => False) := fun xs hp hl => repl_tail hP2 (by omega) h hm hl.1 hl.2 fun x ρ' hx h' => q x ρ' h' (hp x hx)
  have c17 : Pl (10 * W + 100) (D + 2) (B + 1) [.none, .bool true, .bool false, .int 0, .int 1, .int (-1), .int 9, .str "", .str "forward", .str "start", .tuple [], .list [], .tuple [.int 0], .list [.int 0], .tuple [.int 0, .int 1], .tuple [.int 1, .int 0], .tuple [.int 0, .int 0, .tuple [.int 0]]] :=
    .cons (cst (by decide +kernel)) <| .cons (cst (by decide +kernel)) <| .cons (cst (by decide +kernel)) <| .cons (cst (by decide +kernel)) <| .cons (cst (by decide +kernel)) <| .cons (cst (by decide +kernel)) <| .cons (cst (by decide +kernel)) <| .cons (cst (by decide +kernel)) <| .cons (cst (by decide +kernel)) <| .cons (cst (by decide +kernel)) <| .cons (cst (by decide +kernel)) <| .cons (cst (by decide +kernel)) <| .cons (cst (by decide +kernel)) <| .cons (cst (by decide +kernel)) <| .cons (cst (by decide +kernel)) <| .cons (cst (by decide +kernel)) <| .cons (cst (by decide +kernel)) .nil
  cases d with
  | none => walk_at "v"; exact fin _ c17 (by decide)
  | list ds => walk_at "v"; exact fin _ c17 (by decide)
  | tuple ds => walk_at "v"; exact fin _ c17 (by decide)
  | dict ds => have := g.g.a; simp [MP.asc] at this
  | bool b =>
    walk_at "v"
    refine vb_mulL (by decide) (Nat.le_of_ble_eq_true rfl) ?_
    refine vb_addL (le_line (Nat.le_of_ble_eq_true rfl)) ?_
    walk_at "v"
    refine fin _ (c17.app (Pl.reps ?_ 2)) ⟨Nat.le_of_ble_eq_true rfl, Nat.le_of_ble_eq_true rfl⟩
    exact .cons (cst (by cases b <;> decide +kernel)) (.cons (cst (by cases b <;> decide +kernel)) (.cons (cst (by cases b <;> decide +kernel)) (.cons (cst (by cases b <;> decide +kernel)) .nil)))
  | int i =>
    have hw := g.g.w
    have hb := g.b
    simp only [MP.wt] at hw
    simp only [mx] at hb
    walk_at "v"
    refine v_strI (by omega) ?_
    walk_at "v"
    refine vb_mulL (by decide) (Nat.le_of_ble_eq_true rfl) ?_
    refine vb_addL (le_line (Nat.le_of_ble_eq_true rfl)) ?_
    walk_at "v"
    refine fin _ (c17.app (Pl.reps ?_ 2)) ⟨Nat.le_of_ble_eq_true rfl, Nat.le_of_ble_eq_true rfl⟩
    have n1 := MP.log2_near (n := i.natAbs) (m := (i + 1).natAbs) (by omega)
    have n2 := MP.log2_near (n := i.natAbs) (m := (i - 1).natAbs) (by omega)
    have g4 : ∀ b : Bool, gB (.bool b) = true := fun b => by cases b <;> decide +kernel
    exact .cons (.int (by omega) (by omega)) (.cons (.int (by omega) (by omega)) (.cons ⟨MP.gd_num hw, Nat.zero_le _⟩ (.cons (cst (g4 _)) .nil)))
  | str x =>
    have hw := g.g.w
    simp only [MP.wt] at hw
    have ha := MP.asc_str.mp g.g.a
    walk_at "v"
    refine vb_addS (le_mill (by show _ + 1 ≤ _; omega)) ?_
    walk_at "v"
    refine vsl_s (le_mill (by omega)) ?_
    walk_at "v"
    refine v_upper (by omega) ?_
    walk_at "v"
    refine vb_addL (le_line (Nat.le_of_ble_eq_true rfl)) ?_
    walk_at "v"
    refine fin _ (c17.app ?_) ⟨Nat.le_of_ble_eq_true rfl, Nat.le_of_ble_eq_true rfl⟩
    have e1 : (" " : Str).length = 1 := rfl
    have g1 : G (10 * W + 100) (D + 2) (B + 1) (.str (x ++ " ")) := .str (PySem.W.KSb.asc_app ha (PySem.W.KSb.asc_of (by decide +kernel))) (by rw [PySem.strLen_append, e1]; omega)
    have g2 : G (10 * W + 100) (D + 2) (B + 1) (.str ⟨(MP.cutV x.cps.toList (some 1) none).toArray⟩) := .str (fun c hc => ha c (MP.cut_mem (by simpa using hc))) (by
      have := MP.cut_len x.cps.toList (some 1) none
      have e : (⟨(MP.cutV x.cps.toList (some 1) none).toArray⟩ : Str).length = (MP.cutV x.cps.toList (some 1) none).length := by show (List.toArray _).size = _; simp
      have e2 : x.cps.toList.length = x.length := by show _ = x.cps.size; simp
      omega)
    have g3 : G (10 * W + 100) (D + 2) (B + 1) (.str (PySem.Txt.upper x)) := .str (fun c hc => MP.asc_upper x.cps.toList ha c (by simpa using hc)) (by have := PyProof.Rows.len_upper x; omega)
    have g4 : G (10 * W + 100) (D + 2) (B + 1) (.list [.str x]) := ⟨⟨by simp only [MP.wt, MP.wts]; omega, by simp only [PyData.depth, PyData.depthAll]; omega, by simp only [MP.asc, MP.ascs, Bool.and_true]; exact g.g.a⟩, by simp only [mx, mxs]; omega⟩
    exact .cons g1 (.cons g2 (.cons g3 (.cons g4 (.cons (cst (by decide +kernel)) (.cons (cst (by decide +kernel)) .nil)))))
end
end VE
set_option Elab.async false
set_option linter.all false
set_option maxRecDepth 100000
set_option maxHeartbeats 1000000
namespace VE
open MP (Val E Es Oe It Rg S Ss Tg Op Cmp Ty Bi Mt Fn)
open PySem (Str PyData sizeLine)
open Z (eqv_int eqv_boolD isNone boolsP_map atV_in rgP_one exT exF exT' exF' exTd exFd exTd' exFd' notOwn frz_id NotQ exN exB exB' len_and exI exPn exPi ex_append)
local macro_rules
  | `(tactic| walk_at "v") => `(tactic| repeat (first
    | with_reducible refine vs_cons ?_
    | with_reducible refine vs_nil ?_
    | with_reducible refine vs_nx ?_
    | with_reducible refine vs_rt ?_
    | ((with_reducible show VOkS (veS _ _ (S.set _ _) _ _) _); refine vs_set (by first | exact frz_id (by rfl) | with_unfolding_all rfl) ?_)
    | ((with_reducible show VOkS (veS _ _ (S.ret (E.var _)) _ _) _); first | refine vs_retV (by rfl) (by first | exact frz_id (by rfl) | with_unfolding_all rfl) ?_ | refine vs_retO (by rfl) ?_)
    | ((with_reducible show VOkS (veS _ _ (S.ret _) _ _) _); refine vs_ret (by rfl) (by first | exact frz_id (by rfl) | with_unfolding_all rfl) ?_)
    | with_reducible refine vs_pass ?_
    | ((with_reducible show VOkS (veS _ _ (S.unp _ _) _ _) _); refine vs_unp (by first | exact frz_id (by rfl) | with_unfolding_all rfl) ?_)
    | ((with_reducible show VOkS (veS _ _ (S.par _ _) _ _) _); refine vs_par (by first | exact frz_id (by rfl) | with_unfolding_all rfl) ?_)
    | ((with_reducible show VOkS (veS _ _ (S.ifs _ _ _) _ _) _); refine vs_if (by first | exact frz_id (by rfl) | with_unfolding_all rfl) ?_)
    | with_reducible refine vp_nil ?_
    | with_reducible refine vp_cons ?_
    | with_reducible refine ve_int ?_
    | with_reducible refine ve_bool ?_
    | with_reducible refine ve_none ?_
    | with_reducible refine ve_str ?_
    | ((with_reducible show VOk (veE _ (E.var _) _ _) _); refine ve_var (by rfl) ?_)
    | ((with_reducible show VOk (rdV _ (E.var _) _ _) _); first | refine rd_val (by rfl) ?_ | refine rd_own (by rfl) ?_)
    | ((with_reducible show VOk (rdV _ _ _ _) _); refine rd_e (by rfl) ?_)
    | with_reducible refine ve_bin ?_
    | with_reducible refine ve_cmp ?_
    | with_reducible refine ve_chain ?_
    | with_reducible refine ve_ix ?_
    | with_reducible refine ve_sl ?_
    | with_reducible refine ve_rev ?_
    | with_reducible refine vo_none ?_
    | with_reducible refine vo_some ?_
    | with_reducible refine ve_callN ?_
    | with_reducible refine ve_callkN ?_
    | with_reducible refine ve_bi ?_
    | with_reducible refine ve_mt ?_
    | with_reducible refine ve_isi ?_
    | with_reducible refine ve_lst ?_
    | with_reducible refine ve_tup ?_
    | with_reducible refine ve_dic0 ?_
    | with_reducible refine ve_and ?_
    | with_reducible refine ve_or ?_
    | with_reducible refine ve_notQ ?_
    | with_reducible refine ve_ite ?_
    | with_reducible refine ve_lrng ?_
    | with_reducible refine ve_trng ?_
    | with_reducible refine ve_neg ?_
    | with_reducible refine va_nil ?_
    | ((with_reducible show VOk (veAs _ (Es.cons (E.var _) _) _ _) _); first | refine va_var (by rfl) ?_ | refine va_rng (by rfl) ?_)
    | ((with_reducible show VOk (veAs _ (Es.cons _ _) _ _) _); refine va_e (by rfl) ?_)
    | with_reducible refine vr_nil ?_
    | with_reducible refine vr_cons ?_
    | with_reducible refine vl_nil ?_
    | with_reducible refine vl_cons ?_
    | with_reducible refine vb_add ?_
    | with_reducible refine vb_sub ?_
    | with_reducible refine vb_addB ?_
    | with_reducible refine vb_subB ?_
    | with_reducible refine v_strB ?_
    | with_reducible refine vsl_t ?_
    | with_reducible refine vsl_l ?_
    | with_reducible refine vrev_l ?_
    | with_reducible refine vb_mod (by first | assumption | omega) ?_
    | with_reducible refine vc_lt ?_
    | with_reducible refine vc_le ?_
    | with_reducible refine vc_gt ?_
    | with_reducible refine vc_ge ?_
    | with_reducible refine vc_eqI ?_
    | with_reducible refine vc_neI ?_
    | with_reducible refine vc_eqB ?_
    | with_reducible refine vc_neB ?_
    | ((with_reducible show VOk (vcmp Cmp.eq _ _ _) _); refine vc_eq (by rfl) (by rfl) ?_)
    | ((with_reducible show VOk (vcmp Cmp.ne _ _ _) _); refine vc_ne (by rfl) (by rfl) ?_)
    | with_reducible refine vc_is ?_
    | with_reducible refine vc_isnot ?_
    | with_reducible refine vn_t ?_
    | with_reducible refine vn_l ?_
    | with_reducible refine vn_d ?_
    | with_reducible refine vt_t ?_
    | with_reducible refine vt_l ?_
    | with_reducible refine vl_t ?_
    | with_reducible refine vl_l ?_
    | with_reducible refine va_all ?_
    | with_reducible refine va_any ?_
    | with_reducible refine vsrc_t ?_
    | with_reducible refine vsrc_l ?_
    | ((with_reducible refine exT ?_ ?_); focus rfl)
    | ((with_reducible refine exF ?_ ?_); focus rfl)
    | ((with_reducible refine exT' ?_ ?_); focus rfl)
    | ((with_reducible refine exF' ?_ ?_); focus rfl)
    | ((with_reducible refine exTd ?_ ?_); focus (first | rfl | assumption | omega))
    | ((with_reducible refine exFd ?_ ?_); focus (first | rfl | assumption | omega))
    | ((with_reducible refine exTd' ?_ ?_); focus (first | rfl | assumption | omega))
    | ((with_reducible refine exFd' ?_ ?_); focus (first | rfl | assumption | omega))
    | with_reducible refine exN ?_
    | with_reducible refine exI ?_
    | with_reducible refine exPn ?_
    | with_reducible refine exPi ?_
    | ((with_reducible refine len_and ?_ ?_); focus exact Nat.le_of_ble_eq_true rfl)))
theorem vi_atV {xs : List PyData} {k : Int} (h : 0 ≤ k) (h2 : k < xs.length) : MP.atV xs k = some (xs[k.toNat]'(by omega)) := by
  unfold MP.atV MP.ixN
  rw [if_pos h, if_pos h2]
  exact List.getElem?_eq_getElem (by omega)
section
variable {P : VProg} {F n : Nat} {W D B : Nat} {d : PyData} {ds : List PyData} {T : VFl → VEn → Rn → Prop}
theorem mut_ret {ρ : Rn} {C : VCfg} {a b : PyData} {es : List PyData} (g : GL W D B es) (q : ∀ d', G W (D + 1) B d' → T (.rt (d', false)) [.rng, .val d, .val a, .val b, .val (.list es)] ρ) : VOkS (veSs C F MP.H.mutRet [.rng, .val d, .val a, .val b, .own (.list es)] ρ) T := by
  unfold MP.H.mutRet
  refine vs_cons (vs_retF (by rfl) ?_)
  show VOk (veE _ _ [.rng, .val d, .val a, .val b, .val (.list es)] ρ) _
  walk_at "v"
  refine exB (fun _ => ?_) (fun _ => ?_)
  · walk_at "v"; exact q _ g.list
  · walk_at "v"; exact q _ g.tuple
theorem mut_8 {ρ : Rn} {C : VCfg} {a b : PyData} {es : List PyData} (g : GL W D B es) (q : ∀ d', G W (D + 1) B d' → T (.rt (d', false)) [.rng, .val d, .val a, .val b, .val (.list es)] ρ) : VOkS (veSs C F MP.H.mut8 [.rng, .val d, .val a, .val b, .own (.list es)] ρ) T := by
  unfold MP.H.mut8
  refine vs_cons (vs_retF (by rfl) ?_)
  show VOk (veE _ _ [.rng, .val d, .val a, .val b, .val (.list es)] ρ) _
  walk_at "v"
  refine exB (fun _ => ?_) (fun _ => ?_)
  · walk_at "v"; exact q _ g.tuple
  · walk_at "v"; exact q _ g.list
theorem mutate_call (hP2 : P.fns.lookup ("_law_pick" : Str) = some MP.H.pick) (hP3 : P.fns.lookup ("_law_replaced" : Str) = some MP.H.replaced) (hP4 : P.fns.lookup ("_law_mutate" : Str) = some MP.H.mutate) (hB : B ≤ 1900) (hB2 : 5 ≤ B) :
    ∀ (D : Nat) (d : PyData) (ρ : Rn) (m : Int) (Q : VV → Rn → Prop) (n : Nat), D + 4 ≤ n → MP.wt d ≤ 100000 → G (MP.wt d) D B d → RnOk ρ m → m + 4 * (D + 1) < 2 ^ 39 →
    (∀ d' ρ', RnOk ρ' (m + 4 * (D + 1)) → G (10 * MP.wt d + 100) (D + 2) (B + 1) d' → Q (d', false) ρ') → VOk (vcallN P F n "_law_mutate" [.rng, .d d] ρ) Q := by
  have up : ∀ {ρ : Rn} {a b : Int}, RnOk ρ a → a ≤ b → RnOk ρ b := fun h e => ⟨h.1, h.2.1, h.2.2.1, h.2.2.2.1, Int.le_trans h.2.2.2.2 e⟩
  -- a value that is put in its place
  have rp : ∀ (D : Nat) (d : PyData) (ρ : Rn) (m : Int) (Q : VV → Rn → Prop) (n : Nat) (x2 x3 x4 : Sl), D + 3 ≤ n → MP.wt d ≤ 100000 → G (MP.wt d) D B d → RnOk ρ m → m < 2 ^ 39 →
      (∀ d' ρ', RnOk ρ' (m + 1) → G (10 * MP.wt d + 100) (D + 2) (B + 1) d' → Q (d', false) ρ') → VOk (veE ⟨vcallN P F n, P.glob⟩ (.call "_law_replaced" (.cons (.var 0) (.cons (.var 1) (.nil)))) [.rng, .val d, x2, x3, x4] ρ) Q := by
    intro D d ρ m Q n x2 x3 x4 hn hw g h hm q
    walk_at "v"
    exact replaced_call hP2 hP3 (by omega) h hm g hw hB hB2 q
  intro D
  induction D with
  | zero =>
    intro d ρ m Q n hn hw g h hm q
    obtain ⟨n, rfl⟩ : ∃ k, n = k + 1 := ⟨n - 1, by omega⟩
    refine v_call hP4 (by decide) rfl ?_
    show VOkS (veSs _ _ MP.H.mutate.body [.rng, .val d, .none, .none, .none] ρ) _
    unfold MP.H.mutate MP.H.mutHead
    have ha := g.no0
    have go : VOk (veE ⟨vcallN P F n, P.glob⟩ (.call "_law_replaced" (.cons (.var 0) (.cons (.var 1) (.nil)))) [.rng, .val d, .none, .none, .none] ρ) Q := rp 0 d ρ m Q n _ _ _ (by omega) hw g h (by omega) fun d' ρ' a b => q d' ρ' (up a (by omega)) b
    cases d with
    | list ds => cases ha
    | tuple ds => cases ha
    | dict ds => cases ha
    | _ => walk_at "v"; exact replaced_call hP2 hP3 (by omega) h (by omega) g hw hB hB2 fun d' ρ' a b => q d' ρ' (up a (by omega)) b
  | succ D ih =>
    intro d ρ m Q n hn hw g h hm q
    obtain ⟨n, rfl⟩ : ∃ k, n = k + 2 := ⟨n - 2, by omega⟩
    by_cases ha : MP.atomD d = true
    · refine v_call hP4 (by decide) rfl ?_
      show VOkS (veSs _ _ MP.H.mutate.body [.rng, .val d, .none, .none, .none] ρ) _
      unfold MP.H.mutate MP.H.mutHead
      cases d with
      | list ds => cases ha
      | tuple ds => cases ha
      | dict ds => cases ha
      | _ => walk_at "v"; exact replaced_call hP2 hP3 (by omega) h (by omega) g hw hB hB2 fun d' ρ' a b => q d' ρ' (up a (by omega)) b
    -- a list or a tuple
    have sq : ∃ ds, GL (MP.wt d) D B ds ∧ isD [.list, .tuple] d = true ∧ (∀ (ρ : Rn) (Q : VV → Rn → Prop), Q (.int ds.length, false) ρ → VOk (vbi .len [d] ρ) Q) ∧ (∀ (ρ : Rn) (Q : VV → Rn → Prop), Q (.list ds, true) ρ → VOk (vbi .list [d] ρ) Q) := by
      cases d with
      | list ds => exact ⟨ds, g.listL, rfl, fun ρ Q q => vn_l q, fun ρ Q q => vl_l q⟩
      | tuple ds => exact ⟨ds, g.tupleL, rfl, fun ρ Q q => vn_t q, fun ρ Q q => vl_t q⟩
      | dict ds => have := g.g.a; simp [MP.asc] at this
      | _ => exact (ha rfl).elim
    obtain ⟨ds, gl, hi, hlen, hlist⟩ := sq
    have hl2 := gl.len
    refine v_call hP4 (by decide) rfl ?_
    show VOkS (veSs _ _ MP.H.mutate.body [.rng, .val d, .none, .none, .none] ρ) _
    unfold MP.H.mutate MP.H.mutHead
    walk_at "v"
    refine exF' (by show PyData.bool (!isD [.list, .tuple] d) = _; rw [hi]; rfl) ?_
    walk_at "v"
    refine hlen _ _ ?_
    walk_at "v"
    refine exB' (fun e0 => ?_) (fun _ => ?_)
    rotate_left
    · walk_at "v"
      exact replaced_call hP2 hP3 (by omega) h (by omega) g hw hB hB2 fun d' ρ' a b => q d' ρ' (up a (by omega)) b
    have e0 := of_decide_eq_false e0
    have hpos : 0 < ds.length := by omega
    walk_at "v"
    refine v_draw h (by omega) (by decide) (by decide) fun k7 ρ1 _ _ h1 => ?_
    walk_at "v"
    refine exB (fun _ => ?_) (fun _ => ?_)
    · walk_at "v"
      exact replaced_call hP2 hP3 (by omega) h1 (by omega) g hw hB hB2 fun d' ρ' a b => q d' ρ' (up a (by omega)) b
    unfold MP.H.mutPar
    walk_at "v"
    refine v_draw h1 (by omega) (by decide) (by decide) fun k9 ρ2 _ _ h2 => ?_
    walk_at "v"
    refine hlen _ _ ?_
    walk_at "v"
    refine v_draw h2 (by omega) (by omega) (by omega) fun ka ρ3 ha0 ha1 h3 => ?_
    walk_at "v"
    refine hlist _ _ ?_
    walk_at "v"
    refine ⟨rfl, ?_⟩
    walk_at "v"
    show VOkS (veS ⟨vcallN P F (n + 1), P.glob⟩ F MP.H.mutIf [.rng, .val d, .val (.int k9), .val (.int ka), .own (.list ds)] ρ3) _
    have hw2 := gl.w
    have hka : ka.toNat < ds.length := by omega
    have hix : MP.ixN ds.length ka = some ka.toNat := by unfold MP.ixN; rw [if_pos ha0, if_pos ha1]
    have h63 : MP.small63 ka = true := decide_eq_true (by constructor <;> omega)
    -- what follows a change
    have fin : ∀ (es : List PyData) (ρ' : Rn), RnOk ρ' (m + 4 * ((D + 1 : Nat) + 1)) → GL (10 * MP.wt d + 100) (D + 2) (B + 1) es → VSeq ⟨vcallN P F (n + 1), P.glob⟩ F MP.H.mutRet (fun fl x ρ' => match fl with
        | .nx => Q (.none, false) ρ'
        | .rt v => Q v ρ'
        | .br => False
        | .ct => False) .nx [.rng, .val d, .val (.int k9), .val (.int ka), .own (.list es)] ρ' := fun es ρ' hr ge => vs_nx (mut_ret ge fun d' gd => q d' ρ' hr gd)
    unfold MP.H.mutIf
    walk_at "v"
    refine exB (fun _ => ?_) (fun _ => ?_)
    · -- an item is mutated
      refine vs_cons (vs_setix (d := .list ds) (by rfl) (by rfl) ?_)
      walk_at "v"
      refine vx_l (vi_atV ha0 ha1) ?_
      walk_at "v"
      have gy : G (MP.wt ds[ka.toNat]) D B ds[ka.toNat] := gl.at (List.getElem?_eq_getElem hka)
      have wy := MP.wts_at (List.getElem_mem hka)
      refine ih ds[ka.toNat] ρ3 _ _ (n + 1) (by omega) (by omega) gy h3 (by omega) fun d' ρ4 h4 gd => ?_
      walk_at "v"
      refine ⟨.list (ds.set ka.toNat d'), ?_, ?_⟩
      · show (MP.ixN ds.length ka).map _ = _
        rw [hix]; rfl
      · walk_at "v"
        refine fin _ ρ4 (up h4 (by omega)) ⟨?_, fun e he => ?_⟩
        · have := MP.wts_set d' (List.getElem?_eq_getElem hka)
          have := gd.g.w
          omega
        · rcases List.mem_or_eq_of_mem_set he with he | rfl
          · have := gl.e e he
            exact ⟨by omega, this.2.1, by omega⟩
          · exact ⟨gd.g.dep, gd.g.a, gd.b⟩
    walk_at "v"
    have gfin : ∀ (es : List PyData) (ρ' : Rn), RnOk ρ' (m + 4 * ((D + 1 : Nat) + 1)) → MP.wts es + 3 ≤ 10 * MP.wt d + 100 → (∀ e ∈ es, e ∈ ds) → GL (10 * MP.wt d + 100) (D + 2) (B + 1) es := fun es ρ' _ hw hm => ⟨hw, fun e he => by
      have := gl.e e (hm e he)
      exact ⟨by omega, this.2.1, by omega⟩⟩
    have r3 := up (b := m + 4 * ((D + 1 : Nat) + 1)) h3 (by omega)
    refine exB (fun _ => ?_) (fun _ => ?_)
    · -- one less
      refine vs_cons (vs_exM (by rfl) (by rfl) ?_)
      walk_at "v"
      refine ⟨.list (ds.eraseIdx ka.toNat), ?_, ?_⟩
      · show (if MP.small63 ka = true then (MP.ixN ds.length ka).bind (fun j => if j < ds.length then some (PyData.list (ds.eraseIdx j)) else none) else none) = _
        rw [if_pos h63, hix]
        show (if ka.toNat < ds.length then _ else _) = _
        rw [if_pos hka]
      · walk_at "v"
        exact fin _ ρ3 r3 (gfin _ ρ3 r3 (by have := MP.wts_erase ds ka.toNat; omega) fun e he => List.mem_of_mem_eraseIdx he)
    walk_at "v"
    refine exB (fun _ => ?_) (fun _ => ?_)
    · -- one twice
      refine vs_cons (vs_exM (by rfl) (by rfl) ?_)
      walk_at "v"
      refine vx_l (vi_atV ha0 ha1) ?_
      walk_at "v"
      refine ⟨.list (MP.insAt ds ka.toNat ds[ka.toNat]), ?_, ?_⟩
      · show (if ds.length < sizeLine ∧ 0 ≤ ka ∧ ka ≤ ds.length then some (PyData.list (MP.insAt ds ka.toNat ds[ka.toNat])) else none) = _
        rw [if_pos ⟨by rw [PySem.sizeLine_eq]; omega, ha0, by omega⟩]
      · walk_at "v"
        have wy := MP.wts_at (List.getElem_mem hka)
        refine fin _ ρ3 r3 (gfin _ ρ3 r3 (by rw [MP.wts_ins]; omega) fun e he => ?_)
        have := (MP.insAt_perm ds ka.toNat ds[ka.toNat]).mem_iff.mp he
        rcases List.mem_cons.mp this with rfl | h
        · exact List.getElem_mem hka
        · exact h
    walk_at "v"
    refine exB (fun _ => ?_) (fun _ => ?_)
    · -- backwards
      walk_at "v"
      exact fin _ ρ3 r3 (gfin _ ρ3 r3 (by rw [MP.wts_rev]; omega) fun e he => List.mem_reverse.mp he)
    walk_at "v"
    refine exB (fun _ => ?_) (fun _ => ?_)
    · -- two exchanged
      unfold MP.H.mut7
      have c1 := MP.cut_len ds none (some ka)
      have c2 := MP.cut_len ds (some ka) (some (ka + 2))
      have c3 := MP.cut_len ds (some (ka + 2)) none
      walk_at "v"
      refine vb_addL (le_mill (by rw [List.length_reverse]; omega)) ?_
      walk_at "v"
      refine vb_addL (le_mill (by rw [List.length_append, List.length_reverse]; omega)) ?_
      walk_at "v"
      refine fin _ ρ3 r3 (gfin _ ρ3 r3 ?_ fun e he => ?_)
      · rw [MP.wts_app, MP.wts_app, MP.wts_rev]
        have d1 := MP.wts_cut ds none (some ka)
        have d2 := MP.wts_cut ds (some ka) (some (ka + 2))
        have d3 := MP.wts_cut ds (some (ka + 2)) none
        omega
      · rcases List.mem_append.mp he with hd | hd
        · rcases List.mem_append.mp hd with hd | hd
          · exact MP.cut_mem hd
          · exact MP.cut_mem (List.mem_reverse.mp hd)
        · exact MP.cut_mem hd
    · -- the other kind
      refine mut_8 (gfin ds ρ3 r3 (by omega) fun e he => he) fun d' gd => ?_
      exact q d' ρ3 r3 gd
end
end VE
set_option Elab.async false
set_option linter.all false
set_option maxRecDepth 100000
set_option maxHeartbeats 1000000
namespace VE
open MP (Val E Es Oe It Rg S Ss Tg Op Cmp Ty Bi Mt Fn)
open PySem (Str PyData sizeLine)
open Z (eqv_int eqv_boolD isNone boolsP_map atV_in rgP_one exT exF exT' exF' exTd exFd exTd' exFd' notOwn frz_id NotQ exN exB exB' len_and exI exPn exPi ex_append)
local macro_rules
  | `(tactic| walk_at "v") => `(tactic| repeat (first
    | with_reducible refine vs_cons ?_
    | with_reducible refine vs_nil ?_
    | with_reducible refine vs_nx ?_
    | with_reducible refine vs_rt ?_
    | ((with_reducible show VOkS (veS _ _ (S.set _ _) _ _) _); refine vs_set (by first | exact frz_id (by rfl) | with_unfolding_all rfl) ?_)
    | ((with_reducible show VOkS (veS _ _ (S.ret (E.var _)) _ _) _); first | refine vs_retV (by rfl) (by first | exact frz_id (by rfl) | with_unfolding_all rfl) ?_ | refine vs_retO (by rfl) ?_)
    | ((with_reducible show VOkS (veS _ _ (S.ret _) _ _) _); refine vs_ret (by rfl) (by first | exact frz_id (by rfl) | with_unfolding_all rfl) ?_)
    | with_reducible refine vs_pass ?_
    | ((with_reducible show VOkS (veS _ _ (S.unp _ _) _ _) _); refine vs_unp (by first | exact frz_id (by rfl) | with_unfolding_all rfl) ?_)
    | ((with_reducible show VOkS (veS _ _ (S.par _ _) _ _) _); refine vs_par (by first | exact frz_id (by rfl) | with_unfolding_all rfl) ?_)
    | ((with_reducible show VOkS (veS _ _ (S.ifs _ _ _) _ _) _); refine vs_if (by first | exact frz_id (by rfl) | with_unfolding_all rfl) ?_)
    | with_reducible refine vp_nil ?_
    | with_reducible refine vp_cons ?_
    | with_reducible refine ve_int ?_
    | with_reducible refine ve_bool ?_
    | with_reducible refine ve_none ?_
    | with_reducible refine ve_str ?_
    | ((with_reducible show VOk (veE _ (E.var _) _ _) _); refine ve_var (by rfl) ?_)
    | ((with_reducible show VOk (rdV _ (E.var _) _ _) _); first | refine rd_val (by rfl) ?_ | refine rd_own (by rfl) ?_)
    | ((with_reducible show VOk (rdV _ _ _ _) _); refine rd_e (by rfl) ?_)
    | with_reducible refine ve_bin ?_
    | with_reducible refine ve_cmp ?_
    | with_reducible refine ve_chain ?_
    | with_reducible refine ve_ix ?_
    | with_reducible refine ve_sl ?_
    | with_reducible refine ve_rev ?_
    | with_reducible refine vo_none ?_
    | with_reducible refine vo_some ?_
    | with_reducible refine ve_callN ?_
    | with_reducible refine ve_callkN ?_
    | with_reducible refine ve_bi ?_
    | with_reducible refine ve_mt ?_
    | with_reducible refine ve_isi ?_
    | with_reducible refine ve_lst ?_
    | with_reducible refine ve_tup ?_
    | with_reducible refine ve_dic0 ?_
    | with_reducible refine ve_and ?_
    | with_reducible refine ve_or ?_
    | with_reducible refine ve_notQ ?_
    | with_reducible refine ve_ite ?_
    | with_reducible refine ve_lrng ?_
    | with_reducible refine ve_trng ?_
    | with_reducible refine ve_neg ?_
    | with_reducible refine va_nil ?_
    | ((with_reducible show VOk (veAs _ (Es.cons (E.var _) _) _ _) _); first | refine va_var (by rfl) ?_ | refine va_rng (by rfl) ?_)
    | ((with_reducible show VOk (veAs _ (Es.cons _ _) _ _) _); refine va_e (by rfl) ?_)
    | with_reducible refine vr_nil ?_
    | with_reducible refine vr_cons ?_
    | with_reducible refine vl_nil ?_
    | with_reducible refine vl_cons ?_
    | with_reducible refine vb_add ?_
    | with_reducible refine vb_sub ?_
    | with_reducible refine vb_addB ?_
    | with_reducible refine vb_subB ?_
    | with_reducible refine v_strB ?_
    | with_reducible refine vsl_t ?_
    | with_reducible refine vsl_l ?_
    | with_reducible refine vrev_l ?_
    | with_reducible refine vb_mod (by first | assumption | omega) ?_
    | with_reducible refine vc_lt ?_
    | with_reducible refine vc_le ?_
    | with_reducible refine vc_gt ?_
    | with_reducible refine vc_ge ?_
    | with_reducible refine vc_eqI ?_
    | with_reducible refine vc_neI ?_
    | with_reducible refine vc_eqB ?_
    | with_reducible refine vc_neB ?_
    | ((with_reducible show VOk (vcmp Cmp.eq _ _ _) _); refine vc_eq (by rfl) (by rfl) ?_)
    | ((with_reducible show VOk (vcmp Cmp.ne _ _ _) _); refine vc_ne (by rfl) (by rfl) ?_)
    | with_reducible refine vc_is ?_
    | with_reducible refine vc_isnot ?_
    | with_reducible refine vn_t ?_
    | with_reducible refine vn_l ?_
    | with_reducible refine vn_d ?_
    | with_reducible refine vt_t ?_
    | with_reducible refine vt_l ?_
    | with_reducible refine vl_t ?_
    | with_reducible refine vl_l ?_
    | with_reducible refine va_all ?_
    | with_reducible refine va_any ?_
    | with_reducible refine vsrc_t ?_
    | with_reducible refine vsrc_l ?_
    | ((with_reducible refine exT ?_ ?_); focus rfl)
    | ((with_reducible refine exF ?_ ?_); focus rfl)
    | ((with_reducible refine exT' ?_ ?_); focus rfl)
    | ((with_reducible refine exF' ?_ ?_); focus rfl)
    | ((with_reducible refine exTd ?_ ?_); focus (first | rfl | assumption | omega))
    | ((with_reducible refine exFd ?_ ?_); focus (first | rfl | assumption | omega))
    | ((with_reducible refine exTd' ?_ ?_); focus (first | rfl | assumption | omega))
    | ((with_reducible refine exFd' ?_ ?_); focus (first | rfl | assumption | omega))
    | with_reducible refine exN ?_
    | with_reducible refine exI ?_
    | with_reducible refine exPn ?_
    | with_reducible refine exPi ?_
    | ((with_reducible refine len_and ?_ ?_); focus exact Nat.le_of_ble_eq_true rfl)))
/-! ### comprehensions that only map -/
theorem ve_lcM {C : VCfg} {env : VEn} {ρ : Rn} {Q : VV → Rn → Prop} {i : Nat} {it : It} {e : E} {own : List Nat} (f : PyData → PyData) (h : VOk (veIt C true it env ρ) fun src ρ1 => ∃ xs : List PyData, src = xs.map .one ∧ xs.length ≤ 1000000 ∧
      (∀ x ∈ xs, VOk (veE C e ((vwipe env own).set i (.val x)) ρ1) fun y ρ' => ρ' = ρ1 ∧ y.1 = f x) ∧ Q (.list (xs.map f), true) ρ1) : VOk (veE C (.lc (.nm i) it .none e own) env ρ) Q := by
  refine ve_lc (h.mono ?_)
  rintro src ρ1 ⟨xs, rfl, hl, hb, hq⟩
  refine ⟨by rw [List.length_map]; exact le_mill hl, fun rest ys ρ' => ρ' = ρ1 ∧ ∃ done vs : List PyData, rest = vs.map .one ∧ done ++ vs = xs ∧ ys = done.map f, ?_, ?_, ?_⟩
  · exact ⟨rfl, [], xs, rfl, rfl, rfl⟩
  · rintro x rest ys ρ' ⟨rfl, done, vs, h1, h2, rfl⟩
    cases vs with
    | nil => cases h1
    | cons v vs =>
      injection h1 with ha hb'
      subst ha
      refine ⟨_, rfl, (hb v (by rw [← h2]; simp)).mono ?_⟩
      rintro y ρ2 ⟨rfl, e1⟩
      exact ⟨rfl, done ++ [v], vs, hb', by simpa using h2, by simp [e1]⟩
  · rintro zs ρ' ⟨rfl, done, vs, h1, h2, rfl⟩
    cases vs with
    | cons v vs => cases h1
    | nil => rw [List.append_nil] at h2; subst h2; exact hq
/-! ### whole numbers -/
def isI (d : PyData) : Bool := isD [.int] d && !isD [.bool] d
theorem isI_int {d : PyData} (h : isI d = true) : ∃ i, d = .int i := by
  cases d with
  | int i => exact ⟨i, rfl⟩
  | _ => exact Bool.noConfusion (show false = true from h)
theorem ints_of : ∀ {ds : List PyData}, (∀ d ∈ ds, isI d = true) → ∃ is : List Int, ds = is.map .int
  | [], _ => ⟨[], rfl⟩
  | d :: ds, h => by
    obtain ⟨i, rfl⟩ := isI_int (h d (List.mem_cons_self ..))
    obtain ⟨is, rfl⟩ := ints_of (ds := ds) fun d hd => h d (List.mem_cons_of_mem _ hd)
    exact ⟨i :: is, rfl⟩
section
variable {P : VProg} {F n : Nat} {ρ : Rn} {Q : VV → Rn → Prop} {d : PyData}
theorem integer_call {f : Str} (hI : P.fns.lookup f = some MP.H.integer) (hf : f ≠ drawS) (hn : 1 ≤ n) (q : Q (.bool (isI d), false) ρ) : VOk (vcallN P F n f [.d d] ρ) Q := by
  obtain ⟨n, rfl⟩ : ∃ k, n = k + 1 := ⟨n - 1, by omega⟩
  refine v_call hI hf rfl ?_
  show VOkS (veSs _ _ MP.H.integer.body [.val d] ρ) _
  unfold MP.H.integer
  unfold isI at q
  walk_at "v"
  refine exB (fun e => ?_) (fun e => ?_)
  · walk_at "v"; have e : isD [.int] d = true := e; rw [e] at q; exact q
  · walk_at "v"; have e : isD [.int] d = false := e; rw [e] at q; exact q
end
/-! ### lists of whole numbers -/
theorem eqvAll_ints : ∀ a b : List Int, PyData.eqvAll (a.map .int) (b.map .int) = decide (a = b)
  | [], [] => rfl
  | [], _ :: _ => rfl
  | _ :: _, [] => rfl
  | x :: a, y :: b => by
    show (PyData.eqv (.int x) (.int y) && PyData.eqvAll (a.map .int) (b.map .int)) = _
    rw [eqvAll_ints a b, eqv_int]
    by_cases h1 : x = y <;> by_cases h2 : a = b <;> simp [h1, h2]
theorem eqv_ints (a b : List Int) : PyData.eqv (.list (a.map .int)) (.list (b.map .int)) = decide (a = b) := eqvAll_ints a b
theorem eqv_intsT (a b : List Int) : PyData.eqv (.tuple (a.map .int)) (.tuple (b.map .int)) = decide (a = b) := eqvAll_ints a b
def leI (a b : Int) : Bool := decide (a ≤ b)
theorem alike_ints (is : List Int) : MP.allAlikeB (is.map .int) = true := by
  unfold MP.allAlikeB
  rw [List.all_eq_true]
  intro d hd
  rw [List.all_eq_true]
  intro d' hd'
  obtain ⟨i, _, rfl⟩ := List.mem_map.mp hd
  obtain ⟨j, _, rfl⟩ := List.mem_map.mp hd'
  rfl
theorem sortable_ints (is : List Int) : MP.sortableB (is.map .int) = true := by
  unfold MP.sortableB
  rw [Bool.or_eq_true]
  right
  rw [List.all_eq_true]
  intro d hd
  obtain ⟨i, _, rfl⟩ := List.mem_map.mp hd
  rfl
theorem noDicts_ints : ∀ is : List Int, noDicts (is.map .int) = true
  | [] => rfl
  | i :: is => by simp only [List.map_cons, noDicts, noDict, noDicts_ints is]; rfl
theorem depAll_ints : ∀ is : List Int, PyData.depthAll (is.map .int) = 0
  | [] => rfl
  | i :: is => by simp only [List.map_cons, PyData.depthAll, depAll_ints is, PyData.depth]; rfl
theorem ascs_ints : ∀ is : List Int, MP.ascs (is.map .int) = true
  | [] => rfl
  | i :: is => by simp only [List.map_cons, MP.ascs, MP.asc, ascs_ints is]; rfl
theorem shp_ints (is : List Int) : shp (.list (is.map .int)) = true := by
  have h1 := MP.asc_lay (.list (is.map .int)) (by simp only [MP.asc]; exact ascs_ints is)
  unfold shp PySem.SeqAt.shaped
  rw [h1]
  simp only [noDict, PyData.depth, depAll_ints, noDicts_ints]
  rfl
theorem shp_intsT (is : List Int) : shp (.tuple (is.map .int)) = true := by
  have h1 := MP.asc_lay (.tuple (is.map .int)) (by simp only [MP.asc]; exact ascs_ints is)
  unfold shp PySem.SeqAt.shaped
  rw [h1]
  simp only [noDict, PyData.depth, depAll_ints, noDicts_ints]
  rfl
theorem sort_ints (is : List Int) : sortP (is.map .int) = some ((is.mergeSort leI).map .int) := by
  unfold sortP
  rw [if_pos (by rw [noDicts_ints, alike_ints, sortable_ints, depAll_ints]; rfl)]
  congr 1
  have := List.map_mergeSort (r := leI) (f := fun i : Int => PyData.int i) (s := PySem.W.dataLe false (id : PyData → PyData)) (l := is) (fun a _ b _ => by
    have h := congrFun (congrFun (PySem.W.dataLe_int (β := Int) id) a) b
    exact h.symm)
  exact this.symm
theorem leI_trans : ∀ a b c : Int, leI a b = true → leI b c = true → leI a c = true := fun a b c h1 h2 => by
  unfold leI at *; rw [decide_eq_true_eq] at *; omega
theorem leI_total : ∀ a b : Int, (leI a b || leI b a) = true := fun a b => by
  unfold leI; rw [Bool.or_eq_true, decide_eq_true_eq, decide_eq_true_eq]; omega
theorem sort_unique {a b : List Int} (h : a.Perm b) (hb : b.Pairwise (fun x y => leI x y = true)) : a.mergeSort leI = b := by
  refine List.Perm.eq_of_pairwise (le := fun x y => leI x y = true) (fun x y _ _ h1 h2 => ?_) (List.pairwise_mergeSort leI_trans leI_total a) hb ((List.mergeSort_perm a leI).trans h)
  unfold leI at h1 h2; rw [decide_eq_true_eq] at h1 h2; omega
theorem perm_of_sub {α : Type} [DecidableEq α] : ∀ (r l : List α), r.Nodup → (∀ x ∈ r, x ∈ l) → ∃ l', l.Perm (r ++ l')
  | [], l, _, _ => ⟨l, .refl _⟩
  | a :: r, l, hn, hs => by
    have ha := hs a (List.mem_cons_self ..)
    have hn := List.nodup_cons.mp hn
    obtain ⟨l', h⟩ := perm_of_sub r (l.erase a) hn.2 fun x hx => by
      have hxa : x ≠ a := fun e => hn.1 (e ▸ hx)
      exact (List.mem_erase_of_ne hxa).mpr (hs x (List.mem_cons_of_mem _ hx))
    exact ⟨l', (List.perm_cons_erase ha).trans (List.Perm.cons a h)⟩
theorem perm_of_len {α : Type} [DecidableEq α] {r l : List α} (hn : r.Nodup) (hs : ∀ x ∈ r, x ∈ l) (hl : l.length ≤ r.length) : l.Perm r := by
  obtain ⟨l', h⟩ := perm_of_sub r l hn hs
  have := h.length_eq
  rw [List.length_append] at this
  have : l' = [] := List.length_eq_zero_iff.mp (by omega)
  rw [this, List.append_nil] at h
  exact h
def rangeI (n : Nat) : List Int := (List.range n).map fun (i : Nat) => (i : Int)
theorem rangeI_nodup (n : Nat) : (rangeI n).Nodup := by
  unfold rangeI
  exact List.Pairwise.map _ (fun a b h e => h (by have e : (a : Int) = (b : Int) := e; omega)) List.nodup_range
theorem rangeI_sorted (n : Nat) : (rangeI n).Pairwise (fun x y => leI x y = true) := by
  unfold rangeI
  refine List.Pairwise.map _ (fun a b h => ?_) (List.pairwise_le_range (n := n))
  unfold leI; rw [decide_eq_true_eq]; omega
theorem rangeI_len (n : Nat) : (rangeI n).length = n := by unfold rangeI; simp
/-- the sorted numbers are 0, 1, .. -/
theorem sort_range (is : List Int) (n : Nat) : (decide (is.length = n) && decide (is.mergeSort leI = rangeI n)) = (decide (is.length = n) && (rangeI n).all fun i => is.any fun j => decide (j = i)) := by
  by_cases hl : is.length = n
  · rw [decide_eq_true hl, Bool.true_and, Bool.true_and]
    by_cases h : ∀ i ∈ rangeI n, i ∈ is
    · have hp : is.Perm (rangeI n) := perm_of_len (rangeI_nodup n) h (by rw [rangeI_len]; omega)
      rw [decide_eq_true (sort_unique hp (rangeI_sorted n))]
      symm
      rw [List.all_eq_true]
      intro i hi
      rw [List.any_eq_true]
      exact ⟨i, h i hi, decide_eq_true rfl⟩
    · have h1 : ¬ (is.mergeSort leI = rangeI n) := fun e => h fun i hi => by
        have := List.mergeSort_perm is leI
        rw [e] at this
        exact this.mem_iff.mp hi
      rw [decide_eq_false h1]
      symm
      rw [← Bool.not_eq_true, List.all_eq_true]
      intro h2
      refine h fun i hi => ?_
      have := h2 i hi
      rw [List.any_eq_true] at this
      obtain ⟨j, hj, e⟩ := this
      rw [← of_decide_eq_true e]; exact hj
  · rw [decide_eq_false hl]; rfl
/-! ### permutations -/
namespace H
def isPerm : Fn := ⟨2, 3, .cons (.ifs (.or (.not (.isi (.var 1) [.tuple])) (.not (.bi .all (.cons (.lc (.nm 2) (.val (.var 1)) (.none) (.call "is_integer" (.cons (.var 2) (.nil))) [2]) (.nil))))) (.cons (.ret (.bool false)) (.nil)) (.nil)) (.cons (.ret (.and (.cmp .eq (.bi .len (.cons (.var 1) (.nil))) (.var 0)) (.cmp .eq (.bi .sorted (.cons (.var 1) (.nil))) (.lrng (.one (.var 0)))))) (.nil))⟩
def isPerm2 : Fn := ⟨2, 3, .cons (.ifs (.or (.not (.isi (.var 1) [.tuple])) (.or (.cmp .ne (.bi .len (.cons (.var 1) (.nil))) (.var 0)) (.not (.bi .all (.cons (.lc (.nm 2) (.val (.var 1)) (.none) (.call "_law_integer" (.cons (.var 2) (.nil))) [2]) (.nil)))))) (.cons (.ret (.bool false)) (.nil)) (.nil)) (.cons (.ret (.bi .all (.cons (.lc (.nm 2) (.rng (.one (.var 0))) (.none) (.cmp .isin (.var 2) (.var 1)) [2]) (.nil)))) (.nil))⟩
end H
/-- d is a tuple of the whole numbers below k -/
def permB (k : Nat) (d : PyData) : Bool := match d with
  | .tuple ds => decide (ds.length = k) && ds.all isI && (rangeI k).all fun i => ds.any fun e => PyData.eqv e (.int i)
  | _ => false
theorem shps_gl {W D B : Nat} {ds : List PyData} (h : GL W D B ds) (hD : D ≤ 19) : shps ds = true := by
  have g := shp_gd h.list.g (by omega)
  unfold shp at g
  unfold shps
  have h2 := MP.depAll_of (ds := ds) (n := D) fun d hd => (h.e d hd).1
  simp only [noDict, Bool.and_eq_true, decide_eq_true_eq] at g ⊢
  exact ⟨⟨g.1.1, by omega⟩, g.2⟩
theorem all_map_id {α : Type} (l : List α) (f : α → Bool) : (l.map f).all id = l.all f := by rw [List.all_map]; rfl
section
variable {P : VProg} {F n : Nat} {ρ : Rn} {Q : VV → Rn → Prop} {d : PyData} {W D B : Nat}
theorem ints_lc {f : Str} (hI : P.fns.lookup f = some MP.H.integer) (hf : f ≠ drawS) (hn : 1 ≤ n) {x0 x2 : Sl} {ds : List PyData} (hl : ds.length ≤ 1000000) (q : Q (.list ((ds.map isI).map .bool), true) ρ) :
    VOk (veE ⟨vcallN P F n, P.glob⟩ (.lc (.nm 2) (.val (.var 1)) (.none) (.call f (.cons (.var 2) (.nil))) [2]) [x0, .val (.tuple ds), x2] ρ) Q := by
  refine ve_lcM (fun d => .bool (isI d)) (vi_t rfl ⟨ds, rfl, hl, fun x hx => ?_, ?_⟩)
  · show VOk (veE _ _ [x0, .val (.tuple ds), .val x] ρ) _
    walk_at "v"
    exact integer_call hI hf hn ⟨rfl, rfl⟩
  · rw [List.map_map] at q; exact q
theorem isPerm_call {f : Str} (hP : P.fns.lookup f = some H.isPerm) (hf : f ≠ drawS) (hI : P.fns.lookup ("is_integer" : Str) = some MP.H.integer) (hn : 2 ≤ n) {k : Nat} (hk : k ≤ 100000) (g : G W D B d) (hW : W ≤ 1000000) (hD : D ≤ 20) (q : Q (.bool (permB k d), false) ρ) : VOk (vcallN P F n f [.d (.int (k : Int)), .d d] ρ) Q := by
  obtain ⟨n, rfl⟩ : ∃ k, n = k + 1 := ⟨n - 1, by omega⟩
  refine v_call hP hf rfl ?_
  show VOkS (veSs _ _ H.isPerm.body [.val (.int k), .val d, .none] ρ) _
  unfold H.isPerm
  cases d with
  | dict ds => have := g.g.a; simp [MP.asc] at this
  | tuple ds =>
    obtain ⟨D, rfl⟩ : ∃ D', D = D' + 1 := by
      have := g.g.dep
      simp only [PyData.depth] at this
      exact ⟨D - 1, by omega⟩
    have gl := g.tupleL
    have hlen := gl.len
    walk_at "v"
    refine ints_lc hI (by decide) (by omega) (by omega) ?_
    walk_at "v"
    rw [all_map_id]
    by_cases hall : ds.all isI = true
    · rw [hall]
      walk_at "v"
      have hm := List.all_eq_true.mp hall
      obtain ⟨is, rfl⟩ := ints_of hm
      have e1 : permB k (.tuple (is.map .int)) = (decide (is.length = k) && decide (is.mergeSort leI = rangeI k)) := by
        rw [sort_range]
        show (decide ((is.map PyData.int).length = k) && (is.map PyData.int).all isI && (rangeI k).all fun i => (is.map PyData.int).any fun e => PyData.eqv e (.int i)) = _
        rw [hall, List.length_map, Bool.and_true]
        congr 1
        refine congrArg (fun f => List.all (rangeI k) f) (funext fun i => ?_)
        rw [List.any_map]
        rfl
      rw [e1] at q
      refine exB (fun e => ?_) (fun e => ?_)
      · have e := of_decide_eq_true e
        rw [List.length_map] at e
        have e : is.length = k := by omega
        walk_at "v"
        refine v_sorted_t (sort_ints is) ?_
        walk_at "v"
        refine ⟨k, rfl, by omega, ?_⟩
        have e2 : (List.range k).map (fun (i : Nat) => PyData.int (i : Int)) = (rangeI k).map .int := by unfold rangeI; rw [List.map_map]; rfl
        rw [e2]
        refine vc_eq (shp_ints _) (shp_ints _) ?_
        rw [eqv_ints]
        walk_at "v"
        rw [decide_eq_true e, Bool.true_and] at q
        exact q
      · have e := of_decide_eq_false e
        rw [List.length_map] at e
        walk_at "v"
        rw [decide_eq_false (by omega : ¬ is.length = k), Bool.false_and] at q
        exact q
    · rw [Bool.not_eq_true] at hall
      rw [hall]
      walk_at "v"
      have e1 : permB k (.tuple ds) = false := by
        show (decide (ds.length = k) && ds.all isI && _) = false
        rw [hall, Bool.and_false]; rfl
      rw [e1] at q
      exact q
  | _ => walk_at "v"; exact q
theorem isPerm2_call (hP : P.fns.lookup ("_law_is_permutation" : Str) = some H.isPerm2) (hI : P.fns.lookup ("_law_integer" : Str) = some MP.H.integer) (hn : 2 ≤ n) {k : Nat} (hk : k ≤ 100000) (g : G W D B d) (hW : W ≤ 1000000) (hD : D ≤ 20) (q : Q (.bool (permB k d), false) ρ) : VOk (vcallN P F n "_law_is_permutation" [.d (.int (k : Int)), .d d] ρ) Q := by
  obtain ⟨n, rfl⟩ : ∃ k, n = k + 1 := ⟨n - 1, by omega⟩
  refine v_call hP (by decide) rfl ?_
  show VOkS (veSs _ _ H.isPerm2.body [.val (.int k), .val d, .none] ρ) _
  unfold H.isPerm2
  cases d with
  | dict ds => have := g.g.a; simp [MP.asc] at this
  | tuple ds =>
    obtain ⟨D, rfl⟩ : ∃ D', D = D' + 1 := by
      have := g.g.dep
      simp only [PyData.depth] at this
      exact ⟨D - 1, by omega⟩
    have gl := g.tupleL
    have hlen := gl.len
    walk_at "v"
    refine exB' (fun e => ?_) (fun e => ?_)
    rotate_left
    · have e1 : permB k (.tuple ds) = false := by
        have e : decide ((ds.length : Int) = (k : Int)) = false := by cases h : decide ((ds.length : Int) = (k : Int)) <;> simp_all
        have e := of_decide_eq_false e
        show (decide (ds.length = k) && ds.all isI && _) = false
        rw [decide_eq_false (by omega : ¬ ds.length = k), Bool.false_and, Bool.false_and]
      rw [e1] at q
      walk_at "v"; exact q
    have e : decide ((ds.length : Int) = (k : Int)) = true := by cases h : decide ((ds.length : Int) = (k : Int)) <;> simp_all
    have e := of_decide_eq_true e
    walk_at "v"
    refine ints_lc hI (by decide) (by omega) (by omega) ?_
    walk_at "v"
    rw [all_map_id]
    by_cases hall : ds.all isI = true
    · rw [hall]
      walk_at "v"
      refine ve_lcM (fun x => .bool (ds.any fun d => PyData.eqv d x)) (vi_rng (ve_var (by rfl) ⟨k, rfl, by omega, _, rfl, ?_, fun x hx => ?_, ?_⟩))
      · simp; omega
      · obtain ⟨i, _, rfl⟩ := List.mem_map.mp hx
        show VOk (veE _ _ [.val (.int k), .val (.tuple ds), .val (.int (i : Int))] ρ) _
        walk_at "v"
        refine vc_inT (by rfl) (shps_gl gl (by omega)) ?_
        exact ⟨rfl, rfl⟩
      · rw [List.map_map]
        have e1 : permB k (.tuple ds) = (rangeI k).all fun i => ds.any fun e => PyData.eqv e (.int i) := by
          show (decide (ds.length = k) && ds.all isI && _) = _
          rw [hall, decide_eq_true (by omega : ds.length = k)]; rfl
        have e2 : (List.range k).map ((fun x => PyData.bool (ds.any fun d => PyData.eqv d x)) ∘ fun (i : Nat) => PyData.int (i : Int)) = ((rangeI k).map fun i => ds.any fun d => PyData.eqv d (.int i)).map .bool := by
          unfold rangeI; rw [List.map_map, List.map_map]; rfl
        rw [e2]
        walk_at "v"
        rw [all_map_id, ← e1]
        exact q
    · rw [Bool.not_eq_true] at hall
      rw [hall]
      walk_at "v"
      have e1 : permB k (.tuple ds) = false := by
        show (decide (ds.length = k) && ds.all isI && _) = false
        rw [hall, Bool.and_false]; rfl
      rw [e1] at q
      exact q
  | _ => walk_at "v"; exact q
end
end VE
set_option Elab.async false
set_option linter.all false
set_option maxRecDepth 100000
/-! Printed data are ASCII. -/
namespace VE
open PySem (Str PyData sizeLine)
open Z (eqv_int eqv_boolD isNone boolsP_map atV_in rgP_one exT exF exT' exF' exTd exFd exTd' exFd' notOwn frz_id NotQ exN exB exB' len_and exI exPn exPi ex_append)
open PySem.W.KSb (Asc asc_app asc_of asc_num)
theorem reprChar_asc {q c : Nat} (hq : q = 34 ∨ q = 39) (hc : c < 128) : ∀ x ∈ PySem.Builtin.Str.reprChar q c, x < 128 := by
  have key : ∀ q ∈ [34, 39], ∀ c ∈ List.range 128, (PySem.Builtin.Str.reprChar q c).all (fun x => decide (x < 128)) = true := by decide +kernel
  have := key q (by rcases hq with rfl | rfl <;> simp) c (List.mem_range.mpr hc)
  intro x hx
  exact of_decide_eq_true (List.all_eq_true.mp this x hx)
theorem foldl_asc {q : Nat} (hq : q = 34 ∨ q = 39) : ∀ (l : List Nat) (acc : Array Nat), (∀ c ∈ l, c < 128) → (∀ c ∈ acc.toList, c < 128) → ∀ c ∈ (l.foldl (fun out c => out ++ (PySem.Builtin.Str.reprChar q c).toArray) acc).toList, c < 128
  | [], acc, _, h => h
  | a :: l, acc, hl, h => by
    rw [List.foldl_cons]
    refine foldl_asc hq l _ (fun c hc => hl c (List.mem_cons_of_mem _ hc)) ?_
    intro c hc
    rw [Array.toList_append] at hc
    rcases List.mem_append.mp hc with hc | hc
    · exact h c hc
    · exact reprChar_asc hq (hl a (List.mem_cons_self ..)) c hc
theorem reprText_asc {x : Str} (h : Asc x) : Asc (PySem.reprText x) := by
  have hq : PySem.reprQuote x = 34 ∨ PySem.reprQuote x = 39 := by unfold PySem.reprQuote; split <;> simp
  have hq2 : PySem.reprQuote x < 128 := by rcases hq with e | e <;> omega
  intro c hc
  have hc : c ∈ ((x.cps.foldl (fun out c => out ++ (PySem.Builtin.Str.reprChar (PySem.reprQuote x) c).toArray) #[PySem.reprQuote x]).push (PySem.reprQuote x)).toList := hc
  rw [Array.toList_push] at hc
  rcases List.mem_append.mp hc with hc | hc
  · rw [← Array.foldl_toList] at hc
    exact foldl_asc hq _ _ h (fun c hc => by simp at hc; omega) c hc
  · simp at hc; omega
theorem textFrom_asc : ∀ (ts : List Str) (k : Nat) (acc : Str), Asc acc → (∀ t ∈ ts, Asc t) → Asc (PySem.textFrom k acc ts)
  | [], k, acc, h, _ => h
  | t :: ts, k, acc, h, ht => by
    show Asc (PySem.textFrom (k + 1) (acc ++ (if k > 0 then ", " else "" : String) ++ t) ts)
    refine textFrom_asc ts _ _ (asc_app (asc_app h ?_) (ht t (List.mem_cons_self ..))) fun t h => ht t (List.mem_cons_of_mem _ h)
    split
    · exact asc_of (by decide +kernel)
    · exact asc_of (by decide +kernel)
theorem join_asc : ∀ (ts : List Str), (∀ t ∈ ts, Asc t) → Asc (PySem.Str.join ", " ts)
  | [], _ => asc_of (by decide +kernel)
  | [t], h => h t (List.mem_singleton_self t)
  | t :: u :: ts, h => by
    show Asc (t ++ ", " ++ PySem.Str.join ", " (u :: ts))
    exact asc_app (asc_app (h t (List.mem_cons_self ..)) (asc_of (by decide +kernel))) (join_asc (u :: ts) fun t ht => h t (List.mem_cons_of_mem _ ht))
mutual
theorem shown_asc : ∀ d : PyData, MP.asc d = true → Asc d.shown
  | .none, _ => asc_of (by decide +kernel)
  | .bool b, _ => by cases b <;> exact asc_of (by decide +kernel)
  | .int i, _ => asc_num i
  | .str x, h => reprText_asc (MP.asc_str.mp h)
  | .list xs, h => by
    simp only [MP.asc] at h
    simp only [PyData.shown]
    exact asc_app (textFrom_asc _ _ _ (asc_of (by decide +kernel)) (shownAll_asc xs h)) (asc_of (by decide +kernel))
  | .tuple xs, h => by
    simp only [MP.asc] at h
    simp only [PyData.shown]
    refine asc_app (asc_app (asc_of (by decide +kernel)) (join_asc _ (shownAll_asc xs h))) ?_
    split
    · exact asc_of (by decide +kernel)
    · exact asc_of (by decide +kernel)
  | .dict _, h => by simp [MP.asc] at h
theorem shownAll_asc : ∀ ds : List PyData, MP.ascs ds = true → ∀ t ∈ PyData.shownAll ds, Asc t
  | [], _, t, ht => by cases ht
  | d :: ds, h, t, ht => by
    simp only [MP.ascs, Bool.and_eq_true] at h
    simp only [PyData.shownAll] at ht
    rcases List.mem_cons.mp ht with rfl | ht
    · exact shown_asc d h.1
    · exact shownAll_asc ds h.2 t ht
end
theorem shp_str {x : Str} (h : Asc x) : shp (.str x) = true := by
  have h1 := MP.asc_lay (.str x) (MP.asc_str.mpr h)
  unfold shp PySem.SeqAt.shaped
  rw [h1]
  simp only [noDict, PyData.depth]
  rfl
theorem vc_neS {x : Str} {ρ : Rn} {Q : VV → Rn → Prop} (h : Asc x) (q : Q (.bool false, false) ρ) : VOk (vcmp .ne (.str x) (.str x) ρ) Q := by
  refine vc_ne (shp_str h) (shp_str h) ?_
  rw [PySem.SeqAt.eqv_refl _ (MP.asc_lay (.str x) (MP.asc_str.mpr h))]
  exact q
theorem vc_eqS {x : Str} {ρ : Rn} {Q : VV → Rn → Prop} (h : Asc x) (q : Q (.bool true, false) ρ) : VOk (vcmp .eq (.str x) (.str x) ρ) Q := by
  refine vc_eq (shp_str h) (shp_str h) ?_
  rw [PySem.SeqAt.eqv_refl _ (MP.asc_lay (.str x) (MP.asc_str.mpr h))]
  exact q
end VE
set_option Elab.async false
set_option linter.all false
set_option maxRecDepth 100000
set_option maxHeartbeats 1000000
namespace VE
open MP (Val E Es Oe It Rg S Ss Tg Op Cmp Ty Bi Mt Fn)
open PySem (Str PyData sizeLine)
open Z (eqv_int eqv_boolD isNone boolsP_map atV_in rgP_one exT exF exT' exF' exTd exFd exTd' exFd' notOwn frz_id NotQ exN exB exB' len_and exI exPn exPi ex_append)
local macro_rules
  | `(tactic| walk_at "v") => `(tactic| repeat (first
    | with_reducible refine vs_cons ?_
    | with_reducible refine vs_nil ?_
    | with_reducible refine vs_nx ?_
    | with_reducible refine vs_rt ?_
    | ((with_reducible show VOkS (veS _ _ (S.set _ _) _ _) _); refine vs_set (by first | exact frz_id (by rfl) | with_unfolding_all rfl) ?_)
    | ((with_reducible show VOkS (veS _ _ (S.ret (E.var _)) _ _) _); first | refine vs_retV (by rfl) (by first | exact frz_id (by rfl) | with_unfolding_all rfl) ?_ | refine vs_retO (by rfl) ?_)
    | ((with_reducible show VOkS (veS _ _ (S.ret _) _ _) _); refine vs_ret (by rfl) (by first | exact frz_id (by rfl) | with_unfolding_all rfl) ?_)
    | with_reducible refine vs_pass ?_
    | ((with_reducible show VOkS (veS _ _ (S.unp _ _) _ _) _); refine vs_unp (by first | exact frz_id (by rfl) | with_unfolding_all rfl) ?_)
    | ((with_reducible show VOkS (veS _ _ (S.par _ _) _ _) _); refine vs_par (by first | exact frz_id (by rfl) | with_unfolding_all rfl) ?_)
    | ((with_reducible show VOkS (veS _ _ (S.ifs _ _ _) _ _) _); refine vs_if (by first | exact frz_id (by rfl) | with_unfolding_all rfl) ?_)
    | with_reducible refine vp_nil ?_
    | with_reducible refine vp_cons ?_
    | with_reducible refine ve_int ?_
    | with_reducible refine ve_bool ?_
    | with_reducible refine ve_none ?_
    | with_reducible refine ve_str ?_
    | ((with_reducible show VOk (veE _ (E.var _) _ _) _); refine ve_var (by rfl) ?_)
    | ((with_reducible show VOk (rdV _ (E.var _) _ _) _); first | refine rd_val (by rfl) ?_ | refine rd_own (by rfl) ?_)
    | ((with_reducible show VOk (rdV _ _ _ _) _); refine rd_e (by rfl) ?_)
    | with_reducible refine ve_bin ?_
    | with_reducible refine ve_cmp ?_
    | with_reducible refine ve_chain ?_
    | with_reducible refine ve_ix ?_
    | with_reducible refine ve_sl ?_
    | with_reducible refine ve_rev ?_
    | with_reducible refine vo_none ?_
    | with_reducible refine vo_some ?_
    | with_reducible refine ve_callN ?_
    | with_reducible refine ve_callkN ?_
    | with_reducible refine ve_bi ?_
    | with_reducible refine ve_mt ?_
    | with_reducible refine ve_isi ?_
    | with_reducible refine ve_lst ?_
    | with_reducible refine ve_tup ?_
    | with_reducible refine ve_dic0 ?_
    | with_reducible refine ve_and ?_
    | with_reducible refine ve_or ?_
    | with_reducible refine ve_notQ ?_
    | with_reducible refine ve_ite ?_
    | with_reducible refine ve_lrng ?_
    | with_reducible refine ve_trng ?_
    | with_reducible refine ve_neg ?_
    | with_reducible refine va_nil ?_
    | ((with_reducible show VOk (veAs _ (Es.cons (E.var _) _) _ _) _); first | refine va_var (by rfl) ?_ | refine va_rng (by rfl) ?_)
    | ((with_reducible show VOk (veAs _ (Es.cons _ _) _ _) _); refine va_e (by rfl) ?_)
    | with_reducible refine vr_nil ?_
    | with_reducible refine vr_cons ?_
    | with_reducible refine vl_nil ?_
    | with_reducible refine vl_cons ?_
    | with_reducible refine vb_add ?_
    | with_reducible refine vb_sub ?_
    | with_reducible refine vb_addB ?_
    | with_reducible refine vb_subB ?_
    | with_reducible refine v_strB ?_
    | with_reducible refine vsl_t ?_
    | with_reducible refine vsl_l ?_
    | with_reducible refine vrev_l ?_
    | with_reducible refine vb_mod (by first | assumption | omega) ?_
    | with_reducible refine vc_lt ?_
    | with_reducible refine vc_le ?_
    | with_reducible refine vc_gt ?_
    | with_reducible refine vc_ge ?_
    | with_reducible refine vc_eqI ?_
    | with_reducible refine vc_neI ?_
    | with_reducible refine vc_eqB ?_
    | with_reducible refine vc_neB ?_
    | ((with_reducible show VOk (vcmp Cmp.eq _ _ _) _); refine vc_eq (by rfl) (by rfl) ?_)
    | ((with_reducible show VOk (vcmp Cmp.ne _ _ _) _); refine vc_ne (by rfl) (by rfl) ?_)
    | with_reducible refine vc_is ?_
    | with_reducible refine vc_isnot ?_
    | with_reducible refine vn_t ?_
    | with_reducible refine vn_l ?_
    | with_reducible refine vn_d ?_
    | with_reducible refine vt_t ?_
    | with_reducible refine vt_l ?_
    | with_reducible refine vl_t ?_
    | with_reducible refine vl_l ?_
    | with_reducible refine va_all ?_
    | with_reducible refine va_any ?_
    | with_reducible refine vsrc_t ?_
    | with_reducible refine vsrc_l ?_
    | ((with_reducible refine exT ?_ ?_); focus rfl)
    | ((with_reducible refine exF ?_ ?_); focus rfl)
    | ((with_reducible refine exT' ?_ ?_); focus rfl)
    | ((with_reducible refine exF' ?_ ?_); focus rfl)
    | ((with_reducible refine exTd ?_ ?_); focus (first | rfl | assumption | omega))
    | ((with_reducible refine exFd ?_ ?_); focus (first | rfl | assumption | omega))
    | ((with_reducible refine exTd' ?_ ?_); focus (first | rfl | assumption | omega))
    | ((with_reducible refine exFd' ?_ ?_); focus (first | rfl | assumption | omega))
    | with_reducible refine exN ?_
    | with_reducible refine exI ?_
    | with_reducible refine exPn ?_
    | with_reducible refine exPi ?_
    | ((with_reducible refine len_and ?_ ?_); focus exact Nat.le_of_ble_eq_true rfl)))
/-! ### houses -/
def encL (p : List Nat) : PyData := .tuple (p.map fun (i : Nat) => .int (i : Int))
structure Pg where
  a : Nat
  b : Nat
  p : List Nat
def encG (g : Pg) : PyData := .tuple [.int g.a, .int g.b, encL g.p]
structure Hs where
  r : Nat
  s : Nat
  ps : List Pg
def encH (h : Hs) : PyData := .tuple [.int h.r, .int h.s, .tuple (h.ps.map encG)]
def IsP (n : Nat) (p : List Nat) : Prop := p.Perm (List.range n)
structure Pg.ok (r s : Nat) (g : Pg) : Prop where
  a : g.a < r
  b : g.b < r
  p : IsP s g.p
structure Hs.ok (h : Hs) : Prop where
  r : 1 ≤ h.r
  s : 1 ≤ h.s
  ps : ∀ g ∈ h.ps, g.ok h.r h.s
namespace H
def permutation : Fn := ⟨2, 5, .cons (.set 2 (.call "_law_draw" (.cons (.var 0) (.cons (.int 5) (.nil))))) (.cons (.set 3 (.lrng (.one (.var 1)))) (.cons (.ifs (.cmp .eq (.var 2) (.int 1)) (.cons (.set 4 (.call "_law_draw" (.cons (.var 0) (.cons (.var 1) (.nil))))) (.cons (.set 3 (.bin .add (.bin .add (.sl (.var 3) (.none) (.some (.var 4))) (.rev (.sl (.var 3) (.some (.var 4)) (.some (.bin .add (.var 4) (.int 2)))))) (.sl (.var 3) (.some (.bin .add (.var 4) (.int 2))) (.none)))) (.nil))) (.cons (.ifs (.cmp .eq (.var 2) (.int 2)) (.cons (.set 3 (.bin .add (.sl (.var 3) (.some (.int 1)) (.none)) (.sl (.var 3) (.none) (.some (.int 1))))) (.nil)) (.cons (.ifs (.cmp .gt (.var 2) (.int 2)) (.cons (.set 3 (.call "_law_shuffle" (.cons (.var 0) (.cons (.var 3) (.nil))))) (.nil)) (.nil)) (.nil))) (.nil))) (.cons (.ret (.bi .tuple (.cons (.var 3) (.nil)))) (.nil))))⟩
def passage : Fn := ⟨3, 6, .cons (.par [3, 4] (.cons (.call "_law_draw" (.cons (.var 0) (.cons (.var 1) (.nil)))) (.cons (.call "_law_draw" (.cons (.var 0) (.cons (.int 4) (.nil)))) (.nil)))) (.cons (.set 5 (.ite (.cmp .eq (.var 4) (.int 0)) (.var 3) (.call "_law_draw" (.cons (.var 0) (.cons (.var 1) (.nil)))))) (.cons (.ret (.tup (.cons (.var 3) (.cons (.var 5) (.cons (.call "_law_permutation" (.cons (.var 0) (.cons (.var 2) (.nil)))) (.nil)))))) (.nil)))⟩
def house : Fn := ⟨4, 5, .cons (.unp [.nm 1, .nm 2] (.tup (.cons (.bin .add (.int 1) (.call "_law_draw" (.cons (.var 0) (.cons (.var 1) (.nil))))) (.cons (.bin .add (.int 1) (.call "_law_draw" (.cons (.var 0) (.cons (.var 2) (.nil))))) (.nil))))) (.cons (.ret (.tup (.cons (.var 1) (.cons (.var 2) (.cons (.bi .tuple (.cons (.lc (.nm 4) (.rng (.one (.call "_law_draw" (.cons (.var 0) (.cons (.bin .add (.var 3) (.int 1)) (.nil)))))) (.none) (.call "_law_passage" (.cons (.var 0) (.cons (.var 1) (.cons (.var 2) (.nil))))) [4]) (.nil))) (.nil)))))) (.nil))⟩
end H
def natsP (p : List Nat) : List PyData := p.map fun (i : Nat) => .int (i : Int)
theorem ints_perm {ys : List PyData} {p : List Nat} (h : ys.Perm (natsP p)) : ∃ q : List Nat, ys = natsP q ∧ q.Perm p := by
  have key : ∀ (ys : List PyData), (∀ d ∈ ys, ∃ i : Nat, d = .int (i : Int)) → ∃ q : List Nat, ys = natsP q := by
    intro ys
    induction ys with
    | nil => intro _; exact ⟨[], rfl⟩
    | cons y ys ih =>
      intro h
      obtain ⟨i, rfl⟩ := h y (List.mem_cons_self ..)
      obtain ⟨q, rfl⟩ := ih fun d hd => h d (List.mem_cons_of_mem _ hd)
      exact ⟨i :: q, rfl⟩
  obtain ⟨q, rfl⟩ := key ys fun d hd => by
    obtain ⟨i, _, rfl⟩ := List.mem_map.mp (h.mem_iff.mp hd)
    exact ⟨i, rfl⟩
  refine ⟨q, rfl, ?_⟩
  have h2 := h.map (fun d : PyData => match d with | .int i => i.toNat | _ => 0)
  unfold natsP at h2
  rw [List.map_map, List.map_map] at h2
  have e : ((fun d : PyData => match d with | .int i => i.toNat | _ => 0) ∘ fun (i : Nat) => PyData.int (i : Int)) = id := by funext i; simp
  rw [e, List.map_id, List.map_id] at h2
  exact h2
theorem cut_map {α β : Type} (f : α → β) (xs : List α) (lo hi : Option Int) : MP.cutV (xs.map f) lo hi = (MP.cutV xs lo hi).map f := by
  unfold MP.cutV
  rw [List.length_map, List.map_take, List.map_drop]
theorem cut_swap {α : Type} (xs : List α) (k : Int) (h0 : 0 ≤ k) : (MP.cutV xs none (some k) ++ (MP.cutV xs (some k) (some (k + 2))).reverse ++ MP.cutV xs (some (k + 2)) none).Perm xs := by
  have e1 : MP.cutV xs none (some k) = xs.take k.toNat := by
    unfold MP.cutV MP.sIx
    simp only [List.drop_zero, Nat.sub_zero]
    rw [if_neg (by omega)]
    rcases Nat.le_total k.toNat xs.length with h | h
    · rw [Nat.min_eq_left h]
    · rw [Nat.min_eq_right h, List.take_length, List.take_of_length_le h]
  have e2 : MP.cutV xs (some k) (some (k + 2)) = (xs.drop k.toNat).take 2 := by
    unfold MP.cutV MP.sIx
    simp only
    rw [if_neg (by omega), if_neg (by omega)]
    rcases Nat.le_total k.toNat xs.length with h | h
    · rw [Nat.min_eq_left h]
      rcases Nat.le_total (k + 2).toNat xs.length with h2 | h2
      · rw [Nat.min_eq_left h2]; congr 1; omega
      · rw [Nat.min_eq_right h2, List.take_of_length_le (by rw [List.length_drop]; omega), List.take_of_length_le (by rw [List.length_drop]; omega)]
    · rw [Nat.min_eq_right h, List.drop_of_length_le h, List.drop_of_length_le (Nat.le_refl _)]; simp
  have e3 : MP.cutV xs (some (k + 2)) none = (xs.drop k.toNat).drop 2 := by
    unfold MP.cutV MP.sIx
    simp only
    rw [if_neg (by omega), List.drop_drop]
    rcases Nat.le_total (k + 2).toNat xs.length with h | h
    · rw [Nat.min_eq_left h, List.take_of_length_le (by rw [List.length_drop]; omega)]; congr 1; omega
    · rw [Nat.min_eq_right h, List.drop_of_length_le (Nat.le_refl _), List.drop_of_length_le (by omega)]; simp
  rw [e1, e2, e3]
  refine ((List.Perm.append_right _ (List.Perm.append_left _ (List.reverse_perm _)))).trans ?_
  rw [List.append_assoc, List.take_append_drop, List.take_append_drop]
theorem cut_rot {α : Type} (xs : List α) : (MP.cutV xs (some 1) none ++ MP.cutV xs none (some 1)).Perm xs := by
  have e1 : MP.cutV xs none (some 1) = xs.take 1 := by
    unfold MP.cutV MP.sIx
    cases xs <;> simp
  have e2 : MP.cutV xs (some 1) none = xs.drop 1 := by
    unfold MP.cutV MP.sIx
    cases xs <;> simp
  rw [e1, e2]
  exact List.perm_append_comm.trans (by rw [List.take_append_drop])
section
variable {P : VProg} {F n : Nat} {ρ : Rn} {Q : VV → Rn → Prop} {m : Int}
theorem rn_up {ρ : Rn} {a b : Int} (h : RnOk ρ a) (e : a ≤ b) : RnOk ρ b := ⟨h.1, h.2.1, h.2.2.1, h.2.2.2.1, Int.le_trans h.2.2.2.2 e⟩
theorem permutation_call (hS : P.fns.lookup ("_law_shuffle" : Str) = some MP.H.shuffle) (hP : P.fns.lookup ("_law_permutation" : Str) = some H.permutation) (hn : 3 ≤ n) {k : Nat} (hk1 : 1 ≤ k) (hk : k ≤ 100) (h : RnOk ρ m) (hm : m + k + 1 < 2 ^ 39)
    (q : ∀ p ρ', IsP k p → RnOk ρ' (m + k + 1) → Q (encL p, false) ρ') : VOk (vcallN P F n "_law_permutation" [.rng, .d (.int (k : Int))] ρ) Q := by
  obtain ⟨n, rfl⟩ : ∃ k, n = k + 2 := ⟨n - 2, by omega⟩
  refine v_call hP (by decide) rfl ?_
  show VOkS (veSs _ _ H.permutation.body [.rng, .val (.int (k : Int)), .none, .none, .none] ρ) _
  unfold H.permutation
  walk_at "v"
  refine v_draw h (by omega) (by decide) (by decide) fun kd ρ1 hd0 hd1 h1 => ?_
  walk_at "v"
  refine ⟨k, rfl, by omega, ?_⟩
  walk_at "v"
  have fin : ∀ (x4 : Sl) (ρ' : Rn) (ys : List PyData), ys.Perm (natsP (List.range k)) → RnOk ρ' (m + k + 1) → notOwn x4 = true → VOkS (veSs ⟨vcallN P F (n + 1), P.glob⟩ F (.cons (.ret (.bi .tuple (.cons (.var 3) (.nil)))) (.nil)) [.rng, .val (.int (k : Int)), .val (.int kd), .own (.list ys), x4] ρ') fun fl x ρ' => match fl with
      | .nx => Q (.none, false) ρ'
      | .rt v => Q v ρ'
      | .br => False
      | .ct => False := by
    intro x4 ρ' ys hy hr hx
    obtain ⟨p, rfl, hp⟩ := ints_perm hy
    walk_at "v"
    exact q p ρ' hp hr
  refine exB (fun _ => ?_) (fun _ => ?_)
  · walk_at "v"
    refine v_draw h1 (by omega) (by omega) (by omega) fun ka ρ2 ha0 ha1 h2 => ?_
    walk_at "v"
    have c1 := MP.cut_len (natsP (List.range k)) none (some ka)
    have c2 := MP.cut_len (natsP (List.range k)) (some ka) (some (ka + 2))
    have c3 := MP.cut_len (natsP (List.range k)) (some (ka + 2)) none
    have hlk : (natsP (List.range k)).length = k := by unfold natsP; simp
    refine vb_addL (a := MP.cutV (natsP (List.range k)) none (some ka)) (b := (MP.cutV (natsP (List.range k)) (some ka) (some (ka + 2))).reverse) (le_mill (by rw [List.length_reverse]; omega)) ?_
    walk_at "v"
    refine vb_addL (b := MP.cutV (natsP (List.range k)) (some (ka + 2)) none) (le_mill (by rw [List.length_append, List.length_reverse]; omega)) ?_
    refine vs_nx (vs_nil (vs_nx ?_))
    exact fin (.val (.int ka)) ρ2 _ (cut_swap _ ka ha0) (rn_up h2 (by omega)) rfl
  · walk_at "v"
    refine exB (fun _ => ?_) (fun _ => ?_)
    · walk_at "v"
      have c1 := MP.cut_len (natsP (List.range k)) none (some 1)
      have c2 := MP.cut_len (natsP (List.range k)) (some 1) none
      have hlk : (natsP (List.range k)).length = k := by unfold natsP; simp
      refine vb_addL (a := MP.cutV (natsP (List.range k)) (some 1) none) (b := MP.cutV (natsP (List.range k)) none (some 1)) (le_mill (by omega)) ?_
      refine vs_nx (vs_nil (vs_nx (vs_nil (vs_nx ?_))))
      exact fin .none ρ1 _ (cut_rot _) (rn_up h1 (by omega)) rfl
    · walk_at "v"
      refine exB (fun _ => ?_) (fun _ => ?_)
      · refine vs_cons (vs_setF ?_)
        show VOk (veE ⟨vcallN P F (n + 1), P.glob⟩ _ [.rng, .val (.int (k : Int)), .val (.int kd), .val (.list (natsP (List.range k))), .none] ρ1) _
        walk_at "v"
        have hlk : (natsP (List.range k)).length = k := by unfold natsP; simp
        refine shuffle_call hS (by omega) h1 (by rw [hlk]; omega) (by rw [hlk]; omega) fun ys ρ2 hp h2 => ?_
        rw [hlk] at h2
        refine vs_nx (vs_nil (vs_nx (vs_nil (vs_nx (vs_nil (vs_nx ?_))))))
        exact fin .none ρ2 ys hp (rn_up h2 (by omega)) rfl
      · refine vs_nil (vs_nx (vs_nil (vs_nx (vs_nil (vs_nx ?_)))))
        exact fin .none ρ1 _ (List.Perm.refl _) (rn_up h1 (by omega)) rfl
theorem passage_call (hS : P.fns.lookup ("_law_shuffle" : Str) = some MP.H.shuffle) (hP : P.fns.lookup ("_law_permutation" : Str) = some H.permutation) (hG : P.fns.lookup ("_law_passage" : Str) = some H.passage) (hn : 4 ≤ n) {r k : Nat} (hr1 : 1 ≤ r) (hr : r ≤ 100) (hk1 : 1 ≤ k) (hk : k ≤ 100) (h : RnOk ρ m) (hm : m + k + 4 < 2 ^ 39)
    (q : ∀ g ρ', Pg.ok r k g → RnOk ρ' (m + k + 4) → Q (encG g, false) ρ') : VOk (vcallN P F n "_law_passage" [.rng, .d (.int (r : Int)), .d (.int (k : Int))] ρ) Q := by
  obtain ⟨n, rfl⟩ : ∃ k, n = k + 2 := ⟨n - 2, by omega⟩
  refine v_call hG (by decide) rfl ?_
  show VOkS (veSs _ _ H.passage.body [.rng, .val (.int (r : Int)), .val (.int (k : Int)), .none, .none, .none] ρ) _
  unfold H.passage
  walk_at "v"
  refine v_draw h (by omega) (by omega) (by omega) fun t ρ1 ht0 ht1 h1 => ?_
  obtain ⟨t, rfl⟩ : ∃ j : Nat, t = j := ⟨t.toNat, by omega⟩
  walk_at "v"
  refine v_draw h1 (by omega) (by decide) (by decide) fun kd ρ2 hd0 hd1 h2 => ?_
  walk_at "v"
  refine ⟨rfl, ?_⟩
  refine vs_nx (vs_cons ?_)
  show VOkS (veS _ _ _ [.rng, .val (.int (r : Int)), .val (.int (k : Int)), .val (.int (t : Int)), .val (.int kd), .none] ρ2) _
  walk_at "v"
  have fin : ∀ (hd : Nat) (ρ' : Rn), hd < r → RnOk ρ' (m + 3) → VOkS (veSs ⟨vcallN P F (n + 1), P.glob⟩ F (.cons (.ret (.tup (.cons (.var 3) (.cons (.var 5) (.cons (.call "_law_permutation" (.cons (.var 0) (.cons (.var 2) (.nil)))) (.nil)))))) (.nil)) [.rng, .val (.int (r : Int)), .val (.int (k : Int)), .val (.int (t : Int)), .val (.int kd), .val (.int (hd : Int))] ρ') fun fl x ρ' => match fl with
      | .nx => Q (.none, false) ρ'
      | .rt v => Q v ρ'
      | .br => False
      | .ct => False := by
    intro hd ρ' hh hr'
    walk_at "v"
    refine permutation_call hS hP (by omega) hk1 hk hr' (by omega) fun p ρ3 hp h3 => ?_
    walk_at "v"
    exact q ⟨t, hd, p⟩ ρ3 ⟨(by omega : t < r), hh, hp⟩ (rn_up h3 (by omega))
  refine exB (fun _ => ?_) (fun _ => ?_)
  · refine ve_var (by rfl) (vs_nx ?_)
    exact fin t ρ2 (by omega) (rn_up h2 (by omega))
  · walk_at "v"
    refine v_draw h2 (by omega) (by omega) (by omega) fun hd ρ3 hh0 hh1 h3 => ?_
    obtain ⟨hd, rfl⟩ : ∃ j : Nat, hd = j := ⟨hd.toNat, by omega⟩
    refine vs_nx ?_
    exact fin hd ρ3 (by omega) (rn_up h3 (by omega))
theorem house_call (hS : P.fns.lookup ("_law_shuffle" : Str) = some MP.H.shuffle) (hP : P.fns.lookup ("_law_permutation" : Str) = some H.permutation) (hG : P.fns.lookup ("_law_passage" : Str) = some H.passage) (hH : P.fns.lookup ("_law_house" : Str) = some H.house) (hn : 5 ≤ n) {R K M : Nat} (hR1 : 1 ≤ R) (hR : R ≤ 50) (hK1 : 1 ≤ K) (hK : K ≤ 50) (hM : M ≤ 100) (h : RnOk ρ m) (hm : m + 20000 < 2 ^ 39)
    (q : ∀ h ρ', Hs.ok h → h.r ≤ R → h.s ≤ K → h.ps.length ≤ M → RnOk ρ' (m + 20000) → Q (encH h, false) ρ') : VOk (vcallN P F n "_law_house" [.rng, .d (.int (R : Int)), .d (.int (K : Int)), .d (.int (M : Int))] ρ) Q := by
  obtain ⟨n, rfl⟩ : ∃ k, n = k + 2 := ⟨n - 2, by omega⟩
  refine v_call hH (by decide) rfl ?_
  show VOkS (veSs _ _ H.house.body [.rng, .val (.int (R : Int)), .val (.int (K : Int)), .val (.int (M : Int)), .none] ρ) _
  unfold H.house
  walk_at "v"
  refine v_draw h (by omega) (by omega) (by omega) fun r ρ1 hr0 hr1 h1 => ?_
  obtain ⟨r, rfl⟩ : ∃ j : Nat, r = j := ⟨r.toNat, by omega⟩
  walk_at "v"
  refine v_draw h1 (by omega) (by omega) (by omega) fun k ρ2 hk0 hk1 h2 => ?_
  obtain ⟨k, rfl⟩ : ∃ j : Nat, k = j := ⟨k.toNat, by omega⟩
  walk_at "v"
  refine ⟨_, rfl, ?_⟩
  refine vs_nx (vs_cons ?_)
  have er : (1 + (r : Int)) = ((r + 1 : Nat) : Int) := by omega
  have ek : (1 + (k : Int)) = ((k + 1 : Nat) : Int) := by omega
  show VOkS (veS _ _ _ [.rng, .val (.int (1 + (r : Int))), .val (.int (1 + (k : Int))), .val (.int (M : Int)), .none] ρ2) _
  rw [er, ek]
  walk_at "v"
  have em : ((M : Int) + 1) = ((M + 1 : Nat) : Int) := by omega
  refine ve_lc (vi_rng ?_)
  walk_at "v"
  refine v_draw h2 (by omega) (by omega) (by omega) fun j ρ3 hj0 hj1 h3 => ?_
  obtain ⟨j, rfl⟩ : ∃ i : Nat, j = i := ⟨j.toNat, by omega⟩
  refine ⟨j, rfl, by omega, by simp; exact le_mill (by omega), fun rest ys ρ' => ∃ gs : List Pg, ∃ vs : List PyData, rest = vs.map .one ∧ vs.length + gs.length = j ∧ ys = gs.map encG ∧ (∀ g ∈ gs, Pg.ok (r + 1) (k + 1) g) ∧ RnOk ρ' (m + 3 + 100 * (gs.length : Int)), ?_, ?_, ?_⟩
  · exact ⟨[], _, rfl, by simp, rfl, nofun, rn_up h3 (by simp only [List.length_nil]; omega)⟩
  · rintro x rest ys ρ' ⟨gs, vs, h4, h5, rfl, h6, h7⟩
    cases vs with
    | nil => cases h4
    | cons v vs =>
      injection h4 with ha hb
      subst ha
      simp only [List.length_cons] at h5
      refine ⟨[.rng, .val (.int ((r + 1 : Nat) : Int)), .val (.int ((k + 1 : Nat) : Int)), .val (.int (M : Int)), .val v], rfl, ?_⟩
      walk_at "v"
      refine passage_call hS hP hG (by omega) (by omega) (by omega) (by omega) (by omega) h7 (by omega) fun g ρ4 hg h8 => ?_
      refine ⟨gs ++ [g], vs, hb, by simp; omega, by simp, fun g' hg' => ?_, rn_up h8 (by simp; omega)⟩
      rcases List.mem_append.mp hg' with hg' | hg'
      · exact h6 g' hg'
      · rw [List.mem_singleton] at hg'; subst hg'; exact hg
  · rintro zs ρ' ⟨gs, vs, h4, h5, rfl, h6, h7⟩
    walk_at "v"
    exact q ⟨r + 1, k + 1, gs⟩ ρ' ⟨by simp, by simp, h6⟩ (by simp; omega) (by simp; omega) (by simp; omega) (rn_up h7 (by omega))
end
end VE
set_option Elab.async false
set_option linter.all false
set_option maxRecDepth 100000
set_option maxHeartbeats 1000000
namespace VE
open MP (Val E Es Oe It Rg S Ss Tg Op Cmp Ty Bi Mt Fn)
open PySem (Str PyData sizeLine)
open Z (eqv_int eqv_boolD isNone boolsP_map atV_in rgP_one exT exF exT' exF' exTd exFd exTd' exFd' notOwn frz_id NotQ exN exB exB' len_and exI exPn exPi ex_append)
local macro_rules
  | `(tactic| walk_at "v") => `(tactic| repeat (first
    | with_reducible refine vs_cons ?_
    | with_reducible refine vs_nil ?_
    | with_reducible refine vs_nx ?_
    | with_reducible refine vs_rt ?_
    | ((with_reducible show VOkS (veS _ _ (S.set _ _) _ _) _); refine vs_set (by first | exact frz_id (by rfl) | with_unfolding_all rfl) ?_)
    | ((with_reducible show VOkS (veS _ _ (S.ret (E.var _)) _ _) _); first | refine vs_retV (by rfl) (by first | exact frz_id (by rfl) | with_unfolding_all rfl) ?_ | refine vs_retO (by rfl) ?_)
    | ((with_reducible show VOkS (veS _ _ (S.ret _) _ _) _); refine vs_ret (by rfl) (by first | exact frz_id (by rfl) | with_unfolding_all rfl) ?_)
    | with_reducible refine vs_pass ?_
    | ((with_reducible show VOkS (veS _ _ (S.unp _ _) _ _) _); refine vs_unp (by first | exact frz_id (by rfl) | with_unfolding_all rfl) ?_)
    | ((with_reducible show VOkS (veS _ _ (S.par _ _) _ _) _); refine vs_par (by first | exact frz_id (by rfl) | with_unfolding_all rfl) ?_)
    | ((with_reducible show VOkS (veS _ _ (S.ifs _ _ _) _ _) _); refine vs_if (by first | exact frz_id (by rfl) | with_unfolding_all rfl) ?_)
    | with_reducible refine vp_nil ?_
    | with_reducible refine vp_cons ?_
    | with_reducible refine ve_int ?_
    | with_reducible refine ve_bool ?_
    | with_reducible refine ve_none ?_
    | with_reducible refine ve_str ?_
    | ((with_reducible show VOk (veE _ (E.var _) _ _) _); refine ve_var (by rfl) ?_)
    | ((with_reducible show VOk (rdV _ (E.var _) _ _) _); first | refine rd_val (by rfl) ?_ | refine rd_own (by rfl) ?_)
    | ((with_reducible show VOk (rdV _ _ _ _) _); refine rd_e (by rfl) ?_)
    | with_reducible refine ve_bin ?_
    | with_reducible refine ve_cmp ?_
    | with_reducible refine ve_chain ?_
    | with_reducible refine ve_ix ?_
    | with_reducible refine ve_sl ?_
    | with_reducible refine ve_rev ?_
    | with_reducible refine vo_none ?_
    | with_reducible refine vo_some ?_
    | with_reducible refine ve_callN ?_
    | with_reducible refine ve_callkN ?_
    | with_reducible refine ve_bi ?_
    | with_reducible refine ve_mt ?_
    | with_reducible refine ve_isi ?_
    | with_reducible refine ve_lst ?_
    | with_reducible refine ve_tup ?_
    | with_reducible refine ve_dic0 ?_
    | with_reducible refine ve_and ?_
    | with_reducible refine ve_or ?_
    | with_reducible refine ve_notQ ?_
    | with_reducible refine ve_ite ?_
    | with_reducible refine ve_lrng ?_
    | with_reducible refine ve_trng ?_
    | with_reducible refine ve_neg ?_
    | with_reducible refine va_nil ?_
    | ((with_reducible show VOk (veAs _ (Es.cons (E.var _) _) _ _) _); first | refine va_var (by rfl) ?_ | refine va_rng (by rfl) ?_)
    | ((with_reducible show VOk (veAs _ (Es.cons _ _) _ _) _); refine va_e (by rfl) ?_)
    | with_reducible refine vr_nil ?_
    | with_reducible refine vr_cons ?_
    | with_reducible refine vl_nil ?_
    | with_reducible refine vl_cons ?_
    | with_reducible refine vb_add ?_
    | with_reducible refine vb_sub ?_
    | with_reducible refine vb_addB ?_
    | with_reducible refine vb_subB ?_
    | with_reducible refine v_strB ?_
    | with_reducible refine vsl_t ?_
    | with_reducible refine vsl_l ?_
    | with_reducible refine vrev_l ?_
    | with_reducible refine vb_mod (by first | assumption | omega) ?_
    | with_reducible refine vc_lt ?_
    | with_reducible refine vc_le ?_
    | with_reducible refine vc_gt ?_
    | with_reducible refine vc_ge ?_
    | with_reducible refine vc_eqI ?_
    | with_reducible refine vc_neI ?_
    | with_reducible refine vc_eqB ?_
    | with_reducible refine vc_neB ?_
    | ((with_reducible show VOk (vcmp Cmp.eq _ _ _) _); refine vc_eq (by rfl) (by rfl) ?_)
    | ((with_reducible show VOk (vcmp Cmp.ne _ _ _) _); refine vc_ne (by rfl) (by rfl) ?_)
    | with_reducible refine vc_is ?_
    | with_reducible refine vc_isnot ?_
    | with_reducible refine vn_t ?_
    | with_reducible refine vn_l ?_
    | with_reducible refine vn_d ?_
    | with_reducible refine vt_t ?_
    | with_reducible refine vt_l ?_
    | with_reducible refine vl_t ?_
    | with_reducible refine vl_l ?_
    | with_reducible refine va_all ?_
    | with_reducible refine va_any ?_
    | with_reducible refine vsrc_t ?_
    | with_reducible refine vsrc_l ?_
    | ((with_reducible refine exT ?_ ?_); focus rfl)
    | ((with_reducible refine exF ?_ ?_); focus rfl)
    | ((with_reducible refine exT' ?_ ?_); focus rfl)
    | ((with_reducible refine exF' ?_ ?_); focus rfl)
    | ((with_reducible refine exTd ?_ ?_); focus (first | rfl | assumption | omega))
    | ((with_reducible refine exFd ?_ ?_); focus (first | rfl | assumption | omega))
    | ((with_reducible refine exTd' ?_ ?_); focus (first | rfl | assumption | omega))
    | ((with_reducible refine exFd' ?_ ?_); focus (first | rfl | assumption | omega))
    | with_reducible refine exN ?_
    | with_reducible refine exI ?_
    | with_reducible refine exPn ?_
    | with_reducible refine exPi ?_
    | ((with_reducible refine len_and ?_ ?_); focus exact Nat.le_of_ble_eq_true rfl)))
/-! ### dicts -/
theorem kEq_refl (k : PyData) : kEq k k = true := decide_eq_true rfl
theorem kEq_eq {a b : PyData} (h : kEq a b = true) : valOf a = valOf b := of_decide_eq_true h
theorem kEq_int (i j : Int) : kEq (.int i) (.int j) = decide (i = j) := by
  unfold kEq
  by_cases h : i = j
  · subst h; rw [decide_eq_true rfl, decide_eq_true rfl]
  · rw [decide_eq_false h, decide_eq_false]
    intro e
    simp only [valOf] at e
    injection e with e
    exact h e
theorem kOk_int (i : Int) : kOk (.int i) = true := rfl
theorem kOk_str (i : Str) : kOk (.str i) = true := rfl
theorem find_map {k k' v : PyData} (h : kEq k k' = false) : ∀ kvs : List (PyData × PyData), ((kvs.map fun p => if kEq p.1 k = true then (p.1, v) else p).find? fun p => kEq p.1 k').map (·.2) = (kvs.find? fun p => kEq p.1 k').map (·.2)
  | [] => rfl
  | p :: kvs => by
    have ih := find_map (v := v) h kvs
    rw [List.map_cons, List.find?_cons, List.find?_cons]
    by_cases hk : kEq p.1 k = true
    · rw [if_pos hk]
      have e : kEq p.1 k' = false := by
        unfold kEq at hk h ⊢
        rw [decide_eq_true_eq] at hk
        rw [hk]; exact h
      simp only [e]
      exact ih
    · rw [if_neg hk]
      cases kEq p.1 k' with
      | true => rfl
      | false => exact ih
theorem pget_ne {kvs : List (PyData × PyData)} {k k' v : PyData} (h : kEq k k' = false) : pget (pput kvs k v) k' = pget kvs k' := by
  unfold pget pput
  split
  · exact find_map h kvs
  · rw [List.find?_append, List.find?_cons, h]
    cases List.find? (fun p => kEq p.1 k') kvs <;> rfl
theorem find_same {k v : PyData} : ∀ kvs : List (PyData × PyData), kvs.any (fun p => kEq p.1 k) = true → ((kvs.map fun p => if kEq p.1 k = true then (p.1, v) else p).find? fun p => kEq p.1 k).map (·.2) = some v
  | [], h => by cases h
  | p :: kvs, h => by
    rw [List.map_cons, List.find?_cons]
    by_cases hk : kEq p.1 k = true
    · rw [if_pos hk]; simp only [hk]; rfl
    · rw [if_neg hk]
      rw [Bool.not_eq_true] at hk
      simp only [hk]
      refine find_same kvs ?_
      simpa [hk] using h
theorem pget_same {kvs : List (PyData × PyData)} {k v : PyData} : pget (pput kvs k v) k = some v := by
  unfold pget pput
  split
  · next h => exact find_same kvs h
  · next h =>
    have : List.find? (fun p => kEq p.1 k) kvs = none := by
      rw [List.find?_eq_none]
      intro p hp e
      exact h (List.any_eq_true.mpr ⟨p, hp, e⟩)
    rw [List.find?_append, this, List.find?_cons, kEq_refl]
    rfl
theorem pput_len {kvs : List (PyData × PyData)} {k v : PyData} : (pput kvs k v).length ≤ kvs.length + 1 := by
  unfold pput
  split
  · rw [List.length_map]; omega
  · rw [List.length_append]; simp
section
variable {C : VCfg} {F : Nat} {env : VEn} {ρ : Rn} {Q : VV → Rn → Prop}
theorem vx_d {kvs : List (PyData × PyData)} {k d : PyData} (hk : kOk k = true) (h : pget kvs k = some d) (q : Q (d, false) ρ) : VOk (vix (.dict kvs) k ρ) Q := by
  show VOk (vneed (kOk k) (vopt (pget kvs k) old) ρ) Q
  rw [vok_need, vok_opt]
  exact ⟨hk, d, h, by show VOk ((pure (d, false) : VM VV) ρ) Q; rw [vok_pure]; exact q⟩
theorem vok_dcGo {body : VItm → VM (PyData × PyData)} {I : List VItm → List (PyData × PyData) → Rn → Prop}
    (hb : ∀ x r kvs ρ, I (x :: r) kvs ρ → VOk (body x ρ) fun kv ρ' => kOk kv.1 = true ∧ I r (pput kvs kv.1 kv.2) ρ') :
    ∀ (xs : List VItm) (kvs : List (PyData × PyData)) (ρ : Rn), I xs kvs ρ → VOk (vdcGo body xs kvs ρ) fun zs ρ' => I [] zs ρ'
  | [], kvs, ρ, h => by show VOk ((pure kvs : VM _) ρ) _; rw [vok_pure]; exact h
  | x :: xs, kvs, ρ, h => by
    show VOk ((body x >>= fun kv => vneed (kOk kv.1) (vdcGo body xs (pput kvs kv.1 kv.2))) ρ) _
    rw [vok_bind]
    refine (hb x xs kvs ρ h).mono ?_
    rintro kv ρ1 ⟨h1, h2⟩
    rw [vok_need]
    exact ⟨h1, vok_dcGo hb xs _ ρ1 h2⟩
theorem ve_dc {t : Tg} {it : It} {k v : E} {own : List Nat} (h : VOk (veIt C true it env ρ) fun src ρ1 => src.length ≤ sizeLine ∧ ∃ I : List VItm → List (PyData × PyData) → Rn → Prop,
      I src [] ρ1 ∧ (∀ x r kvs ρ, I (x :: r) kvs ρ → ∃ env2, vbindI t x (vwipe env own) = some env2 ∧ VOk (veE C k env2 ρ) fun a ρ1 => VOk (veE C v env2 ρ1) fun b ρ2 => kOk a.1 = true ∧ I r (pput kvs a.1 b.1) ρ2) ∧
      ∀ zs ρ', I [] zs ρ' → Q (.dict zs, true) ρ') : VOk (veE C (.dc t it k v own) env ρ) Q := by
  show VOk ((veIt C true it env >>= fun src => vneed (MP.szOk src.length) (vdcGo (fun x => vopt (vbindI t x (vwipe env own)) fun env2 => veE C k env2 >>= fun a => veE C v env2 >>= fun b => pure (a.1, b.1)) src [] >>= fun kvs => fresh (.dict kvs))) ρ) Q
  rw [vok_bind]
  refine h.mono ?_
  rintro src ρ1 ⟨hl, I, h0, hb, he⟩
  rw [vok_need]
  refine ⟨decide_eq_true hl, ?_⟩
  rw [vok_bind]
  refine (vok_dcGo (I := I) ?_ src [] ρ1 h0).mono fun zs ρ2 h2 => ?_
  · intro x r kvs ρ hI
    obtain ⟨env2, h1, h2⟩ := hb x r kvs ρ hI
    rw [vok_opt]
    refine ⟨env2, h1, ?_⟩
    rw [vok_bind]
    refine h2.mono fun a ρ1 h2 => ?_
    rw [vok_bind]
    refine h2.mono fun b ρ2 h2 => ?_
    rw [vok_pure]; exact h2
  · show VOk ((pure (PyData.dict zs, true) : VM VV) ρ2) Q
    rw [vok_pure]; exact he zs ρ2 h2
end
/-! ### permutations of 0, .., n-1 as lists -/
def ga (l : List Nat) (i : Nat) : Nat := l.getD i 0
theorem ga_eq {l : List Nat} {i : Nat} (h : i < l.length) : ga l i = l[i] := by unfold ga; rw [List.getD_eq_getElem?_getD, List.getElem?_eq_getElem h]; rfl
theorem ga_ext {n : Nat} {a b : List Nat} (ha : a.length = n) (hb : b.length = n) (h : ∀ i < n, ga a i = ga b i) : a = b := by
  refine List.ext_getElem (ha.trans hb.symm) fun i h1 h2 => ?_
  have := h i (by omega)
  rw [ga_eq h1, ga_eq h2] at this
  exact this
theorem ga_map {f : Nat → Nat} {l : List Nat} {i : Nat} (h : i < l.length) : ga (l.map f) i = f (ga l i) := by
  rw [ga_eq (by simpa using h), ga_eq h, List.getElem_map]
theorem ga_range {n i : Nat} (h : i < n) : ga (List.range n) i = i := by rw [ga_eq (by simpa using h), List.getElem_range]
def cmpL (p q : List Nat) : List Nat := p.map (ga q)
def invL (p : List Nat) : List Nat := (List.range p.length).map fun t => p.idxOf t
section
variable {n : Nat} {p q r : List Nat}
theorem IsP.len (h : IsP n p) : p.length = n := by have := List.Perm.length_eq h; simpa using this
theorem IsP.nodup (h : IsP n p) : p.Nodup := (List.Perm.nodup_iff h).mpr List.nodup_range
theorem IsP.mem (h : IsP n p) {i : Nat} : i ∈ p ↔ i < n := by rw [List.Perm.mem_iff h, List.mem_range]
theorem IsP.lt (h : IsP n p) {i : Nat} (hi : i < n) : ga p i < n := by
  have := h.len
  rw [ga_eq (by omega)]
  exact h.mem.mp (List.getElem_mem _)
theorem IsP.inj (h : IsP n p) {i j : Nat} (hi : i < n) (hj : j < n) (e : ga p i = ga p j) : i = j := by
  have := h.len
  rw [ga_eq (by omega), ga_eq (by omega)] at e
  exact (List.getElem_inj h.nodup).mp e
theorem isP_of (h1 : p.Nodup) (h2 : p.length = n) (h3 : ∀ i ∈ p, i < n) : IsP n p :=
  (perm_of_len h1 (fun x hx => List.mem_range.mpr (h3 x hx)) (by simp [h2])).symm
theorem isP_id : IsP n (List.range n) := List.Perm.refl _
theorem map_range_ga {l : List Nat} : (List.range l.length).map (ga l) = l := by
  refine ga_ext (n := l.length) (by simp) rfl fun i hi => ?_
  rw [ga_map (by simpa using hi), ga_range hi]
theorem IsP.cmp (hp : IsP n p) (hq : IsP n q) : IsP n (cmpL p q) := by
  have h1 : (cmpL p q).Perm ((List.range n).map (ga q)) := List.Perm.map _ hp
  have h2 := hq.len
  rw [← h2, map_range_ga] at h1
  exact h1.trans hq
theorem ga_cmp (hp : IsP n p) {i : Nat} (hi : i < n) : ga (cmpL p q) i = ga q (ga p i) := ga_map (by have := hp.len; omega)
theorem idx_lt (hp : IsP n p) {t : Nat} (ht : t < n) : p.idxOf t < n := by
  have := List.idxOf_lt_length_of_mem (hp.mem.mpr ht)
  have := hp.len; omega
theorem ga_idx (hp : IsP n p) {t : Nat} (ht : t < n) : ga p (p.idxOf t) = t := by
  have h1 := List.idxOf_lt_length_of_mem (hp.mem.mpr ht)
  rw [ga_eq h1]
  exact List.getElem_idxOf h1
theorem idx_ga (hp : IsP n p) {i : Nat} (hi : i < n) : p.idxOf (ga p i) = i := hp.inj (idx_lt hp (hp.lt hi)) hi (ga_idx hp (hp.lt hi))
theorem inv_len (hp : IsP n p) : (invL p).length = n := by unfold invL; simp [hp.len]
theorem ga_inv (hp : IsP n p) {t : Nat} (ht : t < n) : ga (invL p) t = p.idxOf t := by
  have := hp.len
  unfold invL
  rw [ga_map (by simp; omega), ga_range (by omega)]
theorem IsP.inv (hp : IsP n p) : IsP n (invL p) := by
  refine isP_of ?_ (inv_len hp) fun i hi => ?_
  · rw [List.nodup_iff_pairwise_ne, List.pairwise_iff_getElem]
    intro i j hi hj hij e
    have hl := inv_len hp
    rw [← ga_eq hi, ← ga_eq hj, ga_inv hp (by omega), ga_inv hp (by omega)] at e
    have := congrArg (ga p) e
    rw [ga_idx hp (by omega), ga_idx hp (by omega)] at this
    omega
  · unfold invL at hi
    obtain ⟨t, ht, rfl⟩ := List.mem_map.mp hi
    have := hp.len
    exact idx_lt hp (by have := List.mem_range.mp ht; omega)
theorem cmp_inv (hp : IsP n p) : cmpL p (invL p) = List.range n := by
  have hl := hp.len
  refine ga_ext (n := n) (by unfold cmpL; simp [hl]) (by simp) fun i hi => ?_
  rw [ga_cmp hp hi, ga_inv hp (hp.lt hi), idx_ga hp hi, ga_range hi]
theorem inv_cmp (hp : IsP n p) (hq : IsP n q) : invL (cmpL p q) = cmpL (invL q) (invL p) := by
  have hc := hp.cmp hq
  refine ga_ext (n := n) (inv_len hc) ((hq.inv.cmp hp.inv).len) fun t ht => ?_
  rw [ga_inv hc ht, ga_cmp hq.inv ht, ga_inv hq ht, ga_inv hp (idx_lt hq ht)]
  refine hc.inj (idx_lt hc ht) (idx_lt hp (idx_lt hq ht)) ?_
  rw [ga_idx hc ht, ga_cmp hp (idx_lt hp (idx_lt hq ht)), ga_idx hp (idx_lt hq ht), ga_idx hq ht]
theorem cmp_assoc (hp : IsP n p) (hq : IsP n q) (hr : IsP n r) : cmpL (cmpL p q) r = cmpL p (cmpL q r) := by
  refine ga_ext (n := n) ((hp.cmp hq).cmp hr).len (hp.cmp (hq.cmp hr)).len fun i hi => ?_
  rw [ga_cmp (hp.cmp hq) hi, ga_cmp hp hi, ga_cmp hp hi, ga_cmp hq (hp.lt hi)]
theorem cmp_id (hp : IsP n p) : cmpL p (List.range n) = p := by
  refine ga_ext (n := n) (hp.cmp isP_id).len hp.len fun i hi => ?_
  rw [ga_cmp hp hi, ga_range (hp.lt hi)]
theorem id_cmp (hp : IsP n p) : cmpL (List.range n) p = p := by
  refine ga_ext (n := n) (isP_id.cmp hp).len hp.len fun i hi => ?_
  rw [ga_cmp isP_id hi, ga_range hi]
theorem inv_id : invL (List.range n) = List.range n := by
  refine ga_ext (n := n) (inv_len isP_id) (by simp) fun i hi => ?_
  rw [ga_inv isP_id hi, ga_range hi]
  have := idx_ga (isP_id (n := n)) hi
  rwa [ga_range hi] at this
end
/-- p applied t times -/
def powL (p : List Nat) : Nat → List Nat
  | 0 => List.range p.length
  | t + 1 => cmpL (powL p t) p
theorem IsP.pow {n : Nat} {p : List Nat} (h : IsP n p) : ∀ t, IsP n (powL p t)
  | 0 => by unfold powL; rw [h.len]; exact isP_id
  | t + 1 => (h.pow t).cmp h
/-! ### every permutation of a few -/
def insA (x : Nat) : List Nat → List (List Nat)
  | [] => [[x]]
  | y :: ys => (x :: y :: ys) :: (insA x ys).map (y :: ·)
theorem mem_insA (x : Nat) (b : List Nat) : ∀ a : List Nat, a ++ x :: b ∈ insA x (a ++ b)
  | [] => by cases b <;> simp [insA]
  | y :: a => by
    simp only [List.cons_append, insA, List.mem_cons, List.mem_map]
    exact .inr ⟨_, mem_insA x b a, rfl⟩
def permsL : List Nat → List (List Nat)
  | [] => [[]]
  | x :: xs => (permsL xs).flatMap (insA x)
theorem mem_permsL : ∀ {l p : List Nat}, p.Perm l → p ∈ permsL l
  | [], p, h => by rw [List.Perm.eq_nil h]; simp [permsL]
  | x :: xs, p, h => by
    have hx : x ∈ p := h.mem_iff.mpr (List.mem_cons_self ..)
    obtain ⟨a, b, rfl⟩ := List.append_of_mem hx
    have h2 : (a ++ b).Perm xs := (List.perm_cons x).mp (List.perm_middle.symm.trans h)
    simp only [permsL, List.mem_flatMap]
    exact ⟨a ++ b, mem_permsL h2, mem_insA x b a⟩
def ordAux (p : List Nat) : Nat → Nat → List Nat → Nat
  | 0, t, _ => t
  | f + 1, t, q => if q = List.range p.length then t else ordAux p f (t + 1) (cmpL q p)
def ordOk (n : Nat) : Bool := (permsL (List.range n)).all fun p => (List.range 12).any fun t => decide (powL p (t + 1) = List.range n)
theorem ord_all : ((List.range 7).all ordOk) = true := by decide +kernel
theorem ord_ex {n : Nat} {p : List Nat} (hn : n ≤ 6) (h : IsP n p) : ∃ t, t < 12 ∧ powL p (t + 1) = List.range n := by
  have h1 := List.all_eq_true.mp ord_all n (List.mem_range.mpr (by omega))
  have h2 := List.all_eq_true.mp h1 p (mem_permsL h)
  obtain ⟨t, ht, e⟩ := List.any_eq_true.mp h2
  exact ⟨t, List.mem_range.mp ht, of_decide_eq_true e⟩
/-! ### rules that name the slots after the move -/
theorem slOf_f {d : PyData} : slOf (d, false) = .val d := rfl
theorem slOf_t {d : PyData} : slOf (d, true) = .own d := rfl
section
variable {C : VCfg} {F : Nat} {env env2 : VEn} {ρ : Rn} {T : VFl → VEn → Rn → Prop}
theorem vs_nxE {r : Ss} (he : env = env2) (h : VOkS (veSs C F r env2 ρ) T) : VSeq C F r T .nx env ρ := by subst he; exact vs_nx h
theorem vs_ifE {c : E} {a b : Ss} (hf : frz env (mvE c) = env2) (h : VOk (veE C c env2 ρ) fun v ρ' => ∃ k, v.1 = .bool k ∧ (k = true → VOkS (veSs C F a env2 ρ') T) ∧ (k = false → VOkS (veSs C F b env2 ρ') T)) : VOkS (veS C F (.ifs c a b) env ρ) T := by
  refine vs_ifF ?_; rw [hf]; exact h
theorem vs_setE {i : Nat} {e : E} (hf : frz env (mvE e) = env2) (h : VOk (veE C e env2 ρ) fun v ρ' => T .nx (env2.set i (slOf v)) ρ') : VOkS (veS C F (.set i e) env ρ) T := by
  refine vs_setF ?_; rw [hf]; exact h
theorem vs_parE {is : List Nat} {es : Es} (hf : frz env (mvEs es) = env2) (h : VOk (vePar C es env2 ρ) fun vs ρ' => vs.length = is.length ∧ T .nx (vparSet env2 is vs) ρ') : VOkS (veS C F (.par is es) env ρ) T := by
  refine vs_parF ?_; rw [hf]; exact h
end
end VE
set_option Elab.async false
set_option linter.all false
set_option maxRecDepth 100000
set_option maxHeartbeats 1000000
namespace VE
open MP (Val E Es Oe It Rg S Ss Tg Op Cmp Ty Bi Mt Fn)
open PySem (Str PyData sizeLine)
open Z (eqv_int eqv_boolD isNone boolsP_map atV_in rgP_one exT exF exT' exF' exTd exFd exTd' exFd' notOwn frz_id NotQ exN exB exB' len_and exI exPn exPi ex_append)
local macro_rules
  | `(tactic| walk_at "v") => `(tactic| repeat (first
    | with_reducible refine vs_cons ?_
    | with_reducible refine vs_nil ?_
    | with_reducible refine vs_nx ?_
    | with_reducible refine vs_rt ?_
    | ((with_reducible show VOkS (veS _ _ (S.set _ _) _ _) _); refine vs_set (by first | exact frz_id (by rfl) | with_unfolding_all rfl) ?_)
    | ((with_reducible show VOkS (veS _ _ (S.ret (E.var _)) _ _) _); first | refine vs_retV (by rfl) (by first | exact frz_id (by rfl) | with_unfolding_all rfl) ?_ | refine vs_retO (by rfl) ?_)
    | ((with_reducible show VOkS (veS _ _ (S.ret _) _ _) _); refine vs_ret (by rfl) (by first | exact frz_id (by rfl) | with_unfolding_all rfl) ?_)
    | with_reducible refine vs_pass ?_
    | ((with_reducible show VOkS (veS _ _ (S.unp _ _) _ _) _); refine vs_unp (by first | exact frz_id (by rfl) | with_unfolding_all rfl) ?_)
    | ((with_reducible show VOkS (veS _ _ (S.par _ _) _ _) _); refine vs_par (by first | exact frz_id (by rfl) | with_unfolding_all rfl) ?_)
    | ((with_reducible show VOkS (veS _ _ (S.ifs _ _ _) _ _) _); refine vs_if (by first | exact frz_id (by rfl) | with_unfolding_all rfl) ?_)
    | with_reducible refine vp_nil ?_
    | with_reducible refine vp_cons ?_
    | with_reducible refine ve_int ?_
    | with_reducible refine ve_bool ?_
    | with_reducible refine ve_none ?_
    | with_reducible refine ve_str ?_
    | ((with_reducible show VOk (veE _ (E.var _) _ _) _); refine ve_var (by rfl) ?_)
    | ((with_reducible show VOk (rdV _ (E.var _) _ _) _); first | refine rd_val (by rfl) ?_ | refine rd_own (by rfl) ?_)
    | ((with_reducible show VOk (rdV _ _ _ _) _); refine rd_e (by rfl) ?_)
    | with_reducible refine ve_bin ?_
    | with_reducible refine ve_cmp ?_
    | with_reducible refine ve_chain ?_
    | with_reducible refine ve_ix ?_
    | with_reducible refine ve_sl ?_
    | with_reducible refine ve_rev ?_
    | with_reducible refine vo_none ?_
    | with_reducible refine vo_some ?_
    | with_reducible refine ve_callN ?_
    | with_reducible refine ve_callkN ?_
    | with_reducible refine ve_bi ?_
    | with_reducible refine ve_mt ?_
    | with_reducible refine ve_isi ?_
    | with_reducible refine ve_lst ?_
    | with_reducible refine ve_tup ?_
    | with_reducible refine ve_dic0 ?_
    | with_reducible refine ve_and ?_
    | with_reducible refine ve_or ?_
    | with_reducible refine ve_notQ ?_
    | with_reducible refine ve_ite ?_
    | with_reducible refine ve_lrng ?_
    | with_reducible refine ve_trng ?_
    | with_reducible refine ve_neg ?_
    | with_reducible refine va_nil ?_
    | ((with_reducible show VOk (veAs _ (Es.cons (E.var _) _) _ _) _); first | refine va_var (by rfl) ?_ | refine va_rng (by rfl) ?_)
    | ((with_reducible show VOk (veAs _ (Es.cons _ _) _ _) _); refine va_e (by rfl) ?_)
    | with_reducible refine vr_nil ?_
    | with_reducible refine vr_cons ?_
    | with_reducible refine vl_nil ?_
    | with_reducible refine vl_cons ?_
    | with_reducible refine vb_add ?_
    | with_reducible refine vb_sub ?_
    | with_reducible refine vb_addB ?_
    | with_reducible refine vb_subB ?_
    | with_reducible refine v_strB ?_
    | with_reducible refine vsl_t ?_
    | with_reducible refine vsl_l ?_
    | with_reducible refine vrev_l ?_
    | with_reducible refine vb_mod (by first | assumption | omega) ?_
    | with_reducible refine vc_lt ?_
    | with_reducible refine vc_le ?_
    | with_reducible refine vc_gt ?_
    | with_reducible refine vc_ge ?_
    | with_reducible refine vc_eqI ?_
    | with_reducible refine vc_neI ?_
    | with_reducible refine vc_eqB ?_
    | with_reducible refine vc_neB ?_
    | ((with_reducible show VOk (vcmp Cmp.eq _ _ _) _); refine vc_eq (by rfl) (by rfl) ?_)
    | ((with_reducible show VOk (vcmp Cmp.ne _ _ _) _); refine vc_ne (by rfl) (by rfl) ?_)
    | with_reducible refine vc_is ?_
    | with_reducible refine vc_isnot ?_
    | with_reducible refine vn_t ?_
    | with_reducible refine vn_l ?_
    | with_reducible refine vn_d ?_
    | with_reducible refine vt_t ?_
    | with_reducible refine vt_l ?_
    | with_reducible refine vl_t ?_
    | with_reducible refine vl_l ?_
    | with_reducible refine va_all ?_
    | with_reducible refine va_any ?_
    | with_reducible refine vsrc_t ?_
    | with_reducible refine vsrc_l ?_
    | ((with_reducible refine exT ?_ ?_); focus rfl)
    | ((with_reducible refine exF ?_ ?_); focus rfl)
    | ((with_reducible refine exT' ?_ ?_); focus rfl)
    | ((with_reducible refine exF' ?_ ?_); focus rfl)
    | ((with_reducible refine exTd ?_ ?_); focus (first | rfl | assumption | omega))
    | ((with_reducible refine exFd ?_ ?_); focus (first | rfl | assumption | omega))
    | ((with_reducible refine exTd' ?_ ?_); focus (first | rfl | assumption | omega))
    | ((with_reducible refine exFd' ?_ ?_); focus (first | rfl | assumption | omega))
    | with_reducible refine exN ?_
    | with_reducible refine exI ?_
    | with_reducible refine exPn ?_
    | with_reducible refine exPi ?_
    | ((with_reducible refine len_and ?_ ?_); focus exact Nat.le_of_ble_eq_true rfl)))
/-! ### the functions of permutations -/
/-- a tuple or a list -/
def sq (b : Bool) (xs : List PyData) : PyData := if b = true then .tuple xs else .list xs
section
variable {C : VCfg} {F : Nat} {env : VEn} {ρ : Rn} {Q : VV → Rn → Prop} {b : Bool} {xs : List PyData}
theorem vi_sq {q : Bool} {i : Nat} {Q : List VItm → Rn → Prop} (h : env[i]? = some (.val (sq b xs))) (w : Q (xs.map .one) ρ) : VOk (veIt C q (.val (.var i)) env ρ) Q := by
  cases b
  · exact vi_l h w
  · exact vi_t h w
theorem vi_enumS {q : Bool} {i : Nat} {Q : List VItm → Rn → Prop} (h : env[i]? = some (.val (sq b xs))) (w : Q (venumV 0 xs) ρ) : VOk (veIt C q (.enum (.var i)) env ρ) Q := by
  refine vi_enum ?_
  cases q
  · exact ve_var (C := C) h ⟨xs, by cases b <;> simp [sq], w⟩
  · exact rd_val (C := C) h ⟨xs, by cases b <;> simp [sq], w⟩
theorem vx_sq {i : Int} {d : PyData} (h : MP.atV xs i = some d) (q : Q (d, false) ρ) : VOk (vix (sq b xs) (.int i) ρ) Q := by
  cases b
  · exact vx_l h q
  · exact vx_t h q
theorem vn_sq (q : Q (.int xs.length, false) ρ) : VOk (vbi .len [sq b xs] ρ) Q := by
  cases b
  · exact vn_l q
  · exact vn_t q
theorem vt_sq (q : Q (.tuple xs, false) ρ) : VOk (vbi .tuple [sq b xs] ρ) Q := by
  cases b
  · exact vt_l q
  · exact vt_t q
theorem vl_sq (q : Q (.list xs, true) ρ) : VOk (vbi .list [sq b xs] ρ) Q := by
  cases b
  · exact vl_l q
  · exact vl_t q
end
theorem atV_nat {xs : List PyData} {i : Nat} {d : PyData} (h : xs[i]? = some d) : MP.atV xs (i : Int) = some d := by
  unfold MP.atV MP.ixN
  obtain ⟨hl, -⟩ := List.getElem?_eq_some_iff.mp h
  rw [if_pos (by omega : (0 : Int) ≤ (i : Int)), if_pos (by omega)]
  exact h
theorem natsP_get {p : List Nat} {i : Nat} (h : i < p.length) : (natsP p)[i]? = some (.int (ga p i : Nat)) := by
  unfold natsP
  rw [List.getElem?_map, List.getElem?_eq_getElem h, ga_eq h]; rfl
theorem natsP_len (p : List Nat) : (natsP p).length = p.length := by unfold natsP; simp
theorem encL_eq (p : List Nat) : encL p = .tuple (natsP p) := rfl
theorem eqv_nats (p q : List Nat) : PyData.eqv (encL p) (encL q) = decide (p = q) := by
  have h1 : encL p = .tuple ((p.map fun (i : Nat) => (i : Int)).map .int) := by unfold encL; rw [List.map_map]; rfl
  have h2 : encL q = .tuple ((q.map fun (i : Nat) => (i : Int)).map .int) := by unfold encL; rw [List.map_map]; rfl
  rw [h1, h2, eqv_intsT]
  by_cases e : p = q
  · subst e; rw [decide_eq_true rfl, decide_eq_true rfl]
  · rw [decide_eq_false e, decide_eq_false]
    intro z
    exact e ((List.map_inj_right (fun a b h => by have h : (a : Int) = b := h; omega)).mp z)
theorem shp_encL (p : List Nat) : shp (encL p) = true := by
  have h1 : encL p = .tuple ((p.map fun (i : Nat) => (i : Int)).map .int) := by unfold encL; rw [List.map_map]; rfl
  rw [h1]; exact shp_intsT _
theorem venum_nil (i : Nat) : venumV i [] = [] := rfl
namespace H
def identity : Fn := ⟨1, 1, .cons (.ret (.trng (.one (.var 0)))) (.nil)⟩
def compose : Fn := ⟨2, 3, .cons (.ret (.bi .tuple (.cons (.lc (.nm 2) (.val (.var 0)) (.none) (.ix (.var 1) (.var 2)) [2]) (.nil)))) (.nil)⟩
def inverse : Fn := ⟨1, 4, .cons (.set 1 (.dc (.tp [.nm 2, .nm 3]) (.enum (.var 0)) (.var 3) (.var 2) [2, 3])) (.cons (.ret (.bi .tuple (.cons (.lc (.nm 3) (.rng (.one (.bi .len (.cons (.var 0) (.nil))))) (.none) (.ix (.var 1) (.var 3)) [3]) (.nil)))) (.nil))⟩
def order : Fn := ⟨1, 3, .cons (.par [1, 2] (.cons (.bi .tuple (.cons (.var 0) (.nil))) (.cons (.int 1) (.nil)))) (.cons (.whl (.cmp .ne (.var 1) (.call "identity" (.cons (.bi .len (.cons (.var 0) (.nil))) (.nil)))) (.cons (.par [1, 2] (.cons (.call "compose" (.cons (.var 1) (.cons (.var 0) (.nil)))) (.cons (.bin .add (.var 2) (.int 1)) (.nil)))) (.nil))) (.cons (.ret (.var 2)) (.nil)))⟩
def power : Fn := ⟨2, 4, .cons (.set 2 (.call "identity" (.cons (.bi .len (.cons (.var 0) (.nil))) (.nil)))) (.cons (.loop (.nm 3) (.rng (.one (.bin .mod (.var 1) (.call "order" (.cons (.var 0) (.nil)))))) (.cons (.set 2 (.call "compose" (.cons (.var 2) (.cons (.var 0) (.nil))))) (.nil))) (.cons (.ret (.var 2)) (.nil)))⟩
def moved : Fn := ⟨2, 5, .cons (.set 2 (.bi .list (.cons (.var 0) (.nil)))) (.cons (.loop (.tp [.nm 3, .nm 4]) (.enum (.var 1)) (.cons (.setix (.var 2) (.var 4) (.ix (.var 0) (.var 3))) (.nil))) (.cons (.ret (.var 2)) (.nil)))⟩
def repeated : Fn := ⟨3, 4, .cons (.loop (.nm 3) (.rng (.one (.var 2))) (.cons (.set 0 (.call "_law_moved" (.cons (.var 0) (.cons (.var 1) (.nil))))) (.nil))) (.cons (.ret (.var 0)) (.nil))⟩
end H
section
variable {P : VProg} {F n k : Nat} {ρ : Rn} {Q : VV → Rn → Prop} {b b2 : Bool} {p p2 : List Nat}
theorem identity_call (hP : P.fns.lookup ("identity" : Str) = some H.identity) (hn : 1 ≤ n) (hk : k ≤ 1000000) (q : Q (encL (List.range k), false) ρ) : VOk (vcallN P F n "identity" [.d (.int (k : Int))] ρ) Q := by
  obtain ⟨n, rfl⟩ : ∃ k, n = k + 1 := ⟨n - 1, by omega⟩
  refine v_call hP (by decide) rfl ?_
  show VOkS (veSs _ _ H.identity.body [.val (.int (k : Int))] ρ) _
  unfold H.identity
  walk_at "v"
  exact ⟨k, rfl, hk, vs_rt q⟩
theorem compose_call (hP : P.fns.lookup ("compose" : Str) = some H.compose) (hn : 1 ≤ n) (hk : k ≤ 100000) (h1 : IsP k p) (h2 : IsP k p2) (q : Q (encL (cmpL p p2), false) ρ) : VOk (vcallN P F n "compose" [.d (sq b (natsP p)), .d (sq b2 (natsP p2))] ρ) Q := by
  obtain ⟨n, rfl⟩ : ∃ k, n = k + 1 := ⟨n - 1, by omega⟩
  refine v_call hP (by decide) rfl ?_
  show VOkS (veSs _ _ H.compose.body [.val (sq b (natsP p)), .val (sq b2 (natsP p2)), .none] ρ) _
  unfold H.compose
  walk_at "v"
  have l1 := h1.len
  have l2 := h2.len
  refine ve_lcM (fun d => match d with | .int i => .int (ga p2 i.toNat : Nat) | _ => .none) (vi_sq rfl ⟨natsP p, rfl, by rw [natsP_len]; omega, fun x hx => ?_, ?_⟩)
  · obtain ⟨i, hi, rfl⟩ := List.mem_map.mp hx
    have hi : i < k := h1.mem.mp hi
    show VOk (veE _ _ [.val (sq b (natsP p)), .val (sq b2 (natsP p2)), .val (.int (i : Int))] ρ) _
    walk_at "v"
    refine vx_sq (atV_nat (natsP_get (by omega))) ⟨rfl, rfl⟩
  · have e : (natsP p).map (fun d => match d with | .int i => .int (ga p2 i.toNat : Nat) | _ => .none) = natsP (cmpL p p2) := by
      unfold natsP cmpL; rw [List.map_map, List.map_map]; rfl
    rw [e]
    walk_at "v"
    exact q
theorem inverse_call (hP : P.fns.lookup ("inverse" : Str) = some H.inverse) (hn : 1 ≤ n) (hk : k ≤ 100000) (h1 : IsP k p) (q : Q (encL (invL p), false) ρ) : VOk (vcallN P F n "inverse" [.d (sq b (natsP p))] ρ) Q := by
  obtain ⟨n, rfl⟩ : ∃ k, n = k + 1 := ⟨n - 1, by omega⟩
  refine v_call hP (by decide) rfl ?_
  show VOkS (veSs _ _ H.inverse.body [.val (sq b (natsP p)), .none, .none, .none] ρ) _
  unfold H.inverse
  have l1 := h1.len
  walk_at "v"
  have elen : ∀ (xs : List PyData) (i : Nat), (venumV i xs).length = xs.length := by
    intro xs
    induction xs with
    | nil => intro i; rfl
    | cons x xs ih => intro i; simp only [venumV, List.length_cons, ih]
  refine ve_dc (vi_enumS rfl ⟨le_mill (by rw [elen, natsP_len]; omega), fun rest kvs ρ' => ρ' = ρ ∧ ∃ j, j ≤ k ∧ rest = venumV j (natsP (p.drop j)) ∧ ∀ i < j, pget kvs (.int (ga p i : Nat)) = some (.int (i : Nat)), ⟨rfl, 0, Nat.zero_le _, rfl, fun i hi => by omega⟩, ?_, ?_⟩)
  · rintro x rest kvs ρ' ⟨rfl, j, hj, e1, e2⟩
    by_cases hjk : j < k
    · rw [List.drop_eq_getElem_cons (by omega)] at e1
      injection e1 with ha hb
      subst ha
      refine ⟨[.val (sq b (natsP p)), .none, .val (.int (j : Int)), .val (.int (p[j]'(by omega) : Nat))], rfl, ?_⟩
      walk_at "v"
      refine ⟨rfl, rfl, j + 1, hjk, hb, fun i hi => ?_⟩
      rw [← ga_eq (by omega)]
      by_cases hij : i = j
      · subst hij; exact pget_same
      · have hne : kEq (.int (ga p j : Nat)) (.int (ga p i : Nat)) = false := by
          rw [kEq_int, decide_eq_false]
          intro e
          exact hij (h1.inj (by omega) hjk (by omega))
        rw [pget_ne hne]
        exact e2 i (by omega)
    · rw [List.drop_of_length_le (by omega)] at e1
      cases e1
  · rintro kvs ρ' ⟨rfl, j, hj, e1, e2⟩
    have hjk : j = k := by
      by_cases hjk : j < k
      · rw [List.drop_eq_getElem_cons (by omega)] at e1; cases e1
      · omega
    subst hjk
    refine vs_nx (vs_cons ?_)
    show VOkS (veS _ _ _ [.val (sq b (natsP p)), .own (.dict kvs), .none, .none] _) _
    walk_at "v"
    refine ve_lcM (fun d => match d with | .int i => .int (p.idxOf i.toNat : Nat) | _ => .none) (vi_rng ?_)
    walk_at "v"
    refine vn_sq ⟨j, by rw [natsP_len, l1], by omega, (List.range j).map fun (i : Nat) => .int (i : Int), rfl, by simp; omega, fun x hx => ?_, ?_⟩
    · obtain ⟨i, hi, rfl⟩ := List.mem_map.mp hx
      have hi : i < j := List.mem_range.mp hi
      show VOk (veE _ _ [.val (sq b (natsP p)), .own (.dict kvs), .none, .val (.int (i : Int))] _) _
      walk_at "v"
      have e := e2 _ (idx_lt h1 hi)
      rw [ga_idx h1 hi] at e
      refine vx_d rfl e ⟨rfl, rfl⟩
    · have e : ((List.range j).map fun (i : Nat) => PyData.int (i : Int)).map (fun d => match d with | .int i => .int (p.idxOf i.toNat : Nat) | _ => .none) = natsP (invL p) := by
        unfold natsP invL; rw [List.map_map, List.map_map, l1]; rfl
      rw [e]
      walk_at "v"
      exact q
/-- how often p is to be applied until nothing has moved -/
structure OrdL (p : List Nat) (o : Nat) : Prop where
  pos : 1 ≤ o
  le : o ≤ 12
  id : powL p o = List.range p.length
  min : ∀ t, 1 ≤ t → t < o → powL p t ≠ List.range p.length
theorem ord_has (hk : k ≤ 6) (h : IsP k p) : ∃ o, OrdL p o := by
  obtain ⟨t, ht, e⟩ := ord_ex hk h
  have hl := h.len
  have : ∃ o, 1 ≤ o ∧ o ≤ 12 ∧ powL p o = List.range p.length ∧ ∀ t, 1 ≤ t → t < o → powL p t ≠ List.range p.length := by
    have key : ∀ m : Nat, (∃ t, 1 ≤ t ∧ t ≤ m ∧ powL p t = List.range p.length) → ∃ o, 1 ≤ o ∧ o ≤ m ∧ powL p o = List.range p.length ∧ ∀ t, 1 ≤ t → t < o → powL p t ≠ List.range p.length := by
      intro m
      induction m with
      | zero => rintro ⟨t, h1, h2, _⟩; omega
      | succ m ih =>
        rintro ⟨t, h1, h2, h3⟩
        by_cases hx : ∃ t, 1 ≤ t ∧ t ≤ m ∧ powL p t = List.range p.length
        · obtain ⟨o, a1, a2, a3, a4⟩ := ih hx
          exact ⟨o, a1, by omega, a3, a4⟩
        · exact ⟨t, h1, h2, h3, fun u u1 u2 e => hx ⟨u, u1, by omega, e⟩⟩
    exact key 12 ⟨t + 1, by omega, by omega, by rw [e, hl]⟩
  obtain ⟨o, a1, a2, a3, a4⟩ := this
  exact ⟨o, a1, a2, a3, a4⟩
theorem pow_one (h : IsP k p) : powL p 1 = p := by
  show cmpL (List.range p.length) p = p
  rw [h.len, id_cmp h]
theorem order_call (hP : P.fns.lookup ("order" : Str) = some H.order) (hI : P.fns.lookup ("identity" : Str) = some H.identity) (hC : P.fns.lookup ("compose" : Str) = some H.compose) (hF : 100 < F) (hn : 2 ≤ n) (hk : k ≤ 100000) (h1 : IsP k p) {o : Nat} (ho : OrdL p o) (q : Q (.int (o : Int), false) ρ) : VOk (vcallN P F n "order" [.d (sq b (natsP p))] ρ) Q := by
  obtain ⟨n, rfl⟩ : ∃ k, n = k + 2 := ⟨n - 2, by omega⟩
  refine v_call hP (by decide) rfl ?_
  show VOkS (veSs _ _ H.order.body [.val (sq b (natsP p)), .none, .none] ρ) _
  unfold H.order
  have l1 := h1.len
  have := ho.le
  have := ho.pos
  walk_at "v"
  refine vt_sq ?_
  walk_at "v"
  refine ⟨rfl, vs_nx (vs_cons (vs_whl (I := fun m e ρ' => ρ' = ρ ∧ ∃ t : Nat, m + t = o ∧ 1 ≤ t ∧ e = [.val (sq b (natsP p)), .val (encL (powL p t)), .val (.int (t : Int))]) (o - 1) (by omega) ⟨rfl, 1, by omega, by omega, by rw [pow_one h1]; rfl⟩ ?_))⟩
  rintro m e ρ' ⟨rfl, t, h2, h3, rfl⟩
  walk_at "v"
  refine vn_sq ?_
  walk_at "v"
  rw [natsP_len]
  refine identity_call hI (by omega) (by omega) ?_
  refine vc_ne (shp_encL _) (shp_encL _) ?_
  rw [eqv_nats]
  by_cases ht : t = o
  · subst ht
    refine exF (by rw [ho.id, decide_eq_true rfl]; rfl) ?_
    walk_at "v"
    exact q
  · refine exT (by rw [decide_eq_false (ho.min t h3 (by omega))]; rfl) ?_
    walk_at "v"
    rw [encL_eq]
    refine compose_call (b := true) hC (by omega) hk (h1.pow t) h1 ?_
    walk_at "v"
    exact ⟨rfl, vs_nx (vs_nil ⟨m - 1, by omega, rfl, t + 1, by omega, by omega, rfl⟩)⟩
theorem power_call (hP : P.fns.lookup ("power" : Str) = some H.power) (hO : P.fns.lookup ("order" : Str) = some H.order) (hI : P.fns.lookup ("identity" : Str) = some H.identity) (hC : P.fns.lookup ("compose" : Str) = some H.compose) (hF : 100 < F) (hn : 3 ≤ n) (hk : k ≤ 100000) (h1 : IsP k p) {o : Nat} (ho : OrdL p o) {e : Int} (q : Q (encL (powL p (e % (o : Int)).toNat), false) ρ) : VOk (vcallN P F n "power" [.d (sq b (natsP p)), .d (.int e)] ρ) Q := by
  obtain ⟨n, rfl⟩ : ∃ k, n = k + 3 := ⟨n - 3, by omega⟩
  refine v_call hP (by decide) rfl ?_
  show VOkS (veSs _ _ H.power.body [.val (sq b (natsP p)), .val (.int e), .none, .none] ρ) _
  unfold H.power
  have l1 := h1.len
  have o1 := ho.le
  have o2 := ho.pos
  walk_at "v"
  refine vn_sq ?_
  walk_at "v"
  rw [natsP_len]
  refine identity_call hI (by omega) (by omega) ?_
  refine vs_nx (vs_cons ?_)
  show VOkS (veS _ _ _ [.val (sq b (natsP p)), .val (.int e), .val (encL (powL p 0)), .none] ρ) _
  generalize hz : (e % (o : Int)).toNat = z at q
  have hz2 : e % (o : Int) = (z : Int) := by
    have := Int.emod_nonneg e (show (o : Int) ≠ 0 by omega); omega
  have hz3 : z < o := by
    have := Int.emod_lt_of_pos e (show (0 : Int) < o by omega); omega
  refine vs_loop (by with_unfolding_all rfl) (vi_rng ?_)
  walk_at "v"
  refine order_call hO hI hC hF (by omega) hk h1 ho ?_
  walk_at "v"
  refine ⟨z, congrArg PyData.int hz2, by omega, fun rest en ρ' => ρ' = ρ ∧ ∃ (j : Nat) (vs : List PyData) (x3 : Sl), rest = vs.map .one ∧ vs.length + j = z ∧ notOwn x3 = true ∧ en = [.val (sq b (natsP p)), .val (.int e), .val (encL (powL p j)), x3], ⟨rfl, 0, _, .none, rfl, by simp, rfl, rfl⟩, ?_, ?_⟩
  · rintro x rest en ρ' ⟨rfl, j, vs, x3, e1, e2, e3, rfl⟩
    cases vs with
    | nil => cases e1
    | cons v vs =>
      injection e1 with ha hb
      subst ha
      simp only [List.length_cons] at e2
      refine ⟨[.val (sq b (natsP p)), .val (.int e), .val (encL (powL p j)), .val v], rfl, ?_⟩
      walk_at "v"
      rw [encL_eq]
      refine compose_call (b := true) hC (by omega) hk (h1.pow j) h1 ?_
      refine vs_nx (vs_nil ⟨rfl, j + 1, vs, .val v, hb, by omega, rfl, rfl⟩)
  · rintro en ρ' ⟨rfl, j, vs, x3, e1, e2, e3, rfl⟩
    have hvs : vs = [] := by cases vs with
      | nil => rfl
      | cons v vs => cases e1
    subst hvs
    simp only [List.length_nil, Nat.zero_add] at e2
    subst e2
    refine vs_nx (vs_cons (vs_retV (by rfl) (frz_id (by simp only [List.all_cons, List.all_nil, e3]; rfl)) (vs_rt ?_)))
    exact q
/-- the items, each where p sends it -/
def mvL (xs : List PyData) (p : List Nat) : List PyData := (invL p).map fun i => xs.getD i .none
theorem mvL_len {xs : List PyData} (h : IsP k p) : (mvL xs p).length = k := by unfold mvL; simp [inv_len h]
theorem mvL_get {xs : List PyData} (h : IsP k p) {i : Nat} (hi : i < k) : (mvL xs p).getD i .none = xs.getD (ga (invL p) i) .none := by
  have hl := inv_len h
  unfold mvL
  rw [List.getD_eq_getElem?_getD, List.getElem?_map, List.getElem?_eq_getElem (by omega), ga_eq (by omega)]; rfl
theorem mvL_mvL {xs : List PyData} (h1 : IsP k p) (h2 : IsP k p2) : mvL (mvL xs p) p2 = mvL xs (cmpL p p2) := by
  have e : mvL xs (cmpL p p2) = (cmpL (invL p2) (invL p)).map fun i => xs.getD i .none := by unfold mvL; rw [inv_cmp h1 h2]
  rw [e]
  show (invL p2).map (fun i => (mvL xs p).getD i .none) = ((invL p2).map (ga (invL p))).map _
  rw [List.map_map]
  refine List.map_congr_left fun i hi => ?_
  exact mvL_get h1 (h2.inv.mem.mp hi)
theorem mvL_id {xs : List PyData} (h : xs.length = k) : mvL xs (List.range k) = xs := by
  unfold mvL
  rw [inv_id]
  refine List.ext_getElem (by simp [h]) fun i h1 h2 => ?_
  rw [List.getElem_map, List.getElem_range, List.getD_eq_getElem?_getD, List.getElem?_eq_getElem h2]; rfl
theorem moved_call (hP : P.fns.lookup ("_law_moved" : Str) = some H.moved) (hn : 1 ≤ n) (hk : k ≤ 100000) (h1 : IsP k p) {xs : List PyData} (hx : xs.length = k) (q : Q (.list (mvL xs p), true) ρ) : VOk (vcallN P F n "_law_moved" [.d (.list xs), .d (sq b (natsP p))] ρ) Q := by
  obtain ⟨n, rfl⟩ : ∃ k, n = k + 1 := ⟨n - 1, by omega⟩
  refine v_call hP (by decide) rfl ?_
  show VOkS (veSs _ _ H.moved.body [.val (.list xs), .val (sq b (natsP p)), .none, .none, .none] ρ) _
  unfold H.moved
  have l1 := h1.len
  walk_at "v"
  refine vs_loop (by with_unfolding_all rfl) (vi_enumS rfl ⟨fun rest en ρ' => ρ' = ρ ∧ ∃ (j : Nat) (ys : List PyData) (x3 x4 : Sl), j ≤ k ∧ rest = venumV j (natsP (p.drop j)) ∧ ys.length = k ∧ (∀ i < j, ys.getD (ga p i) .none = xs.getD i .none) ∧ notOwn x3 = true ∧ notOwn x4 = true ∧ en = [.val (.list xs), .val (sq b (natsP p)), .own (.list ys), x3, x4], ⟨rfl, 0, xs, .none, .none, Nat.zero_le _, rfl, hx, fun i hi => by omega, rfl, rfl, rfl⟩, ?_, ?_⟩)
  · rintro x rest en ρ' ⟨rfl, j, ys, x3, x4, hj, e1, hy, e2, -, -, rfl⟩
    by_cases hjk : j < k
    · rw [List.drop_eq_getElem_cons (by omega)] at e1
      injection e1 with ha hb
      subst ha
      have hg := h1.lt hjk
      refine ⟨[.val (.list xs), .val (sq b (natsP p)), .own (.list ys), .val (.int (j : Int)), .val (.int (p[j]'(by omega) : Nat))], rfl, ?_⟩
      rw [← ga_eq (by omega)]
      refine vs_cons (vs_setix (by with_unfolding_all rfl) (by rfl) ?_)
      walk_at "v"
      refine vx_l (atV_nat (List.getElem?_eq_getElem (by omega))) ?_
      walk_at "v"
      refine ⟨.list (ys.set (ga p j) (xs[j]'(by omega))), ?_, ?_⟩
      · show (MP.ixN ys.length (ga p j : Nat)).map _ = _
        unfold MP.ixN
        rw [if_pos (by omega), if_pos (by omega)]; rfl
      · refine vs_nx (vs_nil ⟨rfl, j + 1, _, _, _, hjk, hb, by simp [hy], fun i hi => ?_, ?_, ?_, rfl⟩)
        · by_cases hij : i = j
          · subst hij
            rw [List.getD_eq_getElem?_getD, List.getElem?_set_self (by omega), List.getD_eq_getElem?_getD, List.getElem?_eq_getElem (by omega)]
          · have hne : ga p j ≠ ga p i := fun e => hij (h1.inj (by omega) hjk e.symm)
            rw [List.getD_eq_getElem?_getD, List.getElem?_set_ne hne, ← List.getD_eq_getElem?_getD]
            exact e2 i (by omega)
        · rfl
        · rfl
    · rw [List.drop_of_length_le (by omega)] at e1
      cases e1
  · rintro en ρ' ⟨rfl, j, ys, x3, x4, hj, e1, hy, e2, a3, a4, rfl⟩
    have hjk : j = k := by
      by_cases hjk : j < k
      · rw [List.drop_eq_getElem_cons (by omega)] at e1; cases e1
      · omega
    subst hjk
    have e : ys = mvL xs p := by
      refine List.ext_getElem (by rw [mvL_len h1, hy]) fun i i1 i2 => ?_
      have hi : i < j := by omega
      have z := e2 _ (idx_lt h1 hi)
      rw [ga_idx h1 hi] at z
      have z2 := mvL_get (xs := xs) h1 hi
      rw [ga_inv h1 hi, ← z] at z2
      rw [List.getD_eq_getElem?_getD, List.getD_eq_getElem?_getD, List.getElem?_eq_getElem i1, List.getElem?_eq_getElem i2] at z2
      exact z2.symm
    rw [e]
    refine vs_nx (vs_cons (vs_retO (by rfl) (vs_rt q)))
theorem repeat_call (hP : P.fns.lookup ("_law_repeat" : Str) = some H.repeated) (hM : P.fns.lookup ("_law_moved" : Str) = some H.moved) (hn : 2 ≤ n) (hk : k ≤ 100000) (h1 : IsP k p) {xs : List PyData} (hx : xs.length = k) {z : Nat} (hz : z ≤ 100000) (q : ∀ f, Q (.list (mvL xs (powL p z)), f) ρ) : VOk (vcallN P F n "_law_repeat" [.d (.list xs), .d (sq b (natsP p)), .d (.int (z : Int))] ρ) Q := by
  obtain ⟨n, rfl⟩ : ∃ k, n = k + 2 := ⟨n - 2, by omega⟩
  refine v_call hP (by decide) rfl ?_
  show VOkS (veSs _ _ H.repeated.body [.val (.list xs), .val (sq b (natsP p)), .val (.int (z : Int)), .none] ρ) _
  unfold H.repeated
  have l1 := h1.len
  refine vs_cons (vs_loop (by with_unfolding_all rfl) (vi_rng ?_))
  walk_at "v"
  refine ⟨z, rfl, by omega, fun rest en ρ' => ρ' = ρ ∧ ∃ (j : Nat) (vs : List PyData) (x0 x3 : Sl), rest = vs.map .one ∧ vs.length + j = z ∧ notOwn x3 = true ∧ (x0 = .val (.list (mvL xs (powL p j))) ∨ x0 = .own (.list (mvL xs (powL p j)))) ∧ en = [x0, .val (sq b (natsP p)), .val (.int (z : Int)), x3], ⟨rfl, 0, _, _, .none, rfl, by simp, rfl, .inl rfl, by unfold powL; rw [l1, mvL_id hx]⟩, ?_, ?_⟩
  · rintro x rest en ρ' ⟨rfl, j, vs, x0, x3, e1, e2, e3, e4, rfl⟩
    cases vs with
    | nil => cases e1
    | cons v vs =>
      injection e1 with ha hb
      subst ha
      simp only [List.length_cons] at e2
      refine ⟨[x0, .val (sq b (natsP p)), .val (.int (z : Int)), .val v], rfl, ?_⟩
      refine vs_cons (vs_setF ?_)
      have ef : frz [x0, .val (sq b (natsP p)), .val (.int (z : Int)), .val v] (mvE (.call "_law_moved" (.cons (.var 0) (.cons (.var 1) (.nil))))) = [.val (.list (mvL xs (powL p j))), .val (sq b (natsP p)), .val (.int (z : Int)), .val v] := by
        rcases e4 with rfl | rfl <;> with_unfolding_all rfl
      rw [ef]
      walk_at "v"
      refine moved_call hM (by omega) hk h1 (mvL_len (h1.pow j)) ?_
      rw [mvL_mvL (h1.pow j) h1]
      refine vs_nx (vs_nil ⟨rfl, j + 1, vs, _, .val v, hb, by omega, rfl, .inr rfl, rfl⟩)
  · rintro en ρ' ⟨rfl, j, vs, x0, x3, e1, e2, e3, e4, rfl⟩
    have hvs : vs = [] := by cases vs with
      | nil => rfl
      | cons v vs => cases e1
    subst hvs
    simp only [List.length_nil, Nat.zero_add] at e2
    subst e2
    rcases e4 with rfl | rfl
    · refine vs_nx (vs_cons (vs_retV (by rfl) (frz_id (by simp only [List.all_cons, List.all_nil, e3]; rfl)) (vs_rt (q _))))
    · refine vs_nx (vs_cons (vs_retO (by rfl) (vs_rt (q _))))
end
end VE
set_option Elab.async false
set_option linter.all false
set_option maxRecDepth 100000
set_option maxHeartbeats 1000000
namespace VE
open MP (Val E Es Oe It Rg S Ss Tg Op Cmp Ty Bi Mt Fn)
open PySem (Str PyData sizeLine)
open Z (eqv_int eqv_boolD isNone boolsP_map atV_in rgP_one exT exF exT' exF' exTd exFd exTd' exFd' notOwn frz_id NotQ exN exB exB' len_and exI exPn exPi ex_append)
local macro_rules
  | `(tactic| walk_at "v") => `(tactic| repeat (first
    | with_reducible refine vs_cons ?_
    | with_reducible refine vs_nil ?_
    | with_reducible refine vs_nx ?_
    | with_reducible refine vs_rt ?_
    | ((with_reducible show VOkS (veS _ _ (S.set _ _) _ _) _); refine vs_set (by first | exact frz_id (by rfl) | with_unfolding_all rfl) ?_)
    | ((with_reducible show VOkS (veS _ _ (S.ret (E.var _)) _ _) _); first | refine vs_retV (by rfl) (by first | exact frz_id (by rfl) | with_unfolding_all rfl) ?_ | refine vs_retO (by rfl) ?_)
    | ((with_reducible show VOkS (veS _ _ (S.ret _) _ _) _); refine vs_ret (by rfl) (by first | exact frz_id (by rfl) | with_unfolding_all rfl) ?_)
    | with_reducible refine vs_pass ?_
    | ((with_reducible show VOkS (veS _ _ (S.unp _ _) _ _) _); refine vs_unp (by first | exact frz_id (by rfl) | with_unfolding_all rfl) ?_)
    | ((with_reducible show VOkS (veS _ _ (S.par _ _) _ _) _); refine vs_par (by first | exact frz_id (by rfl) | with_unfolding_all rfl) ?_)
    | ((with_reducible show VOkS (veS _ _ (S.ifs _ _ _) _ _) _); refine vs_if (by first | exact frz_id (by rfl) | with_unfolding_all rfl) ?_)
    | with_reducible refine vp_nil ?_
    | with_reducible refine vp_cons ?_
    | with_reducible refine ve_int ?_
    | with_reducible refine ve_bool ?_
    | with_reducible refine ve_none ?_
    | with_reducible refine ve_str ?_
    | ((with_reducible show VOk (veE _ (E.var _) _ _) _); refine ve_var (by rfl) ?_)
    | ((with_reducible show VOk (rdV _ (E.var _) _ _) _); first | refine rd_val (by rfl) ?_ | refine rd_own (by rfl) ?_)
    | ((with_reducible show VOk (rdV _ _ _ _) _); refine rd_e (by rfl) ?_)
    | with_reducible refine ve_bin ?_
    | with_reducible refine ve_cmp ?_
    | with_reducible refine ve_chain ?_
    | with_reducible refine ve_ix ?_
    | with_reducible refine ve_sl ?_
    | with_reducible refine ve_rev ?_
    | with_reducible refine vo_none ?_
    | with_reducible refine vo_some ?_
    | with_reducible refine ve_callN ?_
    | with_reducible refine ve_callkN ?_
    | with_reducible refine ve_bi ?_
    | with_reducible refine ve_mt ?_
    | with_reducible refine ve_isi ?_
    | with_reducible refine ve_lst ?_
    | with_reducible refine ve_tup ?_
    | with_reducible refine ve_dic0 ?_
    | with_reducible refine ve_and ?_
    | with_reducible refine ve_or ?_
    | with_reducible refine ve_notQ ?_
    | with_reducible refine ve_ite ?_
    | with_reducible refine ve_lrng ?_
    | with_reducible refine ve_trng ?_
    | with_reducible refine ve_neg ?_
    | with_reducible refine va_nil ?_
    | ((with_reducible show VOk (veAs _ (Es.cons (E.var _) _) _ _) _); first | refine va_var (by rfl) ?_ | refine va_rng (by rfl) ?_)
    | ((with_reducible show VOk (veAs _ (Es.cons _ _) _ _) _); refine va_e (by rfl) ?_)
    | with_reducible refine vr_nil ?_
    | with_reducible refine vr_cons ?_
    | with_reducible refine vl_nil ?_
    | with_reducible refine vl_cons ?_
    | with_reducible refine vb_add ?_
    | with_reducible refine vb_sub ?_
    | with_reducible refine vb_addB ?_
    | with_reducible refine vb_subB ?_
    | with_reducible refine v_strB ?_
    | with_reducible refine vsl_t ?_
    | with_reducible refine vsl_l ?_
    | with_reducible refine vrev_l ?_
    | with_reducible refine vb_mod (by first | assumption | omega) ?_
    | with_reducible refine vc_lt ?_
    | with_reducible refine vc_le ?_
    | with_reducible refine vc_gt ?_
    | with_reducible refine vc_ge ?_
    | with_reducible refine vc_eqI ?_
    | with_reducible refine vc_neI ?_
    | with_reducible refine vc_eqB ?_
    | with_reducible refine vc_neB ?_
    | ((with_reducible show VOk (vcmp Cmp.eq _ _ _) _); refine vc_eq (by rfl) (by rfl) ?_)
    | ((with_reducible show VOk (vcmp Cmp.ne _ _ _) _); refine vc_ne (by rfl) (by rfl) ?_)
    | with_reducible refine vc_is ?_
    | with_reducible refine vc_isnot ?_
    | with_reducible refine vn_t ?_
    | with_reducible refine vn_l ?_
    | with_reducible refine vn_d ?_
    | with_reducible refine vt_t ?_
    | with_reducible refine vt_l ?_
    | with_reducible refine vl_t ?_
    | with_reducible refine vl_l ?_
    | with_reducible refine va_all ?_
    | with_reducible refine va_any ?_
    | with_reducible refine vsrc_t ?_
    | with_reducible refine vsrc_l ?_
    | ((with_reducible refine exT ?_ ?_); focus rfl)
    | ((with_reducible refine exF ?_ ?_); focus rfl)
    | ((with_reducible refine exT' ?_ ?_); focus rfl)
    | ((with_reducible refine exF' ?_ ?_); focus rfl)
    | ((with_reducible refine exTd ?_ ?_); focus (first | rfl | assumption | omega))
    | ((with_reducible refine exFd ?_ ?_); focus (first | rfl | assumption | omega))
    | ((with_reducible refine exTd' ?_ ?_); focus (first | rfl | assumption | omega))
    | ((with_reducible refine exFd' ?_ ?_); focus (first | rfl | assumption | omega))
    | with_reducible refine exN ?_
    | with_reducible refine exI ?_
    | with_reducible refine exPn ?_
    | with_reducible refine exPi ?_
    | ((with_reducible refine len_and ?_ ?_); focus exact Nat.le_of_ble_eq_true rfl)))
/-! ### is a value a house -/
/-- a tuple of the whole numbers below z -/
def permZ (z : Int) (d : PyData) : Bool := match d with
  | .tuple ds => decide ((ds.length : Int) = z) && permB ds.length d
  | _ => false
theorem permZ_nat (k : Nat) (d : PyData) : permZ (k : Int) d = permB k d := by
  cases d with
  | tuple ds =>
    show (decide ((ds.length : Int) = (k : Int)) && permB ds.length (.tuple ds)) = _
    by_cases h : ds.length = k
    · subst h; rw [decide_eq_true rfl]; rfl
    · rw [decide_eq_false (by omega)]
      show false = (decide (ds.length = k) && _ && _)
      rw [decide_eq_false h]; rfl
  | _ => rfl
section
variable {P : VProg} {F n : Nat} {ρ : Rn} {Q : VV → Rn → Prop} {d : PyData} {W D B : Nat}
theorem isPermZ_call {f : Str} (hP : P.fns.lookup f = some H.isPerm) (hf : f ≠ drawS) (hI : P.fns.lookup ("is_integer" : Str) = some MP.H.integer) (hn : 2 ≤ n) {z : Int} (g : G W D B d) (hW : W ≤ 200000) (hD : D ≤ 20) (q : Q (.bool (permZ z d), false) ρ) : VOk (vcallN P F n f [.d (.int z), .d d] ρ) Q := by
  by_cases hz : ∃ k : Nat, z = k ∧ k ≤ 100000
  · obtain ⟨k, rfl, hk⟩ := hz
    rw [permZ_nat] at q
    exact isPerm_call hP hf hI hn hk g (by omega) hD q
  obtain ⟨n, rfl⟩ : ∃ k, n = k + 1 := ⟨n - 1, by omega⟩
  refine v_call hP hf rfl ?_
  show VOkS (veSs _ _ H.isPerm.body [.val (.int z), .val d, .none] ρ) _
  unfold H.isPerm
  cases d with
  | dict ds => have := g.g.a; simp [MP.asc] at this
  | tuple ds =>
    obtain ⟨D, rfl⟩ : ∃ D', D = D' + 1 := by
      have := g.g.dep
      simp only [PyData.depth] at this
      exact ⟨D - 1, by omega⟩
    have gl := g.tupleL
    have hlen := gl.len
    have hne : ¬ (ds.length : Int) = z := fun e => hz ⟨ds.length, e.symm, by omega⟩
    have e1 : permZ z (.tuple ds) = false := by
      show (decide ((ds.length : Int) = z) && _) = false
      rw [decide_eq_false hne]; rfl
    rw [e1] at q
    walk_at "v"
    refine ints_lc hI (by decide) (by omega) (by omega) ?_
    walk_at "v"
    rw [all_map_id]
    cases hall : ds.all isI with
    | true => walk_at "v"; exact q
    | false => walk_at "v"; exact q
  | _ => walk_at "v"; exact q
theorem isPerm2Z_call (hP : P.fns.lookup ("_law_is_permutation" : Str) = some H.isPerm2) (hI : P.fns.lookup ("_law_integer" : Str) = some MP.H.integer) (hn : 2 ≤ n) {z : Int} (g : G W D B d) (hW : W ≤ 200000) (hD : D ≤ 20) (q : Q (.bool (permZ z d), false) ρ) : VOk (vcallN P F n "_law_is_permutation" [.d (.int z), .d d] ρ) Q := by
  by_cases hz : ∃ k : Nat, z = k ∧ k ≤ 100000
  · obtain ⟨k, rfl, hk⟩ := hz
    rw [permZ_nat] at q
    exact isPerm2_call hP hI hn hk g (by omega) hD q
  obtain ⟨n, rfl⟩ : ∃ k, n = k + 1 := ⟨n - 1, by omega⟩
  refine v_call hP (by decide) rfl ?_
  show VOkS (veSs _ _ H.isPerm2.body [.val (.int z), .val d, .none] ρ) _
  unfold H.isPerm2
  cases d with
  | dict ds => have := g.g.a; simp [MP.asc] at this
  | tuple ds =>
    obtain ⟨D, rfl⟩ : ∃ D', D = D' + 1 := by
      have := g.g.dep
      simp only [PyData.depth] at this
      exact ⟨D - 1, by omega⟩
    have gl := g.tupleL
    have hlen := gl.len
    have hne : ¬ (ds.length : Int) = z := fun e => hz ⟨ds.length, e.symm, by omega⟩
    have e1 : permZ z (.tuple ds) = false := by
      show (decide ((ds.length : Int) = z) && _) = false
      rw [decide_eq_false hne]; rfl
    rw [e1] at q
    walk_at "v"
    refine exT' (by show PyData.bool (!decide ((ds.length : Int) = z)) = _; rw [decide_eq_false hne]; rfl) ?_
    walk_at "v"; exact q
  | _ => walk_at "v"; exact q
end
def ltI (z : Int) (d : PyData) : Bool := match d with
  | .int i => decide (0 ≤ i) && decide (i < z)
  | _ => false
def roomB (z : Int) (d : PyData) : Bool := isI d && ltI z d
def passB (r s : Int) (d : PyData) : Bool := match d with
  | .tuple [a, b, p] => roomB r a && (roomB r b && permZ s p)
  | _ => false
def psB (r s : Int) (c : PyData) : Bool := match c with
  | .tuple ps => decide (1 ≤ r) && (decide (1 ≤ s) && ps.all (passB r s))
  | _ => false
theorem psB_r {r s : Int} {c : PyData} (h : r < 1) : psB r s c = false := by
  cases c <;> first | rfl | (show (decide (1 ≤ r) && _) = false; rw [decide_eq_false (by omega)]; rfl)
theorem psB_s {r s : Int} {c : PyData} (h : s < 1) : psB r s c = false := by
  cases c <;> first | rfl | (show (decide (1 ≤ r) && (decide (1 ≤ s) && _)) = false; rw [decide_eq_false (by omega : ¬ 1 ≤ s), Bool.false_and, Bool.and_false])
def houseB (d : PyData) : Bool := match d with
  | .tuple [a, b, p] => isI a && (isI b && (match a, b with
    | .int r, .int s => psB r s p
    | _, _ => false))
  | _ => false
namespace H
def isRoom : Fn := ⟨2, 2, .cons (.ret (.and (.call "is_integer" (.cons (.var 1) (.nil))) (.chain .le .lt (.int 0) (.var 1) (.var 0)))) (.nil)⟩
def isPass : Fn := ⟨3, 3, .cons (.ifs (.or (.not (.isi (.var 2) [.tuple])) (.cmp .ne (.bi .len (.cons (.var 2) (.nil))) (.int 3))) (.cons (.ret (.bool false)) (.nil)) (.nil)) (.cons (.ret (.and (.call "is_room" (.cons (.var 0) (.cons (.ix (.var 2) (.int 0)) (.nil)))) (.and (.call "is_room" (.cons (.var 0) (.cons (.ix (.var 2) (.int 1)) (.nil)))) (.call "is_permutation" (.cons (.var 1) (.cons (.ix (.var 2) (.int 2)) (.nil))))))) (.nil))⟩
def isHouse : Fn := ⟨1, 5, .cons (.ifs (.or (.not (.isi (.var 0) [.tuple])) (.cmp .ne (.bi .len (.cons (.var 0) (.nil))) (.int 3))) (.cons (.ret (.bool false)) (.nil)) (.nil)) (.cons (.unp [.nm 1, .nm 2, .nm 3] (.var 0)) (.cons (.ifs (.or (.not (.call "is_integer" (.cons (.var 1) (.nil)))) (.or (.not (.call "is_integer" (.cons (.var 2) (.nil)))) (.or (.cmp .lt (.var 1) (.int 1)) (.or (.cmp .lt (.var 2) (.int 1)) (.not (.isi (.var 3) [.tuple])))))) (.cons (.ret (.bool false)) (.nil)) (.nil)) (.cons (.ret (.bi .all (.cons (.lc (.nm 4) (.val (.var 3)) (.none) (.call "is_passage" (.cons (.var 1) (.cons (.var 2) (.cons (.var 4) (.nil))))) [4]) (.nil)))) (.nil))))⟩
def isPass2 : Fn := ⟨3, 4, .cons (.ifs (.or (.not (.isi (.var 2) [.tuple])) (.cmp .ne (.bi .len (.cons (.var 2) (.nil))) (.int 3))) (.cons (.ret (.bool false)) (.nil)) (.nil)) (.cons (.ifs (.not (.bi .all (.cons (.lc (.nm 3) (.val (.sl (.var 2) (.none) (.some (.int 2)))) (.none) (.and (.call "_law_integer" (.cons (.var 3) (.nil))) (.chain .le .lt (.int 0) (.var 3) (.var 0))) [3]) (.nil)))) (.cons (.ret (.bool false)) (.nil)) (.nil)) (.cons (.ret (.call "_law_is_permutation" (.cons (.var 1) (.cons (.ix (.var 2) (.int 2)) (.nil))))) (.nil)))⟩
def isHouse2 : Fn := ⟨1, 2, .cons (.ifs (.or (.not (.isi (.var 0) [.tuple])) (.or (.cmp .ne (.bi .len (.cons (.var 0) (.nil))) (.int 3)) (.or (.not (.call "_law_integer" (.cons (.ix (.var 0) (.int 0)) (.nil)))) (.not (.call "_law_integer" (.cons (.ix (.var 0) (.int 1)) (.nil))))))) (.cons (.ret (.bool false)) (.nil)) (.nil)) (.cons (.ifs (.or (.cmp .lt (.ix (.var 0) (.int 0)) (.int 1)) (.or (.cmp .lt (.ix (.var 0) (.int 1)) (.int 1)) (.not (.isi (.ix (.var 0) (.int 2)) [.tuple])))) (.cons (.ret (.bool false)) (.nil)) (.nil)) (.cons (.ret (.bi .all (.cons (.lc (.nm 1) (.val (.ix (.var 0) (.int 2))) (.none) (.call "_law_is_passage" (.cons (.ix (.var 0) (.int 0)) (.cons (.ix (.var 0) (.int 1)) (.cons (.var 1) (.nil))))) [1]) (.nil)))) (.nil)))⟩
end H
section
variable {P : VProg} {F n : Nat} {ρ : Rn} {Q : VV → Rn → Prop} {d : PyData} {W D B : Nat}
theorem isRoom_call (hR : P.fns.lookup ("is_room" : Str) = some H.isRoom) (hI : P.fns.lookup ("is_integer" : Str) = some MP.H.integer) (hn : 2 ≤ n) {z : Int} (q : Q (.bool (roomB z d), false) ρ) : VOk (vcallN P F n "is_room" [.d (.int z), .d d] ρ) Q := by
  obtain ⟨n, rfl⟩ : ∃ k, n = k + 1 := ⟨n - 1, by omega⟩
  refine v_call hR (by decide) rfl ?_
  show VOkS (veSs _ _ H.isRoom.body [.val (.int z), .val d] ρ) _
  unfold H.isRoom
  walk_at "v"
  refine integer_call hI (by decide) (by omega) ?_
  unfold roomB at q
  cases hi : isI d with
  | false => rw [hi] at q; walk_at "v"; exact q
  | true =>
    rw [hi] at q
    obtain ⟨i, rfl⟩ := isI_int hi
    walk_at "v"
    have q : Q (.bool (decide (0 ≤ i) && decide (i < z)), false) ρ := q
    refine exB (fun e => ?_) (fun e => ?_)
    · rw [e] at q; walk_at "v"; exact q
    · rw [e] at q; exact vs_rt q
theorem len3 {ds : List PyData} (h : ds.length = 3) : ∃ a b c, ds = [a, b, c] := by
  match ds, h with
  | [a, b, c], _ => exact ⟨a, b, c, rfl⟩
theorem passB_len {r s : Int} {ds : List PyData} (h : ds.length ≠ 3) : passB r s (.tuple ds) = false := by
  match ds, h with
  | [], _ => rfl
  | [_], _ => rfl
  | [_, _], _ => rfl
  | [_, _, _], h => exact (h rfl).elim
  | _ :: _ :: _ :: _ :: _, _ => rfl
theorem houseB_len {ds : List PyData} (h : ds.length ≠ 3) : houseB (.tuple ds) = false := by
  match ds, h with
  | [], _ => rfl
  | [_], _ => rfl
  | [_, _], _ => rfl
  | [_, _, _], h => exact (h rfl).elim
  | _ :: _ :: _ :: _ :: _, _ => rfl
theorem isPass_call (hp : P.fns.lookup ("is_passage" : Str) = some H.isPass) (hR : P.fns.lookup ("is_room" : Str) = some H.isRoom) (hI : P.fns.lookup ("is_integer" : Str) = some MP.H.integer) (hP : P.fns.lookup ("is_permutation" : Str) = some H.isPerm) (hn : 4 ≤ n) {r s : Int} (g : G W D B d) (hW : W ≤ 200000) (hD : D ≤ 20) (q : Q (.bool (passB r s d), false) ρ) : VOk (vcallN P F n "is_passage" [.d (.int r), .d (.int s), .d d] ρ) Q := by
  obtain ⟨n, rfl⟩ : ∃ k, n = k + 1 := ⟨n - 1, by omega⟩
  refine v_call hp (by decide) rfl ?_
  show VOkS (veSs _ _ H.isPass.body [.val (.int r), .val (.int s), .val d] ρ) _
  unfold H.isPass
  cases d with
  | dict ds => have := g.g.a; simp [MP.asc] at this
  | tuple ds =>
    obtain ⟨D, rfl⟩ : ∃ D', D = D' + 1 := by
      have := g.g.dep
      simp only [PyData.depth] at this
      exact ⟨D - 1, by omega⟩
    by_cases hl : ds.length = 3
    · obtain ⟨a, b, c, rfl⟩ := len3 hl
      have q : Q (.bool (roomB r a && (roomB r b && permZ s c)), false) ρ := q
      have gc : G W D B c := g.tupleL.mem (by simp)
      walk_at "v"
      refine vx_t (d := a) (by rfl) ?_
      walk_at "v"
      refine isRoom_call hR hI (by omega) ?_
      cases h1 : roomB r a with
      | false => rw [h1] at q; walk_at "v"; exact q
      | true =>
        rw [h1] at q
        walk_at "v"
        refine vx_t (d := b) (by rfl) ?_
        walk_at "v"
        refine isRoom_call hR hI (by omega) ?_
        cases h2 : roomB r b with
        | false => rw [h2] at q; walk_at "v"; exact q
        | true =>
          rw [h2] at q
          walk_at "v"
          refine vx_t (d := c) (by rfl) ?_
          walk_at "v"
          refine isPermZ_call hP (by decide) hI (by omega) gc hW (by omega) ?_
          walk_at "v"
          exact q
    · rw [passB_len hl] at q
      walk_at "v"
      refine exT (by show PyData.bool (!decide ((ds.length : Int) = 3)) = _; rw [decide_eq_false (by omega)]; rfl) ?_
      walk_at "v"; exact q
  | _ => walk_at "v"; exact q
theorem isPass2_call (hp : P.fns.lookup ("_law_is_passage" : Str) = some H.isPass2) (hI : P.fns.lookup ("_law_integer" : Str) = some MP.H.integer) (hP : P.fns.lookup ("_law_is_permutation" : Str) = some H.isPerm2) (hn : 4 ≤ n) {r s : Int} (g : G W D B d) (hW : W ≤ 200000) (hD : D ≤ 20) (q : Q (.bool (passB r s d), false) ρ) : VOk (vcallN P F n "_law_is_passage" [.d (.int r), .d (.int s), .d d] ρ) Q := by
  obtain ⟨n, rfl⟩ : ∃ k, n = k + 1 := ⟨n - 1, by omega⟩
  refine v_call hp (by decide) rfl ?_
  show VOkS (veSs _ _ H.isPass2.body [.val (.int r), .val (.int s), .val d, .none] ρ) _
  unfold H.isPass2
  cases d with
  | dict ds => have := g.g.a; simp [MP.asc] at this
  | tuple ds =>
    obtain ⟨D, rfl⟩ : ∃ D', D = D' + 1 := by
      have := g.g.dep
      simp only [PyData.depth] at this
      exact ⟨D - 1, by omega⟩
    by_cases hl : ds.length = 3
    · obtain ⟨a, b, c, rfl⟩ := len3 hl
      have q : Q (.bool (roomB r a && (roomB r b && permZ s c)), false) ρ := q
      have gc : G W D B c := g.tupleL.mem (by simp)
      walk_at "v"
      refine ve_lcM (fun x => .bool (roomB r x)) (vi_e (by rfl) ?_)
      walk_at "v"
      refine ⟨[a, b], rfl, by simp, fun x hx => ?_, ?_⟩
      · show VOk (veE _ _ [.val (.int r), .val (.int s), .val (.tuple [a, b, c]), .val x] ρ) _
        walk_at "v"
        refine integer_call hI (by decide) (by omega) ?_
        unfold roomB
        cases hi : isI x with
        | false => walk_at "v"; exact ⟨rfl, rfl⟩
        | true =>
          obtain ⟨i, rfl⟩ := isI_int hi
          walk_at "v"
          refine exB (fun e => ?_) (fun e => ?_)
          · walk_at "v"
            refine ⟨rfl, ?_⟩
            show _ = PyData.bool (true && (decide (0 ≤ i) && decide (i < r)))
            rw [e]; rfl
          · refine ⟨rfl, ?_⟩
            show _ = PyData.bool (true && (decide (0 ≤ i) && decide (i < r)))
            rw [e]; rfl
      · show VOk (veRs _ _ _ _) _
        refine vr_nil ?_
        refine va_all (bs := [roomB r a, roomB r b]) ?_
        walk_at "v"
        cases h1 : roomB r a with
        | false => rw [h1] at q; walk_at "v"; exact q
        | true =>
          rw [h1] at q
          cases h2 : roomB r b with
          | false => rw [h2] at q; walk_at "v"; exact q
          | true =>
            rw [h2] at q
            walk_at "v"
            refine vx_t (d := c) (by rfl) ?_
            walk_at "v"
            refine isPerm2Z_call hP hI (by omega) gc hW (by omega) ?_
            walk_at "v"
            exact q
    · rw [passB_len hl] at q
      walk_at "v"
      refine exT (by show PyData.bool (!decide ((ds.length : Int) = 3)) = _; rw [decide_eq_false (by omega)]; rfl) ?_
      walk_at "v"; exact q
  | _ => walk_at "v"; exact q
theorem pass_lc {C : VCfg} {e : E} {env : VEn} {own : List Nat} {k : Nat} {it : It} {r s : Int} {ps : List PyData} (hl : ps.length ≤ 1000000) (hi : ∀ Q : List VItm → Rn → Prop, Q (ps.map .one) ρ → VOk (veIt C true it env ρ) Q)
    (hb : ∀ x ∈ ps, VOk (veE C e ((vwipe env own).set k (.val x)) ρ) fun y ρ' => ρ' = ρ ∧ y.1 = .bool (passB r s x)) (q : Q (.list ((ps.map (passB r s)).map .bool), true) ρ) : VOk (veE C (.lc (.nm k) it .none e own) env ρ) Q := by
  refine ve_lcM (fun x => .bool (passB r s x)) (hi _ ⟨ps, rfl, hl, hb, ?_⟩)
  rw [List.map_map] at q
  exact q
theorem isHouse_call (hh : P.fns.lookup ("is_house" : Str) = some H.isHouse) (hp : P.fns.lookup ("is_passage" : Str) = some H.isPass) (hR : P.fns.lookup ("is_room" : Str) = some H.isRoom) (hI : P.fns.lookup ("is_integer" : Str) = some MP.H.integer) (hP : P.fns.lookup ("is_permutation" : Str) = some H.isPerm) (hn : 5 ≤ n) (g : G W D B d) (hW : W ≤ 200000) (hD : D ≤ 20) (q : Q (.bool (houseB d), false) ρ) : VOk (vcallN P F n "is_house" [.d d] ρ) Q := by
  obtain ⟨n, rfl⟩ : ∃ k, n = k + 1 := ⟨n - 1, by omega⟩
  refine v_call hh (by decide) rfl ?_
  show VOkS (veSs _ _ H.isHouse.body [.val d, .none, .none, .none, .none] ρ) _
  unfold H.isHouse
  cases d with
  | dict ds => have := g.g.a; simp [MP.asc] at this
  | tuple ds =>
    obtain ⟨D, rfl⟩ : ∃ D', D = D' + 1 := by
      have := g.g.dep
      simp only [PyData.depth] at this
      exact ⟨D - 1, by omega⟩
    by_cases hl : ds.length = 3
    · obtain ⟨a, b, c, rfl⟩ := len3 hl
      have gc : G W D B c := g.tupleL.mem (by simp)
      walk_at "v"
      refine ⟨_, rfl, vs_nx (vs_cons ?_)⟩
      show VOkS (veS _ _ _ [.val (.tuple [a, b, c]), .val a, .val b, .val c, .none] ρ) _
      walk_at "v"
      refine integer_call hI (by decide) (by omega) ?_
      cases h1 : isI a with
      | false =>
        have e1 : houseB (.tuple [a, b, c]) = false := by show (isI a && _) = false; rw [h1]; rfl
        rw [e1] at q
        walk_at "v"; exact q
      | true =>
        obtain ⟨r, rfl⟩ := isI_int h1
        walk_at "v"
        refine integer_call hI (by decide) (by omega) ?_
        cases h2 : isI b with
        | false =>
          have e1 : houseB (.tuple [.int r, b, c]) = false := by show (isI (.int r) && (isI b && _)) = false; rw [h2]; rfl
          rw [e1] at q
          walk_at "v"; exact q
        | true =>
          obtain ⟨s, rfl⟩ := isI_int h2
          walk_at "v"
          have q : Q (.bool (psB r s c), false) ρ := q
          refine exB' (fun e => ?_) (fun e => ?_)
          rotate_left
          · have e := of_decide_eq_true e
            rw [psB_r e] at q
            walk_at "v"; exact q
          have e := of_decide_eq_false e
          walk_at "v"
          refine exB' (fun f => ?_) (fun f => ?_)
          rotate_left
          · have f := of_decide_eq_true f
            rw [psB_s f] at q
            walk_at "v"; exact q
          have f := of_decide_eq_false f
          cases c with
          | tuple ps =>
            have q : Q (.bool (decide (1 ≤ r) && (decide (1 ≤ s) && ps.all (passB r s))), false) ρ := q
            rw [decide_eq_true (by omega : 1 ≤ r), decide_eq_true (by omega : 1 ≤ s), Bool.true_and, Bool.true_and] at q
            obtain ⟨D, rfl⟩ : ∃ D', D = D' + 1 := by
              have := gc.g.dep
              simp only [PyData.depth] at this
              exact ⟨D - 1, by omega⟩
            have gp := gc.tupleL
            have hlp := gp.len
            walk_at "v"
            refine pass_lc (ps := ps) (by omega) (fun Q q => vi_t (by rfl) q) (fun x hx => ?_) ?_ (r := r) (s := s)
            · show VOk (veE _ _ [.val (.tuple [.int r, .int s, .tuple ps]), .val (.int r), .val (.int s), .val (.tuple ps), .val x] ρ) _
              walk_at "v"
              exact isPass_call hp hR hI hP (by omega) (gp.mem hx) hW (by omega) ⟨rfl, rfl⟩
            · walk_at "v"
              rw [all_map_id]
              exact q
          | _ => walk_at "v"; exact q
    · rw [houseB_len hl] at q
      walk_at "v"
      refine exT (by show PyData.bool (!decide ((ds.length : Int) = 3)) = _; rw [decide_eq_false (by omega)]; rfl) ?_
      walk_at "v"; exact q
  | _ => walk_at "v"; exact q
theorem isHouse2_call (hh : P.fns.lookup ("_law_is_house" : Str) = some H.isHouse2) (hp : P.fns.lookup ("_law_is_passage" : Str) = some H.isPass2) (hI : P.fns.lookup ("_law_integer" : Str) = some MP.H.integer) (hP : P.fns.lookup ("_law_is_permutation" : Str) = some H.isPerm2) (hn : 5 ≤ n) (g : G W D B d) (hW : W ≤ 200000) (hD : D ≤ 20) (q : Q (.bool (houseB d), false) ρ) : VOk (vcallN P F n "_law_is_house" [.d d] ρ) Q := by
  obtain ⟨n, rfl⟩ : ∃ k, n = k + 1 := ⟨n - 1, by omega⟩
  refine v_call hh (by decide) rfl ?_
  show VOkS (veSs _ _ H.isHouse2.body [.val d, .none] ρ) _
  unfold H.isHouse2
  cases d with
  | dict ds => have := g.g.a; simp [MP.asc] at this
  | tuple ds =>
    obtain ⟨D, rfl⟩ : ∃ D', D = D' + 1 := by
      have := g.g.dep
      simp only [PyData.depth] at this
      exact ⟨D - 1, by omega⟩
    by_cases hl : ds.length = 3
    · obtain ⟨a, b, c, rfl⟩ := len3 hl
      have gc : G W D B c := g.tupleL.mem (by simp)
      walk_at "v"
      refine vx_t (d := a) (by rfl) ?_
      walk_at "v"
      refine integer_call hI (by decide) (by omega) ?_
      cases h1 : isI a with
      | false =>
        have e1 : houseB (.tuple [a, b, c]) = false := by show (isI a && _) = false; rw [h1]; rfl
        rw [e1] at q
        walk_at "v"; exact q
      | true =>
        obtain ⟨r, rfl⟩ := isI_int h1
        walk_at "v"
        refine vx_t (d := b) (by rfl) ?_
        walk_at "v"
        refine integer_call hI (by decide) (by omega) ?_
        cases h2 : isI b with
        | false =>
          have e1 : houseB (.tuple [.int r, b, c]) = false := by show (isI (.int r) && (isI b && _)) = false; rw [h2]; rfl
          rw [e1] at q
          walk_at "v"; exact q
        | true =>
          obtain ⟨s, rfl⟩ := isI_int h2
          walk_at "v"
          have q : Q (.bool (psB r s c), false) ρ := q
          refine vx_t (d := .int r) (by rfl) ?_
          walk_at "v"
          refine exB' (fun e => ?_) (fun e => ?_)
          rotate_left
          · have e := of_decide_eq_true e
            rw [psB_r e] at q
            walk_at "v"; exact q
          have e := of_decide_eq_false e
          walk_at "v"
          refine vx_t (d := .int s) (by rfl) ?_
          walk_at "v"
          refine exB' (fun f => ?_) (fun f => ?_)
          rotate_left
          · have f := of_decide_eq_true f
            rw [psB_s f] at q
            walk_at "v"; exact q
          have f := of_decide_eq_false f
          walk_at "v"
          refine vx_t (d := c) (by rfl) ?_
          cases c with
          | tuple ps =>
            have q : Q (.bool (decide (1 ≤ r) && (decide (1 ≤ s) && ps.all (passB r s))), false) ρ := q
            rw [decide_eq_true (by omega : 1 ≤ r), decide_eq_true (by omega : 1 ≤ s), Bool.true_and, Bool.true_and] at q
            obtain ⟨D, rfl⟩ : ∃ D', D = D' + 1 := by
              have := gc.g.dep
              simp only [PyData.depth] at this
              exact ⟨D - 1, by omega⟩
            have gp := gc.tupleL
            have hlp := gp.len
            walk_at "v"
            refine pass_lc (ps := ps) (by omega) (fun Q q => vi_e (by rfl) ?_) (fun x hx => ?_) ?_ (r := r) (s := s)
            · walk_at "v"
              refine vx_t (d := .tuple ps) (by rfl) ?_
              walk_at "v"
              exact q
            · show VOk (veE _ _ [.val (.tuple [.int r, .int s, .tuple ps]), .val x] ρ) _
              walk_at "v"
              refine vx_t (d := .int r) (by rfl) ?_
              walk_at "v"
              refine vx_t (d := .int s) (by rfl) ?_
              walk_at "v"
              exact isPass2_call hp hI hP (by omega) (gp.mem hx) hW (by omega) ⟨rfl, rfl⟩
            · walk_at "v"
              rw [all_map_id]
              exact q
          | _ => walk_at "v"; exact q
    · rw [houseB_len hl] at q
      walk_at "v"
      refine exT' (by show PyData.bool (!decide ((ds.length : Int) = 3)) = _; rw [decide_eq_false (by omega)]; rfl) ?_
      walk_at "v"; exact q
  | _ => walk_at "v"; exact q
end
end VE
set_option Elab.async false
set_option linter.all false
set_option maxRecDepth 100000
set_option maxHeartbeats 1000000
namespace VE
open MP (Val E Es Oe It Rg S Ss Tg Op Cmp Ty Bi Mt Fn)
open PySem (Str PyData sizeLine)
open Z (eqv_int eqv_boolD isNone boolsP_map atV_in rgP_one exT exF exT' exF' exTd exFd exTd' exFd' notOwn frz_id NotQ exN exB exB' len_and exI exPn exPi ex_append)
local macro_rules
  | `(tactic| walk_at "v") => `(tactic| repeat (first
    | with_reducible refine vs_cons ?_
    | with_reducible refine vs_nil ?_
    | with_reducible refine vs_nx ?_
    | with_reducible refine vs_rt ?_
    | ((with_reducible show VOkS (veS _ _ (S.set _ _) _ _) _); refine vs_set (by first | exact frz_id (by rfl) | with_unfolding_all rfl) ?_)
    | ((with_reducible show VOkS (veS _ _ (S.ret (E.var _)) _ _) _); first | refine vs_retV (by rfl) (by first | exact frz_id (by rfl) | with_unfolding_all rfl) ?_ | refine vs_retO (by rfl) ?_)
    | ((with_reducible show VOkS (veS _ _ (S.ret _) _ _) _); refine vs_ret (by rfl) (by first | exact frz_id (by rfl) | with_unfolding_all rfl) ?_)
    | with_reducible refine vs_pass ?_
    | ((with_reducible show VOkS (veS _ _ (S.unp _ _) _ _) _); refine vs_unp (by first | exact frz_id (by rfl) | with_unfolding_all rfl) ?_)
    | ((with_reducible show VOkS (veS _ _ (S.par _ _) _ _) _); refine vs_par (by first | exact frz_id (by rfl) | with_unfolding_all rfl) ?_)
    | ((with_reducible show VOkS (veS _ _ (S.ifs _ _ _) _ _) _); refine vs_if (by first | exact frz_id (by rfl) | with_unfolding_all rfl) ?_)
    | with_reducible refine vp_nil ?_
    | with_reducible refine vp_cons ?_
    | with_reducible refine ve_int ?_
    | with_reducible refine ve_bool ?_
    | with_reducible refine ve_none ?_
    | with_reducible refine ve_str ?_
    | ((with_reducible show VOk (veE _ (E.var _) _ _) _); refine ve_var (by rfl) ?_)
    | ((with_reducible show VOk (rdV _ (E.var _) _ _) _); first | refine rd_val (by rfl) ?_ | refine rd_own (by rfl) ?_)
    | ((with_reducible show VOk (rdV _ _ _ _) _); refine rd_e (by rfl) ?_)
    | with_reducible refine ve_bin ?_
    | with_reducible refine ve_cmp ?_
    | with_reducible refine ve_chain ?_
    | with_reducible refine ve_ix ?_
    | with_reducible refine ve_sl ?_
    | with_reducible refine ve_rev ?_
    | with_reducible refine vo_none ?_
    | with_reducible refine vo_some ?_
    | with_reducible refine ve_callN ?_
    | with_reducible refine ve_callkN ?_
    | with_reducible refine ve_bi ?_
    | with_reducible refine ve_mt ?_
    | with_reducible refine ve_isi ?_
    | with_reducible refine ve_lst ?_
    | with_reducible refine ve_tup ?_
    | with_reducible refine ve_dic0 ?_
    | with_reducible refine ve_and ?_
    | with_reducible refine ve_or ?_
    | with_reducible refine ve_notQ ?_
    | with_reducible refine ve_ite ?_
    | with_reducible refine ve_lrng ?_
    | with_reducible refine ve_trng ?_
    | with_reducible refine ve_neg ?_
    | with_reducible refine va_nil ?_
    | ((with_reducible show VOk (veAs _ (Es.cons (E.var _) _) _ _) _); first | refine va_var (by rfl) ?_ | refine va_rng (by rfl) ?_)
    | ((with_reducible show VOk (veAs _ (Es.cons _ _) _ _) _); refine va_e (by rfl) ?_)
    | with_reducible refine vr_nil ?_
    | with_reducible refine vr_cons ?_
    | with_reducible refine vl_nil ?_
    | with_reducible refine vl_cons ?_
    | with_reducible refine vb_add ?_
    | with_reducible refine vb_sub ?_
    | with_reducible refine vb_addB ?_
    | with_reducible refine vb_subB ?_
    | with_reducible refine v_strB ?_
    | with_reducible refine vsl_t ?_
    | with_reducible refine vsl_l ?_
    | with_reducible refine vrev_l ?_
    | with_reducible refine vb_mod (by first | assumption | omega) ?_
    | with_reducible refine vc_lt ?_
    | with_reducible refine vc_le ?_
    | with_reducible refine vc_gt ?_
    | with_reducible refine vc_ge ?_
    | with_reducible refine vc_eqI ?_
    | with_reducible refine vc_neI ?_
    | with_reducible refine vc_eqB ?_
    | with_reducible refine vc_neB ?_
    | ((with_reducible show VOk (vcmp Cmp.eq _ _ _) _); refine vc_eq (by rfl) (by rfl) ?_)
    | ((with_reducible show VOk (vcmp Cmp.ne _ _ _) _); refine vc_ne (by rfl) (by rfl) ?_)
    | with_reducible refine vc_is ?_
    | with_reducible refine vc_isnot ?_
    | with_reducible refine vn_t ?_
    | with_reducible refine vn_l ?_
    | with_reducible refine vn_d ?_
    | with_reducible refine vt_t ?_
    | with_reducible refine vt_l ?_
    | with_reducible refine vl_t ?_
    | with_reducible refine vl_l ?_
    | with_reducible refine va_all ?_
    | with_reducible refine va_any ?_
    | with_reducible refine vsrc_t ?_
    | with_reducible refine vsrc_l ?_
    | ((with_reducible refine exT ?_ ?_); focus rfl)
    | ((with_reducible refine exF ?_ ?_); focus rfl)
    | ((with_reducible refine exT' ?_ ?_); focus rfl)
    | ((with_reducible refine exF' ?_ ?_); focus rfl)
    | ((with_reducible refine exTd ?_ ?_); focus (first | rfl | assumption | omega))
    | ((with_reducible refine exFd ?_ ?_); focus (first | rfl | assumption | omega))
    | ((with_reducible refine exTd' ?_ ?_); focus (first | rfl | assumption | omega))
    | ((with_reducible refine exFd' ?_ ?_); focus (first | rfl | assumption | omega))
    | with_reducible refine exN ?_
    | with_reducible refine exI ?_
    | with_reducible refine exPn ?_
    | with_reducible refine exPi ?_
    | ((with_reducible refine len_and ?_ ?_); focus exact Nat.le_of_ble_eq_true rfl)))
theorem G.self {W D B : Nat} {d : PyData} (g : G W D B d) : G (MP.wt d) D B d := ⟨⟨Nat.le_refl _, g.g.dep, g.g.a⟩, g.b⟩
theorem perm_good {ys : List PyData} {k : Nat} (hk : k ≤ 8) (hp : ys.Perm ((List.range k).map fun (i : Nat) => PyData.int (i : Int))) : GL (5 * k + 2 * k + 3) 0 3 ys ∧ ys.length = k := by
  have hl : ys.length = k := by have := hp.length_eq; simpa using this
  have he : ∀ d ∈ ys, ∃ i : Nat, i < k ∧ d = .int (i : Int) := by
    intro d hd
    obtain ⟨i, h1, h2⟩ := List.mem_map.mp (hp.mem_iff.mp hd)
    exact ⟨i, List.mem_range.mp h1, h2.symm⟩
  have lg : ∀ i : Nat, i < 8 → i.log2 ≤ 2 := fun i hi => MP.log2_le (by omega)
  have hw : ∀ ds : List PyData, (∀ d ∈ ds, ∃ i : Nat, i < k ∧ d = .int (i : Int)) → MP.wts ds ≤ 7 * ds.length := by
    intro ds
    induction ds with
    | nil => intro _; exact Nat.le_refl _
    | cons d ds ih =>
      intro h
      obtain ⟨i, hi, rfl⟩ := h d (List.mem_cons_self ..)
      have := ih fun d hd => h d (List.mem_cons_of_mem _ hd)
      have := lg i (by omega)
      simp only [MP.wts, MP.wt, List.length_cons, Int.natAbs_natCast]; omega
  refine ⟨⟨by have := hw ys he; omega, fun d hd => ?_⟩, hl⟩
  obtain ⟨i, hi, rfl⟩ := he d hd
  have := lg i (by omega)
  exact ⟨Nat.le_refl _, rfl, by simp only [mx, Int.natAbs_natCast]; omega⟩

/-- closed good data, larger -/
def gB2 (d : PyData) : Bool := decide (MP.wt d ≤ 35000) && decide (d.depth ≤ 8) && MP.asc d && decide (mx d ≤ 7)
theorem G.of_b2 {d : PyData} (h : gB2 d = true) : G 35000 8 7 d := by
  unfold gB2 at h
  simp only [Bool.and_eq_true, decide_eq_true_eq] at h
  exact ⟨⟨by omega, by omega, h.1.2⟩, by omega⟩
theorem encL_good {k : Nat} {p : List Nat} (hk : k ≤ 8) (h : IsP k p) : G (7 * k + 3) 1 3 (encL p) := by
  have h2 := (perm_good (ys := natsP p) hk (h.map fun (i : Nat) => PyData.int (i : Int))).1
  exact (h2.mono (by omega) (Nat.le_refl _) (Nat.le_refl _)).tuple
theorem log2_small {i : Nat} (h : i ≤ 8) : i.log2 ≤ 3 := MP.log2_le (by omega)
theorem encG_good {r k : Nat} {g : Pg} (hr : r ≤ 8) (hk : k ≤ 8) (h : Pg.ok r k g) : G (7 * k + 24) 2 4 (encG g) := by
  have hp := encL_good hk h.p
  have h1 := log2_small (i := g.a) (by have := h.a; omega)
  have h2 := log2_small (i := g.b) (by have := h.b; omega)
  have h3 := hp.g.w
  refine GL.tuple (D := 1) ⟨?_, fun d hd => ?_⟩
  · simp only [MP.wts]
    have e1 : MP.wt (.int (g.a : Int)) ≤ 6 := by simp only [MP.wt, Int.natAbs_natCast]; omega
    have e2 : MP.wt (.int (g.b : Int)) ≤ 6 := by simp only [MP.wt, Int.natAbs_natCast]; omega
    have e4 : MP.wt (.int (g.a : Int)) ≤ 5 := by
      have := MP.log2_le (n := g.a) (k := 2) (by have := h.a; omega)
      simp only [MP.wt, Int.natAbs_natCast]; omega
    have e5 : MP.wt (.int (g.b : Int)) ≤ 5 := by
      have := MP.log2_le (n := g.b) (k := 2) (by have := h.b; omega)
      simp only [MP.wt, Int.natAbs_natCast]; omega
    omega
  · simp only [List.mem_cons, List.not_mem_nil, or_false] at hd
    rcases hd with rfl | rfl | rfl
    · exact ⟨Nat.zero_le _, rfl, by simp only [mx, Int.natAbs_natCast]; omega⟩
    · exact ⟨Nat.zero_le _, rfl, by simp only [mx, Int.natAbs_natCast]; omega⟩
    · exact ⟨hp.g.dep, hp.g.a, Nat.le_trans hp.b (by decide)⟩
theorem wts_le {W : Nat} : ∀ {ds : List PyData}, (∀ d ∈ ds, MP.wt d ≤ W) → MP.wts ds ≤ ds.length * (W + 2)
  | [], _ => by simp [MP.wts]
  | d :: ds, h => by
    have h1 := h d (List.mem_cons_self ..)
    have h2 := wts_le (ds := ds) fun d hd => h d (List.mem_cons_of_mem _ hd)
    simp only [MP.wts, List.length_cons, Nat.add_mul, Nat.one_mul]; omega
theorem encH_good {h : Hs} (ho : h.ok) (hr : h.r ≤ 8) (hs : h.s ≤ 8) {M : Nat} (hM : h.ps.length ≤ M) : GL (M * (7 * h.s + 26) + 27) 3 4 [.int (h.r : Int), .int (h.s : Int), .tuple (h.ps.map encG)] := by
  have hg : ∀ d ∈ h.ps.map encG, G (7 * h.s + 24) 2 4 d := by
    intro d hd
    obtain ⟨g, h1, rfl⟩ := List.mem_map.mp hd
    exact encG_good hr hs (ho.ps g h1)
  have hw := wts_le fun d hd => (hg d hd).g.w
  rw [List.length_map] at hw
  have hw2 : h.ps.length * (7 * h.s + 24 + 2) ≤ M * (7 * h.s + 26) := Nat.mul_le_mul hM (by omega)
  have gp : G (M * (7 * h.s + 26) + 3) 3 4 (.tuple (h.ps.map encG)) := GL.tuple (D := 2) ⟨by omega, fun d hd => ⟨(hg d hd).g.dep, (hg d hd).g.a, (hg d hd).b⟩⟩
  have h1 := log2_small hr
  have h2 := log2_small hs
  have h3 := gp.g.w
  refine ⟨?_, fun d hd => ?_⟩
  · simp only [MP.wts]
    have e1 : MP.wt (.int (h.r : Int)) ≤ 6 := by simp only [MP.wt, Int.natAbs_natCast]; omega
    have e2 : MP.wt (.int (h.s : Int)) ≤ 6 := by simp only [MP.wt, Int.natAbs_natCast]; omega
    omega
  · simp only [List.mem_cons, List.not_mem_nil, or_false] at hd
    rcases hd with rfl | rfl | rfl
    · exact ⟨Nat.zero_le _, rfl, by simp only [mx, Int.natAbs_natCast]; omega⟩
    · exact ⟨Nat.zero_le _, rfl, by simp only [mx, Int.natAbs_natCast]; omega⟩
    · exact ⟨gp.g.dep, gp.g.a, gp.b⟩
end VE
set_option Elab.async false
set_option linter.all false
set_option maxRecDepth 100000
set_option maxHeartbeats 1000000
namespace VE
open MP (Val E Es Oe It Rg S Ss Tg Op Cmp Ty Bi Mt Fn)
open PySem (Str PyData sizeLine)
open Z (eqv_int eqv_boolD isNone boolsP_map atV_in rgP_one exT exF exT' exF' exTd exFd exTd' exFd' notOwn frz_id NotQ exN exB exB' len_and exI exPn exPi ex_append)
local macro_rules
  | `(tactic| walk_at "v") => `(tactic| repeat (first
    | with_reducible refine vs_cons ?_
    | with_reducible refine vs_nil ?_
    | with_reducible refine vs_nx ?_
    | with_reducible refine vs_rt ?_
    | ((with_reducible show VOkS (veS _ _ (S.set _ _) _ _) _); refine vs_set (by first | exact frz_id (by rfl) | with_unfolding_all rfl) ?_)
    | ((with_reducible show VOkS (veS _ _ (S.ret (E.var _)) _ _) _); first | refine vs_retV (by rfl) (by first | exact frz_id (by rfl) | with_unfolding_all rfl) ?_ | refine vs_retO (by rfl) ?_)
    | ((with_reducible show VOkS (veS _ _ (S.ret _) _ _) _); refine vs_ret (by rfl) (by first | exact frz_id (by rfl) | with_unfolding_all rfl) ?_)
    | with_reducible refine vs_pass ?_
    | ((with_reducible show VOkS (veS _ _ (S.unp _ _) _ _) _); refine vs_unp (by first | exact frz_id (by rfl) | with_unfolding_all rfl) ?_)
    | ((with_reducible show VOkS (veS _ _ (S.par _ _) _ _) _); refine vs_par (by first | exact frz_id (by rfl) | with_unfolding_all rfl) ?_)
    | ((with_reducible show VOkS (veS _ _ (S.ifs _ _ _) _ _) _); refine vs_if (by first | exact frz_id (by rfl) | with_unfolding_all rfl) ?_)
    | with_reducible refine vp_nil ?_
    | with_reducible refine vp_cons ?_
    | with_reducible refine ve_int ?_
    | with_reducible refine ve_bool ?_
    | with_reducible refine ve_none ?_
    | with_reducible refine ve_str ?_
    | ((with_reducible show VOk (veE _ (E.var _) _ _) _); refine ve_var (by rfl) ?_)
    | ((with_reducible show VOk (rdV _ (E.var _) _ _) _); first | refine rd_val (by rfl) ?_ | refine rd_own (by rfl) ?_)
    | ((with_reducible show VOk (rdV _ _ _ _) _); refine rd_e (by rfl) ?_)
    | with_reducible refine ve_bin ?_
    | with_reducible refine ve_cmp ?_
    | with_reducible refine ve_chain ?_
    | with_reducible refine ve_ix ?_
    | with_reducible refine ve_sl ?_
    | with_reducible refine ve_rev ?_
    | with_reducible refine vo_none ?_
    | with_reducible refine vo_some ?_
    | with_reducible refine ve_callN ?_
    | with_reducible refine ve_callkN ?_
    | with_reducible refine ve_bi ?_
    | with_reducible refine ve_mt ?_
    | with_reducible refine ve_isi ?_
    | with_reducible refine ve_lst ?_
    | with_reducible refine ve_tup ?_
    | with_reducible refine ve_dic0 ?_
    | with_reducible refine ve_and ?_
    | with_reducible refine ve_or ?_
    | with_reducible refine ve_notQ ?_
    | with_reducible refine ve_ite ?_
    | with_reducible refine ve_lrng ?_
    | with_reducible refine ve_trng ?_
    | with_reducible refine ve_neg ?_
    | with_reducible refine va_nil ?_
    | ((with_reducible show VOk (veAs _ (Es.cons (E.var _) _) _ _) _); first | refine va_var (by rfl) ?_ | refine va_rng (by rfl) ?_)
    | ((with_reducible show VOk (veAs _ (Es.cons _ _) _ _) _); refine va_e (by rfl) ?_)
    | with_reducible refine vr_nil ?_
    | with_reducible refine vr_cons ?_
    | with_reducible refine vl_nil ?_
    | with_reducible refine vl_cons ?_
    | with_reducible refine vb_add ?_
    | with_reducible refine vb_sub ?_
    | with_reducible refine vb_addB ?_
    | with_reducible refine vb_subB ?_
    | with_reducible refine v_strB ?_
    | with_reducible refine vsl_t ?_
    | with_reducible refine vsl_l ?_
    | with_reducible refine vrev_l ?_
    | with_reducible refine vb_mod (by first | assumption | omega) ?_
    | with_reducible refine vc_lt ?_
    | with_reducible refine vc_le ?_
    | with_reducible refine vc_gt ?_
    | with_reducible refine vc_ge ?_
    | with_reducible refine vc_eqI ?_
    | with_reducible refine vc_neI ?_
    | with_reducible refine vc_eqB ?_
    | with_reducible refine vc_neB ?_
    | ((with_reducible show VOk (vcmp Cmp.eq _ _ _) _); refine vc_eq (by rfl) (by rfl) ?_)
    | ((with_reducible show VOk (vcmp Cmp.ne _ _ _) _); refine vc_ne (by rfl) (by rfl) ?_)
    | with_reducible refine vc_is ?_
    | with_reducible refine vc_isnot ?_
    | with_reducible refine vn_t ?_
    | with_reducible refine vn_l ?_
    | with_reducible refine vn_d ?_
    | with_reducible refine vt_t ?_
    | with_reducible refine vt_l ?_
    | with_reducible refine vl_t ?_
    | with_reducible refine vl_l ?_
    | with_reducible refine va_all ?_
    | with_reducible refine va_any ?_
    | with_reducible refine vsrc_t ?_
    | with_reducible refine vsrc_l ?_
    | ((with_reducible refine exT ?_ ?_); focus rfl)
    | ((with_reducible refine exF ?_ ?_); focus rfl)
    | ((with_reducible refine exT' ?_ ?_); focus rfl)
    | ((with_reducible refine exF' ?_ ?_); focus rfl)
    | ((with_reducible refine exTd ?_ ?_); focus (first | rfl | assumption | omega))
    | ((with_reducible refine exFd ?_ ?_); focus (first | rfl | assumption | omega))
    | ((with_reducible refine exTd' ?_ ?_); focus (first | rfl | assumption | omega))
    | ((with_reducible refine exFd' ?_ ?_); focus (first | rfl | assumption | omega))
    | with_reducible refine exN ?_
    | with_reducible refine exI ?_
    | with_reducible refine exPn ?_
    | with_reducible refine exPi ?_
    | ((with_reducible refine len_and ?_ ?_); focus exact Nat.le_of_ble_eq_true rfl)))
/-! ### k02 -/
theorem inv_inv {n : Nat} {p : List Nat} (h : IsP n p) : invL (invL p) = p := by
  refine ga_ext (n := n) (inv_len h.inv) h.len fun t ht => ?_
  rw [ga_inv h.inv ht]
  refine h.inv.inj (idx_lt h.inv ht) (h.lt ht) ?_
  rw [ga_idx h.inv ht, ga_inv h (h.lt ht), idx_ga h ht]
def thing (i : Nat) : Str := "thing " ++ MP.strOfInt (i : Int)
theorem thing_asc : ∀ i < 6, MP.asc (.str (thing i)) = true := by decide +kernel
theorem thing_inj : ∀ i < 6, ∀ j < 6, thing i = thing j → i = j := by decide +kernel
def thingsL (l : List Nat) : List PyData := l.map fun i => .str (thing i)
theorem eqv_things : ∀ {a b : List Nat}, (∀ i ∈ a, i < 6) → (∀ i ∈ b, i < 6) → PyData.eqvAll (thingsL a) (thingsL b) = decide (a = b)
  | [], [], _, _ => rfl
  | [], _ :: _, _, _ => rfl
  | _ :: _, [], _, _ => rfl
  | x :: a, y :: b, h1, h2 => by
    have ih := eqv_things (a := a) (b := b) (fun i hi => h1 i (List.mem_cons_of_mem _ hi)) (fun i hi => h2 i (List.mem_cons_of_mem _ hi))
    show (decide (thing x = thing y) && PyData.eqvAll (thingsL a) (thingsL b)) = _
    rw [ih]
    by_cases e : x = y
    · subst e; by_cases e2 : a = b <;> simp [e2]
    · rw [decide_eq_false fun z => e (thing_inj x (h1 x (List.mem_cons_self ..)) y (h2 y (List.mem_cons_self ..)) z)]
      simp [e]
theorem things_asc : ∀ {a : List Nat}, (∀ i ∈ a, i < 6) → MP.ascs (thingsL a) = true ∧ noDicts (thingsL a) = true ∧ PyData.depthAll (thingsL a) = 0
  | [], _ => ⟨rfl, rfl, rfl⟩
  | x :: a, h => by
    obtain ⟨h1, h2, h3⟩ := things_asc (a := a) fun i hi => h i (List.mem_cons_of_mem _ hi)
    have h4 := thing_asc x (h x (List.mem_cons_self ..))
    refine ⟨?_, ?_, ?_⟩
    · show (MP.asc (.str (thing x)) && MP.ascs (thingsL a)) = true
      rw [h4, h1]; rfl
    · show (noDict (.str (thing x)) && noDicts (thingsL a)) = true
      rw [h2]; rfl
    · show max (PyData.depth (.str (thing x))) (PyData.depthAll (thingsL a)) = 0
      rw [h3]; rfl
theorem shp_things {a : List Nat} (h : ∀ i ∈ a, i < 6) : shp (.list (thingsL a)) = true := by
  obtain ⟨h1, h2, h3⟩ := things_asc h
  have h4 := MP.asc_lay (.list (thingsL a)) (by simp only [MP.asc]; exact h1)
  unfold shp PySem.SeqAt.shaped
  rw [h4]
  simp only [noDict, PyData.depth, h2, h3]
  rfl
section
variable {k : Nat} {p q : List Nat}
theorem mv_things (h : IsP k p) : mvL (thingsL (List.range k)) p = thingsL (invL p) := by
  unfold mvL
  show _ = (invL p).map _
  refine List.map_congr_left fun i hi => ?_
  have hi := h.inv.mem.mp hi
  unfold thingsL
  rw [List.getD_eq_getElem?_getD, List.getElem?_map, List.getElem?_range hi]; rfl
theorem inv_lt6 (hk : k ≤ 6) (h : IsP k p) : ∀ i ∈ invL p, i < 6 := fun i hi => by have := h.inv.mem.mp hi; omega
theorem range_lt6 (hk : k ≤ 6) : ∀ i ∈ List.range k, i < 6 := fun i hi => by have := List.mem_range.mp hi; omega
variable {ρ : Rn} {Q : VV → Rn → Prop}
theorem vc_neT (hk : k ≤ 6) (h1 : IsP k p) (h2 : IsP k q) (w : Q (.bool (!decide (p = q)), false) ρ) : VOk (vcmp .ne (.list (mvL (thingsL (List.range k)) p)) (.list (mvL (thingsL (List.range k)) q)) ρ) Q := by
  rw [mv_things h1, mv_things h2]
  refine vc_ne (shp_things (inv_lt6 hk h1)) (shp_things (inv_lt6 hk h2)) ?_
  have e : PyData.eqv (.list (thingsL (invL p))) (.list (thingsL (invL q))) = decide (p = q) := by
    show PyData.eqvAll _ _ = _
    rw [eqv_things (inv_lt6 hk h1) (inv_lt6 hk h2)]
    by_cases e : p = q
    · subst e; rw [decide_eq_true rfl, decide_eq_true rfl]
    · rw [decide_eq_false e, decide_eq_false]
      intro z
      exact e (by rw [← inv_inv h1, ← inv_inv h2, z])
  rw [e]; exact w
theorem vc_neTs (hk : k ≤ 6) {xs ys : List PyData} (h1 : IsP k p) (h2 : IsP k q) (e1 : xs = mvL (thingsL (List.range k)) p) (e2 : ys = mvL (thingsL (List.range k)) q) (w : Q (.bool (!decide (p = q)), false) ρ) : VOk (vcmp .ne (.list xs) (.list ys) ρ) Q := by
  rw [e1, e2]; exact vc_neT hk h1 h2 w
theorem rd_sl {C : VCfg} {env : VEn} {i : Nat} {d : PyData} {f : Bool} (h : env[i]? = some (slOf (d, f))) (w : Q (d, false) ρ) : VOk (rdV env (.var i) (veE C (.var i) env) ρ) Q := by
  cases f
  · exact rd_val h w
  · exact rd_own h w
theorem two_good {k : Nat} {a b : List Nat} (hk : k ≤ 8) (ha : IsP k a) (hb : IsP k b) : G 200 2 3 (.list [encL a, encL b]) := by
  have h1 := encL_good hk ha
  have h2 := encL_good hk hb
  have w1 := h1.g.w
  have w2 := h2.g.w
  refine GL.list (D := 1) ⟨by simp only [MP.wts]; omega, fun d hd => ?_⟩
  simp only [List.mem_cons, List.not_mem_nil, or_false] at hd
  rcases hd with rfl | rfl
  · exact ⟨h1.g.dep, h1.g.a, h1.b⟩
  · exact ⟨h2.g.dep, h2.g.a, h2.b⟩
end
namespace K02
def check : Fn := ⟨1, 13, .cons (.set 1 (.bin .add (.int 1) (.call "_law_draw" (.cons (.var 0) (.cons (.int 6) (.nil)))))) (.cons (.par [2, 3] (.cons (.bi .tuple (.cons (.call "_law_shuffle" (.cons (.var 0) (.cons (.lrng (.one (.var 1))) (.nil)))) (.nil))) (.cons (.call "_law_permutation" (.cons (.var 0) (.cons (.var 1) (.nil)))) (.nil)))) (.cons (.par [4, 5] (.cons (.lc (.nm 12) (.rng (.one (.var 1))) (.none) (.bin .add (.str "thing ") (.bi .str (.cons (.var 12) (.nil)))) [12]) (.cons (.bi .repr (.cons (.lst (.cons (.var 2) (.cons (.var 3) (.nil)))) (.nil))) (.nil)))) (.cons (.set 6 (.call "compose" (.cons (.var 2) (.cons (.var 3) (.nil))))) (.cons (.ifs (.or (.cmp .ne (.call "_law_moved" (.cons (.var 4) (.cons (.var 6) (.nil)))) (.call "_law_moved" (.cons (.call "_law_moved" (.cons (.var 4) (.cons (.var 2) (.nil)))) (.cons (.var 3) (.nil))))) (.not (.isi (.var 6) [.tuple]))) (.cons (.ret (.bool false)) (.nil)) (.nil)) (.cons (.set 7 (.lst (.cons (.callk "compose" (.nil) (.cons (.bi .list (.cons (.var 3) (.nil))) (.cons (.bi .list (.cons (.var 2) (.nil))) (.nil))) [1, 0]) (.cons (.callk "inverse" (.nil) (.cons (.bi .list (.cons (.var 2) (.nil))) (.nil)) [0]) (.nil))))) (.cons (.ifs (.not (.call "_law_same" (.cons (.var 7) (.cons (.lst (.cons (.var 6) (.cons (.call "inverse" (.cons (.var 2) (.nil))) (.nil)))) (.nil))))) (.cons (.ret (.bool false)) (.nil)) (.nil)) (.cons (.ifs (.cmp .ne (.call "_law_moved" (.cons (.call "_law_moved" (.cons (.var 4) (.cons (.var 2) (.nil)))) (.cons (.call "inverse" (.cons (.var 2) (.nil))) (.nil)))) (.var 4)) (.cons (.ret (.bool false)) (.nil)) (.nil)) (.cons (.ifs (.not (.call "_law_same" (.cons (.call "identity" (.cons (.var 1) (.nil))) (.cons (.trng (.one (.var 1))) (.nil))))) (.cons (.ret (.bool false)) (.nil)) (.nil)) (.cons (.ifs (.not (.call "_law_same" (.cons (.lst (.cons (.callk "identity" (.nil) (.cons (.var 1) (.nil)) [0]) (.cons (.call "compose" (.cons (.var 2) (.cons (.call "inverse" (.cons (.var 2) (.nil))) (.nil)))) (.nil)))) (.cons (.lst (.cons (.call "identity" (.cons (.var 1) (.nil))) (.cons (.call "identity" (.cons (.var 1) (.nil))) (.nil)))) (.nil))))) (.cons (.ret (.bool false)) (.nil)) (.nil)) (.cons (.par [8, 9] (.cons (.int 1) (.cons (.call "_law_moved" (.cons (.var 4) (.cons (.var 2) (.nil)))) (.nil)))) (.cons (.whl (.cmp .ne (.var 9) (.var 4)) (.cons (.par [8, 9] (.cons (.bin .add (.var 8) (.int 1)) (.cons (.call "_law_moved" (.cons (.var 9) (.cons (.var 2) (.nil)))) (.nil)))) (.nil))) (.cons (.ifs (.not (.call "_law_same" (.cons (.lst (.cons (.call "order" (.cons (.var 2) (.nil))) (.cons (.callk "order" (.nil) (.cons (.bi .list (.cons (.var 2) (.nil))) (.nil)) [0]) (.nil)))) (.cons (.lst (.cons (.var 8) (.cons (.var 8) (.nil)))) (.nil))))) (.cons (.ret (.bool false)) (.nil)) (.nil)) (.cons (.loop (.nm 10) (.val (.tup (.cons (.int 0) (.cons (.int 1) (.cons (.var 8) (.cons (.bin .mul (.call "_law_draw" (.cons (.var 0) (.cons (.bin .pow (.int 10) (.int 6)) (.nil)))) (.call "_law_draw" (.cons (.var 0) (.cons (.bin .pow (.int 10) (.int 6)) (.nil))))) (.cons (.bin .pow (.int 10) (.int 12)) (.cons (.bin .sub (.int 0) (.call "_law_draw" (.cons (.var 0) (.cons (.int 99) (.nil))))) (.nil))))))))) (.cons (.set 11 (.call "_law_repeat" (.cons (.var 4) (.cons (.var 2) (.cons (.bin .mod (.var 10) (.var 8)) (.nil)))))) (.cons (.set 6 (.call "power" (.cons (.var 2) (.cons (.var 10) (.nil))))) (.cons (.ifs (.or (.cmp .ne (.call "_law_moved" (.cons (.var 4) (.cons (.var 6) (.nil)))) (.var 11)) (.not (.call "_law_same" (.cons (.callk "power" (.nil) (.cons (.var 10) (.cons (.bi .list (.cons (.var 2) (.nil))) (.nil))) [1, 0]) (.cons (.var 6) (.nil)))))) (.cons (.ret (.bool false)) (.nil)) (.nil)) (.nil))))) (.cons (.ret (.cmp .eq (.bi .repr (.cons (.lst (.cons (.var 2) (.cons (.var 3) (.nil)))) (.nil))) (.var 5))) (.nil)))))))))))))))⟩
end K02
section
variable {P : VProg} {F : Nat}
structure K02P (P : VProg) : Prop where
  same : P.fns.lookup ("_law_same" : Str) = some MP.H.same
  shuf : P.fns.lookup ("_law_shuffle" : Str) = some MP.H.shuffle
  gperm : P.fns.lookup ("_law_permutation" : Str) = some H.permutation
  ident : P.fns.lookup ("identity" : Str) = some H.identity
  comp : P.fns.lookup ("compose" : Str) = some H.compose
  inv : P.fns.lookup ("inverse" : Str) = some H.inverse
  ord : P.fns.lookup ("order" : Str) = some H.order
  pow : P.fns.lookup ("power" : Str) = some H.power
  mov : P.fns.lookup ("_law_moved" : Str) = some H.moved
  rept : P.fns.lookup ("_law_repeat" : Str) = some H.repeated
  check : P.fns.lookup ("_law_check" : Str) = some K02.check
theorem k02_check (hF : 100 < F) (hP : K02P P) : CheckOk P F 199 "_law_check" 100 := by
  intro ρ h
  have main : VOk (vcallN P F 199 "_law_check" [.rng] ρ) fun v ρ' => v.1 = .bool true ∧ ρ'.c ≤ ρ.c + 100 := by
    have h0 : RnOk ρ ρ.c := ⟨h.1, h.2.1, h.2.2.1, h.2.2.2.1, Int.le_refl _⟩
    have hc := h.2.2.2.2
    refine v_call hP.check (by decide) rfl ?_
    show VOkS (veSs _ _ K02.check.body [.rng, .none, .none, .none, .none, .none, .none, .none, .none, .none, .none, .none, .none] ρ) _
    unfold K02.check
    walk_at "v"
    refine v_draw h0 (by omega) (by decide) (by decide) fun k ρ1 hk0 hk1 h1 => ?_
    obtain ⟨k, rfl⟩ : ∃ j : Nat, k = j := ⟨k.toNat, by omega⟩
    have ek : (1 + (k : Int)) = ((k + 1 : Nat) : Int) := by omega
    walk_at "v"
    refine ⟨k + 1, by show PyData.int (1 + (k : Int)) = _; rw [ek], by omega, ?_⟩
    walk_at "v"
    rw [ek]
    generalize hn : k + 1 = n
    have hn1 : 1 ≤ n := by omega
    have hn6 : n ≤ 6 := by omega
    refine shuffle_call hP.shuf (by decide) h1 (by simp; omega) (by simp; omega) fun ys ρ2 hp h2 => ?_
    have h2 := rn_up (b := ρ.c + 10) h2 (by simp; omega)
    obtain ⟨l, rfl, hl⟩ := ints_perm (p := List.range n) hp
    have hl : IsP n l := hl
    walk_at "v"
    refine permutation_call hP.shuf hP.gperm (by decide) hn1 (by omega) h2 (by omega) fun r ρ3 hr h3 => ?_
    have h3 := rn_up (b := ρ.c + 20) h3 (by omega)
    walk_at "v"
    refine ⟨rfl, vs_nx (vs_cons ?_)⟩
    show VOkS (veS _ _ _ [.rng, .val (.int (n : Int)), .val (encL l), .val (encL r), .none, .none, .none, .none, .none, .none, .none, .none, .none] ρ3) _
    walk_at "v"
    refine ve_lcM (fun d => match d with | .int i => .str (thing i.toNat) | _ => .none) (vi_rng (ve_var (by rfl) ⟨n, rfl, by omega, _, rfl, ?_, fun x hx => ?_, ?_⟩))
    · simp; omega
    · obtain ⟨i, hi, rfl⟩ := List.mem_map.mp hx
      have hi := List.mem_range.mp hi
      show VOk (veE _ _ [.rng, .val (.int (n : Int)), .val (encL l), .val (encL r), .none, .none, .none, .none, .none, .none, .none, .none, .val (.int (i : Int))] ρ3) _
      walk_at "v"
      refine v_strI (Nat.lt_of_le_of_lt (MP.log2_le (k := 3) (by omega)) (by decide)) ?_
      refine vb_addS ?_ ⟨rfl, rfl⟩
      have hall : ∀ i < 6, ("thing " : Str).length + (MP.strOfInt (i : Nat)).length ≤ 1000 := by decide +kernel
      exact Nat.le_trans (hall i (by omega)) (Nat.le_of_ble_eq_true rfl)
    have eth : ((List.range n).map fun (i : Nat) => PyData.int (i : Int)).map (fun d => match d with | .int i => .str (thing i.toNat) | _ => .none) = thingsL (List.range n) := by
      unfold thingsL; rw [List.map_map]; rfl
    rw [eth]
    have glr := two_good (k := n) (by omega) hl hr
    walk_at "v"
    refine glr.repr (by decide) (by decide) (by decide) ?_
    walk_at "v"
    refine ⟨rfl, vs_nx (vs_cons ?_)⟩
    show VOkS (veS _ _ _ [.rng, .val (.int (n : Int)), .val (encL l), .val (encL r), .own (.list (thingsL (List.range n))), .val (.str (PyData.shown (.list [encL l, encL r]))), .none, .none, .none, .none, .none, .none, .none] ρ3) _
    generalize hbf : PyData.shown (.list [encL l, encL r]) = bf
    have hth : (thingsL (List.range n)).length = n := by unfold thingsL; simp
    have e0 : thingsL (List.range n) = mvL (thingsL (List.range n)) (List.range n) := (mvL_id hth).symm
    walk_at "v"
    refine compose_call (b := true) (b2 := true) hP.comp (by decide) (by omega) hl hr ?_
    walk_at "v"
    have hlr := hl.cmp hr
    show VOkS (veS _ _ _ [.rng, .val (.int (n : Int)), .val (encL l), .val (encL r), .own (.list (thingsL (List.range n))), .val (.str bf), .val (encL (cmpL l r)), .none, .none, .none, .none, .none, .none] ρ3) _
    refine vs_ifE (env2 := [.rng, .val (.int (n : Int)), .val (encL l), .val (encL r), .val (.list (thingsL (List.range n))), .val (.str bf), .val (encL (cmpL l r)), .none, .none, .none, .none, .none, .none]) (by with_unfolding_all rfl) ?_
    walk_at "v"
    refine moved_call (b := true) hP.mov (by decide) (by omega) hlr hth ?_
    walk_at "v"
    refine moved_call (b := true) hP.mov (by decide) (by omega) hl hth ?_
    walk_at "v"
    refine moved_call (b := true) hP.mov (by decide) (by omega) hr (mvL_len hl) ?_
    refine vc_neTs hn6 hlr hlr rfl (mvL_mvL hl hr) ?_
    refine exF' (by rw [decide_eq_true rfl]; rfl) ?_
    walk_at "v"
    refine vl_t (xs := natsP _) ?_
    walk_at "v"
    refine vl_t (xs := natsP _) ?_
    walk_at "v"
    refine compose_call (b := false) (b2 := false) hP.comp (by decide) (by omega) hl hr ?_
    walk_at "v"
    refine vl_t (xs := natsP _) ?_
    walk_at "v"
    refine inverse_call (b := false) hP.inv (by decide) (by omega) hl ?_
    walk_at "v"
    have gci := two_good (k := n) (by omega) hlr hl.inv
    show VOkS (veS _ _ _ [.rng, .val (.int (n : Int)), .val (encL l), .val (encL r), .val (.list (thingsL (List.range n))), .val (.str bf), .val (encL (cmpL l r)), .own (.list [encL (cmpL l r), encL (invL l)]), .none, .none, .none, .none, .none] ρ3) _
    refine vs_ifE (env2 := [.rng, .val (.int (n : Int)), .val (encL l), .val (encL r), .val (.list (thingsL (List.range n))), .val (.str bf), .val (encL (cmpL l r)), .val (.list [encL (cmpL l r), encL (invL l)]), .none, .none, .none, .none, .none]) (by with_unfolding_all rfl) ?_
    walk_at "v"
    refine inverse_call (b := true) hP.inv (by decide) (by omega) hl ?_
    walk_at "v"
    refine same_call hP.same (W := 200) (by decide) 2 _ _ _ _ (by decide) (by decide) gci.g ?_
    walk_at "v"
    refine moved_call (b := true) hP.mov (by decide) (by omega) hl hth ?_
    walk_at "v"
    refine inverse_call (b := true) hP.inv (by decide) (by omega) hl ?_
    walk_at "v"
    refine moved_call (b := true) hP.mov (by decide) (by omega) hl.inv (mvL_len hl) ?_
    walk_at "v"
    refine vc_neTs hn6 isP_id isP_id (by rw [mvL_mvL hl hl.inv, cmp_inv hl]) e0 ?_
    refine exF (by rw [decide_eq_true rfl]; rfl) ?_
    walk_at "v"
    refine identity_call hP.ident (by decide) (by omega) ?_
    walk_at "v"
    refine ⟨n, rfl, by omega, ?_⟩
    walk_at "v"
    refine same_call hP.same (W := 200) (by decide) 1 _ (encL (List.range n)) _ _ (by decide) (by decide) ((encL_good (k := n) (by omega) isP_id).mono (W' := 200) (by omega) (Nat.le_refl _) (Nat.le_refl _)).g ?_
    walk_at "v"
    refine identity_call hP.ident (by decide) (by omega) ?_
    walk_at "v"
    refine inverse_call (b := true) hP.inv (by decide) (by omega) hl ?_
    walk_at "v"
    refine compose_call (b := true) (b2 := true) hP.comp (by decide) (by omega) hl hl.inv ?_
    rw [cmp_inv hl]
    walk_at "v"
    refine identity_call hP.ident (by decide) (by omega) ?_
    walk_at "v"
    refine identity_call hP.ident (by decide) (by omega) ?_
    walk_at "v"
    refine same_call hP.same (W := 200) (by decide) 2 _ _ _ _ (by decide) (by decide) (two_good (k := n) (by omega) isP_id isP_id).g ?_
    walk_at "v"
    refine moved_call (b := true) hP.mov (by decide) (by omega) hl hth ?_
    walk_at "v"
    obtain ⟨o, ho⟩ := ord_has hn6 hl
    have hll := hl.len
    have o1 := ho.pos
    have o2 := ho.le
    refine ⟨rfl, vs_nx (vs_cons ?_)⟩
    refine vs_whl (I := fun m e ρ' => ρ' = ρ3 ∧ ∃ t : Nat, m + t = o ∧ 1 ≤ t ∧ e = [.rng, .val (.int (n : Int)), .val (encL l), .val (encL r), .val (.list (thingsL (List.range n))), .val (.str bf), .val (encL (cmpL l r)), .val (.list [encL (cmpL l r), encL (invL l)]), .val (.int (t : Int)), .own (.list (mvL (thingsL (List.range n)) (powL l t))), .none, .none, .none]) (o - 1) (by omega) ⟨rfl, 1, by omega, by omega, by rw [pow_one hl]; rfl⟩ ?_
    rintro m e ρ' ⟨rfl, t, t1, t2, rfl⟩
    walk_at "v"
    refine vc_neTs hn6 (hl.pow t) isP_id rfl e0 ?_
    by_cases ht : t = o
    rotate_left
    · refine exT (by rw [decide_eq_false (fun z => ho.min t t2 (by omega) (by rw [z, hll]))]; rfl) ?_
      refine vs_cons (vs_parE (env2 := [.rng, .val (.int (n : Int)), .val (encL l), .val (encL r), .val (.list (thingsL (List.range n))), .val (.str bf), .val (encL (cmpL l r)), .val (.list [encL (cmpL l r), encL (invL l)]), .val (.int (t : Int)), .val (.list (mvL (thingsL (List.range n)) (powL l t))), .none, .none, .none]) (by with_unfolding_all rfl) ?_)
      walk_at "v"
      refine moved_call (b := true) hP.mov (by decide) (by omega) hl (mvL_len (hl.pow t)) ?_
      rw [mvL_mvL (hl.pow t) hl]
      walk_at "v"
      exact ⟨rfl, vs_nx (vs_nil ⟨m - 1, by omega, rfl, t + 1, by omega, by omega, rfl⟩)⟩
    subst ht
    refine exF (by rw [decide_eq_true (by rw [ho.id, hll])]; rfl) ?_
    walk_at "v"
    refine order_call (b := true) hP.ord hP.ident hP.comp hF (by decide) (by omega) hl ho ?_
    walk_at "v"
    refine vl_t (xs := natsP _) ?_
    walk_at "v"
    refine order_call (b := false) hP.ord hP.ident hP.comp hF (by decide) (by omega) hl ho ?_
    walk_at "v"
    refine same_call hP.same (W := 100) (by decide) 2 _ (.list [.int (t : Int), .int (t : Int)]) _ _ (by decide) (by decide) ?_ ?_
    · have := MP.log2_le (n := t) (k := 3) (by omega)
      exact ⟨by simp only [MP.wt, MP.wts, Int.natAbs_natCast]; omega, Nat.le_of_ble_eq_true rfl, rfl⟩
    walk_at "v"
    show VOkS (veS _ _ _ [.rng, .val (.int (n : Int)), .val (encL l), .val (encL r), .val (.list (thingsL (List.range n))), .val (.str bf), .val (encL (cmpL l r)), .val (.list [encL (cmpL l r), encL (invL l)]), .val (.int (t : Int)), .own (.list (mvL (thingsL (List.range n)) (powL l t))), .none, .none, .none] _) _
    refine vs_loop (by with_unfolding_all rfl) (vi_e (by rfl) ?_)
    walk_at "v"
    refine vb_pow (by decide) ?_
    walk_at "v"
    refine v_draw h3 (by omega) (by decide) (by decide) fun a ρ4 ha0 ha1 h4 => ?_
    refine rd_e (by rfl) ?_
    walk_at "v"
    refine vb_pow (by decide) ?_
    walk_at "v"
    refine v_draw h4 (by omega) (by decide) (by decide) fun c ρ5 hc0 hc1 h5 => ?_
    have ha1 : a < 1000000 := ha1
    have hc1 : c < 1000000 := hc1
    refine vb_mul (.inl ⟨by omega, by omega⟩) ?_
    walk_at "v"
    refine vb_pow (by decide) ?_
    walk_at "v"
    refine v_draw h5 (by omega) (by decide) (by decide) fun g ρ6 hg0 hg1 h6 => ?_
    walk_at "v"
    have h6 := rn_up (b := ρ.c + 90) h6 (by omega)
    refine ⟨fun rest en ρ' => ρ' = ρ6 ∧ ∃ (vs : List Int) (x6 x10 : Sl) (w11 : Option VV), rest = vs.map (fun i => .one (.int i)) ∧ notOwn x6 = true ∧ notOwn x10 = true ∧ en = [.rng, .val (.int (n : Int)), .val (encL l), .val (encL r), .val (.list (thingsL (List.range n))), .val (.str bf), x6, .val (.list [encL (cmpL l r), encL (invL l)]), .val (.int (t : Int)), .own (.list (mvL (thingsL (List.range n)) (powL l t))), x10, (match w11 with | none => .none | some w => slOf w), .none], ⟨rfl, [0, 1, (t : Int), a * c, 10 ^ (12 : Int).toNat, 0 - g], .val (encL (cmpL l r)), .none, none, rfl, rfl, rfl, rfl⟩, ?_, ?_⟩
    · rintro x rest en ρ' ⟨rfl, vs, x6, x10, w11, e1, a6, a10, rfl⟩
      cases vs with
      | nil => cases e1
      | cons v vs =>
        injection e1 with ha hb
        subst ha
        refine ⟨[.rng, .val (.int (n : Int)), .val (encL l), .val (encL r), .val (.list (thingsL (List.range n))), .val (.str bf), x6, .val (.list [encL (cmpL l r), encL (invL l)]), .val (.int (t : Int)), .own (.list (mvL (thingsL (List.range n)) (powL l t))), .val (.int v), (match w11 with | none => .none | some w => slOf w), .none], rfl, ?_⟩
        obtain ⟨z, hz⟩ : ∃ z : Nat, v % (t : Int) = z := ⟨(v % (t : Int)).toNat, by have := Int.emod_nonneg v (show (t : Int) ≠ 0 by omega); omega⟩
        have hz2 : (v % (t : Int)).toNat = z := by omega
        have hz3 : z < t := by have := Int.emod_lt_of_pos v (show (0 : Int) < t by omega); omega
        refine vs_cons (vs_set (by with_unfolding_all rfl) ?_)
        walk_at "v"
        rw [hz]
        refine repeat_call (b := true) hP.rept hP.mov (by decide) (by omega) hl hth (by omega) fun f => ?_
        refine vs_nx (vs_cons ?_)
        show VOkS (veS _ _ _ [.rng, .val (.int (n : Int)), .val (encL l), .val (encL r), .val (.list (thingsL (List.range n))), .val (.str bf), x6, .val (.list [encL (cmpL l r), encL (invL l)]), .val (.int (t : Int)), .own (.list (mvL (thingsL (List.range n)) (powL l t))), .val (.int v), slOf (.list (mvL (thingsL (List.range n)) (powL l z)), f), .none] _) _
        refine vs_set (by with_unfolding_all rfl) ?_
        walk_at "v"
        refine power_call (b := true) hP.pow hP.ord hP.ident hP.comp hF (by decide) (by omega) hl ho ?_
        rw [hz2]
        refine vs_nx (vs_cons ?_)
        show VOkS (veS _ _ _ [.rng, .val (.int (n : Int)), .val (encL l), .val (encL r), .val (.list (thingsL (List.range n))), .val (.str bf), .val (encL (powL l z)), .val (.list [encL (cmpL l r), encL (invL l)]), .val (.int (t : Int)), .own (.list (mvL (thingsL (List.range n)) (powL l t))), .val (.int v), slOf (.list (mvL (thingsL (List.range n)) (powL l z)), f), .none] _) _
        have hpz := hl.pow z
        refine vs_if (by with_unfolding_all rfl) ?_
        refine ve_or (ve_cmp (rd_e (by rfl) ?_))
        walk_at "v"
        refine moved_call (b := true) hP.mov (by decide) (by omega) hpz hth ?_
        refine rd_sl (by rfl) ?_
        refine vc_neTs hn6 hpz hpz rfl rfl ?_
        refine exF' (by rw [decide_eq_true rfl]; rfl) ?_
        walk_at "v"
        refine vl_t (xs := natsP _) ?_
        walk_at "v"
        refine power_call (b := false) hP.pow hP.ord hP.ident hP.comp hF (by decide) (by omega) hl ho ?_
        rw [hz2]
        walk_at "v"
        refine same_call hP.same (W := 200) (by decide) 1 _ (encL (powL l z)) _ _ (by decide) (by decide) ((encL_good (k := n) (by omega) hpz).mono (W' := 200) (by omega) (Nat.le_refl _) (Nat.le_refl _)).g ?_
        walk_at "v"
        exact ⟨rfl, vs, .val (encL (powL l z)), .val (.int v), some (.list (mvL (thingsL (List.range n)) (powL l z)), f), hb, rfl, rfl, rfl⟩
    · rintro en ρ' ⟨rfl, vs, x6, x10, w11, e1, a6, a10, rfl⟩
      refine vs_nx (vs_cons (vs_ret (by rfl) (by with_unfolding_all rfl) ?_))
      walk_at "v"
      refine glr.repr (by decide) (by decide) (by decide) ?_
      rw [hbf]
      refine rd_val (by rfl) ?_
      refine vc_eqS (hbf ▸ shown_asc _ glr.g.a) ?_
      exact vs_rt ⟨rfl, by have := h6.2.2.2.2; omega⟩
  obtain ⟨v, ρ', e1, e2, e3⟩ := VOk.get main
  obtain ⟨d, b⟩ := v
  simp only at e2
  subst e2
  exact ⟨ρ', b, e1, e3⟩
end
end VE
set_option Elab.async false
set_option linter.all false
set_option maxRecDepth 100000
set_option maxHeartbeats 0
namespace Law
open PySem PySem.Spec PyProof.Rows L2 MP
def Fu : Nat := 100000
def vp : VE.VProg := ⟨(progOf es).fns, fun _ => none⟩
theorem prm : VE.K02P vp := by constructor <;> kernel_rfl
theorem plain (ns : List Int) (h : ns.length ≤ 63) : ∃ st, callN (progOf es) Fu 200 "law" [.frz (ns.map .int)] [] = .ok (.bool true) st :=
  VE.law_top (VP := vp) (d := 198) (m := 3) (K := 3) (N := 100) rfl (fun x d h => by cases h) (by kernel_rfl) (by kernel_rfl) (by decide) (by decide) (by kernel_rfl) (VE.k02_check (by decide) prm) (by decide) ns h
end Law

open PySem PySem.W PySem.Calls PyProof.Rows
theorem PySem.Challenge.cw_elderways_k02_operations_on_permutations_holds : PySem.Challenge.rw_elderways_k02_operations_on_permutations.Holds := by
  w_on; o_law
  refine HandSHeadRun.head_any (r := OpenLaw.row PySem.Challenge.rw_elderways_k02_operations_on_permutations) (q := view (OpenLaw.row PySem.Challenge.rw_elderways_k02_operations_on_permutations).prog [15]) (H := Law.hk) (ob := Law.ob) (M := 1000) (loose := Law.lo) (d := HandSHeadRun.topDef (OpenLaw.row PySem.Challenge.rw_elderways_k02_operations_on_permutations).prog 15) (kwd := []) Law.ob_eq
    (by kernel_rfl) (fun s => by kernel_rfl) Law.run (by kernel_rfl) (by kernel_rfl) (by kernel_rfl) (by rfl) (by first | assumption | decide +kernel) (by decide +kernel) ⟨rfl, rfl, rfl, rfl, rfl, by decide +kernel⟩ ?hw ?hc
  case hw => w_witness2
  case hc =>
    refine MP.walk_ofG (l := PySem.Challenge.rw_elderways_k02_operations_on_permutations) (n := 63) (k := 200) (x := "_law_script") rfl (by decide) (by kernel_rfl) ⟨rfl, by decide, by decide⟩ ?F
    intro w mg fa h Y G hmg0
    obtain ⟨K, KX, c⟩ := Y
    have hmg : mg ("law" : PySem.Str) = some (.ref fa) := by
      have e : (HandSHeadRun.topDef (OpenLaw.row PySem.Challenge.rw_elderways_k02_operations_on_permutations).prog 15).name = ("law" : PySem.Str) := by kernel_rfl
      rw [← e]
      exact hmg0
    obtain ⟨fd, St⟩ := MP.stands_of KX G c Law.at_all Law.bs_all
    exact MP.law_end KX St Law.nd Law.ck_all Law.bo_all Law.law_in (by kernel_rfl) (by kernel_rfl) hmg Law.plain
