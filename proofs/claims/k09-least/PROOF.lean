import PyProof.Rows.All
import Wide.All
import OpenK.AllK
import Wide.FinOn
import PySem.Challenge.RW_wirenames_k09_whole_enough_by_the_least
import HandS.ForMost
import HandS.ForExc
import HandS.Flow
import HandS.Defaults
import HandS.Conv
import HandS.RaiseMore
import HandS.More
import HandS.TupAny
import HandS.Deep
import HandS.IsInst
import PyProof.ReprLen
import PyProof.ListStr
import HandS.Text
import HandS.ExcCtx
import HandS.HeadWalk
import HandS.Small
import HandS.Zip
import HandS.Style
import HandS.Head0
import HandS.Head1
import HandS.Head2
import HandS.HeadEnd
import HandS.HeadHook1
import HandS.HeadHook2
import HandS.HeadHook3
import HandS.HeadHook4
/-! DM: a plain interpreter of the part of Python that these laws use, over values and a heap of numbered objects. -/
namespace DM

abbrev Tx := List Nat

/-- a value: texts by their signs, tuples by their items, all that changes by its number -/
inductive MV where
  | non | bl (b : Bool) | int (i : Int) | str (s : Tx)
  | tup (l : List MV)
  | ref (n : Nat)
  | kl (l : List MV)                 -- a list that is never written: of the text's top, the script
  | kd (l : List (MV × MV))          -- a dict of the text's top, never written
  | fn (i : Nat)
  | exc (c : Nat) (l : List MV)
  deriving Repr, Inhabited

/-- an object -/
inductive MO where
  | lst (l : List MV)
  | dct (t lk : Bool) (l : List (MV × MV))   -- keys: ints and texts; t: tuples of such; lk: it is walked
  | ins (c : Nat) (fs : List (Nat × MV))
  | set (l : List MV)
  deriving Repr, Inhabited

structure MH where
  objs : List MO
  deriving Repr, Inhabited

namespace MH
def get (h : MH) (n : Nat) : Option MO := h.objs[n]?
def put (h : MH) (n : Nat) (o : MO) : MH := ⟨h.objs.set n o⟩
def push (h : MH) (o : MO) : MH := ⟨h.objs ++ [o]⟩
def size (h : MH) : Nat := h.objs.length
end MH

inductive R (α : Type) where
  | ok (a : α) (h : MH)
  | ex (c : Nat) (l : List MV) (h : MH)
  | stk
  deriving Repr, Inhabited

def R.bind {α β : Type} (r : R α) (f : α → MH → R β) : R β := match r with
  | .ok a h => f a h
  | .ex c l h => .ex c l h
  | .stk => .stk

/-- where nothing may be raised -/
def R.noEx {α : Type} (r : R α) : R α := match r with
  | .ex _ _ _ => .stk
  | r => r
/-- the greatest length -/
def LIM : Nat := 16777216

/-! ### data: values with all that they hold -/
inductive PD where
  | non | bl (b : Bool) | int (i : Int) | str (s : Tx)
  | tup (l : List PD) | lst (l : List PD) | dct (l : List (PD × PD))
  deriving Repr, Inhabited

def dat : Nat → MH → MV → Option PD
  | _, _, .non => some .non
  | _, _, .bl b => some (.bl b)
  | _, _, .int i => some (.int i)
  | _, _, .str s => some (.str s)
  | n + 1, h, .tup l => (l.mapM (dat n h)).map .tup
  | n + 1, h, .kl l => (l.mapM (dat n h)).map .lst
  | n + 1, h, .ref r => match h.get r with
    | some (.lst l) => (l.mapM (dat n h)).map .lst
    | _ => none
  | _, _, _ => none

mutual
/-- == of data -/
def eqP : PD → PD → Bool
  | .non, .non => true
  | .bl a, .bl b => a == b
  | .bl a, .int j => (if a then 1 else 0) == j
  | .int i, .bl b => i == (if b then 1 else 0)
  | .int i, .int j => i == j
  | .str a, .str b => a == b
  | .tup a, .tup b => eqPs a b
  | .lst a, .lst b => eqPs a b
  | _, _ => false
def eqPs : List PD → List PD → Bool
  | [], [] => true
  | x :: xs, y :: ys => eqP x y && eqPs xs ys
  | _, _ => false
end
/-- < of data of one kind: ints, texts, tuples of such -/
def ltT : Tx → Tx → Bool
  | [], [] => false
  | [], _ :: _ => true
  | _ :: _, [] => false
  | a :: r, b :: t => if a == b then ltT r t else decide (a < b)
mutual
def ltP : PD → PD → Option Bool
  | .int i, .int j => some (decide (i < j))
  | .str a, .str b => some (ltT a b)
  | .tup a, .tup b => ltPs a b
  | _, _ => none
def ltPs : List PD → List PD → Option Bool
  | [], [] => some false
  | [], _ :: _ => some true
  | _ :: _, [] => some false
  | x :: xs, y :: ys => if eqP x y then ltPs xs ys else ltP x y
end
mutual
/-- how long the text of a datum is at most -/
def msz : PD → Nat
  | .non => 4
  | .bl _ => 5
  | .int i => i.natAbs.log2 + 3
  | .str s => 10 * s.length + 2
  | .tup l => mszs l + 3
  | .lst l => mszs l + 3
  | .dct l => mszd l + 3
def mszs : List PD → Nat
  | [] => 0
  | x :: xs => msz x + 2 + mszs xs
def mszd : List (PD × PD) → Nat
  | [] => 0
  | (a, b) :: r => msz a + msz b + 4 + mszd r
end
mutual
/-- ints of fewer than 1920 bits, signs below 16 ^ 8 -/
def shwOk : PD → Bool
  | .int i => decide (i.natAbs.log2 < 1920)
  | .str s => s.all fun c => decide (c < 4294967296)
  | .tup l => shwOks l
  | .lst l => shwOks l
  | .dct l => shwOkd l
  | _ => true
def shwOks : List PD → Bool
  | [] => true
  | x :: xs => shwOk x && shwOks xs
def shwOkd : List (PD × PD) → Bool
  | [] => true
  | (a, b) :: r => shwOk a && shwOk b && shwOkd r
end
/-- the digits of a whole number -/
def itx (i : Int) : Tx := (toString i).toList.map Char.toNat
/-- depth of what is shown, compared -/
def DEP : Nat := 40

/-! ### the text -/
inductive BOp where | add | sub | mul | mod | fdiv | pow deriving Repr, DecidableEq
inductive COp where | lt | le | gt | ge | eq | ne | isin | notin deriving Repr, DecidableEq
inductive Ty where | int | bool | str | list | tuple | dict | lookup | value | own (c : Nat) deriving Repr, DecidableEq
inductive Bif where | len | abs | max | min | repr | list | tuple | set | sorted | int | str | all | any deriving Repr, DecidableEq
/-- where a parameter's value comes from -/
inductive Src where | pos (i : Nat) | kw (i : Nat) | dfl (v : MV) deriving Repr

mutual
inductive Ex where
  | var (i : Nat) | non | bl (b : Bool) | int (i : Int) | str (s : Tx)
  | gl (g : Nat)
  | bin (op : BOp) (a b : Ex) | neg (a : Ex) | not_ (a : Ex)
  | cmp (op : COp) (a b : Ex) | isN (a : Ex) | isNt (a : Ex)
  | ch (o1 o2 : COp) (a b c : Ex)
  | and_ (a b : Ex) | or_ (a b : Ex) | ife (c : Te) (a b : Ex)
  | att (e : Ex) (f : Nat)
  | sub (e i : Ex)
  | sl (e : Ex) (lo hi : Eo) | rev (e : Ex)
  | tup (es : Es) | lst (es : Es) | dct (es : Es)
  | call (f : Nat) (es ks : Es) (kn : List Nat) (sh : List Src)
  | bif (b : Bif) (es : Es)
  | isi (e : Ex) (t : Ty)
  | met (m : Nat) (o : Ex) (es ks : Es) (kn : List Nat) (sh : List Src)
  | mk (c : Nat) (es ks : Es) (kn : List Nat) (sh : List Src)
  | lc (elt : Ex) (own : List Nat) (tg : Tg) (it : Itx) (c : Tc)
  | fst (ps : Es)
  | nev                                  -- what is never come to
inductive Es where
  | nil | cons (e : Ex) (r : Es)
inductive Eo where
  | no | so (e : Ex)
/-- a test -/
inductive Te where
  | vl (e : Ex) | not_ (t : Te) | and_ (t u : Te) | or_ (t u : Te)
inductive Tc where
  | no | so (t : Te)
/-- a target -/
inductive Tg where
  | nm (i : Nat) | tup (l : Tgs) | att (o : Ex) (f : Nat) | sub (o i : Ex)
inductive Tgs where
  | nil | cons (t : Tg) (r : Tgs)
/-- what is walked -/
inductive Itx where
  | ex (e : Ex) | rng (b : Ex) | rng2 (a b : Ex) | zip (a b : Ex) | enum (a : Ex) | keys (e : Ex) | vals (e : Ex) | items (e : Ex)
end

mutual
inductive St where
  | pass | exp (e : Ex) | ret (e : Ex) | retN
  | set (tg : Tg) (e : Ex)
  | par (is : List Nat) (es : Es)        -- a, b = x, y of plain names
  | aug (i : Nat) (op : BOp) (e : Ex)
  | augA (o : Ex) (f : Nat) (op : BOp) (k : Int)
  | ite (c : Te) (a b : Ss)
  | for_ (tg : Tg) (it : Itx) (b : Ss)
  | brk | cont | nev
inductive Ss where
  | nil | cons (s : St) (r : Ss)
end

structure FnD where
  np : Nat
  ns : Nat
  body : Ss
/-- a class: its __init__, its methods, whether a name is a plain attribute -/
structure ClD where
  ini : Nat
  met : List (Nat × Nat)
  att : Nat → Bool
  isx : Bool                  -- isinstance is known of it
structure Prog where
  glob : Nat → MV
  fn : Nat → FnD
  cls : Nat → ClD
  shw : PD → Tx

/-! ### operations on values -/
def listOf (h : MH) : MV → Option (List MV)
  | .ref n => match h.get n with
    | some (.lst l) => some l
    | _ => none
  | .kl l => some l
  | _ => none
def seqOf (h : MH) : MV → Option (List MV)
  | .tup l => some l
  | v => listOf h v
def new (h : MH) (o : MO) : R MV := .ok (.ref h.size) (h.push o)
def newList (h : MH) (l : List MV) : R MV := if l.length ≤ LIM then new h (.lst l) else .stk

def small (i : Int) : Bool := decide (-18446744073709551616 < i ∧ i < 18446744073709551616)
def binM (op : BOp) (x y : MV) (h : MH) : R MV := match op, x, y with
  | .add, .int i, .int j => .ok (.int (i + j)) h
  | .add, .str a, .str b => if a.length + b.length ≤ LIM then .ok (.str (a ++ b)) h else .stk
  | .add, .tup a, .tup b => if a.length + b.length ≤ LIM then .ok (.tup (a ++ b)) h else .stk
  | .add, .ref m, .ref n => match h.get m, h.get n with
    | some (.lst a), some (.lst b) => newList h (a ++ b)
    | _, _ => .stk
  | .sub, .int i, .int j => .ok (.int (i - j)) h
  | .mul, .int i, .int j => if small i || small j then .ok (.int (i * j)) h else .stk
  | .mod, .int i, .int j => if 0 < j then .ok (.int (i % j)) h else .stk
  | .fdiv, .int i, .int j => if 0 < j ∧ j < 1073741824 then .ok (.int (i / j)) h else .stk
  | .pow, .int i, .int j => if 0 ≤ j ∧ j ≤ 1000000 ∧ small i then .ok (.int (i ^ j.toNat)) h else .stk
  | _, _, _ => .stk
/-- x op= y -/
def augM (op : BOp) (x y : MV) (h : MH) : R MV := match op, x, y with
  | .add, .int i, .int j => .ok (.int (i + j)) h
  | .sub, .int i, .int j => .ok (.int (i - j)) h
  | .mul, .int i, .int j => if small i || small j then .ok (.int (i * j)) h else .stk
  | .mod, .int i, .int j => if 0 < j then .ok (.int (i % j)) h else .stk
  | .fdiv, .int i, .int j => if 0 < j ∧ j < 1073741824 then .ok (.int (i / j)) h else .stk
  | .add, .str a, .str b => if a.length + b.length ≤ LIM then .ok (.str (a ++ b)) h else .stk
  | _, _, _ => .stk
def eqM (h : MH) (x y : MV) : Option Bool := match dat DEP h x, dat DEP h y with
  | some a, some b => some (eqP a b)
  | _, _ => none
def ltM (_h : MH) (x y : MV) : Option Bool := match x, y with
  | .int i, .int j => some (decide (i < j))
  | _, _ => none
/-! dicts -/
def aOk : MV → Bool
  | .int _ => true
  | .str _ => true
  | .bl _ => true
  | _ => false
def eqA : MV → MV → Bool
  | .int i, .int j => decide (i = j)
  | .int i, .bl b => decide (i = if b then 1 else 0)
  | .bl b, .int i => decide (i = if b then 1 else 0)
  | .bl b, .bl c => b == c
  | .str a, .str b => decide (a = b)
  | _, _ => false
def eqAs : List MV → List MV → Bool
  | [], [] => true
  | a :: r, b :: s => eqA a b && eqAs r s
  | _, _ => false
def kOk (t : Bool) : MV → Bool
  | .int _ => !t
  | .str _ => !t
  | .tup l => t && l.all aOk
  | _ => false
def eqK : MV → MV → Bool
  | .int i, .int j => decide (i = j)
  | .str a, .str b => decide (a = b)
  | .tup a, .tup b => eqAs a b
  | _, _ => false
def lookK (k : MV) : List (MV × MV) → Option MV
  | [] => none
  | (a, v) :: r => if eqK a k then some v else lookK k r
def hasK (k : MV) : List (MV × MV) → Bool
  | [] => false
  | (a, _) :: r => eqK a k || hasK k r
def putK (k v : MV) (l : List (MV × MV)) : List (MV × MV) := if hasK k l then l.map fun p => if eqK p.1 k then (p.1, v) else p else l ++ [(k, v)]
def dropK (k : MV) (l : List (MV × MV)) : List (MV × MV) := l.filter fun p => !eqK p.1 k
/-- what a dict of the text's top, or one of the heap, holds at a key -/
def dget (h : MH) (x k : MV) : Option (Option MV) := match x with
  | .kd l => match k with
    | .str _ => some (lookK k l)
    | _ => none
  | .ref n => match h.get n with
    | some (.dct t _ l) => if kOk t k then some (lookK k l) else none
    | _ => none
  | _ => none
def isD (h : MH) : MV → Bool
  | .kd _ => true
  | .ref n => match h.get n with
    | some (.dct _ _ _) => true
    | _ => false
  | _ => false
/-- x in y: a sign of a text, an item of a list or a tuple of data, a key -/
def inM (h : MH) (x y : MV) : Option Bool := if isD h y then (dget h y x).map (·.isSome) else match y with
  | .str t => match x with
    | .str [c] => some (decide (c ∈ t))
    | _ => none
  | y => match dat DEP h x, dat DEP h y with
    | some d, some (.lst l) => some (l.any fun z => eqP z d)
    | some d, some (.tup l) => some (l.any fun z => eqP z d)
    | _, _ => none
def bR (o : Option Bool) (h : MH) : R MV := match o with
  | some b => .ok (.bl b) h
  | none => .stk
def cmpM (op : COp) (x y : MV) (h : MH) : R MV := match op with
  | .eq => bR (eqM h x y) h
  | .ne => bR ((eqM h x y).map not) h
  | .lt => bR (ltM h x y) h
  | .gt => bR (ltM h y x) h
  | .le => bR ((ltM h y x).map not) h
  | .ge => bR ((ltM h x y).map not) h
  | .isin => bR (inM h x y) h
  | .notin => bR ((inM h x y).map not) h
def truM (x : MV) (h : MH) : R Bool := match x with
  | .non => .ok false h
  | .bl b => .ok b h
  | .int i => .ok (i != 0) h
  | .str s => .ok (!s.isEmpty) h
  | .tup l => .ok (!l.isEmpty) h
  | .kl l => .ok (!l.isEmpty) h
  | .ref n => match h.get n with
    | some (.lst l) => .ok (!l.isEmpty) h
    | _ => .stk
  | _ => .stk
def fld (f : Nat) : List (Nat × MV) → Option MV
  | [] => none
  | (g, v) :: r => if g = f then some v else fld f r
def putFld (f : Nat) (v : MV) : List (Nat × MV) → List (Nat × MV)
  | [] => [(f, v)]
  | (g, x) :: r => if g = f then (g, v) :: r else (g, x) :: putFld f v r
def attM (P : Prog) (x : MV) (f : Nat) (h : MH) : R MV := match x with
  | .ref n => match h.get n with
    | some (.ins c fs) => match fld f fs with
      | some v => if (P.cls c).att f then .ok v h else .stk
      | none => .stk
    | _ => .stk
  | _ => .stk
/-- a place counted from the end, if it lies below 0 -/
def ixN (i : Int) (n : Nat) : Option Nat := if 0 ≤ i then (if i < n then some i.toNat else none) else (if 0 ≤ i + n then some (i + n).toNat else none)
def atL (l : List MV) (i : Int) : Option MV := match ixN i l.length with
  | some k => l[k]?
  | none => none
def subM (x i : MV) (h : MH) : R MV := match x, i with
  | .str s, .int k => match ixN k s.length with
    | some j => match s[j]? with
      | some c => .ok (.str [c]) h
      | none => .stk
    | none => .stk
  | .tup l, .int k => match atL l k with
    | some v => .ok v h
    | none => .stk
  | .kl l, .int k => match atL l k with
    | some v => .ok v h
    | none => .stk
  | .kd l, k => match dget h (.kd l) k with
    | some (some v) => .ok v h
    | _ => .stk
  | .ref n, k => match h.get n with
    | some (.dct _ _ _) => (match dget h (.ref n) k with
      | some (some v) => .ok v h
      | _ => .stk)
    | some (.lst l) => (match k with
      | .int j => (match atL l j with
        | some v => .ok v h
        | none => .stk)
      | _ => .stk)
    | _ => .stk
  | _, _ => .stk
/-- an end of a slice, within 0 .. n -/
def clip (d : Nat) (n : Nat) : Option Int → Nat
  | none => d
  | some i => if i < 0 then (i + n).toNat else min i.toNat n
def cut {α : Type} (l : List α) (lo hi : Option Int) : List α := (l.drop (clip 0 l.length lo)).take (clip l.length l.length hi - clip 0 l.length lo)
def oi : MV → Option Int
  | .int i => if -4611686018427387904 ≤ i ∧ i < 4611686018427387904 then some i else none
  | _ => none
def slM (x : MV) (lo hi : Option Int) (h : MH) : R MV := match x with
  | .str s => .ok (.str (cut s lo hi)) h
  | .tup l => .ok (.tup (cut l lo hi)) h
  | .kl l => new h (.lst (cut l lo hi))
  | .ref n => match listOf h (.ref n) with
    | some l => new h (.lst (cut l lo hi))
    | none => .stk
  | _ => .stk
/-- o[i] = v -/
def setI (x i v : MV) (h : MH) : R Unit := match x with
  | .ref n => match h.get n with
    | some (.lst l) => (match i with
      | .int k => (match ixN k l.length with
        | some j => .ok () (h.put n (.lst (l.set j v)))
        | none => .stk)
      | _ => .stk)
    | some (.dct t false l) => if kOk t i = true ∧ l.length < LIM then .ok () (h.put n (.dct t false (putK i v l))) else .stk
    | _ => .stk
  | _ => .stk
def setA (P : Prog) (x : MV) (f : Nat) (v : MV) (h : MH) : R Unit := match x with
  | .ref n => match h.get n with
    | some (.ins c fs) => if fs.length < 1000 ∧ (P.cls c).att f then .ok () (h.put n (.ins c (putFld f v fs))) else .stk
    | _ => .stk
  | _ => .stk
/-- a value's class -/
inductive Tt where | nn | bl | int | str | tup | lst | own (c : Nat) deriving Repr, DecidableEq
def tyM (h : MH) : MV → Option Tt
  | .non => some .nn
  | .bl _ => some .bl
  | .int _ => some .int
  | .str _ => some .str
  | .tup _ => some .tup
  | .kl _ => some .lst
  | .ref n => match h.get n with
    | some (.lst _) => some .lst
    | some (.ins c _) => some (.own c)
    | _ => none
  | _ => none
def subT : Tt → Ty → Option Bool
  | .int, .int => some true
  | .bl, .int => some true
  | .bl, .bool => some true
  | .str, .str => some true
  | .tup, .tuple => some true
  | .lst, .list => some true
  | _, .lookup => none
  | _, .value => none
  | .own a, .own c => some (decide (a = c))
  | _, _ => some false
def Tt.ok (P : Prog) : Tt → Bool
  | .own a => (P.cls a).isx
  | _ => true
def Ty.ok (P : Prog) : Ty → Bool
  | .own a => (P.cls a).isx
  | _ => true
def isiM (P : Prog) (x : MV) (t : Ty) (h : MH) : Option Bool := match tyM h x with
  | some a => if a.ok P && t.ok P then subT a t else none
  | none => none
/-- the items of a join -/
def txs : List MV → Option (List Tx)
  | [] => some []
  | .str s :: r => (txs r).map (s :: ·)
  | _ :: _ => none
def joinT (sep : Tx) : List Tx → Tx
  | [] => []
  | [a] => a
  | a :: b :: r => a ++ sep ++ joinT sep (b :: r)
def allT : List MV → Option Bool
  | [] => some true
  | .bl b :: r => (allT r).map (b && ·)
  | _ :: _ => none
def anyT : List MV → Option Bool
  | [] => some false
  | .bl b :: r => (anyT r).map (b || ·)
  | _ :: _ => none
def shM (P : Prog) (x : MV) (h : MH) : Option Tx := match dat DEP h x with
  | some d => if shwOk d = true ∧ msz d ≤ LIM then some (P.shw d) else none
  | none => none
def tR (o : Option Tx) (h : MH) : R MV := match o with
  | some s => .ok (.str s) h
  | none => .stk
def bifM (P : Prog) (b : Bif) (vs : List MV) (h : MH) : R MV := match b, vs with
  | .len, [.str s] => if s.length ≤ LIM then .ok (.int s.length) h else .stk
  | .len, [x] => match seqOf h x with
    | some l => .ok (.int l.length) h
    | none => match x with
      | .ref n => match h.get n with
        | some (.dct false _ l) => .ok (.int l.length) h
        | _ => .stk
      | _ => .stk
  | .abs, [.int i] => .ok (.int (if i < 0 then -i else i)) h
  | .max, [.int i, .int j] => .ok (.int (if j > i then j else i)) h
  | .min, [.int i, .int j] => .ok (.int (if j < i then j else i)) h
  | .int, [.int i] => .ok (.int i) h
  | .int, [.bl b] => .ok (.int (if b then 1 else 0)) h
  | .repr, [x] => tR (shM P x h) h
  | .list, [.str s] => newList h (s.map fun c => .str [c])
  | .list, [x] => match seqOf h x with
    | some l => newList h l
    | none => .stk
  | .tuple, [x] => match seqOf h x with
    | some l => .ok (.tup l) h
    | none => .stk
  | .all, [x] => match listOf h x with
    | some l => bR (allT l) h
    | none => .stk
  | .any, [x] => match listOf h x with
    | some l => bR (anyT l) h
    | none => .stk
  | _, _ => .stk
/-- methods of built-in types, by their numbers in every table: 0 append, 1 join, 2 index -/
def metM (m : Nat) (x : MV) (vs : List MV) (h : MH) : R MV := match m, x, vs with
  | 0, .ref n, [v] => match h.get n with
    | some (.lst l) => if l.length < LIM then .ok .non (h.put n (.lst (l ++ [v]))) else .stk
    | _ => .stk
  | 1, .str s, [v] => match listOf h v with
    | some l => match txs l with
      | some ts => if (ts.map (·.length)).sum + ts.length * s.length ≤ LIM then .ok (.str (joinT s ts)) h else .stk
      | none => .stk
    | none => .stk
  | _, _, _ => .stk
def pick (vs ks : List MV) : List Src → Option (List MV)
  | [] => some []
  | .pos i :: r => match vs[i]?, pick vs ks r with
    | some v, some l => some (v :: l)
    | _, _ => none
  | .kw i :: r => match ks[i]?, pick vs ks r with
    | some v, some l => some (v :: l)
    | _, _ => none
  | .dfl v :: r => (pick vs ks r).map (v :: ·)

/-- the method's def -/
def fldN (m : Nat) : List (Nat × Nat) → Option Nat
  | [] => none
  | (k, f) :: r => if k = m then some f else fldN m r
abbrev En := List (Option MV)
/-- what is walked: the live list of an object, or items that stay -/
inductive It where
  | live (n : Nat) | items (l : List MV) | zip (a b : MV) | enum (a : MV)
def It.len (h : MH) : It → Option Nat
  | .live n => (listOf h (.ref n)).map (·.length)
  | .items l => some l.length
  | .zip a b => match listOf h a, listOf h b with
    | some l, some m => some (min l.length m.length)
    | _, _ => none
  | .enum a => (listOf h a).map (·.length)
def pairAt (i : Nat) (l m : List MV) : Option MV := match l[i]?, m[i]? with
  | some x, some y => some (.tup [x, y])
  | _, _ => none
/-- the item at turn i: none: no such thing; some none: the end -/
def It.at (h : MH) (i : Nat) : It → Option (Option MV)
  | .live n => (listOf h (.ref n)).map (·[i]?)
  | .items l => some l[i]?
  | .zip a b => match listOf h a, listOf h b with
    | some l, some m => some (pairAt i l m)
    | _, _ => none
  | .enum a => (listOf h a).map fun l => (l[i]?).map fun x => .tup [.int i, x]
def rngL (a b : Int) : List MV := (List.range (b - a).toNat).map fun k : Nat => .int (a + k)
def itOf (h : MH) : MV → Option It
  | .ref n => match listOf h (.ref n) with
    | some _ => some (.live n)
    | none => none
  | .kl l => some (.items l)
  | .tup l => some (.items l)
  | .str s => some (.items (s.map fun c => .str [c]))
  | .kd l => some (.items (l.map (·.1)))
  | _ => none
def zipT : List MV → List MV → List MV
  | x :: r, y :: t => .tup [x, y] :: zipT r t
  | _, _ => []
def zipM (x y : MV) (h : MH) : R It := match x, y with
  | .tup l, .tup m => .ok (.items (zipT l m)) h
  | x, y => match listOf h x, listOf h y with
    | some _, some _ => .ok (.zip x y) h
    | _, _ => .stk
def enumM (x : MV) (h : MH) : R It := match listOf h x with
  | some _ => .ok (.enum x) h
  | none => .stk
def wipe (σ : En) : List Nat → En
  | [] => σ
  | i :: r => (wipe σ r).set i none

def itM (x : MV) (h : MH) : R It := match itOf h x with
  | some t => .ok t h
  | none => .stk
def rngM (x y : MV) (h : MH) : R It := match oi x, oi y with
  | some m, some n => if n - m ≤ 16777216 then .ok (.items (rngL m n)) h else .stk
  | _, _ => .stk
/-- how a statement ends -/
inductive RS where
  | nx (σ : En) (h : MH) | rt (v : MV) (h : MH) | bk (σ : En) (h : MH) | ct (σ : En) (h : MH)
  | ex (c : Nat) (l : List MV) (σ : En) (h : MH) | stk
  deriving Repr, Inhabited
/-- an expression's value, then the rest of a statement at σ -/
def R.go {α : Type} (r : R α) (σ : En) (f : α → MH → RS) : RS := match r with
  | .ok a h => f a h
  | .ex c l h => .ex c l σ h
  | .stk => .stk

def isNM (b : Bool) (x : MV) (h : MH) : R MV := match x with
  | .non => .ok (.bl b) h
  | _ => .ok (.bl (!b)) h
def negM (x : MV) (h : MH) : R MV := match x with
  | .int i => .ok (.int (-i)) h
  | _ => .stk
def revM (x : MV) (h : MH) : R MV := match x with
  | .str s => .ok (.str s.reverse) h
  | _ => .stk
def oiM (x : MV) (h : MH) : R (Option Int) := match oi x with
  | some i => .ok (some i) h
  | none => .stk
def chM (c : MH → R MV) (o1 o2 : COp) (x y : MV) (h : MH) : R MV := (cmpM o1 x y h).bind fun z h3 => match z with
  | .bl true => (c h3).bind fun w h4 => cmpM o2 y w h4
  | .bl false => .ok (.bl false) h3
  | _ => .stk
def litM (l : List MV) (h : MH) : R MV := if l.length ≤ LIM then .ok (.tup l) h else .stk
def callP (C : Nat → List MV → MH → R MV) (f : Nat) (sh : List Src) (vs ws : List MV) (h : MH) : R MV := match pick vs ws sh with
  | some l => C f l h
  | none => .stk
/-- o.m: an own class's method, or a built-in one's -/
inductive MK where | own (f : Nat) | bt
def metK (P : Prog) (m : Nat) (x : MV) (h : MH) : R MK := match x with
  | .ref n => match h.get n with
    | some (.ins c _) => if m < 100 then .stk else match fldN m (P.cls c).met with
      | some f => .ok (.own f) h
      | none => .stk
    | some (.lst _) => if m = 0 then .ok .bt h else .stk
    | _ => .stk
  | .str _ => if m = 1 then .ok .bt h else .stk
  | _ => .stk
def metC (C : Nat → List MV → MH → R MV) (k : MK) (m : Nat) (sh : List Src) (x : MV) (vs ws : List MV) (h : MH) : R MV := match k with
  | .own f => match pick vs ws sh with
    | some l => C f (x :: l) h
    | none => .stk
  | .bt => metM m x vs h

/-- C(..): a new instance, its __init__ -/
def mkM (P : Prog) (C : Nat → List MV → MH → R MV) (c : Nat) (sh : List Src) (vs ws : List MV) (h : MH) : R MV := match pick vs ws sh with
  | some l => (C (P.cls c).ini (.ref h.size :: l) (h.push (.ins c []))).bind fun v h1 => match v with
    | .non => .ok (.ref h.size) h1
    | _ => .stk
  | none => .stk
/-- a loop's turns: body's end by the item -/
def loop (body : MV → En → MH → RS) (it : It) : Nat → Nat → En → MH → RS
  | 0, i, σ, h => match it.at h i with
    | some none => .nx σ h
    | _ => .stk
  | n + 1, i, σ, h => match it.at h i with
    | some none => .nx σ h
    | some (some v) => match body v σ h with
      | .nx σ' h' => loop body it n (i + 1) σ' h'
      | .ct σ' h' => loop body it n (i + 1) σ' h'
      | .bk σ' h' => .nx σ' h'
      | r => r
    | none => .stk
/-- a comprehension's turns: the items so far -/
def lcl (body : MV → MH → R (Option MV)) (it : It) : Nat → Nat → List MV → MH → R (List MV)
  | 0, i, acc, h => match it.at h i with
    | some none => .ok acc h
    | _ => .stk
  | n + 1, i, acc, h => match it.at h i with
    | some none => .ok acc h
    | some (some v) => (body v h).bind fun o h' => match o with
      | some x => if acc.length < LIM then lcl body it n (i + 1) (acc ++ [x]) h' else .stk
      | none => lcl body it n (i + 1) acc h'
    | none => .stk

/-- the pairs of a display are put into the new dict -/
def pairs : List MV → Option (List (MV × MV))
  | [] => some []
  | [_] => none
  | k :: v :: r => (pairs r).map ((k, v) :: ·)
def dispM (n : Nat) (vs : List MV) (h : MH) : R MV := match pairs vs with
  | none => .stk
  | some l => if l.length ≤ 15 ∧ (l.all fun p => kOk false p.1) = true then match h.get n with
    | some (.dct false false []) => .ok (.ref n) (h.put n (.dct false false (l.foldl (fun a p => putK p.1 p.2 a) [])))
    | _ => .stk
    else .stk
def setM (i : Nat) (v : MV) (σ : En) (h : MH) : R En := .ok (σ.set i (some v)) h
def lcB (ma : MV → En → MH → R En) (mt : En → MH → R Bool) (mx : En → MH → R MV) (own : List Nat) (σ : En) (v : MV) (h : MH) : R (Option MV) :=
  ((ma v (wipe σ own) h).bind fun σ3 h3 => (mt σ3 h3).bind fun b h4 => if b then (mx σ3 h4).bind fun x h5 => .ok (some x) h5 else .ok none h4).noEx
def lcM (mi : En → MH → R It) (ma : MV → En → MH → R En) (mt : En → MH → R Bool) (mx : En → MH → R MV) (own : List Nat) (σ : En) (h : MH) : R MV := (mi σ h).bind fun t h1 => match t.len h1 with
  | some n => (lcl (lcB ma mt mx own σ) t n 0 [] h1).bind fun l h2 => newList h2 l
  | none => .stk
section
variable (P : Prog) (C : Nat → List MV → MH → R MV)
mutual
def ev : Ex → En → MH → R MV
  | .var i, σ, h => match σ[i]? with
    | some (some v) => .ok v h
    | _ => .stk
  | .non, _, h => .ok .non h
  | .bl b, _, h => .ok (.bl b) h
  | .int i, _, h => .ok (.int i) h
  | .str s, _, h => .ok (.str s) h
  | .gl g, _, h => .ok (P.glob g) h
  | .bin op a b, σ, h => (ev a σ h).bind fun x h1 => (ev b σ h1).bind fun y h2 => binM op x y h2
  | .neg a, σ, h => (ev a σ h).bind fun x h1 => negM x h1
  | .not_ a, σ, h => (ev a σ h).bind fun x h1 => (truM x h1).bind fun b h2 => .ok (.bl (!b)) h2
  | .cmp op a b, σ, h => (ev a σ h).bind fun x h1 => (ev b σ h1).bind fun y h2 => cmpM op x y h2
  | .isN a, σ, h => (ev a σ h).bind fun x h1 => isNM true x h1
  | .isNt a, σ, h => (ev a σ h).bind fun x h1 => isNM false x h1
  | .ch o1 o2 a b c, σ, h => (ev a σ h).bind fun x h1 => (ev b σ h1).bind fun y h2 => chM (fun h3 => ev c σ h3) o1 o2 x y h2
  | .and_ a b, σ, h => (ev a σ h).bind fun x h1 => (truM x h1).bind fun c h2 => if c then ev b σ h2 else .ok x h2
  | .or_ a b, σ, h => (ev a σ h).bind fun x h1 => (truM x h1).bind fun c h2 => if c then .ok x h2 else ev b σ h2
  | .ife c a b, σ, h => (tv c σ h).bind fun d h1 => if d then ev a σ h1 else ev b σ h1
  | .att e f, σ, h => (ev e σ h).bind fun x h1 => attM P x f h1
  | .sub e i, σ, h => (ev e σ h).bind fun x h1 => (ev i σ h1).bind fun y h2 => subM x y h2
  | .sl e lo hi, σ, h => (ev e σ h).bind fun x h1 => (eo lo σ h1).bind fun a h2 => (eo hi σ h2).bind fun b h3 => slM x a b h3
  | .rev e, σ, h => (ev e σ h).bind fun x h1 => revM x h1
  | .tup es, σ, h => (evs es σ h).bind fun l h1 => litM l h1
  | .lst es, σ, h => (evs es σ h).bind fun l h1 => newList h1 l
  | .dct es, σ, h => (evs es σ (h.push (.dct false false []))).bind fun l h1 => dispM h.size l h1
  | .call f es ks _ sh, σ, h => (evs es σ h).bind fun vs h1 => (evs ks σ h1).bind fun ws h2 => callP C f sh vs ws h2
  | .bif b es, σ, h => (evs es σ h).bind fun vs h1 => bifM P b vs h1
  | .isi e t, σ, h => (ev e σ h).bind fun x h1 => bR (isiM P x t h1) h1
  | .met m o es ks _ sh, σ, h => (ev o σ h).bind fun x h1 => (metK P m x h1).bind fun k h2 => (evs es σ h2).bind fun vs h3 => (evs ks σ h3).bind fun ws h4 => metC C k m sh x vs ws h4
  | .mk c es ks _ sh, σ, h => (evs es σ h).bind fun vs h1 => (evs ks σ h1).bind fun ws h2 => mkM P C c sh vs ws h2
  | .lc elt own tg it c, σ, h => lcM (itv it) (asg tg) (ct c) (ev elt) own σ h
  | .fst es, σ, h => (evs es σ h).bind fun _ _ => .stk
  | .nev, _, _ => .stk
/-- a test -/
def tv : Te → En → MH → R Bool
  | .vl e, σ, h => (ev e σ h).bind fun x h1 => truM x h1
  | .not_ a, σ, h => (tv a σ h).bind fun b h1 => .ok (!b) h1
  | .and_ a b, σ, h => (tv a σ h).bind fun c h1 => if c then tv b σ h1 else .ok false h1
  | .or_ a b, σ, h => (tv a σ h).bind fun c h1 => if c then .ok true h1 else tv b σ h1
def evs : Es → En → MH → R (List MV)
  | .nil, _, h => .ok [] h
  | .cons e r, σ, h => (ev e σ h).bind fun x h1 => (evs r σ h1).bind fun l h2 => .ok (x :: l) h2
def eo : Eo → En → MH → R (Option Int)
  | .no, _, h => .ok none h
  | .so e, σ, h => (ev e σ h).bind fun x h1 => oiM x h1
def ct : Tc → En → MH → R Bool
  | .no, _, h => .ok true h
  | .so e, σ, h => tv e σ h
def asg : Tg → MV → En → MH → R En
  | .nm i, v, σ, h => setM i v σ h
  | .tup l, v, σ, h => match v with
    | .tup vs => (asgs l vs σ h).noEx
    | _ => .stk
  | .att o f, v, σ, h => (ev o σ h).bind fun x h1 => (setA P x f v h1).bind fun _ h2 => .ok σ h2
  | .sub o i, v, σ, h => (ev o σ h).bind fun x h1 => (ev i σ h1).bind fun y h2 => (setI x y v h2).bind fun _ h3 => .ok σ h3
def asgs : Tgs → List MV → En → MH → R En
  | .nil, [], σ, h => .ok σ h
  | .cons t r, v :: vs, σ, h => (asg t v σ h).bind fun σ1 h1 => asgs r vs σ1 h1
  | _, _, _, _ => .stk
def itv : Itx → En → MH → R It
  | .ex e, σ, h => (ev e σ h).bind fun x h1 => itM x h1
  | .rng b, σ, h => (ev b σ h).bind fun x h1 => rngM (.int 0) x h1
  | .rng2 a b, σ, h => (ev a σ h).bind fun x h1 => (ev b σ h1).bind fun y h2 => rngM x y h2
  | .zip a b, σ, h => (ev a σ h).bind fun x h1 => (ev b σ h1).bind fun y h2 => zipM x y h2
  | .enum a, σ, h => (ev a σ h).bind fun x h1 => enumM x h1
  | _, _, _ => .stk
end
def upds (σ : En) : List Nat → List MV → Option En
  | [], [] => some σ
  | i :: is, v :: vs => upds (σ.set i (some v)) is vs
  | _, _ => none
mutual
def exec : St → En → MH → RS
  | .pass, σ, h => .nx σ h
  | .exp e, σ, h => (ev P C e σ h).go σ fun _ h1 => .nx σ h1
  | .ret e, σ, h => (ev P C e σ h).go σ fun v h1 => .rt v h1
  | .retN, _, h => .rt .non h
  | .set tg e, σ, h => (ev P C e σ h).go σ fun v h1 => (asg P C tg v σ h1).go σ fun σ2 h2 => .nx σ2 h2
  | .par is es, σ, h => (evs P C es σ h).go σ fun vs h1 => match upds σ is vs with
    | some σ1 => .nx σ1 h1
    | none => .stk
  | .aug i op e, σ, h => match σ[i]? with
    | some (some x) => (ev P C e σ h).go σ fun y h1 => (augM op x y h1).go σ fun z h2 => .nx (σ.set i (some z)) h2
    | _ => .stk
  | .augA o f op k, σ, h => (ev P C o σ h).go σ fun x h1 => (attM P x f h1).go σ fun y h2 => (augM op y (.int k) h2).go σ fun w h4 => (setA P x f w h4).go σ fun _ h5 => .nx σ h5
  | .ite c a b, σ, h => (tv P C c σ h).go σ fun d h1 => if d then execs a σ h1 else execs b σ h1
  | .for_ tg it b, σ, h => (itv P C it σ h).go σ fun t h1 => match t.len h1 with
    | some n => loop (fun v σ2 h2 => (asg P C tg v σ2 h2).go σ2 fun σ3 h3 => execs b σ3 h3) t n 0 σ h1
    | none => .stk
  | .brk, σ, h => .bk σ h
  | .cont, σ, h => .ct σ h
  | .nev, _, _ => .stk
def execs : Ss → En → MH → RS
  | .nil, σ, h => .nx σ h
  | .cons s r, σ, h => match exec s σ h with
    | .nx σ1 h1 => execs r σ1 h1
    | x => x
end
/-- a def called: its parameters' values in order -/
def runFn (d : FnD) (vs : List MV) (h : MH) : R MV :=
  if vs.length = d.np then
    match execs P C d.body (vs.map some ++ List.replicate (d.ns - d.np) none) h with
    | .nx _ h1 => .ok .non h1
    | .rt v h1 => .ok v h1
    | .ex c l _ h1 => .ex c l h1
    | _ => .stk
  else .stk
end
/-- the f-th def at most k calls deep -/
def callM (P : Prog) : Nat → Nat → List MV → MH → R MV
  | 0, _, _, _ => .stk
  | k + 1, f, vs, h => runFn P (callM P k) (P.fn f) vs h
end DM
set_option linter.all false
set_option maxRecDepth 100000
/-! PL: reckoning with the interpreter. -/
namespace DM
theorem get_push_size {h : MH} {o : MO} : (h.push o).get h.size = some o := List.getElem?_concat_length
theorem get_push_lt {h : MH} {o : MO} {n : Nat} (e : n < h.size) : (h.push o).get n = h.get n := List.getElem?_append_left e
theorem get_lt {h : MH} {n : Nat} {o : MO} (e : h.get n = some o) : n < h.size := (List.getElem?_eq_some_iff.mp e).1
theorem get_push {h : MH} {o u : MO} {n : Nat} (e : h.get n = some u) : (h.push o).get n = some u := by rw [get_push_lt (get_lt e)]; exact e
theorem get_put {h : MH} {n : Nat} {o u : MO} (e : h.get n = some u) : (h.put n o).get n = some o := List.getElem?_set_self (get_lt e)
theorem get_put_ne {h : MH} {n m : Nat} {o : MO} (e : m ≠ n) : (h.put n o).get m = h.get m := List.getElem?_set_ne (fun q => e q.symm)
theorem size_put {h : MH} {n : Nat} {o : MO} : (h.put n o).size = h.size := List.length_set
theorem size_push {h : MH} {o : MO} : (h.push o).size = h.size + 1 := by
  show (h.objs ++ [o]).length = _
  rw [List.length_append]
  rfl
theorem put_put {h : MH} {n : Nat} {o u : MO} : (h.put n o).put n u = h.put n u := by
  show MH.mk ((h.objs.set n o).set n u) = MH.mk (h.objs.set n u)
  rw [List.set_set]
theorem bind_ok' {α β : Type} {a : α} {h : MH} {k : α → MH → R β} : (R.ok a h).bind k = k a h := rfl
theorem noEx_ok' {α : Type} {a : α} {h : MH} : (R.ok a h).noEx = .ok a h := rfl
theorem go_ok {α : Type} {a : α} {h : MH} {σ : En} {k : α → MH → RS} : (R.ok a h).go σ k = k a h := rfl
end DM
namespace DM
section
variable {h : MH} {i j : Int} {P : Prog} {C : Nat → List MV → MH → R MV} {σ : En}
theorem b_add : binM .add (.int i) (.int j) h = .ok (.int (i + j)) h := rfl
theorem b_sub : binM .sub (.int i) (.int j) h = .ok (.int (i - j)) h := rfl
theorem b_mull (e : small i = true) : binM .mul (.int i) (.int j) h = .ok (.int (i * j)) h := by
  show (if small i || small j then R.ok (MV.int (i * j)) h else .stk) = _
  rw [e]
  rfl
theorem b_mulr (e : small j = true) : binM .mul (.int i) (.int j) h = .ok (.int (i * j)) h := by
  show (if small i || small j then R.ok (MV.int (i * j)) h else .stk) = _
  rw [e, Bool.or_true]
  rfl
theorem b_mod (e : 0 < j) : binM .mod (.int i) (.int j) h = .ok (.int (i % j)) h := if_pos e
theorem b_fdiv (e : 0 < j ∧ j < 1073741824) : binM .fdiv (.int i) (.int j) h = .ok (.int (i / j)) h := if_pos e
theorem b_pow {n : Nat} (e : small i = true) (hn : (n : Int) ≤ 1000000) : binM .pow (.int i) (.int n) h = .ok (.int (i ^ n)) h := by
  show (if 0 ≤ (n : Int) ∧ (n : Int) ≤ 1000000 ∧ small i then R.ok (MV.int (i ^ (n : Int).toNat)) h else .stk) = _
  rw [if_pos ⟨Int.natCast_nonneg n, hn, e⟩, Int.toNat_natCast]
theorem b_pow3 (e : small i = true) : binM .pow (.int i) (.int 3) h = .ok (.int (i ^ 3)) h := b_pow (n := 3) e (by decide)
theorem b_pow18 (e : small i = true) : binM .pow (.int i) (.int 18) h = .ok (.int (i ^ 18)) h := b_pow (n := 18) e (by decide)
theorem b_pow30 (e : small i = true) : binM .pow (.int i) (.int 30) h = .ok (.int (i ^ 30)) h := b_pow (n := 30) e (by decide)
theorem b_str {s t : Tx} (e : s.length + t.length ≤ LIM) : binM .add (.str s) (.str t) h = .ok (.str (s ++ t)) h := if_pos e
theorem c_lt : cmpM .lt (.int i) (.int j) h = .ok (.bl (decide (i < j))) h := rfl
theorem c_gt : cmpM .gt (.int i) (.int j) h = .ok (.bl (decide (j < i))) h := rfl
theorem c_le : cmpM .le (.int i) (.int j) h = .ok (.bl (!decide (j < i))) h := rfl
theorem c_ge : cmpM .ge (.int i) (.int j) h = .ok (.bl (!decide (i < j))) h := rfl
theorem c_eqi : cmpM .eq (.int i) (.int j) h = .ok (.bl (i == j)) h := rfl
theorem c_nei : cmpM .ne (.int i) (.int j) h = .ok (.bl (!(i == j))) h := rfl
theorem c_eqs {s t : Tx} : cmpM .eq (.str s) (.str t) h = .ok (.bl (s == t)) h := rfl
theorem c_nes {s t : Tx} : cmpM .ne (.str s) (.str t) h = .ok (.bl (!(s == t))) h := rfl
theorem c_eqb {s t : Bool} : cmpM .eq (.bl s) (.bl t) h = .ok (.bl (s == t)) h := rfl
theorem c_neb {s t : Bool} : cmpM .ne (.bl s) (.bl t) h = .ok (.bl (!(s == t))) h := rfl
theorem t_bl {b : Bool} : truM (.bl b) h = .ok b h := rfl
theorem at_nat {l : List MV} {n : Nat} {v : MV} (e : l[n]? = some v) : atL l (n : Int) = some v := by
  have hl := (List.getElem?_eq_some_iff.mp e).1
  unfold atL DM.ixN
  rw [if_pos (Int.natCast_nonneg n), if_pos (by omega), Int.toNat_natCast]
  exact e
theorem at_0 {l : List MV} {v : MV} (e : l[0]? = some v) : atL l 0 = some v := at_nat (n := 0) e
theorem at_1 {l : List MV} {v : MV} (e : l[1]? = some v) : atL l 1 = some v := at_nat (n := 1) e
theorem at_i {l : List MV} {v : MV} {i : Int} (h0 : 0 ≤ i) (e : l[i.toNat]? = some v) : atL l i = some v := by
  have := at_nat e
  rwa [Int.toNat_of_nonneg h0] at this
theorem s_kl {l : List MV} {v : MV} (e : atL l i = some v) : subM (.kl l) (.int i) h = .ok v h := by
  show (match atL l i with
    | some v => R.ok v h
    | none => .stk) = _
  rw [e]
theorem s_tup {l : List MV} {v : MV} (e : atL l i = some v) : subM (.tup l) (.int i) h = .ok v h := by
  show (match atL l i with
    | some v => R.ok v h
    | none => .stk) = _
  rw [e]
theorem s_ref {n : Nat} {l : List MV} {v : MV} (g : h.get n = some (.lst l)) (e : atL l i = some v) : subM (.ref n) (.int i) h = .ok v h := by
  unfold subM
  simp only [g, e]
theorem w_ref {n : Nat} {l : List MV} {v : MV} {k : Nat} (g : h.get n = some (.lst l)) (hk : k < l.length) : setI (.ref n) (.int k) v h = .ok () (h.put n (.lst (l.set k v))) := by
  unfold setI
  have e : DM.ixN (k : Int) l.length = some k := by
    unfold DM.ixN
    rw [if_pos (Int.natCast_nonneg k), if_pos (by omega), Int.toNat_natCast]
  simp only [g, e]
theorem w_0 {n : Nat} {l : List MV} {v : MV} (g : h.get n = some (.lst l)) (hk : 0 < l.length) : setI (.ref n) (.int 0) v h = .ok () (h.put n (.lst (l.set 0 v))) := w_ref (k := 0) g hk
theorem w_1 {n : Nat} {l : List MV} {v : MV} (g : h.get n = some (.lst l)) (hk : 1 < l.length) : setI (.ref n) (.int 1) v h = .ok () (h.put n (.lst (l.set 1 v))) := w_ref (k := 1) g hk
theorem n_list {l : List MV} (hl : l.length ≤ LIM) : newList h l = .ok (.ref h.size) (h.push (.lst l)) := if_pos hl
theorem l_tup {l : List MV} (hl : l.length ≤ LIM) : litM l h = .ok (.tup l) h := if_pos hl
theorem f_len {l : List MV} : bifM P .len [.kl l] h = .ok (.int l.length) h := rfl
theorem f_lens {l : Tx} (hl : l.length ≤ LIM) : bifM P .len [.str l] h = .ok (.int l.length) h := if_pos hl
theorem f_max : bifM P .max [.int i, .int j] h = .ok (.int (if j > i then j else i)) h := rfl
theorem f_min : bifM P .min [.int i, .int j] h = .ok (.int (if j < i then j else i)) h := rfl
theorem f_abs : bifM P .abs [.int i] h = .ok (.int (if i < 0 then -i else i)) h := rfl
theorem m_app {n : Nat} {l : List MV} {v : MV} (g : h.get n = some (.lst l)) (hl : l.length < LIM) : metM 0 (.ref n) [v] h = .ok .non (h.put n (.lst (l ++ [v]))) := by
  unfold metM
  simp only [g, if_pos hl]
theorem k_app {n : Nat} {l : List MV} (g : h.get n = some (.lst l)) : metK P 0 (.ref n) h = .ok .bt h := by
  unfold metK
  simp only [g, if_true]
theorem mc_bt {k : Nat} {sh : List Src} {x : MV} {vs ws : List MV} : metC C .bt k sh x vs ws h = metM k x vs h := rfl
/-- statements, one behind the other -/
theorem x_nx {s : St} {r : Ss} {σ1 : En} {h1 : MH} {q : RS} (e : exec P C s σ h = .nx σ1 h1) (k : execs P C r σ1 h1 = q) : execs P C (.cons s r) σ h = q := by
  unfold execs
  rw [e]
  exact k
theorem x_rt {s : St} {r : Ss} {v : MV} {h1 : MH} (e : exec P C s σ h = .rt v h1) : execs P C (.cons s r) σ h = .rt v h1 := by
  unfold execs
  rw [e]
theorem f_rt {d : FnD} {vs : List MV} {v : MV} {h1 : MH} (σ0 : En) (hl : vs.length = d.np) (hσ : vs.map some ++ List.replicate (d.ns - d.np) none = σ0) (e : execs P C d.body σ0 h = .rt v h1) : runFn P C d vs h = .ok v h1 := by
  unfold runFn
  rw [if_pos hl, hσ, e]
end
end DM
namespace DM
/-! loops -/
theorem loop_items {body : MV → En → MH → RS} {l : List MV} (Pv : Nat → En → MH → Prop) (step : ∀ i v σ h, l[i]? = some v → Pv i σ h → ∃ σ' h', body v σ h = .nx σ' h' ∧ Pv (i + 1) σ' h') :
    ∀ (n i : Nat) (σ : En) (h : MH), i + n = l.length → Pv i σ h → ∃ σ' h', loop body (.items l) n i σ h = .nx σ' h' ∧ Pv l.length σ' h'
  | 0, i, σ, h, e, p => by
    have e0 : l[i]? = none := List.getElem?_eq_none (by omega)
    refine ⟨σ, h, ?_, by rw [← e]; exact p⟩
    unfold loop
    simp only [It.at, e0]
  | n + 1, i, σ, h, e, p => by
    have hi : i < l.length := by omega
    have e0 : l[i]? = some l[i] := List.getElem?_eq_getElem hi
    obtain ⟨σ1, h1, e1, p1⟩ := step i _ σ h e0 p
    obtain ⟨σ2, h2, e2, p2⟩ := loop_items Pv step n (i + 1) σ1 h1 (by omega) p1
    refine ⟨σ2, h2, ?_, p2⟩
    unfold loop
    simp only [It.at, e0, e1]
    exact e2
theorem loop_live {body : MV → En → MH → RS} {r : Nat} {l : List MV} (Pv : Nat → En → MH → Prop) (hl : ∀ i σ h, Pv i σ h → h.get r = some (.lst l)) (step : ∀ i v σ h, l[i]? = some v → Pv i σ h → ∃ σ' h', body v σ h = .nx σ' h' ∧ Pv (i + 1) σ' h') :
    ∀ (n i : Nat) (σ : En) (h : MH), i + n = l.length → Pv i σ h → ∃ σ' h', loop body (.live r) n i σ h = .nx σ' h' ∧ Pv l.length σ' h'
  | 0, i, σ, h, e, p => by
    have e0 : l[i]? = none := List.getElem?_eq_none (by omega)
    refine ⟨σ, h, ?_, by rw [← e]; exact p⟩
    unfold loop
    simp only [It.at, listOf, hl i σ h p, Option.map_some, e0]
  | n + 1, i, σ, h, e, p => by
    have hi : i < l.length := by omega
    have e0 : l[i]? = some l[i] := List.getElem?_eq_getElem hi
    obtain ⟨σ1, h1, e1, p1⟩ := step i _ σ h e0 p
    obtain ⟨σ2, h2, e2, p2⟩ := loop_live Pv hl step n (i + 1) σ1 h1 (by omega) p1
    refine ⟨σ2, h2, ?_, p2⟩
    unfold loop
    simp only [It.at, listOf, hl i σ h p, Option.map_some, e0, e1]
    exact e2
section
variable {P : Prog} {C : Nat → List MV → MH → R MV} {σ : En} {h h1 : MH} {j : Nat} {it : Itx} {b : Ss} {l : List MV}
theorem for_items (Pv : Nat → En → MH → Prop) (e : itv P C it σ h = .ok (.items l) h1) (h0 : Pv 0 σ h1) (step : ∀ i v σ h, l[i]? = some v → Pv i σ h → ∃ σ' h', execs P C b (σ.set j (some v)) h = .nx σ' h' ∧ Pv (i + 1) σ' h') :
    ∃ σ' h', exec P C (.for_ (.nm j) it b) σ h = .nx σ' h' ∧ Pv l.length σ' h' := by
  obtain ⟨σ', h', e1, p⟩ := loop_items (body := fun v σ2 h2 => (asg P C (.nm j) v σ2 h2).go σ2 fun σ3 h3 => execs P C b σ3 h3) Pv (fun i v σ h hv p => step i v σ h hv p) l.length 0 σ h1 (by omega) h0
  refine ⟨σ', h', ?_, p⟩
  unfold exec
  rw [e]
  exact e1
theorem for_live {r : Nat} (Pv : Nat → En → MH → Prop) (e : itv P C it σ h = .ok (.live r) h1) (hl : ∀ i σ h, Pv i σ h → h.get r = some (.lst l)) (h0 : Pv 0 σ h1) (step : ∀ i v σ h, l[i]? = some v → Pv i σ h → ∃ σ' h', execs P C b (σ.set j (some v)) h = .nx σ' h' ∧ Pv (i + 1) σ' h') :
    ∃ σ' h', exec P C (.for_ (.nm j) it b) σ h = .nx σ' h' ∧ Pv l.length σ' h' := by
  obtain ⟨σ', h', e1, p⟩ := loop_live (body := fun v σ2 h2 => (asg P C (.nm j) v σ2 h2).go σ2 fun σ3 h3 => execs P C b σ3 h3) Pv hl (fun i v σ h hv p => step i v σ h hv p) l.length 0 σ h1 (by omega) h0
  refine ⟨σ', h', ?_, p⟩
  unfold exec
  rw [e]
  show (match It.len h1 (.live r) with
    | some n => _
    | none => RS.stk) = _
  unfold It.len listOf
  simp only [hl 0 σ h1 h0, Option.map_some]
  exact e1
theorem rng_get {a b : Int} {i : Nat} {v : MV} (e : (rngL a b)[i]? = some v) : v = .int (a + i) ∧ i < (b - a).toNat := by
  unfold rngL at e
  rw [List.getElem?_map] at e
  cases q : (List.range (b - a).toNat)[i]? with
  | none => rw [q] at e; cases e
  | some k =>
    rw [q] at e
    cases e
    obtain ⟨h1, h2⟩ := List.getElem?_eq_some_iff.mp q
    rw [List.getElem_range] at h2
    rw [List.length_range] at h1
    subst h2
    exact ⟨rfl, h1⟩
theorem it_rng {b : Ex} {n : Int} (e : ev P C b σ h = .ok (.int n) h1) (h0 : -4611686018427387904 ≤ n) (hn : n ≤ 16777216) : itv P C (.rng b) σ h = .ok (.items (rngL 0 n)) h1 := by
  unfold itv
  rw [e]
  show rngM (.int 0) (.int n) h1 = _
  have e1 : oi (.int n) = some n := by
    unfold oi
    exact if_pos ⟨h0, by omega⟩
  have e0 : oi (.int 0) = some 0 := by
    unfold oi
    exact if_pos ⟨by omega, by omega⟩
  unfold rngM
  rw [e1, e0]
  exact if_pos (by omega)
theorem it_ref {b : Ex} {r : Nat} (e : ev P C b σ h = .ok (.ref r) h1) (g : h1.get r = some (.lst l)) : itv P C (.ex b) σ h = .ok (.live r) h1 := by
  unfold itv
  rw [e]
  show itM (.ref r) h1 = _
  unfold itM itOf listOf
  simp only [g]
theorem x_for {s : St} {r : Ss} {Q : En → MH → Prop} {q : RS} (e : ∃ σ' h', exec P C s σ h = .nx σ' h' ∧ Q σ' h') (k : ∀ σ' h', Q σ' h' → execs P C r σ' h' = q) : execs P C (.cons s r) σ h = q := by
  obtain ⟨σ', h', e1, e2⟩ := e
  exact x_nx e1 (k _ _ e2)
/-- a block that goes on to its end -/
def Runs (P : Prog) (C : Nat → List MV → MH → R MV) (b : Ss) (σ : En) (h : MH) (Q : En → MH → Prop) : Prop := ∃ σ' h', execs P C b σ h = .nx σ' h' ∧ Q σ' h'
theorem Runs.nil {Q : En → MH → Prop} (q : Q σ h) : Runs P C .nil σ h Q := ⟨σ, h, rfl, q⟩
theorem Runs.cons {s : St} {r : Ss} {Q : En → MH → Prop} {σ1 : En} (e : exec P C s σ h = .nx σ1 h1) (k : Runs P C r σ1 h1 Q) : Runs P C (.cons s r) σ h Q := by
  obtain ⟨σ', h', e1, q⟩ := k
  exact ⟨σ', h', x_nx e e1, q⟩
theorem Runs.conv {s : St} {r : Ss} {Q Q1 : En → MH → Prop} (e : ∃ σ' h', exec P C s σ h = .nx σ' h' ∧ Q1 σ' h') (k : ∀ σ' h', Q1 σ' h' → Runs P C r σ' h' Q) : Runs P C (.cons s r) σ h Q := by
  obtain ⟨σ1, h1, e1, q1⟩ := e
  exact Runs.cons e1 (k _ _ q1)
end
end DM
namespace DM
theorem x_end {P : Prog} {C : Nat → List MV → MH → R MV} {σ σ1 : En} {h h1 : MH} {s : St} (e : exec P C s σ h = .nx σ1 h1) : execs P C (.cons s .nil) σ h = .nx σ1 h1 := x_nx e rfl
end DM
namespace DM
/-! what only grows -/
def Grow (h h' : MH) : Prop := h.size ≤ h'.size ∧ ∀ n o, h.get n = some o → h'.get n = some o
theorem Grow.refl {h : MH} : Grow h h := ⟨Nat.le_refl _, fun _ _ e => e⟩
theorem Grow.trans {a b c : MH} (x : Grow a b) (y : Grow b c) : Grow a c := ⟨Nat.le_trans x.1 y.1, fun n o e => y.2 n o (x.2 n o e)⟩
theorem Grow.push {a b : MH} {o : MO} (x : Grow a b) : Grow a (b.push o) := ⟨by rw [size_push]; exact Nat.le_succ_of_le x.1, fun n u e => get_push (x.2 n u e)⟩
theorem Grow.one {a : MH} {o : MO} : Grow a (a.push o) := Grow.refl.push
/-! comprehensions -/
theorem lcl_items {body : MV → MH → R (Option MV)} {l : List MV} (hl : l.length ≤ LIM) (Pv : Nat → List MV → MH → Prop) (step : ∀ i v acc h, l[i]? = some v → Pv i acc h → ∃ x h', body v h = .ok (some x) h' ∧ Pv (i + 1) (acc ++ [x]) h') :
    ∀ (n i : Nat) (acc : List MV) (h : MH), i + n = l.length → acc.length = i → Pv i acc h → ∃ acc' h', lcl body (.items l) n i acc h = .ok acc' h' ∧ Pv l.length acc' h' ∧ acc'.length = l.length
  | 0, i, acc, h, e, ha, p => by
    have e0 : l[i]? = none := List.getElem?_eq_none (by omega)
    refine ⟨acc, h, ?_, by rw [← e]; exact p, by omega⟩
    unfold lcl
    simp only [It.at, e0]
  | n + 1, i, acc, h, e, ha, p => by
    have hi : i < l.length := by omega
    have e0 : l[i]? = some l[i] := List.getElem?_eq_getElem hi
    obtain ⟨x, h1, e1, p1⟩ := step i _ acc h e0 p
    obtain ⟨acc', h2, e2, p2, a2⟩ := lcl_items hl Pv step n (i + 1) (acc ++ [x]) h1 (by omega) (by rw [List.length_append, ha]; rfl) p1
    refine ⟨acc', h2, ?_, p2, a2⟩
    unfold lcl
    simp only [It.at, e0, e1, bind_ok', if_pos (show acc.length < LIM by omega)]
    exact e2
section
variable {P : Prog} {C : Nat → List MV → MH → R MV} {σ : En} {h h1 : MH} {j : Nat} {it : Itx} {elt : Ex} {own : List Nat} {l : List MV}
theorem lc_gen (e : itv P C it σ h = .ok (.items l) h1) (hl : l.length ≤ LIM) (Pv : Nat → List MV → MH → Prop) (h0 : Pv 0 [] h1)
    (step : ∀ i v acc h, l[i]? = some v → Pv i acc h → ∃ x h', ev P C elt ((wipe σ own).set j (some v)) h = .ok x h' ∧ Pv (i + 1) (acc ++ [x]) h') :
    ∃ acc h', ev P C (.lc elt own (.nm j) it .no) σ h = .ok (.ref h'.size) (h'.push (.lst acc)) ∧ Pv l.length acc h' ∧ acc.length = l.length := by
  obtain ⟨acc, h', e1, p, a⟩ := lcl_items (body := lcB (asg P C (.nm j)) (ct P C .no) (ev P C elt) own σ) hl Pv (fun i v acc h hv p => by
    obtain ⟨x, h', e1, p1⟩ := step i v acc h hv p
    refine ⟨x, h', ?_, p1⟩
    unfold lcB asg setM
    simp only [bind_ok', ct, if_true, e1, noEx_ok']) l.length 0 [] h1 (by omega) rfl h0
  refine ⟨acc, h', ?_, p, a⟩
  unfold ev lcM
  rw [e]
  simp only [bind_ok', It.len]
  rw [e1]
  exact n_list (by omega)
/-- each item by its own -/
theorem lc_map {F : MV → MV} (e : itv P C it σ h = .ok (.items l) h1) (hl : l.length ≤ LIM) (I : MH → Prop) (h0 : I h1)
    (step : ∀ v h, v ∈ l → I h → ∃ h', ev P C elt ((wipe σ own).set j (some v)) h = .ok (F v) h' ∧ I h') :
    ∃ h', ev P C (.lc elt own (.nm j) it .no) σ h = .ok (.ref h'.size) (h'.push (.lst (l.map F))) ∧ I h' := by
  obtain ⟨acc, h', e1, ⟨p1, p2⟩, _⟩ := lc_gen (elt := elt) (own := own) (j := j) e hl (fun i acc h => I h ∧ acc = (l.take i).map F) ⟨h0, rfl⟩ (by
    rintro i v acc h ev ⟨p, rfl⟩
    obtain ⟨h', e1, p1⟩ := step v h (List.mem_of_getElem? ev) p
    refine ⟨F v, h', e1, p1, ?_⟩
    rw [List.take_add_one, ev, List.map_append]
    rfl)
  rw [List.take_length] at p2
  subst p2
  exact ⟨h', e1, p1⟩
theorem lc_all {Q : MV → Prop} (e : itv P C it σ h = .ok (.items l) h1) (hl : l.length ≤ LIM) (I : MH → Prop) (h0 : I h1)
    (step : ∀ v h, v ∈ l → I h → ∃ x h', ev P C elt ((wipe σ own).set j (some v)) h = .ok x h' ∧ Q x ∧ I h') :
    ∃ acc h', ev P C (.lc elt own (.nm j) it .no) σ h = .ok (.ref h'.size) (h'.push (.lst acc)) ∧ I h' ∧ acc.length = l.length ∧ ∀ x ∈ acc, Q x := by
  obtain ⟨acc, h', e1, ⟨p1, p2⟩, a⟩ := lc_gen (elt := elt) (own := own) (j := j) e hl (fun i acc h => I h ∧ ∀ x ∈ acc, Q x) ⟨h0, fun x hx => (by cases hx)⟩ (by
    rintro i v acc h ev ⟨p, q⟩
    obtain ⟨x, h', e1, q1, p1⟩ := step v h (List.mem_of_getElem? ev) p
    exact ⟨x, h', e1, p1, fun z hz => (List.mem_append.mp hz).elim (q z) fun hz => (by rw [List.mem_singleton.mp hz]; exact q1)⟩)
  exact ⟨acc, h', e1, p1, a, p2⟩
theorem it_str {b : Ex} {s : Tx} (e : ev P C b σ h = .ok (.str s) h1) : itv P C (.ex b) σ h = .ok (.items (s.map fun c => .str [c])) h1 := by
  unfold itv
  rw [e]
  rfl
theorem allT_map {α : Type} (F : α → Bool) : ∀ l : List α, allT (l.map fun c => .bl (F c)) = some (l.all F)
  | [] => rfl
  | x :: xs => by
    simp only [List.map_cons, allT, allT_map F xs, Option.map_some, List.all_cons]
theorem f_all {r : Nat} {l : List MV} {b : Bool} (g : h.get r = some (.lst l)) (e : allT l = some b) : bifM P .all [.ref r] h = .ok (.bl b) h := by
  unfold bifM listOf
  simp only [g, e, bR]
theorem f_lists {s : Tx} (hl : s.length ≤ LIM) : bifM P .list [.str s] h = .ok (.ref h.size) (h.push (.lst (s.map fun c => .str [c]))) := by
  unfold bifM
  exact n_list (by rw [List.length_map]; exact hl)
theorem dat_strs {n : Nat} : ∀ l : List Tx, (l.map MV.str).mapM (dat (n + 1) h) = some (l.map PD.str)
  | [] => rfl
  | x :: xs => by
    rw [List.map_cons, List.mapM_cons, dat_strs xs]
    rfl
theorem in_refs {s : Tx} {r : Nat} {l : List Tx} (g : h.get r = some (.lst (l.map MV.str))) : cmpM .isin (.str s) (.ref r) h = .ok (.bl (l.any fun z => z == s)) h := by
  have e1 : dat DEP h (.ref r) = some (.lst (l.map PD.str)) := by
    unfold DEP
    simp only [dat, g, dat_strs, Option.map_some]
  have e2 : dat DEP h (.str s) = some (.str s) := rfl
  have e3 : isD h (.ref r) = false := by
    unfold isD
    simp only [g]
  unfold cmpM inM
  simp only [e1, e2, e3, bR, List.any_map]
  rfl
theorem in_kls {s : Tx} {l : List Tx} : cmpM .isin (.str s) (.kl (l.map MV.str)) h = .ok (.bl (l.any fun z => z == s)) h := by
  have e1 : dat DEP h (.kl (l.map MV.str)) = some (.lst (l.map PD.str)) := by
    unfold DEP
    simp only [dat, dat_strs, Option.map_some]
  have e2 : dat DEP h (.str s) = some (.str s) := rfl
  unfold cmpM inM
  simp only [e1, e2, bR, List.any_map]
  rfl
theorem in_str {c : Nat} {t : Tx} : cmpM .isin (.str [c]) (.str t) h = .ok (.bl (decide (c ∈ t))) h := rfl
end
/-! the ends of a text -/
theorem cut_last {α : Type} {l : List α} {c : α} : cut (l ++ [c]) (some (-1)) none = [c] := by
  unfold cut clip
  have e : ((-1 : Int) + ((l ++ [c]).length : Nat)).toNat = l.length := by
    rw [List.length_append, List.length_singleton]
    omega
  simp only
  rw [if_pos (by omega), e, List.drop_left, List.length_append, List.length_singleton]
  exact List.take_of_length_le (by simp)
theorem cut_init {α : Type} {l : List α} {c : α} : cut (l ++ [c]) none (some (-1)) = l := by
  unfold cut clip
  have e : ((-1 : Int) + ((l ++ [c]).length : Nat)).toNat = l.length := by
    rw [List.length_append, List.length_singleton]
    omega
  simp only
  rw [if_pos (by omega), e, List.drop_zero, Nat.sub_zero, List.take_left]
theorem cut_nil {α : Type} {lo hi : Option Int} : cut ([] : List α) lo hi = [] := by
  unfold cut
  simp
theorem cut_from {α : Type} {l : List α} {n : Nat} : cut l (some (n : Int)) none = l.drop n := by
  unfold cut clip
  simp only
  rw [if_neg (by omega), Int.toNat_natCast]
  rcases Nat.le_total n l.length with hn | hn
  · rw [Nat.min_eq_left hn]
    exact List.take_of_length_le (by rw [List.length_drop]; omega)
  · rw [Nat.min_eq_right hn, List.drop_length, List.drop_eq_nil_of_le hn]
    simp
theorem cut_to {α : Type} {l : List α} {n : Nat} : cut l none (some (n : Int)) = l.take n := by
  unfold cut clip
  simp only
  rw [if_neg (by omega), Int.toNat_natCast, List.drop_zero, Nat.sub_zero]
  rcases Nat.le_total n l.length with hn | hn
  · rw [Nat.min_eq_left hn]
  · rw [Nat.min_eq_right hn, List.take_length, List.take_of_length_le hn]
end DM
namespace DM
section
variable {P : Prog} {C : Nat → List MV → MH → R MV} {σ : En} {h h1 : MH}
theorem sl_txt {s : Tx} {lo hi : Option Int} : slM (.str s) lo hi h = .ok (.str (cut s lo hi)) h := rfl
theorem n_neg {i : Int} : negM (.int i) h = .ok (.int (-i)) h := rfl
theorem o_ok {i : Int} (e : -4611686018427387904 ≤ i ∧ i < 4611686018427387904) : oiM (.int i) h = .ok (some i) h := by
  have e1 : oi (.int i) = some i := by
    unfold oi
    exact if_pos e
  unfold oiM
  rw [e1]
theorem o_m1 : oiM (.int (-1)) h = .ok (some (-1)) h := o_ok ⟨by omega, by omega⟩
theorem s_last {l : Tx} {c : Nat} : subM (.str (l ++ [c])) (.int (-1)) h = .ok (.str [c]) h := by
  have e : DM.ixN (-1) (l ++ [c]).length = some l.length := by
    rw [List.length_append, List.length_singleton]
    unfold DM.ixN
    rw [if_neg (by omega), if_pos (by omega)]
    congr 1
    omega
  unfold subM
  simp only [e, List.getElem?_concat_length]
theorem s_strn {s : Tx} {n c : Nat} (e : s[n]? = some c) : subM (.str s) (.int n) h = .ok (.str [c]) h := by
  have hl := (List.getElem?_eq_some_iff.mp e).1
  have e1 : DM.ixN (n : Int) s.length = some n := by
    unfold DM.ixN
    rw [if_pos (Int.natCast_nonneg n), if_pos (by omega), Int.toNat_natCast]
  unfold subM
  simp only [e1, e]
end
end DM
namespace DM
/-! what only grows, but at b -/
def Gb (b : Nat) (h h' : MH) : Prop := h.size ≤ h'.size ∧ ∀ n o, n ≠ b → h.get n = some o → h'.get n = some o
theorem Gb.refl {b : Nat} {h : MH} : Gb b h h := ⟨Nat.le_refl _, fun _ _ _ e => e⟩
theorem Gb.trans {n : Nat} {a b c : MH} (x : Gb n a b) (y : Gb n b c) : Gb n a c := ⟨Nat.le_trans x.1 y.1, fun m o q e => y.2 m o q (x.2 m o q e)⟩
theorem Grow.gb {n : Nat} {a b : MH} (x : Grow a b) : Gb n a b := ⟨x.1, fun m o _ e => x.2 m o e⟩
theorem Gb.push {n : Nat} {a b : MH} {o : MO} (x : Gb n a b) : Gb n a (b.push o) := x.trans Grow.one.gb
theorem Gb.of {n : Nat} {a b : MH} (s : b.size = a.size) (f : ∀ m, m ≠ n → b.get m = a.get m) : Gb n a b := ⟨Nat.le_of_eq s.symm, fun m o q e => by rw [f m q]; exact e⟩
theorem cut_le {α : Type} {l : List α} {lo hi : Option Int} : (cut l lo hi).length ≤ l.length := by
  unfold cut
  rw [List.length_take, List.length_drop]
  omega
theorem cut_in {α : Type} {l : List α} {lo hi : Option Int} {c : α} (hc : c ∈ cut l lo hi) : c ∈ l := List.mem_of_mem_drop (List.mem_of_mem_take hc)
theorem k_join {P : Prog} {s : Tx} {h : MH} : metK P 1 (.str s) h = .ok .bt h := rfl
theorem txs_map : ∀ l : List Tx, txs (l.map MV.str) = some l
  | [] => rfl
  | x :: xs => by
    rw [List.map_cons]
    unfold txs
    rw [txs_map xs]
    rfl
theorem join_signs : ∀ t : Tx, joinT [] (t.map fun c => [c]) = t
  | [] => rfl
  | [a] => rfl
  | a :: b :: r => by
    have e := join_signs (b :: r)
    show [a] ++ [] ++ joinT [] ((b :: r).map fun c => [c]) = _
    rw [e]
    rfl
theorem sum_ones : ∀ t : Tx, ((t.map fun c => [c]).map (·.length)).sum = t.length
  | [] => rfl
  | a :: r => by
    have e := sum_ones r
    rw [List.map_cons, List.map_cons, List.sum_cons, e]
    show 1 + r.length = r.length + 1
    omega
theorem m_join {t : Tx} {r : Nat} {h : MH} (g : h.get r = some (.lst ((t.map fun c => [c]).map MV.str))) (hl : t.length ≤ LIM) : metM 1 (.str []) [.ref r] h = .ok (.str t) h := by
  unfold metM listOf
  simp only [g, txs_map, sum_ones, join_signs, List.length_nil, Nat.mul_zero, Nat.add_zero, if_pos hl]
theorem b_lst {m n : Nat} {a b : List MV} {h : MH} (g1 : h.get m = some (.lst a)) (g2 : h.get n = some (.lst b)) (hl : a.length + b.length ≤ LIM) : binM .add (.ref m) (.ref n) h = .ok (.ref h.size) (h.push (.lst (a ++ b))) := by
  unfold binM
  simp only [g1, g2]
  exact n_list (by rw [List.length_append]; exact hl)
end DM
namespace DM
section
variable {P : Prog} {C : Nat → List MV → MH → R MV} {σ : En} {h h1 h2 h3 : MH}
theorem ev_met1 {m : Nat} {o e1 : Ex} {kn : List Nat} {sh : List Src} {x v r : MV} (e0 : ev P C o σ h = .ok x h1) (ek : metK P m x h1 = .ok .bt h1) (ea : ev P C e1 σ h1 = .ok v h2) (em : metM m x [v] h2 = .ok r h3) : ev P C (.met m o (.cons e1 .nil) .nil kn sh) σ h = .ok r h3 := by
  rw [ev, e0]
  simp only [bind_ok', ek, evs, ea, mc_bt, em]
theorem x_set {j : Nat} {e : Ex} {v : MV} (e0 : ev P C e σ h = .ok v h1) : exec P C (.set (.nm j) e) σ h = .nx (σ.set j (some v)) h1 := by
  rw [exec, e0]
  rfl
end
end DM
namespace DM
theorem cat_ok {h : MH} {r : Nat} {L l : List MV} (g : h.get r = some (.lst L)) (h1 : L.length ≤ 1000) (h2 : l.length ≤ 1000) : ∃ h', newList h l = .ok (.ref h.size) (h.push (.lst l)) ∧ binM .add (.ref r) (.ref h.size) (h.push (.lst l)) = .ok (.ref (h.size + 1)) h' ∧
    h'.get (h.size + 1) = some (.lst (L ++ l)) ∧ Grow h h' ∧ h'.size = h.size + 2 := by
  refine ⟨(h.push (.lst l)).push (.lst (L ++ l)), n_list (by unfold LIM; omega), ?_, ?_, Grow.one.push, ?_⟩
  · rw [← size_push (h := h) (o := .lst l)]
    exact b_lst (get_push g) get_push_size (by unfold LIM; omega)
  · rw [← size_push (h := h) (o := .lst l)]
    exact get_push_size
  · rw [size_push, size_push]
end DM
namespace DM
section
variable {P : Prog} {C : Nat → List MV → MH → R MV} {σ : En} {h h1 : MH}
theorem f_rtn {d : FnD} {vs : List MV} {σ1 : En} (σ0 : En) (hl : vs.length = d.np) (hσ : vs.map some ++ List.replicate (d.ns - d.np) none = σ0) (e : execs P C d.body σ0 h = .nx σ1 h1) : runFn P C d vs h = .ok .non h1 := by
  unfold runFn
  rw [if_pos hl, hσ, e]
theorem ev_bif1 {b : Bif} {e : Ex} {v : MV} (e0 : ev P C e σ h = .ok v h1) : ev P C (.bif b (.cons e .nil)) σ h = bifM P b [v] h1 := by
  rw [ev]
  simp only [evs, e0, bind_ok']
end
end DM
namespace DM
/-! a comprehension over anything -/
theorem lcl_g {body : MV → MH → R (Option MV)} {it : It} {l : List MV} (hl : l.length ≤ LIM) (Pv : Nat → List MV → MH → Prop) (hat : ∀ i acc h, Pv i acc h → it.at h i = some l[i]?)
    (step : ∀ i v acc h, l[i]? = some v → Pv i acc h → ∃ o h', body v h = .ok o h' ∧ Pv (i + 1) (acc ++ o.toList) h') :
    ∀ (n i : Nat) (acc : List MV) (h : MH), i + n = l.length → acc.length ≤ i → Pv i acc h → ∃ acc' h', lcl body it n i acc h = .ok acc' h' ∧ Pv l.length acc' h' ∧ acc'.length ≤ l.length
  | 0, i, acc, h, e, ha, p => by
    have e0 : l[i]? = none := List.getElem?_eq_none (by omega)
    refine ⟨acc, h, ?_, by rw [← e]; exact p, by omega⟩
    unfold lcl
    simp only [hat i acc h p, e0]
  | n + 1, i, acc, h, e, ha, p => by
    have hi : i < l.length := by omega
    have e0 : l[i]? = some l[i] := List.getElem?_eq_getElem hi
    obtain ⟨o, h1, e1, p1⟩ := step i _ acc h e0 p
    unfold lcl
    simp only [hat i acc h p, e0, e1, bind_ok']
    cases o with
    | none =>
      obtain ⟨acc', h2, e2, p2, a2⟩ := lcl_g hl Pv hat step n (i + 1) acc h1 (by omega) (by omega) (by rw [Option.toList, List.append_nil] at p1; exact p1)
      exact ⟨acc', h2, e2, p2, a2⟩
    | some x =>
      obtain ⟨acc', h2, e2, p2, a2⟩ := lcl_g hl Pv hat step n (i + 1) (acc ++ [x]) h1 (by omega) (by rw [List.length_append]; exact Nat.succ_le_succ ha) p1
      refine ⟨acc', h2, ?_, p2, a2⟩
      simp only [if_pos (show acc.length < LIM by omega)]
      exact e2
section
variable {P : Prog} {C : Nat → List MV → MH → R MV} {σ : En} {h h1 : MH} {tg : Tg} {itx : Itx} {elt : Ex} {own : List Nat} {c : Tc}
theorem lc_g {it : It} {l : List MV} (e : itv P C itx σ h = .ok it h1) (hn : it.len h1 = some l.length) (hl : l.length ≤ LIM) (Pv : Nat → List MV → MH → Prop) (hat : ∀ i acc h, Pv i acc h → it.at h i = some l[i]?) (h0 : Pv 0 [] h1)
    (step : ∀ i v acc h, l[i]? = some v → Pv i acc h → ∃ o h', lcB (asg P C tg) (ct P C c) (ev P C elt) own σ v h = .ok o h' ∧ Pv (i + 1) (acc ++ o.toList) h') :
    ∃ acc h', ev P C (.lc elt own tg itx c) σ h = .ok (.ref h'.size) (h'.push (.lst acc)) ∧ Pv l.length acc h' := by
  obtain ⟨acc, h', e1, p, a⟩ := lcl_g (body := lcB (asg P C tg) (ct P C c) (ev P C elt) own σ) hl Pv hat step l.length 0 [] h1 (by omega) (Nat.le_refl _) h0
  refine ⟨acc, h', ?_, p⟩
  unfold ev lcM
  rw [e]
  simp only [bind_ok', hn]
  rw [e1]
  exact n_list (by omega)
theorem len_live {n : Nat} {l : List MV} (g : h.get n = some (.lst l)) : (It.live n).len h = some l.length := by
  unfold It.len listOf
  simp only [g, Option.map_some]
theorem at_live {n i : Nat} {l : List MV} (g : h.get n = some (.lst l)) : (It.live n).at h i = some l[i]? := by
  unfold It.at listOf
  simp only [g, Option.map_some]
end
end DM
namespace DM
theorem zip_at : ∀ (l m : List MV) (i : Nat), pairAt i l m = (zipT l m)[i]?
  | [], m, i => by
    unfold pairAt zipT
    simp
  | x :: l, [], i => by
    unfold pairAt zipT
    cases (x :: l)[i]? <;> simp
  | x :: l, y :: m, 0 => rfl
  | x :: l, y :: m, i + 1 => zip_at l m i
theorem zip_len : ∀ l m : List MV, (zipT l m).length = min l.length m.length
  | [], m => by
    unfold zipT
    simp
  | x :: l, [] => by
    unfold zipT
    simp
  | x :: l, y :: m => by
    unfold zipT
    rw [List.length_cons, zip_len l m, List.length_cons, List.length_cons]
    omega
section
variable {P : Prog} {C : Nat → List MV → MH → R MV} {σ : En} {h h1 h2 : MH} {m n : Nat} {k l : List MV}
theorem it_zip {a b : Ex} (ea : ev P C a σ h = .ok (.ref m) h1) (eb : ev P C b σ h1 = .ok (.ref n) h2) (ga : h2.get m = some (.lst k)) (gb : h2.get n = some (.lst l)) : itv P C (.zip a b) σ h = .ok (.zip (.ref m) (.ref n)) h2 := by
  unfold itv
  rw [ea, bind_ok', eb, bind_ok']
  unfold zipM listOf
  simp only [ga, gb]
theorem len_zip (ga : h.get m = some (.lst k)) (gb : h.get n = some (.lst l)) : (It.zip (.ref m) (.ref n)).len h = some (zipT k l).length := by
  unfold It.len listOf
  simp only [ga, gb, zip_len]
theorem at_zip {i : Nat} (ga : h.get m = some (.lst k)) (gb : h.get n = some (.lst l)) : (It.zip (.ref m) (.ref n)).at h i = some (zipT k l)[i]? := by
  unfold It.at listOf
  simp only [ga, gb, zip_at]
/-- each item by its own, nothing changed -/
theorem lc_m {tg : Tg} {itx : Itx} {elt : Ex} {own : List Nat} {it : It} (F : MV → MV) (e : itv P C itx σ h = .ok it h1) (hl : l.length ≤ LIM) (hn : it.len h1 = some l.length) (hat : ∀ i, it.at h1 i = some l[i]?)
    (step : ∀ v, v ∈ l → lcB (asg P C tg) (ct P C .no) (ev P C elt) own σ v h1 = .ok (some (F v)) h1) : ev P C (.lc elt own tg itx .no) σ h = .ok (.ref h1.size) (h1.push (.lst (l.map F))) := by
  obtain ⟨acc, h', e1, p1, p2⟩ := lc_g (tg := tg) (elt := elt) (own := own) (c := .no) e hn hl (fun i acc h => h = h1 ∧ acc = (l.take i).map F) (fun i acc h p => by rw [p.1]; exact hat i) ⟨rfl, rfl⟩ (by
    rintro i v acc h ev ⟨rfl, rfl⟩
    refine ⟨_, _, step v (List.mem_of_getElem? ev), rfl, ?_⟩
    rw [List.take_add_one, ev, List.map_append]
    rfl)
  subst p1
  rw [List.take_length] at p2
  subst p2
  exact e1
end
end DM
namespace DM
section
variable {P : Prog} {C : Nat → List MV → MH → R MV} {σ : En} {h h1 h2 : MH} {a b : Ex} {x y : MV} {r : R MV}
theorem ev_var {i : Nat} {v : MV} (e : σ[i]? = some (some v)) : ev P C (.var i) σ h = .ok v h := by
  rw [ev, e]
theorem ev_int {i : Int} : ev P C (.int i) σ h = .ok (.int i) h := by
  rw [ev]
theorem ev_bin {op : BOp} (e0 : ev P C a σ h = .ok x h1) (e1 : ev P C b σ h1 = .ok y h2) (e2 : binM op x y h2 = r) : ev P C (.bin op a b) σ h = r := by
  rw [ev, e0, bind_ok', e1, bind_ok', e2]
theorem ev_slto {i : Int} (e0 : ev P C a σ h = .ok x h1) (e1 : ev P C b σ h1 = .ok (.int i) h2) (hi : -4611686018427387904 ≤ i ∧ i < 4611686018427387904) (e2 : slM x none (some i) h2 = r) : ev P C (.sl a .no (.so b)) σ h = r := by
  rw [ev, e0, bind_ok', eo, bind_ok', eo, e1, bind_ok', o_ok hi, bind_ok', e2]
theorem ev_slfr {i : Int} (e0 : ev P C a σ h = .ok x h1) (e1 : ev P C b σ h1 = .ok (.int i) h2) (hi : -4611686018427387904 ≤ i ∧ i < 4611686018427387904) (e2 : slM x (some i) none h2 = r) : ev P C (.sl a (.so b) .no) σ h = r := by
  rw [ev, e0, bind_ok', eo, e1, bind_ok', o_ok hi, bind_ok', eo, bind_ok', e2]
end
end DM
set_option maxRecDepth 100000
/-! printed by gen.py: what several laws share -/
namespace W
open DM
class Fn (P : Prog) (i : Nat) (d : outParam FnD) : Prop where e : P.fn i = d
class Gl (P : Prog) (i : Nat) (v : outParam MV) : Prop where e : P.glob i = v
class In (P : Prog) (c : Nat) (i : outParam Nat) : Prop where e : (P.cls c).ini = i
class Me (P : Prog) (c m : Nat) (i : outParam Nat) : Prop where e : fldN m (P.cls c).met = some i
class At (P : Prog) (c f : Nat) : Prop where e : (P.cls c).att f = true
class Ix (P : Prog) (c : Nat) : Prop where e : (P.cls c).isx = true
/-- _law_bag: slots 0 script 1 at 2 cell 3 great 4 primes 5 mixed -/
def s2_0 : St := .set (.nm 2) (.int 0)
def s2_1 : St := .ite (.vl (.cmp .lt (.var 1) (.bif .len (.cons (.var 0) .nil)))) (.cons (.set (.nm 2) (.sub (.var 0) (.var 1))) .nil) .nil
def s2_2 : St := .set (.nm 3) (.int 0)
def s2_3 : St := .ite (.vl (.cmp .ge (.bif .abs (.cons (.var 2) .nil)) (.bin .pow (.int 10) (.int 18)))) (.cons (.set (.nm 3) (.bif .abs (.cons (.var 2) .nil))) .nil) .nil
def s2_4 : St := .set (.nm 4) (.lst (.cons (.int 2147483647) (.cons (.int 2147483629) (.cons (.int 2147483587) (.cons (.int 2147483579) (.cons (.int 2147483563) (.cons (.int 2147483549) (.cons (.int 2147483543) (.cons (.int 2147483497) .nil)))))))))
def s2_5 : St := .set (.nm 5) (.bin .add (.bin .add (.bin .add (.bin .mul (.bin .mod (.var 2) (.int 2147483647)) (.int 50021)) (.bin .mul (.bin .mul (.int 70001) (.var 1)) (.var 1))) (.bin .mul (.int 9001) (.var 1))) (.int 7717))
def s2_6 : St := .ret (.lst (.cons (.var 3) (.cons (.bin .mod (.var 5) (.sub (.var 4) (.bin .mod (.var 1) (.int 8)))) .nil)))
def b2 : Ss := .cons s2_0 (.cons s2_1 (.cons s2_2 (.cons s2_3 (.cons s2_4 (.cons s2_5 (.cons s2_6 .nil))))))
abbrev F2 : FnD := ⟨2, 6, b2⟩
/-- _law_take: slots 0 bag 1 many 2 digit -/
def s3_0a_0 : St := .set (.nm 2) (.bin .mod (.sub (.var 0) (.int 0)) (.var 1))
def s3_0a_1 : St := .set (.sub (.var 0) (.int 0)) (.bin .fdiv (.sub (.var 0) (.int 0)) (.var 1))
def s3_0a_2 : St := .ret (.var 2)
def k3_0a : Ss := .cons s3_0a_0 (.cons s3_0a_1 (.cons s3_0a_2 .nil))
def s3_0 : St := .ite (.vl (.cmp .gt (.sub (.var 0) (.int 0)) (.int 0))) k3_0a .nil
def s3_1 : St := .set (.sub (.var 0) (.int 1)) (.bin .mod (.bin .add (.bin .mul (.sub (.var 0) (.int 1)) (.int 69069)) (.int 1327217)) (.int 2147483647))
def s3_2 : St := .ret (.bin .mod (.bin .fdiv (.bin .mod (.bin .pow (.sub (.var 0) (.int 1)) (.int 3)) (.int 2147483629)) (.int 16)) (.var 1))
def b3 : Ss := .cons s3_0 (.cons s3_1 (.cons s3_2 .nil))
abbrev F3 : FnD := ⟨2, 3, b3⟩
/-- names.is_whole: slots 0 thing -/
def s18_0 : St := .ret (.and_ (.isi (.var 0) .int) (.not_ (.isi (.var 0) .bool)))
def b18 : Ss := .cons s18_0 .nil
abbrev F18 : FnD := ⟨1, 1, b18⟩
/-- rules.is_within: slots 0 thing 1 least 2 most -/
def s19_0 : St := .ret (.and_ (.call 18 (.cons (.var 0) .nil) .nil [] [.pos 0]) (.ch .le .le (.var 1) (.var 0) (.var 2)))
def b19 : Ss := .cons s19_0 .nil
abbrev F19 : FnD := ⟨3, 3, b19⟩
/-- rules.Bounds.__init__: slots 0 self 1 lost 2 late -/
def s20_0 : St := .ite (.or_ (.not_ (.vl (.call 19 (.cons (.var 1) (.cons (.int 0) (.cons (.gl 6) .nil))) .nil [] [.pos 0, .pos 1, .pos 2]))) (.not_ (.vl (.call 19 (.cons (.var 2) (.cons (.int 1) (.cons (.gl 5) .nil))) .nil [] [.pos 0, .pos 1, .pos 2])))) (.cons .nev .nil) .nil
def s20_1 : St := .set (.att (.var 0) 104) (.var 1)
def s20_2 : St := .set (.att (.var 0) 105) (.var 2)
def b20 : Ss := .cons s20_0 (.cons s20_1 (.cons s20_2 .nil))
abbrev F20 : FnD := ⟨3, 3, b20⟩
/-- rules.Rule.__init__: slots 0 self 1 probes 2 gap 3 wait 4 repeats 5 period 6 life 7 parts 8 word -/
def s21_0 : St := .set (.nm 7) (.dct (.cons (.str [112, 114, 111, 98, 101, 115]) (.cons (.var 1) (.cons (.str [103, 97, 112]) (.cons (.var 2) (.cons (.str [119, 97, 105, 116]) (.cons (.var 3) (.cons (.str [114, 101, 112, 101, 97, 116, 115]) (.cons (.var 4) (.cons (.str [112, 101, 114, 105, 111, 100]) (.cons (.var 5) (.cons (.str [108, 105, 102, 101]) (.cons (.var 6) .nil)))))))))))))
def s21_1 : St := .ite (.not_ (.vl (.bif .all (.cons (.lc (.call 19 (.cons (.sub (.var 7) (.var 8)) (.cons (.sub (.gl 7) (.var 8)) (.cons (.sub (.gl 8) (.var 8)) .nil))) .nil [] [.pos 0, .pos 1, .pos 2]) [8] (.nm 8) (.ex (.gl 7)) .no) .nil)))) (.cons .nev .nil) .nil
def s21_2 : St := .ite (.vl (.cmp .lt (.var 5) (.bin .add (.call 22 (.cons (.var 1) (.cons (.var 2) (.cons (.var 3) .nil))) .nil [] [.pos 0, .pos 1, .pos 2]) (.int 2)))) (.cons .nev .nil) .nil
def s21_3 : St := .set (.att (.var 0) 106) (.var 1)
def s21_4 : St := .set (.att (.var 0) 107) (.var 2)
def s21_5 : St := .set (.att (.var 0) 108) (.var 3)
def s21_6 : St := .set (.att (.var 0) 109) (.var 4)
def s21_7 : St := .set (.att (.var 0) 110) (.var 5)
def s21_8 : St := .set (.att (.var 0) 111) (.var 6)
def b21 : Ss := .cons s21_0 (.cons s21_1 (.cons s21_2 (.cons s21_3 (.cons s21_4 (.cons s21_5 (.cons s21_6 (.cons s21_7 (.cons s21_8 .nil))))))))
abbrev F21 : FnD := ⟨7, 9, b21⟩
/-- rules.claiming_of: slots 0 probes 1 gap 2 wait -/
def s22_0 : St := .ret (.bin .add (.bin .mul (.bif .max (.cons (.int 0) (.cons (.bin .sub (.var 0) (.int 1)) .nil))) (.var 1)) (.var 2))
def b22 : Ss := .cons s22_0 .nil
abbrev F22 : FnD := ⟨3, 3, b22⟩
/-- rules.look_bounds: slots 0 thing -/
def s33_0 : St := .ite (.not_ (.vl (.isi (.var 0) (.own 2)))) (.cons .nev .nil) .nil
def b33 : Ss := .cons s33_0 .nil
abbrev F33 : FnD := ⟨1, 1, b33⟩
/-- rules.look_rule: slots 0 thing -/
def s34_0 : St := .ite (.not_ (.vl (.isi (.var 0) (.own 1)))) (.cons .nev .nil) .nil
def b34 : Ss := .cons s34_0 .nil
abbrev F34 : FnD := ⟨1, 1, b34⟩
/-- rules.look_both: slots 0 bounds 1 rule -/
def s35_0 : St := .exp (.call 33 (.cons (.var 0) .nil) .nil [] [.pos 0])
def s35_1 : St := .exp (.call 34 (.cons (.var 1) .nil) .nil [] [.pos 0])
def b35 : Ss := .cons s35_0 (.cons s35_1 .nil)
abbrev F35 : FnD := ⟨2, 2, b35⟩
/-- rules.asking_of_repeats: slots 0 late 1 repeats 2 gap -/
def s36_0 : St := .ret (.bin .add (.bin .mul (.int 2) (.var 0)) (.bin .mul (.bin .mul (.int 2) (.var 1)) (.var 2)))
def b36 : Ss := .cons s36_0 .nil
abbrev F36 : FnD := ⟨3, 3, b36⟩
/-- rules.claiming_time: slots 0 rule -/
def s37_0 : St := .exp (.call 34 (.cons (.var 0) .nil) .nil [] [.pos 0])
def s37_1 : St := .ret (.call 22 (.cons (.att (.var 0) 106) (.cons (.att (.var 0) 107) (.cons (.att (.var 0) 108) .nil))) .nil [] [.pos 0, .pos 1, .pos 2])
def b37 : Ss := .cons s37_0 (.cons s37_1 .nil)
abbrev F37 : FnD := ⟨1, 1, b37⟩
/-- rules.asking_time: slots 0 bounds 1 rule -/
def s38_0 : St := .exp (.call 35 (.cons (.var 0) (.cons (.var 1) .nil)) .nil [] [.pos 0, .pos 1])
def s38_1 : St := .ret (.call 36 (.cons (.att (.var 0) 105) (.cons (.att (.var 1) 109) (.cons (.att (.var 1) 107) .nil))) .nil [] [.pos 0, .pos 1, .pos 2])
def b38 : Ss := .cons s38_0 (.cons s38_1 .nil)
abbrev F38 : FnD := ⟨2, 2, b38⟩
/-- rules.mending_time: slots 0 bounds 1 rule -/
def s39_0 : St := .exp (.call 35 (.cons (.var 0) (.cons (.var 1) .nil)) .nil [] [.pos 0, .pos 1])
def s39_1 : St := .ret (.bin .add (.bin .add (.call 37 (.cons (.var 1) .nil) .nil [] [.pos 0]) (.bin .mul (.bin .add (.att (.var 0) 104) (.int 1)) (.att (.var 1) 110))) (.att (.var 0) 105))
def b39 : Ss := .cons s39_0 (.cons s39_1 .nil)
abbrev F39 : FnD := ⟨2, 2, b39⟩
/-- rules.bounds_tuple: slots 0 bounds -/
def s46_0 : St := .ret (.tup (.cons (.att (.var 0) 104) (.cons (.att (.var 0) 105) .nil)))
def b46 : Ss := .cons s46_0 .nil
abbrev F46 : FnD := ⟨1, 1, b46⟩
/-- rules.fits: slots 0 bounds 1 rule 2 long -/
def s49_0 : St := .set (.nm 2) (.call 38 (.cons (.var 0) (.cons (.var 1) .nil)) .nil [] [.pos 0, .pos 1])
def s49_1 : St := .ret (.cmp .ge (.att (.var 1) 111) (.bin .mul (.int 2) (.var 2)))
def b49 : Ss := .cons s49_0 (.cons s49_1 .nil)
abbrev F49 : FnD := ⟨2, 3, b49⟩
/-- rules.is_enough: slots 0 bounds 1 rule 2 is_asked 3 lost 4 late -/
def s50_0 : St := .exp (.call 35 (.cons (.var 0) (.cons (.var 1) .nil)) .nil [] [.pos 0, .pos 1])
def s50_1 : St := .set (.tup (.cons (.nm 3) (.cons (.nm 4) .nil))) (.call 46 (.cons (.var 0) .nil) .nil [] [.pos 0])
def s50_2 : St := .set (.nm 2) (.and_ (.cmp .ge (.att (.var 1) 106) (.bin .add (.var 3) (.int 1))) (.cmp .ge (.att (.var 1) 109) (.var 3)))
def s50_3 : St := .ret (.and_ (.var 2) (.and_ (.cmp .ge (.att (.var 1) 108) (.bin .add (.bin .mul (.int 2) (.var 4)) (.bin .mul (.var 3) (.att (.var 1) 107)))) (.call 49 (.cons (.var 0) (.cons (.var 1) .nil)) .nil [] [.pos 0, .pos 1])))
def b50 : Ss := .cons s50_0 (.cons s50_1 (.cons s50_2 (.cons s50_3 .nil)))
abbrev F50 : FnD := ⟨2, 5, b50⟩
/-- rules.least_rule: slots 0 bounds 1 gap 2 wait 3 period 4 life 5 lost 6 late 7 probes 8 repeats -/
def s153_0 : St := .exp (.call 33 (.cons (.var 0) .nil) .nil [] [.pos 0])
def s153_1 : St := .ite (.not_ (.vl (.call 19 (.cons (.var 1) (.cons (.sub (.gl 7) (.str [103, 97, 112])) (.cons (.sub (.gl 8) (.str [103, 97, 112])) .nil))) .nil [] [.pos 0, .pos 1, .pos 2]))) (.cons .nev .nil) .nil
def s153_2 : St := .set (.tup (.cons (.nm 5) (.cons (.nm 6) .nil))) (.call 46 (.cons (.var 0) .nil) .nil [] [.pos 0])
def s153_3 : St := .par [7, 8] (.cons (.bin .add (.var 5) (.int 1)) (.cons (.var 5) .nil))
def s153_4 : St := .set (.nm 2) (.bin .add (.bin .mul (.int 2) (.var 6)) (.bin .mul (.var 5) (.var 1)))
def s153_5 : St := .set (.nm 3) (.bin .add (.call 22 (.cons (.var 7) (.cons (.var 1) (.cons (.var 2) .nil))) .nil [] [.pos 0, .pos 1, .pos 2]) (.int 2))
def s153_6 : St := .set (.nm 4) (.bin .mul (.int 2) (.call 36 (.cons (.var 6) (.cons (.var 8) (.cons (.var 1) .nil))) .nil [] [.pos 0, .pos 1, .pos 2]))
def s153_7 : St := .ret (.mk 1 .nil (.cons (.var 7) (.cons (.var 1) (.cons (.var 2) (.cons (.var 8) (.cons (.var 3) (.cons (.var 4) .nil)))))) [106, 107, 108, 109, 110, 111] [.kw 0, .kw 1, .kw 2, .kw 3, .kw 4, .kw 5])
def b153 : Ss := .cons s153_0 (.cons s153_1 (.cons s153_2 (.cons s153_3 (.cons s153_4 (.cons s153_5 (.cons s153_6 (.cons s153_7 .nil)))))))
abbrev F153 : FnD := ⟨2, 9, b153⟩
end W
set_option maxRecDepth 100000
/-! printed by gen.py: the tables of law k09_whole_enough_by_the_least -/
namespace K09
open DM
/-- _law_is_whole: slots 0 thing -/
def s23_0 : St := .ret (.and_ (.isi (.var 0) .int) (.not_ (.isi (.var 0) .bool)))
def b23 : Ss := .cons s23_0 .nil
abbrev F23 : FnD := ⟨1, 1, b23⟩
/-- _law_least: slots 0 few 1 old 2 g 3 claiming -/
def s154_0 : St := .set (.nm 3) (.bin .add (.bin .add (.bin .mul (.var 0) (.var 2)) (.bin .mul (.int 2) (.var 1))) (.bin .mul (.var 0) (.var 2)))
def s154_1 : St := .ret (.tup (.cons (.bin .add (.var 0) (.int 1)) (.cons (.var 2) (.cons (.bin .add (.bin .mul (.int 2) (.var 1)) (.bin .mul (.var 0) (.var 2))) (.cons (.var 0) (.cons (.bin .add (.var 3) (.int 2)) (.cons (.bin .mul (.int 2) (.bin .add (.bin .mul (.int 2) (.var 1)) (.bin .mul (.bin .mul (.int 2) (.var 0)) (.var 2)))) .nil)))))))
def b154 : Ss := .cons s154_0 (.cons s154_1 .nil)
abbrev F154 : FnD := ⟨3, 4, b154⟩
/-- _law_claiming: slots 0 ru -/
def s40_0 : St := .ret (.bin .add (.bin .mul (.bif .max (.cons (.int 0) (.cons (.bin .sub (.sub (.var 0) (.int 0)) (.int 1)) .nil))) (.sub (.var 0) (.int 1))) (.sub (.var 0) (.int 2)))
def b40 : Ss := .cons s40_0 .nil
abbrev F40 : FnD := ⟨1, 1, b40⟩
/-- _law_parts: slots 0 bag 1 ends 2 found 3 claiming 4 low 5 high -/
def s25_0 : St := .set (.nm 1) (.lst (.cons (.tup (.cons (.int 0) (.cons (.int 9) .nil))) (.cons (.tup (.cons (.int 1) (.cons (.int 5) .nil))) (.cons (.tup (.cons (.int 0) (.cons (.int 99) .nil))) (.cons (.tup (.cons (.int 0) (.cons (.int 9) .nil))) (.cons (.tup (.cons (.int 1) (.cons (.int 400) .nil))) (.cons (.tup (.cons (.int 1) (.cons (.int 400) .nil))) .nil)))))))
def s25_1 : St := .set (.nm 2) (.lc (.sub (.lst (.cons (.var 4) (.cons (.var 5) (.cons (.bin .add (.var 4) (.call 3 (.cons (.var 0) (.cons (.bin .add (.bin .sub (.var 5) (.var 4)) (.int 1)) .nil)) .nil [] [.pos 0, .pos 1])) (.cons (.bin .add (.var 4) (.call 3 (.cons (.var 0) (.cons (.int 4) .nil)) .nil [] [.pos 0, .pos 1])) .nil))))) (.call 3 (.cons (.var 0) (.cons (.int 4) .nil)) .nil [] [.pos 0, .pos 1])) [4, 5] (.tup (.cons (.nm 4) (.cons (.nm 5) .nil))) (.ex (.var 1)) .no)
def s25_2 : St := .set (.nm 3) (.bin .add (.bin .mul (.bif .max (.cons (.int 0) (.cons (.bin .sub (.sub (.var 2) (.int 0)) (.int 1)) .nil))) (.sub (.var 2) (.int 1))) (.sub (.var 2) (.int 2)))
def s25_3 : St := .set (.sub (.var 2) (.int 4)) (.sub (.lst (.cons (.sub (.var 2) (.int 4)) (.cons (.bin .add (.var 3) (.int 2)) (.cons (.bin .add (.var 3) (.int 1)) (.cons (.bif .min (.cons (.int 400) (.cons (.bin .add (.bin .add (.var 3) (.int 2)) (.call 3 (.cons (.var 0) (.cons (.int 40) .nil)) .nil [] [.pos 0, .pos 1])) .nil))) .nil))))) (.call 3 (.cons (.var 0) (.cons (.int 4) .nil)) .nil [] [.pos 0, .pos 1]))
def s25_4 : St := .ret (.var 2)
def b25 : Ss := .cons s25_0 (.cons s25_1 (.cons s25_2 (.cons s25_3 (.cons s25_4 .nil))))
abbrev F25 : FnD := ⟨1, 6, b25⟩
/-- _law_good_parts: slots 0 bag 1 found -/
def s41_0 : St := .set (.nm 1) (.call 25 (.cons (.var 0) .nil) .nil [] [.pos 0])
def s41_1 : St := .set (.sub (.var 1) (.int 4)) (.bif .max (.cons (.sub (.var 1) (.int 4)) (.cons (.bin .add (.bin .add (.bin .mul (.bif .max (.cons (.int 0) (.cons (.bin .sub (.sub (.var 1) (.int 0)) (.int 1)) .nil))) (.sub (.var 1) (.int 1))) (.sub (.var 1) (.int 2))) (.int 2)) .nil)))
def s41_2 : St := .ret (.var 1)
def b41 : Ss := .cons s41_0 (.cons s41_1 (.cons s41_2 .nil))
abbrev F41 : FnD := ⟨1, 2, b41⟩
/-- _law_is_rule: slots 0 parts 1 ends 2 one 3 low 4 high -/
def s26_0 : St := .set (.nm 1) (.lst (.cons (.tup (.cons (.int 0) (.cons (.int 9) .nil))) (.cons (.tup (.cons (.int 1) (.cons (.int 5) .nil))) (.cons (.tup (.cons (.int 0) (.cons (.int 99) .nil))) (.cons (.tup (.cons (.int 0) (.cons (.int 9) .nil))) (.cons (.tup (.cons (.int 1) (.cons (.int 400) .nil))) (.cons (.tup (.cons (.int 1) (.cons (.int 400) .nil))) .nil)))))))
def s26_1 : St := .ite (.not_ (.vl (.bif .all (.cons (.lc (.and_ (.call 23 (.cons (.var 2) .nil) .nil [] [.pos 0]) (.ch .le .le (.var 3) (.var 2) (.var 4))) [2, 3, 4] (.tup (.cons (.nm 2) (.cons (.tup (.cons (.nm 3) (.cons (.nm 4) .nil))) .nil))) (.zip (.var 0) (.var 1)) .no) .nil)))) (.cons (.ret (.bl false)) .nil) .nil
def s26_2 : St := .ret (.cmp .ge (.sub (.var 0) (.int 4)) (.bin .add (.bin .add (.bin .mul (.bif .max (.cons (.int 0) (.cons (.bin .sub (.sub (.var 0) (.int 0)) (.int 1)) .nil))) (.sub (.var 0) (.int 1))) (.sub (.var 0) (.int 2))) (.int 2)))
def b26 : Ss := .cons s26_0 (.cons s26_1 (.cons s26_2 .nil))
abbrev F26 : FnD := ⟨1, 5, b26⟩
/-- _law_made_rule: slots 0 parts -/
def s27_0 : St := .ret (.mk 1 .nil (.cons (.sub (.var 0) (.int 5)) (.cons (.sub (.var 0) (.int 1)) (.cons (.sub (.var 0) (.int 0)) (.cons (.sub (.var 0) (.int 4)) (.cons (.sub (.var 0) (.int 2)) (.cons (.sub (.var 0) (.int 3)) .nil)))))) [111, 107, 106, 110, 108, 109] [.kw 2, .kw 1, .kw 4, .kw 5, .kw 3, .kw 0])
def b27 : Ss := .cons s27_0 .nil
abbrev F27 : FnD := ⟨1, 1, b27⟩
/-- _law_near_parts: slots 0 bag 1 few 2 old 3 found 4 turn 5 spot -/
def s157_0 : St := .ite (.vl (.cmp .eq (.call 3 (.cons (.var 0) (.cons (.int 4) .nil)) .nil [] [.pos 0, .pos 1]) (.int 0))) (.cons (.ret (.call 41 (.cons (.var 0) .nil) .nil [] [.pos 0])) .nil) .nil
def s157_1 : St := .set (.nm 3) (.bif .list (.cons (.call 154 (.cons (.var 1) (.cons (.var 2) (.cons (.bin .add (.int 1) (.call 3 (.cons (.var 0) (.cons (.int 5) .nil)) .nil [] [.pos 0, .pos 1])) .nil))) .nil [] [.pos 0, .pos 1, .pos 2]) .nil))
def s157_2_0 : St := .set (.nm 5) (.sub (.lst (.cons (.int 0) (.cons (.int 2) (.cons (.int 3) (.cons (.int 4) (.cons (.int 5) .nil)))))) (.call 3 (.cons (.var 0) (.cons (.int 5) .nil)) .nil [] [.pos 0, .pos 1]))
def s157_2_1 : St := .set (.sub (.var 3) (.var 5)) (.bif .max (.cons (.bif .int (.cons (.cmp .gt (.var 5) (.int 3)) .nil)) (.cons (.bin .add (.sub (.var 3) (.var 5)) (.sub (.lst (.cons (.int 1) (.cons (.neg (.int 1)) (.cons (.int 2) (.cons (.int 9) .nil))))) (.call 3 (.cons (.var 0) (.cons (.int 4) .nil)) .nil [] [.pos 0, .pos 1]))) .nil)))
def k157_2 : Ss := .cons s157_2_0 (.cons s157_2_1 .nil)
def s157_2 : St := .for_ (.nm 4) (.rng (.call 3 (.cons (.var 0) (.cons (.int 4) .nil)) .nil [] [.pos 0, .pos 1])) k157_2
def s157_3 : St := .set (.tup (.cons (.sub (.var 3) (.int 0)) (.cons (.sub (.var 3) (.int 2)) (.cons (.sub (.var 3) (.int 3)) .nil)))) (.tup (.cons (.bif .min (.cons (.int 9) (.cons (.sub (.var 3) (.int 0)) .nil))) (.cons (.bif .min (.cons (.int 99) (.cons (.sub (.var 3) (.int 2)) .nil))) (.cons (.bif .min (.cons (.int 9) (.cons (.sub (.var 3) (.int 3)) .nil))) .nil))))
def s157_4 : St := .set (.sub (.var 3) (.int 4)) (.bif .max (.cons (.sub (.var 3) (.int 4)) (.cons (.bin .add (.call 40 (.cons (.var 3) .nil) .nil [] [.pos 0]) (.int 2)) .nil)))
def s157_5 : St := .ret (.var 3)
def b157 : Ss := .cons s157_0 (.cons s157_1 (.cons s157_2 (.cons s157_3 (.cons s157_4 (.cons s157_5 .nil)))))
abbrev F157 : FnD := ⟨3, 6, b157⟩
/-- _law_more_right: slots 0 held 1 parts 2 made 3 spot 4 more 5 greater -/
def s158_0 : St := .set (.nm 2) (.call 27 (.cons (.var 1) .nil) .nil [] [.pos 0])
def s158_1_0 : St := .set (.nm 4) (.bin .add (.bin .add (.sl (.var 1) .no (.so (.var 3))) (.lst (.cons (.bin .add (.sub (.var 1) (.var 3)) (.int 1)) .nil))) (.sl (.var 1) (.so (.bin .add (.var 3) (.int 1))) .no))
def s158_1_1a_0 : St := .set (.nm 5) (.call 27 (.cons (.var 4) .nil) .nil [] [.pos 0])
def s158_1_1a_1 : St := .ite (.and_ (.vl (.call 50 (.cons (.var 0) (.cons (.var 2) .nil)) .nil [] [.pos 0, .pos 1])) (.not_ (.vl (.call 50 (.cons (.var 0) (.cons (.var 5) .nil)) .nil [] [.pos 0, .pos 1])))) (.cons (.ret (.bl false)) .nil) .nil
def s158_1_1a_2 : St := .ite (.or_ (.vl (.cmp .lt (.call 39 (.cons (.var 0) (.cons (.var 5) .nil)) .nil [] [.pos 0, .pos 1]) (.call 39 (.cons (.var 0) (.cons (.var 2) .nil)) .nil [] [.pos 0, .pos 1]))) (.vl (.cmp .lt (.call 37 (.cons (.var 5) .nil) .nil [] [.pos 0]) (.call 37 (.cons (.var 2) .nil) .nil [] [.pos 0])))) (.cons (.ret (.bl false)) .nil) .nil
def k158_1_1a : Ss := .cons s158_1_1a_0 (.cons s158_1_1a_1 (.cons s158_1_1a_2 .nil))
def s158_1_1 : St := .ite (.vl (.call 26 (.cons (.var 4) .nil) .nil [] [.pos 0])) k158_1_1a .nil
def k158_1 : Ss := .cons s158_1_0 (.cons s158_1_1 .nil)
def s158_1 : St := .for_ (.nm 3) (.ex (.lst (.cons (.int 0) (.cons (.int 2) (.cons (.int 4) (.cons (.int 5) .nil)))))) k158_1
def s158_2 : St := .ret (.bl true)
def b158 : Ss := .cons s158_0 (.cons s158_1 (.cons s158_2 .nil))
abbrev F158 : FnD := ⟨2, 6, b158⟩
/-- law: slots 0 script 1 at 2 bag 3 held 4 lesser 5 turn 6 few 7 old 8 parts 9 made 10 low 11 due -/
def s159_0_0 : St := .set (.nm 2) (.call 2 (.cons (.var 0) (.cons (.var 1) .nil)) .nil [] [.pos 0, .pos 1])
def s159_0_1 : St := .par [6, 7] (.cons (.call 3 (.cons (.var 2) (.cons (.int 4) .nil)) .nil [] [.pos 0, .pos 1]) (.cons (.bin .add (.int 1) (.call 3 (.cons (.var 2) (.cons (.int 5) .nil)) .nil [] [.pos 0, .pos 1])) .nil))
def s159_0_2 : St := .set (.nm 3) (.mk 2 .nil (.cons (.var 6) (.cons (.var 7) .nil)) [104, 105] [.kw 0, .kw 1])
def s159_0_3 : St := .set (.nm 4) (.mk 2 .nil (.cons (.call 3 (.cons (.var 2) (.cons (.bin .add (.var 6) (.int 1)) .nil)) .nil [] [.pos 0, .pos 1]) (.cons (.bin .add (.int 1) (.call 3 (.cons (.var 2) (.cons (.var 7) .nil)) .nil [] [.pos 0, .pos 1])) .nil)) [104, 105] [.kw 0, .kw 1])
def s159_0_4_0 : St := .set (.nm 8) (.call 157 (.cons (.var 2) (.cons (.var 6) (.cons (.var 7) .nil))) .nil [] [.pos 0, .pos 1, .pos 2])
def s159_0_4_1 : St := .set (.nm 9) (.call 27 (.cons (.var 8) .nil) .nil [] [.pos 0])
def s159_0_4_2 : St := .set (.nm 10) (.call 153 (.cons (.var 3) .nil) (.cons (.sub (.var 8) (.int 1)) .nil) [107] [.pos 0, .kw 0])
def s159_0_4_3 : St := .set (.nm 11) (.and_ (.cmp .ge (.att (.var 9) 106) (.att (.var 10) 106)) (.and_ (.cmp .ge (.att (.var 9) 109) (.att (.var 10) 109)) (.cmp .ge (.att (.var 9) 108) (.att (.var 10) 108))))
def s159_0_4_4 : St := .set (.nm 11) (.and_ (.var 11) (.cmp .ge (.att (.var 9) 111) (.bin .mul (.int 2) (.call 38 (.cons (.var 3) (.cons (.var 9) .nil)) .nil [] [.pos 0, .pos 1]))))
def s159_0_4_5 : St := .ite (.or_ (.vl (.cmp .ne (.call 50 (.cons (.var 3) (.cons (.var 9) .nil)) .nil [] [.pos 0, .pos 1]) (.var 11))) (.and_ (.vl (.var 11)) (.or_ (.not_ (.vl (.call 49 (.cons (.var 3) (.cons (.var 9) .nil)) .nil [] [.pos 0, .pos 1]))) (.not_ (.vl (.call 50 (.cons (.var 4) (.cons (.var 9) .nil)) .nil [] [.pos 0, .pos 1])))))) (.cons (.ret (.bl false)) .nil) .nil
def s159_0_4_6 : St := .ite (.or_ (.vl (.cmp .gt (.call 38 (.cons (.var 4) (.cons (.var 9) .nil)) .nil [] [.pos 0, .pos 1]) (.call 38 (.cons (.var 3) (.cons (.var 9) .nil)) .nil [] [.pos 0, .pos 1]))) (.not_ (.vl (.call 158 (.cons (.var 3) (.cons (.var 8) .nil)) .nil [] [.pos 0, .pos 1])))) (.cons (.ret (.bl false)) .nil) .nil
def s159_0_4_7 : St := .ite (.vl (.cmp .gt (.call 39 (.cons (.var 4) (.cons (.var 9) .nil)) .nil [] [.pos 0, .pos 1]) (.call 39 (.cons (.var 3) (.cons (.var 9) .nil)) .nil [] [.pos 0, .pos 1]))) (.cons (.ret (.bl false)) .nil) .nil
def k159_0_4 : Ss := .cons s159_0_4_0 (.cons s159_0_4_1 (.cons s159_0_4_2 (.cons s159_0_4_3 (.cons s159_0_4_4 (.cons s159_0_4_5 (.cons s159_0_4_6 (.cons s159_0_4_7 .nil)))))))
def s159_0_4 : St := .for_ (.nm 5) (.rng (.int 8)) k159_0_4
def k159_0 : Ss := .cons s159_0_0 (.cons s159_0_1 (.cons s159_0_2 (.cons s159_0_3 (.cons s159_0_4 .nil))))
def s159_0 : St := .for_ (.nm 1) (.rng (.bif .max (.cons (.int 1) (.cons (.bif .min (.cons (.int 4) (.cons (.bif .len (.cons (.var 0) .nil)) .nil))) .nil)))) k159_0
def s159_1 : St := .ret (.bl true)
def b159 : Ss := .cons s159_0 (.cons s159_1 .nil)
abbrev F159 : FnD := ⟨1, 12, b159⟩
def fns : Nat → FnD
  | 18 => W.F18
  | 19 => W.F19
  | 20 => W.F20
  | 21 => W.F21
  | 46 => W.F46
  | 33 => W.F33
  | 34 => W.F34
  | 35 => W.F35
  | 22 => W.F22
  | 36 => W.F36
  | 37 => W.F37
  | 38 => W.F38
  | 39 => W.F39
  | 49 => W.F49
  | 50 => W.F50
  | 153 => W.F153
  | 2 => W.F2
  | 3 => W.F3
  | 23 => F23
  | 154 => F154
  | 40 => F40
  | 25 => F25
  | 41 => F41
  | 26 => F26
  | 27 => F27
  | 157 => F157
  | 158 => F158
  | 159 => F159
  | _ => ⟨0, 0, .nil⟩
def glob : Nat → MV
  | 5 => .int 5
  | 6 => .int 3
  | 7 => .kd [(.str [112, 114, 111, 98, 101, 115], .int 0), (.str [103, 97, 112], .int 1), (.str [119, 97, 105, 116], .int 0), (.str [114, 101, 112, 101, 97, 116, 115], .int 0), (.str [112, 101, 114, 105, 111, 100], .int 1), (.str [108, 105, 102, 101], .int 1)]
  | 8 => .kd [(.str [112, 114, 111, 98, 101, 115], .int 9), (.str [103, 97, 112], .int 5), (.str [119, 97, 105, 116], .int 99), (.str [114, 101, 112, 101, 97, 116, 115], .int 9), (.str [112, 101, 114, 105, 111, 100], .int 400), (.str [108, 105, 102, 101], .int 400)]
  | _ => .non
def atts : List Nat := [104, 105, 106, 107, 108, 109, 110, 111]
def cls : Nat → ClD
  | 1 => ⟨21, [], fun f => atts.contains f, true⟩
  | 2 => ⟨20, [], fun f => atts.contains f, true⟩
  | _ => ⟨0, [], fun _ => false, false⟩
abbrev P (shw : PD → Tx) : Prog := ⟨glob, fns, cls, shw⟩
instance {shw : PD → Tx} : W.Fn (P shw) 18 W.F18 := ⟨rfl⟩
instance {shw : PD → Tx} : W.Fn (P shw) 19 W.F19 := ⟨rfl⟩
instance {shw : PD → Tx} : W.Fn (P shw) 20 W.F20 := ⟨rfl⟩
instance {shw : PD → Tx} : W.Fn (P shw) 21 W.F21 := ⟨rfl⟩
instance {shw : PD → Tx} : W.Fn (P shw) 46 W.F46 := ⟨rfl⟩
instance {shw : PD → Tx} : W.Fn (P shw) 33 W.F33 := ⟨rfl⟩
instance {shw : PD → Tx} : W.Fn (P shw) 34 W.F34 := ⟨rfl⟩
instance {shw : PD → Tx} : W.Fn (P shw) 35 W.F35 := ⟨rfl⟩
instance {shw : PD → Tx} : W.Fn (P shw) 22 W.F22 := ⟨rfl⟩
instance {shw : PD → Tx} : W.Fn (P shw) 36 W.F36 := ⟨rfl⟩
instance {shw : PD → Tx} : W.Fn (P shw) 37 W.F37 := ⟨rfl⟩
instance {shw : PD → Tx} : W.Fn (P shw) 38 W.F38 := ⟨rfl⟩
instance {shw : PD → Tx} : W.Fn (P shw) 39 W.F39 := ⟨rfl⟩
instance {shw : PD → Tx} : W.Fn (P shw) 49 W.F49 := ⟨rfl⟩
instance {shw : PD → Tx} : W.Fn (P shw) 50 W.F50 := ⟨rfl⟩
instance {shw : PD → Tx} : W.Fn (P shw) 153 W.F153 := ⟨rfl⟩
instance {shw : PD → Tx} : W.Fn (P shw) 2 W.F2 := ⟨rfl⟩
instance {shw : PD → Tx} : W.Fn (P shw) 3 W.F3 := ⟨rfl⟩
instance {shw : PD → Tx} : W.Fn (P shw) 23 F23 := ⟨rfl⟩
instance {shw : PD → Tx} : W.Fn (P shw) 154 F154 := ⟨rfl⟩
instance {shw : PD → Tx} : W.Fn (P shw) 40 F40 := ⟨rfl⟩
instance {shw : PD → Tx} : W.Fn (P shw) 25 F25 := ⟨rfl⟩
instance {shw : PD → Tx} : W.Fn (P shw) 41 F41 := ⟨rfl⟩
instance {shw : PD → Tx} : W.Fn (P shw) 26 F26 := ⟨rfl⟩
instance {shw : PD → Tx} : W.Fn (P shw) 27 F27 := ⟨rfl⟩
instance {shw : PD → Tx} : W.Fn (P shw) 157 F157 := ⟨rfl⟩
instance {shw : PD → Tx} : W.Fn (P shw) 158 F158 := ⟨rfl⟩
instance {shw : PD → Tx} : W.Fn (P shw) 159 F159 := ⟨rfl⟩
instance {shw : PD → Tx} : W.Gl (P shw) 5 (.int 5) := ⟨rfl⟩
instance {shw : PD → Tx} : W.Gl (P shw) 6 (.int 3) := ⟨rfl⟩
instance {shw : PD → Tx} : W.Gl (P shw) 7 (.kd [(.str [112, 114, 111, 98, 101, 115], .int 0), (.str [103, 97, 112], .int 1), (.str [119, 97, 105, 116], .int 0), (.str [114, 101, 112, 101, 97, 116, 115], .int 0), (.str [112, 101, 114, 105, 111, 100], .int 1), (.str [108, 105, 102, 101], .int 1)]) := ⟨rfl⟩
instance {shw : PD → Tx} : W.Gl (P shw) 8 (.kd [(.str [112, 114, 111, 98, 101, 115], .int 9), (.str [103, 97, 112], .int 5), (.str [119, 97, 105, 116], .int 99), (.str [114, 101, 112, 101, 97, 116, 115], .int 9), (.str [112, 101, 114, 105, 111, 100], .int 400), (.str [108, 105, 102, 101], .int 400)]) := ⟨rfl⟩
instance {shw : PD → Tx} : W.In (P shw) 1 21 := ⟨rfl⟩
instance {shw : PD → Tx} : W.At (P shw) 1 104 := ⟨rfl⟩
instance {shw : PD → Tx} : W.At (P shw) 1 105 := ⟨rfl⟩
instance {shw : PD → Tx} : W.At (P shw) 1 106 := ⟨rfl⟩
instance {shw : PD → Tx} : W.At (P shw) 1 107 := ⟨rfl⟩
instance {shw : PD → Tx} : W.At (P shw) 1 108 := ⟨rfl⟩
instance {shw : PD → Tx} : W.At (P shw) 1 109 := ⟨rfl⟩
instance {shw : PD → Tx} : W.At (P shw) 1 110 := ⟨rfl⟩
instance {shw : PD → Tx} : W.At (P shw) 1 111 := ⟨rfl⟩
instance {shw : PD → Tx} : W.Ix (P shw) 1 := ⟨rfl⟩
instance {shw : PD → Tx} : W.In (P shw) 2 20 := ⟨rfl⟩
instance {shw : PD → Tx} : W.At (P shw) 2 104 := ⟨rfl⟩
instance {shw : PD → Tx} : W.At (P shw) 2 105 := ⟨rfl⟩
instance {shw : PD → Tx} : W.At (P shw) 2 106 := ⟨rfl⟩
instance {shw : PD → Tx} : W.At (P shw) 2 107 := ⟨rfl⟩
instance {shw : PD → Tx} : W.At (P shw) 2 108 := ⟨rfl⟩
instance {shw : PD → Tx} : W.At (P shw) 2 109 := ⟨rfl⟩
instance {shw : PD → Tx} : W.At (P shw) 2 110 := ⟨rfl⟩
instance {shw : PD → Tx} : W.At (P shw) 2 111 := ⟨rfl⟩
instance {shw : PD → Tx} : W.Ix (P shw) 2 := ⟨rfl⟩
def nlaw : Nat := 159
end K09
set_option linter.all false
set_option maxRecDepth 100000
set_option maxHeartbeats 4000000
namespace DM
theorem c_fn {P : Prog} {i k : Nat} {d : FnD} {vs : List MV} {h : MH} [I : W.Fn P i d] : callM P (k + 1) i vs h = runFn P (callM P k) d vs h := by
  unfold callM
  rw [I.e]
end DM
namespace WB
open DM
variable {P : Prog}
section
variable [W.Fn P 2 W.F2] [W.Fn P 3 W.F3]
theorem small_lt {i : Int} (h0 : 0 ≤ i) (h1 : i < 2147483647) : small i = true := by unfold small; exact decide_eq_true (by omega)
theorem take_ok {k b : Nat} {h : MH} {g m many : Int} (hb : h.get b = some (.lst [.int g, .int m])) (hg : 0 ≤ g) (hm : 0 ≤ m) (h1 : 0 < many) (h2 : many < 1073741824) :
    ∃ d g' m', 0 ≤ d ∧ d < many ∧ 0 ≤ g' ∧ 0 ≤ m' ∧ callM P (k + 1) 3 [.ref b, .int many] h = .ok (.int d) (h.put b (.lst [.int g', .int m'])) := by
  have r0 : ∀ {h : MH} {g m : Int}, h.get b = some (.lst [.int g, .int m]) → subM (.ref b) (.int 0) h = .ok (.int g) h := fun hb => s_ref hb (at_0 rfl)
  have r1 : ∀ {h : MH} {g m : Int}, h.get b = some (.lst [.int g, .int m]) → subM (.ref b) (.int 1) h = .ok (.int m) h := fun hb => s_ref hb (at_1 rfl)
  by_cases hz : 0 < g
  · refine ⟨g % many, g / many, m, Int.emod_nonneg _ (by omega), Int.emod_lt_of_pos _ h1, Int.ediv_nonneg hg (by omega), hm, ?_⟩
    rw [c_fn]
    refine f_rt [some (.ref b), some (.int many), none] rfl rfl (x_rt (r := .cons W.s3_1 (.cons W.s3_2 .nil)) ?_)
    have e1 := w_0 (v := .int (g / many)) hb (by simp)
    simp only [exec, execs, tv, ev, evs, eo, ct, asg, asgs, itv, bind_ok', go_ok, noEx_ok', setM, callP, pick, negM, isNM, mc_bt, t_bl, b_add, b_sub, b_mod, b_fdiv, b_pow3, b_pow18, b_pow30, b_str, c_lt, c_gt, c_le, c_ge, c_eqi, c_nei, c_eqs, c_nes, c_eqb, c_neb, f_len, f_max, f_min, f_abs, List.getElem?_cons_zero, List.getElem?_cons_succ, List.set_cons_zero, List.set_cons_succ, List.length_cons, List.length_nil, if_true, if_false, decide_true, decide_false, Bool.not_true, Bool.not_false, Bool.false_eq_true, Bool.or_true, Bool.true_or, Bool.or_false, Bool.false_or, Bool.and_true, Bool.true_and, Bool.and_false, Bool.false_and, beq_self_eq_true, W.s3_0, W.k3_0a, W.s3_0a_0, W.s3_0a_1, W.s3_0a_2, r0 hb, hz, b_mod h1, b_fdiv ⟨h1, h2⟩, e1]
  · have e1 : 0 ≤ (m * 69069 + 1327217) % 2147483647 := Int.emod_nonneg _ (by omega)
    have e2 : (m * 69069 + 1327217) % 2147483647 < 2147483647 := Int.emod_lt_of_pos _ (by omega)
    have sm : small ((m * 69069 + 1327217) % 2147483647) = true := small_lt e1 e2
    have s2 : small 69069 = true := small_lt (by omega) (by omega)
    generalize hM : (m * 69069 + 1327217) % 2147483647 = M at e1 e2 sm
    refine ⟨M ^ 3 % 2147483629 / 16 % many, g, M, Int.emod_nonneg _ (by omega), Int.emod_lt_of_pos _ h1, hg, e1, ?_⟩
    have e3 := w_1 (v := .int M) hb (by simp)
    rw [c_fn]
    refine f_rt [some (.ref b), some (.int many), none] rfl rfl (x_nx (r := .cons W.s3_1 (.cons W.s3_2 .nil)) (σ1 := [some (.ref b), some (.int many), none]) (h1 := h) ?_ (x_nx (σ1 := [some (.ref b), some (.int many), none]) (h1 := h.put b (.lst [.int g, .int M])) ?_ (x_rt ?_)))
    · simp only [exec, execs, tv, ev, evs, eo, ct, asg, asgs, itv, bind_ok', go_ok, noEx_ok', setM, callP, pick, negM, isNM, mc_bt, t_bl, b_add, b_sub, b_mod, b_fdiv, b_pow3, b_pow18, b_pow30, b_str, c_lt, c_gt, c_le, c_ge, c_eqi, c_nei, c_eqs, c_nes, c_eqb, c_neb, f_len, f_max, f_min, f_abs, List.getElem?_cons_zero, List.getElem?_cons_succ, List.set_cons_zero, List.set_cons_succ, List.length_cons, List.length_nil, if_true, if_false, decide_true, decide_false, Bool.not_true, Bool.not_false, Bool.false_eq_true, Bool.or_true, Bool.true_or, Bool.or_false, Bool.false_or, Bool.and_true, Bool.true_and, Bool.and_false, Bool.false_and, beq_self_eq_true, W.s3_0, r0 hb, hz]
    · simp only [exec, execs, tv, ev, evs, eo, ct, asg, asgs, itv, bind_ok', go_ok, noEx_ok', setM, callP, pick, negM, isNM, mc_bt, t_bl, b_add, b_sub, b_mod, b_fdiv, b_pow3, b_pow18, b_pow30, b_str, c_lt, c_gt, c_le, c_ge, c_eqi, c_nei, c_eqs, c_nes, c_eqb, c_neb, f_len, f_max, f_min, f_abs, List.getElem?_cons_zero, List.getElem?_cons_succ, List.set_cons_zero, List.set_cons_succ, List.length_cons, List.length_nil, if_true, if_false, decide_true, decide_false, Bool.not_true, Bool.not_false, Bool.false_eq_true, Bool.or_true, Bool.true_or, Bool.or_false, Bool.false_or, Bool.and_true, Bool.true_and, Bool.and_false, Bool.false_and, beq_self_eq_true, W.s3_1, r1 hb, b_mulr s2, hM, b_mod (show (0:Int) < 2147483647 from by omega), e3]
    · have hb2 := get_put (o := .lst [.int g, .int M]) hb
      simp only [exec, execs, tv, ev, evs, eo, ct, asg, asgs, itv, bind_ok', go_ok, noEx_ok', setM, callP, pick, negM, isNM, mc_bt, t_bl, b_add, b_sub, b_mod, b_fdiv, b_pow3, b_pow18, b_pow30, b_str, c_lt, c_gt, c_le, c_ge, c_eqi, c_nei, c_eqs, c_nes, c_eqb, c_neb, f_len, f_max, f_min, f_abs, List.getElem?_cons_zero, List.getElem?_cons_succ, List.set_cons_zero, List.set_cons_succ, List.length_cons, List.length_nil, if_true, if_false, decide_true, decide_false, Bool.not_true, Bool.not_false, Bool.false_eq_true, Bool.or_true, Bool.true_or, Bool.or_false, Bool.false_or, Bool.and_true, Bool.true_and, Bool.and_false, Bool.false_and, beq_self_eq_true, W.s3_2, r1 hb2, sm, h1, b_mod (show (0:Int) < 2147483629 from by omega), b_fdiv (show (0:Int) < 16 ∧ (16:Int) < 1073741824 from ⟨by omega, by omega⟩)]
theorem at_ints {ns : List Int} {i : Nat} (h : i < ns.length) : ∃ c, (ns.map MV.int)[i]? = some (.int c) := by
  refine ⟨ns[i], ?_⟩
  rw [List.getElem?_map, List.getElem?_eq_getElem h]
  rfl
def primes : List MV := [.int 2147483647, .int 2147483629, .int 2147483587, .int 2147483579, .int 2147483563, .int 2147483549, .int 2147483543, .int 2147483497]
theorem prime_at {i : Nat} (hi : i < 8) : ∃ p : Int, 0 < p ∧ primes[i]? = some (.int p) := by
  match i, hi with
  | 0, _ => exact ⟨_, by omega, rfl⟩
  | 1, _ => exact ⟨_, by omega, rfl⟩
  | 2, _ => exact ⟨_, by omega, rfl⟩
  | 3, _ => exact ⟨_, by omega, rfl⟩
  | 4, _ => exact ⟨_, by omega, rfl⟩
  | 5, _ => exact ⟨_, by omega, rfl⟩
  | 6, _ => exact ⟨_, by omega, rfl⟩
  | 7, _ => exact ⟨_, by omega, rfl⟩
theorem bag_cell {ns : List Int} {i : Nat} {h : MH} : ∃ c : Int, ∀ C, exec P C W.s2_1 [some (.kl (ns.map MV.int)), some (.int i), some (.int 0), none, none, none] h = .nx [some (.kl (ns.map MV.int)), some (.int i), some (.int c), none, none, none] h := by
  by_cases hl : i < ns.length
  · obtain ⟨c, hc⟩ := at_ints hl
    have hl' : (i : Int) < ns.length := by omega
    exact ⟨c, fun C => by simp only [exec, execs, tv, ev, evs, eo, ct, asg, asgs, itv, bind_ok', go_ok, noEx_ok', setM, callP, pick, negM, isNM, mc_bt, t_bl, b_add, b_sub, b_mod, b_fdiv, b_pow3, b_pow18, b_pow30, b_str, c_lt, c_gt, c_le, c_ge, c_eqi, c_nei, c_eqs, c_nes, c_eqb, c_neb, f_len, f_max, f_min, f_abs, List.getElem?_cons_zero, List.getElem?_cons_succ, List.set_cons_zero, List.set_cons_succ, List.length_cons, List.length_nil, if_true, if_false, decide_true, decide_false, Bool.not_true, Bool.not_false, Bool.false_eq_true, Bool.or_true, Bool.true_or, Bool.or_false, Bool.false_or, Bool.and_true, Bool.true_and, Bool.and_false, Bool.false_and, beq_self_eq_true, W.s2_1, List.length_map, hl', s_kl (at_nat hc)]⟩
  · have hl' : ¬ (i : Int) < ns.length := by omega
    exact ⟨0, fun C => by simp only [exec, execs, tv, ev, evs, eo, ct, asg, asgs, itv, bind_ok', go_ok, noEx_ok', setM, callP, pick, negM, isNM, mc_bt, t_bl, b_add, b_sub, b_mod, b_fdiv, b_pow3, b_pow18, b_pow30, b_str, c_lt, c_gt, c_le, c_ge, c_eqi, c_nei, c_eqs, c_nes, c_eqb, c_neb, f_len, f_max, f_min, f_abs, List.getElem?_cons_zero, List.getElem?_cons_succ, List.set_cons_zero, List.set_cons_succ, List.length_cons, List.length_nil, if_true, if_false, decide_true, decide_false, Bool.not_true, Bool.not_false, Bool.false_eq_true, Bool.or_true, Bool.true_or, Bool.or_false, Bool.false_or, Bool.and_true, Bool.true_and, Bool.and_false, Bool.false_and, beq_self_eq_true, W.s2_1, List.length_map, hl']⟩
theorem bag_great {a b : Option MV} {c : Int} {h : MH} : ∃ g : Int, 0 ≤ g ∧ ∀ C, exec P C W.s2_3 [a, b, some (.int c), some (.int 0), none, none] h = .nx [a, b, some (.int c), some (.int g), none, none] h := by
  have s10 : small 10 = true := small_lt (by omega) (by omega)
  have hcc : 0 ≤ (if c < 0 then -c else c) := by split <;> omega
  generalize hd : (if c < 0 then -c else c) = d at hcc
  by_cases hl : d < 10 ^ 18
  · exact ⟨0, by omega, fun C => by simp only [exec, execs, tv, ev, evs, eo, ct, asg, asgs, itv, bind_ok', go_ok, noEx_ok', setM, callP, pick, negM, isNM, mc_bt, t_bl, b_add, b_sub, b_mod, b_fdiv, b_pow3, b_pow18, b_pow30, b_str, c_lt, c_gt, c_le, c_ge, c_eqi, c_nei, c_eqs, c_nes, c_eqb, c_neb, f_len, f_max, f_min, f_abs, List.getElem?_cons_zero, List.getElem?_cons_succ, List.set_cons_zero, List.set_cons_succ, List.length_cons, List.length_nil, if_true, if_false, decide_true, decide_false, Bool.not_true, Bool.not_false, Bool.false_eq_true, Bool.or_true, Bool.true_or, Bool.or_false, Bool.false_or, Bool.and_true, Bool.true_and, Bool.and_false, Bool.false_and, beq_self_eq_true, W.s2_3, hl, s10, hd]⟩
  · exact ⟨d, hcc, fun C => by simp only [exec, execs, tv, ev, evs, eo, ct, asg, asgs, itv, bind_ok', go_ok, noEx_ok', setM, callP, pick, negM, isNM, mc_bt, t_bl, b_add, b_sub, b_mod, b_fdiv, b_pow3, b_pow18, b_pow30, b_str, c_lt, c_gt, c_le, c_ge, c_eqi, c_nei, c_eqs, c_nes, c_eqb, c_neb, f_len, f_max, f_min, f_abs, List.getElem?_cons_zero, List.getElem?_cons_succ, List.set_cons_zero, List.set_cons_succ, List.length_cons, List.length_nil, if_true, if_false, decide_true, decide_false, Bool.not_true, Bool.not_false, Bool.false_eq_true, Bool.or_true, Bool.true_or, Bool.or_false, Bool.false_or, Bool.and_true, Bool.true_and, Bool.and_false, Bool.false_and, beq_self_eq_true, W.s2_3, hl, s10, hd]⟩
theorem bag_primes {h : MH} {C} {σ : En} : exec P C W.s2_4 σ h = .nx (σ.set 4 (some (.ref h.size))) (h.push (.lst primes)) := by
  have e : newList h primes = .ok (.ref h.size) (h.push (.lst primes)) := n_list (by decide)
  unfold primes at e ⊢
  simp only [exec, execs, tv, ev, evs, eo, ct, asg, asgs, itv, bind_ok', go_ok, noEx_ok', setM, callP, pick, negM, isNM, mc_bt, t_bl, b_add, b_sub, b_mod, b_fdiv, b_pow3, b_pow18, b_pow30, b_str, c_lt, c_gt, c_le, c_ge, c_eqi, c_nei, c_eqs, c_nes, c_eqb, c_neb, f_len, f_max, f_min, f_abs, List.getElem?_cons_zero, List.getElem?_cons_succ, List.set_cons_zero, List.set_cons_succ, List.length_cons, List.length_nil, if_true, if_false, decide_true, decide_false, Bool.not_true, Bool.not_false, Bool.false_eq_true, Bool.or_true, Bool.true_or, Bool.or_false, Bool.false_or, Bool.and_true, Bool.true_and, Bool.and_false, Bool.false_and, beq_self_eq_true, W.s2_4, e]
theorem bag_mixed {s : Option MV} {i c : Int} {g q : Option MV} {h : MH} {C} (a1 : small (c % 2147483647) = true) (a3 : small i = true) :
    exec P C W.s2_5 [s, some (.int i), some (.int c), g, q, none] h = .nx [s, some (.int i), some (.int c), g, q, some (.int (c % 2147483647 * 50021 + 70001 * i * i + 9001 * i + 7717))] h := by
  simp only [exec, execs, tv, ev, evs, eo, ct, asg, asgs, itv, bind_ok', go_ok, noEx_ok', setM, callP, pick, negM, isNM, mc_bt, t_bl, b_add, b_sub, b_mod, b_fdiv, b_pow3, b_pow18, b_pow30, b_str, c_lt, c_gt, c_le, c_ge, c_eqi, c_nei, c_eqs, c_nes, c_eqb, c_neb, f_len, f_max, f_min, f_abs, List.getElem?_cons_zero, List.getElem?_cons_succ, List.set_cons_zero, List.set_cons_succ, List.length_cons, List.length_nil, if_true, if_false, decide_true, decide_false, Bool.not_true, Bool.not_false, Bool.false_eq_true, Bool.or_true, Bool.true_or, Bool.or_false, Bool.false_or, Bool.and_true, Bool.true_and, Bool.and_false, Bool.false_and, beq_self_eq_true, W.s2_5, b_mod (show (0:Int) < 2147483647 from by omega), b_mull a1, b_mulr a3]
theorem bag_last {s c : Option MV} {i M p : Int} {j : Nat} {g : Int} {h : MH} {C} (hi : i % 8 = j) (p0 : 0 < p) (pe : primes[j]? = some (.int p)) :
    exec P C W.s2_6 [s, some (.int i), c, some (.int g), some (.ref h.size), some (.int M)] (h.push (.lst primes)) = .rt (.ref (h.size + 1)) ((h.push (.lst primes)).push (.lst [.int g, .int (M % p)])) := by
  have e1 := s_ref (i := (j : Int)) get_push_size (at_nat pe) (h := h.push (.lst primes))
  have e2 : newList (h.push (.lst primes)) [.int g, .int (M % p)] = .ok (.ref (h.push (.lst primes)).size) ((h.push (.lst primes)).push (.lst [.int g, .int (M % p)])) := n_list (by simp [LIM])
  rw [size_push] at e2
  simp only [exec, execs, tv, ev, evs, eo, ct, asg, asgs, itv, bind_ok', go_ok, noEx_ok', setM, callP, pick, negM, isNM, mc_bt, t_bl, b_add, b_sub, b_mod, b_fdiv, b_pow3, b_pow18, b_pow30, b_str, c_lt, c_gt, c_le, c_ge, c_eqi, c_nei, c_eqs, c_nes, c_eqb, c_neb, f_len, f_max, f_min, f_abs, List.getElem?_cons_zero, List.getElem?_cons_succ, List.set_cons_zero, List.set_cons_succ, List.length_cons, List.length_nil, if_true, if_false, decide_true, decide_false, Bool.not_true, Bool.not_false, Bool.false_eq_true, Bool.or_true, Bool.true_or, Bool.or_false, Bool.false_or, Bool.and_true, Bool.true_and, Bool.and_false, Bool.false_and, beq_self_eq_true, W.s2_6, b_mod (show (0:Int) < 8 from by omega), hi, e1, b_mod p0, e2]
theorem small_c {c : Int} : small (c % 2147483647) = true := by
  have m1 := Int.emod_nonneg c (b := 2147483647) (by omega)
  have m2 := Int.emod_lt_of_pos c (b := 2147483647) (by omega)
  exact small_lt m1 m2
theorem bag_ok {k : Nat} {h : MH} {ns : List Int} {i : Nat} (hi : i < 8) : ∃ g m : Int, 0 ≤ g ∧ 0 ≤ m ∧ callM P (k + 1) 2 [.kl (ns.map MV.int), .int i] h = .ok (.ref (h.size + 1)) ((h.push (.lst primes)).push (.lst [.int g, .int m])) := by
  obtain ⟨p, p0, pe⟩ := prime_at hi
  obtain ⟨c, hc⟩ := bag_cell (P := P) (ns := ns) (i := i) (h := h)
  obtain ⟨g, g0, hg⟩ := bag_great (P := P) (a := some (.kl (ns.map MV.int))) (b := some (.int i)) (c := c) (h := h)
  have p8 : ((i : Int) % 8) = (i : Int) := by omega
  have a3 : small (i : Int) = true := small_lt (by omega) (by omega)
  have e5 := fun C => bag_mixed (P := P) (s := some (.kl (ns.map MV.int))) (i := i) (c := c) (g := some (.int g)) (q := some (.ref h.size)) (h := h.push (.lst primes)) (C := C) small_c a3
  generalize (c % 2147483647 * 50021 + 70001 * i * i + 9001 * i + 7717) = M at e5
  refine ⟨g, M % p, g0, Int.emod_nonneg _ (by omega), ?_⟩
  rw [c_fn]
  refine f_rt [some (.kl (ns.map MV.int)), some (.int i), none, none, none, none] rfl rfl (x_nx (r := .cons W.s2_1 (.cons W.s2_2 (.cons W.s2_3 (.cons W.s2_4 (.cons W.s2_5 (.cons W.s2_6 .nil)))))) (σ1 := [some (.kl (ns.map MV.int)), some (.int i), some (.int 0), none, none, none]) (h1 := h) ?_ (x_nx (hc _) (x_nx (σ1 := [some (.kl (ns.map MV.int)), some (.int i), some (.int c), some (.int 0), none, none]) (h1 := h) ?_ (x_nx (hg _) (x_nx (bag_primes (P := P))
    (x_nx (e5 _) (x_rt (bag_last (P := P) p8 p0 pe))))))))
  · simp only [exec, execs, tv, ev, evs, eo, ct, asg, asgs, itv, bind_ok', go_ok, noEx_ok', setM, callP, pick, negM, isNM, mc_bt, t_bl, b_add, b_sub, b_mod, b_fdiv, b_pow3, b_pow18, b_pow30, b_str, c_lt, c_gt, c_le, c_ge, c_eqi, c_nei, c_eqs, c_nes, c_eqb, c_neb, f_len, f_max, f_min, f_abs, List.getElem?_cons_zero, List.getElem?_cons_succ, List.set_cons_zero, List.set_cons_succ, List.length_cons, List.length_nil, if_true, if_false, decide_true, decide_false, Bool.not_true, Bool.not_false, Bool.false_eq_true, Bool.or_true, Bool.true_or, Bool.or_false, Bool.false_or, Bool.and_true, Bool.true_and, Bool.and_false, Bool.false_and, beq_self_eq_true, W.s2_0]
  · simp only [exec, execs, tv, ev, evs, eo, ct, asg, asgs, itv, bind_ok', go_ok, noEx_ok', setM, callP, pick, negM, isNM, mc_bt, t_bl, b_add, b_sub, b_mod, b_fdiv, b_pow3, b_pow18, b_pow30, b_str, c_lt, c_gt, c_le, c_ge, c_eqi, c_nei, c_eqs, c_nes, c_eqb, c_neb, f_len, f_max, f_min, f_abs, List.getElem?_cons_zero, List.getElem?_cons_succ, List.set_cons_zero, List.set_cons_succ, List.length_cons, List.length_nil, if_true, if_false, decide_true, decide_false, Bool.not_true, Bool.not_false, Bool.false_eq_true, Bool.or_true, Bool.true_or, Bool.or_false, Bool.false_or, Bool.and_true, Bool.true_and, Bool.and_false, Bool.false_and, beq_self_eq_true, W.s2_2]

def Bag (h : MH) (b : Nat) : Prop := ∃ g m : Int, h.get b = some (.lst [.int g, .int m]) ∧ 0 ≤ g ∧ 0 ≤ m
theorem Bag.take {k b : Nat} {h : MH} (w : Bag h b) (many : Int) (h1 : 0 < many) (h2 : many < 1073741824) : ∃ d h', 0 ≤ d ∧ d < many ∧ callM P (k + 1) 3 [.ref b, .int many] h = .ok (.int d) h' ∧ Bag h' b ∧ h'.size = h.size ∧ ∀ n, n ≠ b → h'.get n = h.get n := by
  obtain ⟨g, m, hb, hg, hm⟩ := w
  obtain ⟨d, g', m', d0, d1, g0, m0, e⟩ := take_ok (P := P) (k := k) hb hg hm h1 h2
  exact ⟨d, _, d0, d1, e, ⟨g', m', get_put hb, g0, m0⟩, size_put, fun n hn => get_put_ne hn⟩
theorem Bag.push {b : Nat} {h : MH} {o : MO} (w : Bag h b) : Bag (h.push o) b := by
  obtain ⟨g, m, hb, z⟩ := w
  exact ⟨g, m, get_push hb, z⟩
theorem Bag.lt {b : Nat} {h : MH} (w : Bag h b) : b < h.size := by
  obtain ⟨g, m, hb, z⟩ := w
  exact get_lt hb
theorem Bag.put {b n : Nat} {h : MH} {o : MO} (w : Bag h b) (hn : b ≠ n) : Bag (h.put n o) b := by
  obtain ⟨g, m, hb, z⟩ := w
  exact ⟨g, m, by rw [get_put_ne hn]; exact hb, z⟩
theorem pick3 {l : List MV} {d : Int} {n : Nat} {Q : Int → Prop} (hn : l.length = n) (hq : ∀ v ∈ l, ∃ m, v = .int m ∧ Q m) (h0 : 0 ≤ d) (h1 : d < n) : ∃ m, atL l d = some (.int m) ∧ Q m := by
  have hi : d.toNat < l.length := by omega
  obtain ⟨m, e, q⟩ := hq _ (List.getElem_mem hi)
  exact ⟨m, at_i h0 (by rw [List.getElem?_eq_getElem hi, e]), q⟩
theorem rng_len {a b : Int} : (rngL a b).length = (b - a).toNat := by
  unfold rngL
  rw [List.length_map, List.length_range]

theorem Bag.tk {k b : Nat} {h : MH} (w : Bag h b) (many : Int) (h1 : 0 < many) (h2 : many < 1073741824) : ∃ d h', 0 ≤ d ∧ d < many ∧ callM P (k + 1) 3 [.ref b, .int many] h = .ok (.int d) h' ∧ Bag h' b ∧ Gb b h h' ∧ h'.size = h.size := by
  obtain ⟨d, h', d0, d1, e, w', s, f⟩ := w.take (P := P) (k := k) many h1 h2
  exact ⟨d, h', d0, d1, e, w', Gb.of s f, s⟩
theorem bag_new {k : Nat} {h : MH} {ns : List Int} {i : Nat} (hi : i < 8) : ∃ b h', callM P (k + 1) 2 [.kl (ns.map MV.int), .int i] h = .ok (.ref b) h' ∧ Bag h' b ∧ Grow h h' ∧ h.size ≤ b := by
  obtain ⟨g, m, g0, m0, e⟩ := bag_ok (P := P) (k := k) (h := h) (ns := ns) hi
  refine ⟨h.size + 1, _, e, ⟨g, m, ?_, g0, m0⟩, Grow.one.push, Nat.le_succ _⟩
  rw [← size_push (h := h) (o := .lst primes)]
  exact get_push_size
/-- the law's turns, one for each cell -/
theorem cells {C : Nat → List MV → MH → R MV} {ns : List Int} {n j : Nat} {b : Ss} {m : Int} (hm : 1 ≤ m) (hm8 : m ≤ 8) (hj : j = 1) (σ0 : En) (h0 : MH) (hσ : σ0[0]? = some (some (.kl (ns.map MV.int))))
    (step : ∀ (i : Nat) (σ : En) (h : MH), i < 8 → σ.length = n → σ[0]? = some (some (.kl (ns.map MV.int))) → ∃ σ' h', execs P C b (σ.set j (some (.int i))) h = .nx σ' h' ∧ σ'.length = n ∧ σ'[0]? = some (some (.kl (ns.map MV.int)))) (hn : σ0.length = n) :
    ∃ σ' h', exec P C (.for_ (.nm j) (.rng (.bif .max (.cons (.int 1) (.cons (.bif .min (.cons (.int m) (.cons (.bif .len (.cons (.var 0) .nil)) .nil))) .nil)))) b) σ0 h0 = .nx σ' h' := by
  subst hj
  generalize hq : (if (if (ns.length : Int) < m then (ns.length : Int) else m) > 1 then (if (ns.length : Int) < m then (ns.length : Int) else m) else 1) = q
  have q1 : 1 ≤ q ∧ q ≤ 8 := by
    rw [← hq]
    split <;> split at * <;> omega
  obtain ⟨σ', h', e, _⟩ := for_items (P := P) (C := C) (j := 1) (b := b) (fun _ σ h => σ.length = n ∧ σ[0]? = some (some (.kl (ns.map MV.int)))) (l := rngL 0 q)
    (σ := σ0) (h := h0) (it_rng (b := (.bif .max (.cons (.int 1) (.cons (.bif .min (.cons (.int m) (.cons (.bif .len (.cons (.var 0) .nil)) .nil))) .nil)))) (n := q) (h1 := h0) (by simp only [exec, execs, tv, ev, evs, eo, ct, asg, asgs, itv, bind_ok', go_ok, noEx_ok', setM, callP, pick, negM, isNM, mc_bt, t_bl, b_add, b_sub, b_mod, b_fdiv, b_pow3, b_pow18, b_pow30, b_str, c_lt, c_gt, c_le, c_ge, c_eqi, c_nei, c_eqs, c_nes, c_eqb, c_neb, f_len, f_max, f_min, f_abs, List.getElem?_cons_zero, List.getElem?_cons_succ, List.set_cons_zero, List.set_cons_succ, List.length_cons, List.length_nil, if_true, if_false, decide_true, decide_false, Bool.not_true, Bool.not_false, Bool.false_eq_true, Bool.or_true, Bool.true_or, Bool.or_false, Bool.false_or, Bool.and_true, Bool.true_and, Bool.and_false, Bool.false_and, beq_self_eq_true, hσ, List.length_map, hq]) (by omega) (by omega)) ⟨hn, hσ⟩ (by
      rintro i v σ h ev ⟨p1, p2⟩
      obtain ⟨rfl, hi⟩ := rng_get ev
      rw [Int.zero_add]
      obtain ⟨σ', h', e, p⟩ := step i σ h (by omega) p1 p2
      exact ⟨σ', h', e, p⟩)
  exact ⟨σ', h', e⟩
end
end WB
set_option linter.all false
set_option maxRecDepth 100000
set_option maxHeartbeats 4000000
namespace DM
section
variable {P : Prog} {h : MH}
theorem at_ok {n f c : Nat} {fs : List (Nat × MV)} {v : MV} [I : W.At P c f] (g : h.get n = some (.ins c fs)) (e : fld f fs = some v) : attM P (.ref n) f h = .ok v h := by
  unfold attM
  simp only [g, e, I.e, if_true]
theorem sa_ok {n f c : Nat} {fs : List (Nat × MV)} {v : MV} [I : W.At P c f] (g : h.get n = some (.ins c fs)) (e : fs.length < 1000) : setA P (.ref n) f v h = .ok () (h.put n (.ins c (putFld f v fs))) := by
  unfold setA
  simp only [g, e, I.e, and_true, if_true]
theorem ty_int {i : Int} {t : Ty} (e : t.ok P = true) : isiM P (.int i) t h = subT .int t := by
  unfold isiM
  simp only [tyM, Tt.ok, e, Bool.and_true, if_true]
theorem ty_own {n c d : Nat} {fs : List (Nat × MV)} [I : W.Ix P c] [J : W.Ix P d] (g : h.get n = some (.ins c fs)) : isiM P (.ref n) (.own d) h = some (decide (c = d)) := by
  unfold isiM
  simp only [tyM, g, Tt.ok, Ty.ok, I.e, J.e, Bool.and_true, if_true, subT]
theorem le_d {i j : Int} : (!decide (j < i)) = decide (i ≤ j) := by
  by_cases e : j < i
  · rw [decide_eq_true e, decide_eq_false (by omega)]
    rfl
  · rw [decide_eq_false e, decide_eq_true (by omega)]
    rfl
theorem ch_int {i j k : Int} : chM (fun h3 => R.ok (.int k) h3) .le .le (.int i) (.int j) h = .ok (.bl (decide (i ≤ j) && decide (j ≤ k))) h := by
  unfold chM
  simp only [c_le, bind_ok', le_d]
  by_cases q : i ≤ j
  · simp only [decide_eq_true q, bind_ok', c_le, le_d, Bool.true_and]
  · simp only [decide_eq_false q, Bool.false_and]
theorem Gb.put_new {b n : Nat} {a c : MH} {o : MO} (x : Gb b a c) (hn : a.size ≤ n) : Gb b a (c.put n o) := ⟨by rw [size_put]; exact x.1, fun m u q e => by
  rw [get_put_ne (Nat.ne_of_lt (Nat.lt_of_lt_of_le (get_lt e) hn))]
  exact x.2 m u q e⟩
theorem Grow.put_new {n : Nat} {a c : MH} {o : MO} (x : Grow a c) (hn : a.size ≤ n) : Grow a (c.put n o) := ⟨by rw [size_put]; exact x.1, fun m u e => by
  rw [get_put_ne (Nat.ne_of_lt (Nat.lt_of_lt_of_le (get_lt e) hn))]
  exact x.2 m u e⟩
end
end DM
namespace WR
open DM
variable {P : Prog} {k : Nat} {h : MH}
def rul (p0 p1 p2 p3 p4 p5 : Int) : MO := .ins 1 [(106, .int p0), (107, .int p1), (108, .int p2), (109, .int p3), (110, .int p4), (111, .int p5)]
def bnd (f o : Int) : MO := .ins 2 [(104, .int f), (105, .int o)]
/-- what is taken off from 0 -/
def mx (x : Int) : Int := if x > 0 then x else 0
def clm (p0 p1 p2 : Int) : Int := mx (p0 - 1) * p1 + p2
theorem clm_eq {p0 p1 p2 : Int} : (if p0 - 1 > 0 then p0 - 1 else 0) * p1 + p2 = clm p0 p1 p2 := rfl
section
theorem c18 [W.Fn P 18 W.F18] {i : Int} : callM P (k + 1) 18 [.int i] h = .ok (.bl true) h := by
  have e1 : isiM P (.int i) .int h = some true := ty_int rfl
  have e2 : isiM P (.int i) .bool h = some false := ty_int rfl
  simp only [c_fn, runFn, List.map_cons, List.map_nil, List.replicate, List.cons_append, List.nil_append, upds, exec, execs, tv, ev, evs, eo, ct, asg, asgs, itv, bind_ok', go_ok, noEx_ok', setM, callP, pick, negM, isNM, mc_bt, t_bl, b_add, b_sub, b_mod, b_fdiv, b_pow3, b_pow18, b_pow30, b_str, c_lt, c_gt, c_le, c_ge, c_eqi, c_nei, c_eqs, c_nes, c_eqb, c_neb, f_len, f_max, f_min, f_abs, List.getElem?_cons_zero, List.getElem?_cons_succ, List.set_cons_zero, List.set_cons_succ, List.length_cons, List.length_nil, if_true, if_false, decide_true, decide_false, Bool.not_true, Bool.not_false, Bool.false_eq_true, Bool.or_true, Bool.true_or, Bool.or_false, Bool.false_or, Bool.and_true, Bool.true_and, Bool.and_false, Bool.false_and, beq_self_eq_true, W.b18, W.s18_0, e1, e2, bR]
theorem c19 [W.Fn P 18 W.F18] [W.Fn P 19 W.F19] {i a b : Int} : callM P (k + 2) 19 [.int i, .int a, .int b] h = .ok (.bl (decide (a ≤ i) && decide (i ≤ b))) h := by
  have e1 : ∀ h, callM P (k + 1) 18 [.int i] h = .ok (.bl true) h := fun h => c18
  rw [c_fn]
  refine f_rt [some (.int i), some (.int a), some (.int b)] rfl rfl (x_rt ?_)
  simp only [exec, execs, tv, ev, evs, eo, ct, asg, asgs, itv, bind_ok', go_ok, noEx_ok', setM, callP, pick, negM, isNM, mc_bt, t_bl, b_add, b_sub, b_mod, b_fdiv, b_pow3, b_pow18, b_pow30, b_str, c_lt, c_gt, c_le, c_ge, c_eqi, c_nei, c_eqs, c_nes, c_eqb, c_neb, f_len, f_max, f_min, f_abs, List.getElem?_cons_zero, List.getElem?_cons_succ, List.set_cons_zero, List.set_cons_succ, List.length_cons, List.length_nil, if_true, if_false, decide_true, decide_false, Bool.not_true, Bool.not_false, Bool.false_eq_true, Bool.or_true, Bool.true_or, Bool.or_false, Bool.false_or, Bool.and_true, Bool.true_and, Bool.and_false, Bool.false_and, beq_self_eq_true, W.s19_0, e1, ch_int]
end
section
variable [W.Fn P 22 W.F22]
theorem sm9 {x : Int} (h0 : 0 ≤ x) (h1 : x ≤ 1000000000) : small x = true := WB.small_lt h0 (by omega)
theorem c22 {p g w : Int} (hg : small g = true) : callM P (k + 1) 22 [.int p, .int g, .int w] h = .ok (.int (clm p g w)) h := by
  simp only [c_fn, runFn, List.map_cons, List.map_nil, List.replicate, List.cons_append, List.nil_append, upds, exec, execs, tv, ev, evs, eo, ct, asg, asgs, itv, bind_ok', go_ok, noEx_ok', setM, callP, pick, negM, isNM, mc_bt, t_bl, b_add, b_sub, b_mod, b_fdiv, b_pow3, b_pow18, b_pow30, b_str, c_lt, c_gt, c_le, c_ge, c_eqi, c_nei, c_eqs, c_nes, c_eqb, c_neb, f_len, f_max, f_min, f_abs, List.getElem?_cons_zero, List.getElem?_cons_succ, List.set_cons_zero, List.set_cons_succ, List.length_cons, List.length_nil, if_true, if_false, decide_true, decide_false, Bool.not_true, Bool.not_false, Bool.false_eq_true, Bool.or_true, Bool.true_or, Bool.or_false, Bool.false_or, Bool.and_true, Bool.true_and, Bool.and_false, Bool.false_and, beq_self_eq_true, W.b22, W.s22_0, b_mulr hg, clm, mx]
end
section
theorem c33 [W.Fn P 33 W.F33] [W.Ix P 2] {n : Nat} {fs : List (Nat × MV)} (g : h.get n = some (.ins 2 fs)) : callM P (k + 1) 33 [.ref n] h = .ok .non h := by
  have e1 : isiM P (.ref n) (.own 2) h = some true := ty_own g
  simp only [c_fn, runFn, List.map_cons, List.map_nil, List.replicate, List.cons_append, List.nil_append, upds, exec, execs, tv, ev, evs, eo, ct, asg, asgs, itv, bind_ok', go_ok, noEx_ok', setM, callP, pick, negM, isNM, mc_bt, t_bl, b_add, b_sub, b_mod, b_fdiv, b_pow3, b_pow18, b_pow30, b_str, c_lt, c_gt, c_le, c_ge, c_eqi, c_nei, c_eqs, c_nes, c_eqb, c_neb, f_len, f_max, f_min, f_abs, List.getElem?_cons_zero, List.getElem?_cons_succ, List.set_cons_zero, List.set_cons_succ, List.length_cons, List.length_nil, if_true, if_false, decide_true, decide_false, Bool.not_true, Bool.not_false, Bool.false_eq_true, Bool.or_true, Bool.true_or, Bool.or_false, Bool.false_or, Bool.and_true, Bool.true_and, Bool.and_false, Bool.false_and, beq_self_eq_true, W.b33, W.s33_0, e1, bR]
theorem c34 [W.Fn P 34 W.F34] [W.Ix P 1] {n : Nat} {fs : List (Nat × MV)} (g : h.get n = some (.ins 1 fs)) : callM P (k + 1) 34 [.ref n] h = .ok .non h := by
  have e1 : isiM P (.ref n) (.own 1) h = some true := ty_own g
  simp only [c_fn, runFn, List.map_cons, List.map_nil, List.replicate, List.cons_append, List.nil_append, upds, exec, execs, tv, ev, evs, eo, ct, asg, asgs, itv, bind_ok', go_ok, noEx_ok', setM, callP, pick, negM, isNM, mc_bt, t_bl, b_add, b_sub, b_mod, b_fdiv, b_pow3, b_pow18, b_pow30, b_str, c_lt, c_gt, c_le, c_ge, c_eqi, c_nei, c_eqs, c_nes, c_eqb, c_neb, f_len, f_max, f_min, f_abs, List.getElem?_cons_zero, List.getElem?_cons_succ, List.set_cons_zero, List.set_cons_succ, List.length_cons, List.length_nil, if_true, if_false, decide_true, decide_false, Bool.not_true, Bool.not_false, Bool.false_eq_true, Bool.or_true, Bool.true_or, Bool.or_false, Bool.false_or, Bool.and_true, Bool.true_and, Bool.and_false, Bool.false_and, beq_self_eq_true, W.b34, W.s34_0, e1, bR]
theorem c35 [W.Fn P 33 W.F33] [W.Fn P 34 W.F34] [W.Fn P 35 W.F35] [W.Ix P 1] [W.Ix P 2] {n m : Nat} {fs gs : List (Nat × MV)} (g : h.get n = some (.ins 2 fs)) (f : h.get m = some (.ins 1 gs)) : callM P (k + 2) 35 [.ref n, .ref m] h = .ok .non h := by
  have e1 := c33 (P := P) (k := k) g
  have e2 := c34 (P := P) (k := k) f
  rw [c_fn]
  simp only [runFn, exec, execs, tv, ev, evs, eo, ct, asg, asgs, itv, bind_ok', go_ok, noEx_ok', setM, callP, pick, negM, isNM, mc_bt, t_bl, b_add, b_sub, b_mod, b_fdiv, b_pow3, b_pow18, b_pow30, b_str, c_lt, c_gt, c_le, c_ge, c_eqi, c_nei, c_eqs, c_nes, c_eqb, c_neb, f_len, f_max, f_min, f_abs, List.getElem?_cons_zero, List.getElem?_cons_succ, List.set_cons_zero, List.set_cons_succ, List.length_cons, List.length_nil, if_true, if_false, decide_true, decide_false, Bool.not_true, Bool.not_false, Bool.false_eq_true, Bool.or_true, Bool.true_or, Bool.or_false, Bool.false_or, Bool.and_true, Bool.true_and, Bool.and_false, Bool.false_and, beq_self_eq_true, W.b35, W.s35_0, W.s35_1, e1, e2, List.map_cons, List.map_nil, List.replicate, List.cons_append, List.nil_append]
end
section
variable [W.Fn P 36 W.F36]
theorem s2 : small 2 = true := by decide
theorem c36 {l r g : Int} (hg : small g = true) : callM P (k + 1) 36 [.int l, .int r, .int g] h = .ok (.int (2 * l + 2 * r * g)) h := by
  simp only [c_fn, runFn, List.map_cons, List.map_nil, List.replicate, List.cons_append, List.nil_append, upds, exec, execs, tv, ev, evs, eo, ct, asg, asgs, itv, bind_ok', go_ok, noEx_ok', setM, callP, pick, negM, isNM, mc_bt, t_bl, b_add, b_sub, b_mod, b_fdiv, b_pow3, b_pow18, b_pow30, b_str, c_lt, c_gt, c_le, c_ge, c_eqi, c_nei, c_eqs, c_nes, c_eqb, c_neb, f_len, f_max, f_min, f_abs, List.getElem?_cons_zero, List.getElem?_cons_succ, List.set_cons_zero, List.set_cons_succ, List.length_cons, List.length_nil, if_true, if_false, decide_true, decide_false, Bool.not_true, Bool.not_false, Bool.false_eq_true, Bool.or_true, Bool.true_or, Bool.or_false, Bool.false_or, Bool.and_true, Bool.true_and, Bool.and_false, Bool.false_and, beq_self_eq_true, W.b36, W.s36_0, b_mull s2, b_mulr hg]
end
section
variable {n m : Nat} {p0 p1 p2 p3 p4 p5 f o : Int}
theorem a6 [W.At P 1 106] (g : h.get m = some (rul p0 p1 p2 p3 p4 p5)) : attM P (.ref m) 106 h = .ok (.int p0) h := at_ok g rfl
theorem a7 [W.At P 1 107] (g : h.get m = some (rul p0 p1 p2 p3 p4 p5)) : attM P (.ref m) 107 h = .ok (.int p1) h := at_ok g rfl
theorem a8 [W.At P 1 108] (g : h.get m = some (rul p0 p1 p2 p3 p4 p5)) : attM P (.ref m) 108 h = .ok (.int p2) h := at_ok g rfl
theorem a9 [W.At P 1 109] (g : h.get m = some (rul p0 p1 p2 p3 p4 p5)) : attM P (.ref m) 109 h = .ok (.int p3) h := at_ok g rfl
theorem a10 [W.At P 1 110] (g : h.get m = some (rul p0 p1 p2 p3 p4 p5)) : attM P (.ref m) 110 h = .ok (.int p4) h := at_ok g rfl
theorem a11 [W.At P 1 111] (g : h.get m = some (rul p0 p1 p2 p3 p4 p5)) : attM P (.ref m) 111 h = .ok (.int p5) h := at_ok g rfl
theorem a4 [W.At P 2 104] (g : h.get n = some (bnd f o)) : attM P (.ref n) 104 h = .ok (.int f) h := at_ok g rfl
theorem a5 [W.At P 2 105] (g : h.get n = some (bnd f o)) : attM P (.ref n) 105 h = .ok (.int o) h := at_ok g rfl
theorem c46 [W.At P 2 104] [W.At P 2 105] [W.Fn P 46 W.F46] (g : h.get n = some (bnd f o)) : callM P (k + 1) 46 [.ref n] h = .ok (.tup [.int f, .int o]) h := by
  have e1 := a4 (P := P) g
  have e2 := a5 (P := P) g
  have e3 : litM [.int f, .int o] h = .ok (.tup [.int f, .int o]) h := l_tup (by simp [LIM])
  simp only [c_fn, runFn, List.map_cons, List.map_nil, List.replicate, List.cons_append, List.nil_append, upds, exec, execs, tv, ev, evs, eo, ct, asg, asgs, itv, bind_ok', go_ok, noEx_ok', setM, callP, pick, negM, isNM, mc_bt, t_bl, b_add, b_sub, b_mod, b_fdiv, b_pow3, b_pow18, b_pow30, b_str, c_lt, c_gt, c_le, c_ge, c_eqi, c_nei, c_eqs, c_nes, c_eqb, c_neb, f_len, f_max, f_min, f_abs, List.getElem?_cons_zero, List.getElem?_cons_succ, List.set_cons_zero, List.set_cons_succ, List.length_cons, List.length_nil, if_true, if_false, decide_true, decide_false, Bool.not_true, Bool.not_false, Bool.false_eq_true, Bool.or_true, Bool.true_or, Bool.or_false, Bool.false_or, Bool.and_true, Bool.true_and, Bool.and_false, Bool.false_and, beq_self_eq_true, W.b46, W.s46_0, e1, e2, e3]
/-- the six names of the numbers, and what they may be -/
class Six (P : Prog) : Prop where
  a6 : W.At P 1 106
  a7 : W.At P 1 107
  a8 : W.At P 1 108
  a9 : W.At P 1 109
  a10 : W.At P 1 110
  a11 : W.At P 1 111
  a4 : W.At P 2 104
  a5 : W.At P 2 105
  x1 : W.Ix P 1
  x2 : W.Ix P 2
instance [S : Six P] : W.At P 1 106 := S.a6
instance [S : Six P] : W.At P 1 107 := S.a7
instance [S : Six P] : W.At P 1 108 := S.a8
instance [S : Six P] : W.At P 1 109 := S.a9
instance [S : Six P] : W.At P 1 110 := S.a10
instance [S : Six P] : W.At P 1 111 := S.a11
instance [S : Six P] : W.At P 2 104 := S.a4
instance [S : Six P] : W.At P 2 105 := S.a5
instance [S : Six P] : W.Ix P 1 := S.x1
instance [S : Six P] : W.Ix P 2 := S.x2
section
variable [Six P] [W.Fn P 22 W.F22] [W.Fn P 34 W.F34]
theorem c37 [W.Fn P 37 W.F37] (g : h.get m = some (rul p0 p1 p2 p3 p4 p5)) (hs : small p1 = true) : callM P (k + 2) 37 [.ref m] h = .ok (.int (clm p0 p1 p2)) h := by
  have e0 := c34 (P := P) (k := k) g
  have e1 := a6 (P := P) g
  have e2 := a7 (P := P) g
  have e3 := a8 (P := P) g
  have e4 : callM P (k + 1) 22 [.int p0, .int p1, .int p2] h = _ := c22 hs
  rw [c_fn]
  simp only [runFn, List.map_cons, List.map_nil, List.replicate, List.cons_append, List.nil_append, upds, exec, execs, tv, ev, evs, eo, ct, asg, asgs, itv, bind_ok', go_ok, noEx_ok', setM, callP, pick, negM, isNM, mc_bt, t_bl, b_add, b_sub, b_mod, b_fdiv, b_pow3, b_pow18, b_pow30, b_str, c_lt, c_gt, c_le, c_ge, c_eqi, c_nei, c_eqs, c_nes, c_eqb, c_neb, f_len, f_max, f_min, f_abs, List.getElem?_cons_zero, List.getElem?_cons_succ, List.set_cons_zero, List.set_cons_succ, List.length_cons, List.length_nil, if_true, if_false, decide_true, decide_false, Bool.not_true, Bool.not_false, Bool.false_eq_true, Bool.or_true, Bool.true_or, Bool.or_false, Bool.false_or, Bool.and_true, Bool.true_and, Bool.and_false, Bool.false_and, beq_self_eq_true, W.b37, W.s37_0, W.s37_1, e0, e1, e2, e3, e4]
variable [W.Fn P 33 W.F33] [W.Fn P 35 W.F35]
def ask (o p3 p1 : Int) : Int := 2 * o + 2 * p3 * p1
theorem c38 [W.Fn P 36 W.F36] [W.Fn P 38 W.F38] (g : h.get m = some (rul p0 p1 p2 p3 p4 p5)) (b : h.get n = some (bnd f o)) (hs : small p1 = true) : callM P (k + 3) 38 [.ref n, .ref m] h = .ok (.int (ask o p3 p1)) h := by
  have e0 := c35 (P := P) (k := k) b g
  have e1 := a5 (P := P) b
  have e2 := a9 (P := P) g
  have e3 := a7 (P := P) g
  have e4 : callM P (k + 2) 36 [.int o, .int p3, .int p1] h = _ := c36 hs
  rw [c_fn]
  simp only [runFn, List.map_cons, List.map_nil, List.replicate, List.cons_append, List.nil_append, upds, exec, execs, tv, ev, evs, eo, ct, asg, asgs, itv, bind_ok', go_ok, noEx_ok', setM, callP, pick, negM, isNM, mc_bt, t_bl, b_add, b_sub, b_mod, b_fdiv, b_pow3, b_pow18, b_pow30, b_str, c_lt, c_gt, c_le, c_ge, c_eqi, c_nei, c_eqs, c_nes, c_eqb, c_neb, f_len, f_max, f_min, f_abs, List.getElem?_cons_zero, List.getElem?_cons_succ, List.set_cons_zero, List.set_cons_succ, List.length_cons, List.length_nil, if_true, if_false, decide_true, decide_false, Bool.not_true, Bool.not_false, Bool.false_eq_true, Bool.or_true, Bool.true_or, Bool.or_false, Bool.false_or, Bool.and_true, Bool.true_and, Bool.and_false, Bool.false_and, beq_self_eq_true, W.b38, W.s38_0, W.s38_1, e0, e1, e2, e3, e4, ask]
def mend (f o p0 p1 p2 p4 : Int) : Int := clm p0 p1 p2 + (f + 1) * p4 + o
theorem c39 [W.Fn P 37 W.F37] [W.Fn P 39 W.F39] (g : h.get m = some (rul p0 p1 p2 p3 p4 p5)) (b : h.get n = some (bnd f o)) (hs : small p1 = true) (h4 : small p4 = true) : callM P (k + 3) 39 [.ref n, .ref m] h = .ok (.int (mend f o p0 p1 p2 p4)) h := by
  have e0 := c35 (P := P) (k := k) b g
  have e1 := a5 (P := P) b
  have e2 := a4 (P := P) b
  have e3 := a10 (P := P) g
  have e4 := c37 (P := P) (k := k) g hs
  rw [c_fn]
  simp only [runFn, List.map_cons, List.map_nil, List.replicate, List.cons_append, List.nil_append, upds, exec, execs, tv, ev, evs, eo, ct, asg, asgs, itv, bind_ok', go_ok, noEx_ok', setM, callP, pick, negM, isNM, mc_bt, t_bl, b_add, b_sub, b_mod, b_fdiv, b_pow3, b_pow18, b_pow30, b_str, c_lt, c_gt, c_le, c_ge, c_eqi, c_nei, c_eqs, c_nes, c_eqb, c_neb, f_len, f_max, f_min, f_abs, List.getElem?_cons_zero, List.getElem?_cons_succ, List.set_cons_zero, List.set_cons_succ, List.length_cons, List.length_nil, if_true, if_false, decide_true, decide_false, Bool.not_true, Bool.not_false, Bool.false_eq_true, Bool.or_true, Bool.true_or, Bool.or_false, Bool.false_or, Bool.and_true, Bool.true_and, Bool.and_false, Bool.false_and, beq_self_eq_true, W.b39, W.s39_0, W.s39_1, e0, e1, e2, e3, e4, mend, b_mulr h4]
def fit (o p1 p3 p5 : Int) : Bool := decide (2 * ask o p3 p1 ≤ p5)
theorem c49 [W.Fn P 36 W.F36] [W.Fn P 38 W.F38] [W.Fn P 49 W.F49] (g : h.get m = some (rul p0 p1 p2 p3 p4 p5)) (b : h.get n = some (bnd f o)) (hs : small p1 = true) : callM P (k + 4) 49 [.ref n, .ref m] h = .ok (.bl (fit o p1 p3 p5)) h := by
  have e0 := c38 (P := P) (k := k) g b hs
  have e1 := a11 (P := P) g
  rw [c_fn]
  simp only [runFn, List.map_cons, List.map_nil, List.replicate, List.cons_append, List.nil_append, upds, exec, execs, tv, ev, evs, eo, ct, asg, asgs, itv, bind_ok', go_ok, noEx_ok', setM, callP, pick, negM, isNM, mc_bt, t_bl, b_add, b_sub, b_mod, b_fdiv, b_pow3, b_pow18, b_pow30, b_str, c_lt, c_gt, c_le, c_ge, c_eqi, c_nei, c_eqs, c_nes, c_eqb, c_neb, f_len, f_max, f_min, f_abs, List.getElem?_cons_zero, List.getElem?_cons_succ, List.set_cons_zero, List.set_cons_succ, List.length_cons, List.length_nil, if_true, if_false, decide_true, decide_false, Bool.not_true, Bool.not_false, Bool.false_eq_true, Bool.or_true, Bool.true_or, Bool.or_false, Bool.false_or, Bool.and_true, Bool.true_and, Bool.and_false, Bool.false_and, beq_self_eq_true, W.b49, W.s49_0, W.s49_1, e0, e1, b_mull s2, le_d, fit]
def eno (f o p0 p1 p2 p3 p5 : Int) : Bool := decide (f + 1 ≤ p0) && decide (f ≤ p3) && (decide (2 * o + f * p1 ≤ p2) && fit o p1 p3 p5)
theorem c50 [W.Fn P 36 W.F36] [W.Fn P 38 W.F38] [W.Fn P 46 W.F46] [W.Fn P 49 W.F49] [W.Fn P 50 W.F50] (g : h.get m = some (rul p0 p1 p2 p3 p4 p5)) (b : h.get n = some (bnd f o)) (hs : small p1 = true) : callM P (k + 5) 50 [.ref n, .ref m] h = .ok (.bl (eno f o p0 p1 p2 p3 p5)) h := by
  have e0 := c35 (P := P) (k := k + 2) b g
  have e1 := c49 (P := P) (k := k) g b hs
  have e2 := c46 (P := P) (k := k + 3) b
  have e3 := a6 (P := P) g
  have e4 := a9 (P := P) g
  have e5 := a8 (P := P) g
  have e6 := a7 (P := P) g
  rw [c_fn]
  by_cases q1 : f + 1 ≤ p0 <;> by_cases q2 : f ≤ p3 <;> by_cases q3 : 2 * o + f * p1 ≤ p2 <;>
  simp only [runFn, List.map_cons, List.map_nil, List.replicate, List.cons_append, List.nil_append, upds, exec, execs, tv, ev, evs, eo, ct, asg, asgs, itv, bind_ok', go_ok, noEx_ok', setM, callP, pick, negM, isNM, mc_bt, t_bl, b_add, b_sub, b_mod, b_fdiv, b_pow3, b_pow18, b_pow30, b_str, c_lt, c_gt, c_le, c_ge, c_eqi, c_nei, c_eqs, c_nes, c_eqb, c_neb, f_len, f_max, f_min, f_abs, List.getElem?_cons_zero, List.getElem?_cons_succ, List.set_cons_zero, List.set_cons_succ, List.length_cons, List.length_nil, if_true, if_false, decide_true, decide_false, Bool.not_true, Bool.not_false, Bool.false_eq_true, Bool.or_true, Bool.true_or, Bool.or_false, Bool.false_or, Bool.and_true, Bool.true_and, Bool.and_false, Bool.false_and, beq_self_eq_true, W.b50, W.s50_0, W.s50_1, W.s50_2, W.s50_3, e0, e1, e2, e3, e4, e5, e6, b_mull s2, b_mulr hs, le_d, eno, q1, q2, q3]
end
end
end WR
set_option linter.all false
set_option maxRecDepth 100000
set_option maxHeartbeats 4000000
namespace DM
theorem push_put {h : MH} {o u : MO} : (h.push o).put h.size u = h.push u := by
  show MH.mk ((h.objs ++ [o]).set h.objs.length u) = MH.mk (h.objs ++ [u])
  rw [List.set_append_right _ _ (Nat.le_refl _), Nat.sub_self]
  rfl
section
variable {P : Prog} {C : Nat → List MV → MH → R MV} {h : MH}
theorem mk_ok {c i : Nat} {sh : List Src} {vs ws l : List MV} {h1 : MH} [I : W.In P c i] (e : pick vs ws sh = some l) (f : C i (.ref h.size :: l) (h.push (.ins c [])) = .ok .non h1) : mkM P C c sh vs ws h = .ok (.ref h.size) h1 := by
  unfold mkM
  simp only [e, I.e, f, bind_ok']
theorem sub_d {n : Nat} {t lk : Bool} {l : List (MV × MV)} {x v : MV} (g : h.get n = some (.dct t lk l)) (ek : kOk t x = true) (e : lookK x l = some v) : subM (.ref n) x h = .ok v h := by
  unfold subM dget
  simp only [g, ek, e, if_true]
theorem sub_kd {l : List (MV × MV)} {x : Tx} {v : MV} (e : lookK (.str x) l = some v) : subM (.kd l) (.str x) h = .ok v h := by
  unfold subM dget
  simp only [e]
theorem it_kd {l : List (MV × MV)} {b : Ex} {σ : En} {h1 : MH} (e : ev P C b σ h = .ok (.kd l) h1) : itv P C (.ex b) σ h = .ok (.items (l.map (·.1))) h1 := by
  unfold itv
  rw [e]
  rfl
theorem allT_true : ∀ l : List MV, allT (l.map fun _ => .bl true) = some true
  | [] => rfl
  | x :: xs => by
    rw [List.map_cons]
    unfold allT
    rw [allT_true xs]
    rfl
end
end DM
namespace WR
open DM
variable {P : Prog} {k : Nat} {h : MH}
def low6 : List (MV × MV) := [(.str [112, 114, 111, 98, 101, 115], .int 0), (.str [103, 97, 112], .int 1), (.str [119, 97, 105, 116], .int 0), (.str [114, 101, 112, 101, 97, 116, 115], .int 0), (.str [112, 101, 114, 105, 111, 100], .int 1), (.str [108, 105, 102, 101], .int 1)]
def top6 : List (MV × MV) := [(.str [112, 114, 111, 98, 101, 115], .int 9), (.str [103, 97, 112], .int 5), (.str [119, 97, 105, 116], .int 99), (.str [114, 101, 112, 101, 97, 116, 115], .int 9), (.str [112, 101, 114, 105, 111, 100], .int 400), (.str [108, 105, 102, 101], .int 400)]
def keys6 : List MV := low6.map (·.1)
class Lim (P : Prog) : Prop where
  g5 : W.Gl P 5 (.int 5)
  g6 : W.Gl P 6 (.int 3)
  g7 : W.Gl P 7 (.kd low6)
  g8 : W.Gl P 8 (.kd top6)
variable [Six P] [L : Lim P]
theorem c20 [W.Fn P 18 W.F18] [W.Fn P 19 W.F19] [W.Fn P 20 W.F20] {n : Nat} {f o : Int} (g : h.get n = some (.ins 2 [])) (f0 : 0 ≤ f) (f1 : f ≤ 3) (o0 : 1 ≤ o) (o1 : o ≤ 5) : callM P (k + 3) 20 [.ref n, .int f, .int o] h = .ok .non (h.put n (bnd f o)) := by
  have e1 : ∀ h, callM P (k + 2) 19 [.int f, .int 0, .int 3] h = .ok (.bl true) h := fun h => by rw [c19]; simp only [decide_eq_true f0, decide_eq_true f1, Bool.and_true]
  have e2 : ∀ h, callM P (k + 2) 19 [.int o, .int 1, .int 5] h = .ok (.bl true) h := fun h => by rw [c19]; simp only [decide_eq_true o0, decide_eq_true o1, Bool.and_true]
  have e3 := sa_ok (P := P) (f := 104) (v := .int f) g (by simp)
  have e4 := sa_ok (P := P) (f := 105) (v := .int o) (get_put (o := .ins 2 (putFld 104 (.int f) [])) g) (by simp [putFld])
  simp only [put_put, putFld, Nat.reduceEqDiff, if_false] at e3 e4
  rw [c_fn]
  simp only [runFn, List.map_cons, List.map_nil, List.replicate, List.cons_append, List.nil_append, upds, exec, execs, tv, ev, evs, eo, ct, asg, asgs, itv, bind_ok', go_ok, noEx_ok', setM, callP, pick, negM, isNM, mc_bt, t_bl, b_add, b_sub, b_mod, b_fdiv, b_pow3, b_pow18, b_pow30, b_str, c_lt, c_gt, c_le, c_ge, c_eqi, c_nei, c_eqs, c_nes, c_eqb, c_neb, f_len, f_max, f_min, f_abs, List.getElem?_cons_zero, List.getElem?_cons_succ, List.set_cons_zero, List.set_cons_succ, List.length_cons, List.length_nil, if_true, if_false, decide_true, decide_false, Bool.not_true, Bool.not_false, Bool.false_eq_true, Bool.or_true, Bool.true_or, Bool.or_false, Bool.false_or, Bool.and_true, Bool.true_and, Bool.and_false, Bool.false_and, beq_self_eq_true, W.b20, W.s20_0, W.s20_1, W.s20_2, L.g5.e, L.g6.e, e1, e2, e3, e4, bnd]
theorem mk2 [W.Fn P 18 W.F18] [W.Fn P 19 W.F19] [W.Fn P 20 W.F20] [W.In P 2 20] {f o : Int} (f0 : 0 ≤ f) (f1 : f ≤ 3) (o0 : 1 ≤ o) (o1 : o ≤ 5) : mkM P (callM P (k + 3)) 2 [.kw 0, .kw 1] [] [.int f, .int o] h = .ok (.ref h.size) (h.push (bnd f o)) := by
  have e := c20 (P := P) (k := k) (h := h.push (.ins 2 [])) (n := h.size) get_push_size f0 f1 o0 o1
  rw [push_put] at e
  exact mk_ok rfl e
def six (p0 p1 p2 p3 p4 p5 : Int) : List (MV × MV) := [(.str [112, 114, 111, 98, 101, 115], .int p0), (.str [103, 97, 112], .int p1), (.str [119, 97, 105, 116], .int p2), (.str [114, 101, 112, 101, 97, 116, 115], .int p3), (.str [112, 101, 114, 105, 111, 100], .int p4), (.str [108, 105, 102, 101], .int p5)]
theorem disp_six {p0 p1 p2 p3 p4 p5 : Int} : dispM h.size [.str [112, 114, 111, 98, 101, 115], .int p0, .str [103, 97, 112], .int p1, .str [119, 97, 105, 116], .int p2, .str [114, 101, 112, 101, 97, 116, 115], .int p3, .str [112, 101, 114, 105, 111, 100], .int p4, .str [108, 105, 102, 101], .int p5] (h.push (.dct false false [])) = .ok (.ref h.size) (h.push (.dct false false (six p0 p1 p2 p3 p4 p5))) := by
  unfold dispM
  simp only [pairs, Option.map_some, get_push_size, push_put]
  rfl
structure Right (p0 p1 p2 p3 p4 p5 : Int) : Prop where
  a0 : 0 ≤ p0
  b0 : p0 ≤ 9
  a1 : 1 ≤ p1
  b1 : p1 ≤ 5
  a2 : 0 ≤ p2
  b2 : p2 ≤ 99
  a3 : 0 ≤ p3
  b3 : p3 ≤ 9
  a4 : 1 ≤ p4
  b4 : p4 ≤ 400
  a5 : 1 ≤ p5
  b5 : p5 ≤ 400
  c : clm p0 p1 p2 + 2 ≤ p4
theorem Right.s1 {p0 p1 p2 p3 p4 p5 : Int} (r : Right p0 p1 p2 p3 p4 p5) : small p1 = true := by
  have := r.a1; have := r.b1
  exact sm9 (by omega) (by omega)
theorem Right.s4 {p0 p1 p2 p3 p4 p5 : Int} (r : Right p0 p1 p2 p3 p4 p5) : small p4 = true := by
  have := r.a4; have := r.b4
  exact sm9 (by omega) (by omega)
theorem c21 [W.Fn P 18 W.F18] [W.Fn P 19 W.F19] [W.Fn P 21 W.F21] [W.Fn P 22 W.F22] {n : Nat} {p0 p1 p2 p3 p4 p5 : Int} (g : h.get n = some (.ins 1 [])) (r : Right p0 p1 p2 p3 p4 p5) :
    ∃ h', callM P (k + 3) 21 [.ref n, .int p0, .int p1, .int p2, .int p3, .int p4, .int p5] h = .ok .non h' ∧ h'.get n = some (rul p0 p1 p2 p3 p4 p5) ∧ Gb n h h' := by
  have ne : n ≠ h.size := Nat.ne_of_lt (get_lt g)
  have g1 := get_push (o := .dct false false (six p0 p1 p2 p3 p4 p5)) g
  have gd : (h.push (.dct false false (six p0 p1 p2 p3 p4 p5))).get h.size = _ := get_push_size
  have e0 := disp_six (h := h) (p0 := p0) (p1 := p1) (p2 := p2) (p3 := p3) (p4 := p4) (p5 := p5)
  have G1 : Gb n h (h.push (.dct false false (six p0 p1 p2 p3 p4 p5))) := Gb.refl.push
  generalize h.push (.dct false false (six p0 p1 p2 p3 p4 p5)) = h1 at e0 g1 gd G1
  obtain ⟨h2, e2, i2⟩ := lc_map (P := P) (C := callM P (k + 2)) (σ := [some (.ref n), some (.int p0), some (.int p1), some (.int p2), some (.int p3), some (.int p4), some (.int p5), some (.ref h.size), none]) (h := h1) (F := fun _ => .bl true)
    (elt := .call 19 (.cons (.sub (.var 7) (.var 8)) (.cons (.sub (.gl 7) (.var 8)) (.cons (.sub (.gl 8) (.var 8)) .nil))) .nil [] [.pos 0, .pos 1, .pos 2]) (own := [8]) (j := 8)
    (l := keys6) (it_kd (l := low6) (b := .gl 7) (by simp only [exec, execs, tv, ev, evs, eo, ct, asg, asgs, itv, bind_ok', go_ok, noEx_ok', setM, callP, pick, negM, isNM, mc_bt, t_bl, b_add, b_sub, b_mod, b_fdiv, b_pow3, b_pow18, b_pow30, b_str, c_lt, c_gt, c_le, c_ge, c_eqi, c_nei, c_eqs, c_nes, c_eqb, c_neb, f_len, f_max, f_min, f_abs, List.getElem?_cons_zero, List.getElem?_cons_succ, List.set_cons_zero, List.set_cons_succ, List.length_cons, List.length_nil, if_true, if_false, decide_true, decide_false, Bool.not_true, Bool.not_false, Bool.false_eq_true, Bool.or_true, Bool.true_or, Bool.or_false, Bool.false_or, Bool.and_true, Bool.true_and, Bool.and_false, Bool.false_and, beq_self_eq_true, L.g7.e])) (by simp [LIM, keys6, low6]) (fun h => h = h1) rfl (by
      rintro v h hv rfl
      have hx : ∃ s a b x, v = .str s ∧ lookK (.str s) (six p0 p1 p2 p3 p4 p5) = some (.int x) ∧ lookK (.str s) low6 = some (.int a) ∧ lookK (.str s) top6 = some (.int b) ∧ a ≤ x ∧ x ≤ b := by
        simp only [keys6, low6, List.map_cons, List.map_nil, List.mem_cons, List.not_mem_nil, or_false] at hv
        rcases hv with rfl | rfl | rfl | rfl | rfl | rfl
        · exact ⟨_, _, _, _, rfl, rfl, rfl, rfl, r.a0, r.b0⟩
        · exact ⟨_, _, _, _, rfl, rfl, rfl, rfl, r.a1, r.b1⟩
        · exact ⟨_, _, _, _, rfl, rfl, rfl, rfl, r.a2, r.b2⟩
        · exact ⟨_, _, _, _, rfl, rfl, rfl, rfl, r.a3, r.b3⟩
        · exact ⟨_, _, _, _, rfl, rfl, rfl, rfl, r.a4, r.b4⟩
        · exact ⟨_, _, _, _, rfl, rfl, rfl, rfl, r.a5, r.b5⟩
      obtain ⟨s, a, b, x, rfl, k1, k2, k3, ha, hb⟩ := hx
      have d1 := sub_d gd (x := .str s) rfl k1
      have d2 := sub_kd (h := h) k2
      have d3 := sub_kd (h := h) k3
      have e4 : callM P (k + 2) 19 [.int x, .int a, .int b] h = .ok (.bl true) h := by rw [c19]; simp only [decide_eq_true ha, decide_eq_true hb, Bool.and_true]
      exact ⟨h, by simp only [wipe, exec, execs, tv, ev, evs, eo, ct, asg, asgs, itv, bind_ok', go_ok, noEx_ok', setM, callP, pick, negM, isNM, mc_bt, t_bl, b_add, b_sub, b_mod, b_fdiv, b_pow3, b_pow18, b_pow30, b_str, c_lt, c_gt, c_le, c_ge, c_eqi, c_nei, c_eqs, c_nes, c_eqb, c_neb, f_len, f_max, f_min, f_abs, List.getElem?_cons_zero, List.getElem?_cons_succ, List.set_cons_zero, List.set_cons_succ, List.length_cons, List.length_nil, if_true, if_false, decide_true, decide_false, Bool.not_true, Bool.not_false, Bool.false_eq_true, Bool.or_true, Bool.true_or, Bool.or_false, Bool.false_or, Bool.and_true, Bool.true_and, Bool.and_false, Bool.false_and, beq_self_eq_true, d1, L.g7.e, L.g8.e, d2, d3, e4], rfl⟩)
  subst i2
  have e5 := f_all (P := P) (h := h2.push (.lst (keys6.map fun _ => .bl true))) get_push_size (allT_true _)
  have G2 : Gb n h (h2.push (.lst (keys6.map fun _ => .bl true))) := G1.push
  have g3 := get_push (o := (.lst (keys6.map fun _ => .bl true))) g1
  generalize h2.push (.lst (keys6.map fun _ => .bl true)) = h3 at e2 e5 G2 g3
  have e6 : callM P (k + 2) 22 [.int p0, .int p1, .int p2] h3 = _ := c22 r.s1
  have lt : ¬ p4 < clm p0 p1 p2 + 2 := by have := r.c; omega
  have q1 := sa_ok (P := P) (f := 106) (v := .int p0) g3 (by simp)
  have q2 := sa_ok (P := P) (f := 107) (v := .int p1) (get_put (o := .ins 1 (putFld 106 (.int p0) [])) g3) (by simp [putFld])
  have q3 := sa_ok (P := P) (f := 108) (v := .int p2) (get_put (o := .ins 1 [(106, .int p0), (107, .int p1)]) g3) (by simp [putFld])
  have q4 := sa_ok (P := P) (f := 109) (v := .int p3) (get_put (o := .ins 1 [(106, .int p0), (107, .int p1), (108, .int p2)]) g3) (by simp [putFld])
  have q5 := sa_ok (P := P) (f := 110) (v := .int p4) (get_put (o := .ins 1 [(106, .int p0), (107, .int p1), (108, .int p2), (109, .int p3)]) g3) (by simp [putFld])
  have q6 := sa_ok (P := P) (f := 111) (v := .int p5) (get_put (o := .ins 1 [(106, .int p0), (107, .int p1), (108, .int p2), (109, .int p3), (110, .int p4)]) g3) (by simp [putFld])
  simp only [put_put, putFld, Nat.reduceEqDiff, if_false] at q1 q2 q3 q4 q5 q6
  refine ⟨h3.put n (rul p0 p1 p2 p3 p4 p5), ?_, get_put g3, ⟨by rw [size_put]; exact G2.1, fun m u q e => by rw [get_put_ne q]; exact G2.2 m u q e⟩⟩
  rw [c_fn]
  refine f_rtn [some (.ref n), some (.int p0), some (.int p1), some (.int p2), some (.int p3), some (.int p4), some (.int p5), none, none] (σ1 := [some (.ref n), some (.int p0), some (.int p1), some (.int p2), some (.int p3), some (.int p4), some (.int p5), some (.ref h.size), none]) rfl rfl (x_nx (σ1 := [some (.ref n), some (.int p0), some (.int p1), some (.int p2), some (.int p3), some (.int p4), some (.int p5), some (.ref h.size), none]) (h1 := h2) ?_ (x_nx (σ1 := [some (.ref n), some (.int p0), some (.int p1), some (.int p2), some (.int p3), some (.int p4), some (.int p5), some (.ref h.size), none]) (h1 := h3) ?_ ?_))
  · simp only [exec, execs, tv, ev, evs, eo, ct, asg, asgs, itv, bind_ok', go_ok, noEx_ok', setM, callP, pick, negM, isNM, mc_bt, t_bl, b_add, b_sub, b_mod, b_fdiv, b_pow3, b_pow18, b_pow30, b_str, c_lt, c_gt, c_le, c_ge, c_eqi, c_nei, c_eqs, c_nes, c_eqb, c_neb, f_len, f_max, f_min, f_abs, List.getElem?_cons_zero, List.getElem?_cons_succ, List.set_cons_zero, List.set_cons_succ, List.length_cons, List.length_nil, if_true, if_false, decide_true, decide_false, Bool.not_true, Bool.not_false, Bool.false_eq_true, Bool.or_true, Bool.true_or, Bool.or_false, Bool.false_or, Bool.and_true, Bool.true_and, Bool.and_false, Bool.false_and, beq_self_eq_true, W.s21_0, e0]
  · rw [W.s21_1, exec, tv, tv, ev_bif1 e2, e5]
    simp only [exec, execs, tv, ev, evs, eo, ct, asg, asgs, itv, bind_ok', go_ok, noEx_ok', setM, callP, pick, negM, isNM, mc_bt, t_bl, b_add, b_sub, b_mod, b_fdiv, b_pow3, b_pow18, b_pow30, b_str, c_lt, c_gt, c_le, c_ge, c_eqi, c_nei, c_eqs, c_nes, c_eqb, c_neb, f_len, f_max, f_min, f_abs, List.getElem?_cons_zero, List.getElem?_cons_succ, List.set_cons_zero, List.set_cons_succ, List.length_cons, List.length_nil, if_true, if_false, decide_true, decide_false, Bool.not_true, Bool.not_false, Bool.false_eq_true, Bool.or_true, Bool.true_or, Bool.or_false, Bool.false_or, Bool.and_true, Bool.true_and, Bool.and_false, Bool.false_and, beq_self_eq_true]
  · simp only [exec, execs, tv, ev, evs, eo, ct, asg, asgs, itv, bind_ok', go_ok, noEx_ok', setM, callP, pick, negM, isNM, mc_bt, t_bl, b_add, b_sub, b_mod, b_fdiv, b_pow3, b_pow18, b_pow30, b_str, c_lt, c_gt, c_le, c_ge, c_eqi, c_nei, c_eqs, c_nes, c_eqb, c_neb, f_len, f_max, f_min, f_abs, List.getElem?_cons_zero, List.getElem?_cons_succ, List.set_cons_zero, List.set_cons_succ, List.length_cons, List.length_nil, if_true, if_false, decide_true, decide_false, Bool.not_true, Bool.not_false, Bool.false_eq_true, Bool.or_true, Bool.true_or, Bool.or_false, Bool.false_or, Bool.and_true, Bool.true_and, Bool.and_false, Bool.false_and, beq_self_eq_true, W.s21_2, W.s21_3, W.s21_4, W.s21_5, W.s21_6, W.s21_7, W.s21_8, e6, lt, q1, q2, q3, q4, q5, q6, rul]
theorem mk1 [W.Fn P 18 W.F18] [W.Fn P 19 W.F19] [W.Fn P 21 W.F21] [W.Fn P 22 W.F22] [W.In P 1 21] {p0 p1 p2 p3 p4 p5 : Int} (r : Right p0 p1 p2 p3 p4 p5) {sh : List Src} {vs ws : List MV} (e : pick vs ws sh = some [.int p0, .int p1, .int p2, .int p3, .int p4, .int p5]) :
    ∃ h', mkM P (callM P (k + 3)) 1 sh vs ws h = .ok (.ref h.size) h' ∧ h'.get h.size = some (rul p0 p1 p2 p3 p4 p5) ∧ Grow h h' := by
  obtain ⟨h', e1, g, G⟩ := c21 (P := P) (k := k) (h := h.push (.ins 1 [])) (n := h.size) get_push_size r
  exact ⟨h', mk_ok e e1, g, Nat.le_trans (by rw [size_push]; omega) G.1, fun m u q => G.2 m u (Nat.ne_of_lt (get_lt q)) (get_push q)⟩
/-- the least rule of a gap -/
theorem least_right {f o g : Int} (f0 : 0 ≤ f) (f1 : f ≤ 3) (o0 : 1 ≤ o) (o1 : o ≤ 5) (g0 : 1 ≤ g) (g1 : g ≤ 5) : Right (f + 1) g (2 * o + f * g) f (clm (f + 1) g (2 * o + f * g) + 2) (2 * ask o f g) := by
  have e : clm (f + 1) g (2 * o + f * g) = f * g + (2 * o + f * g) := by
    unfold clm mx
    rw [show f + 1 - 1 = f by omega]
    by_cases q : f > 0
    · rw [if_pos q]
    · rw [if_neg q, show f = 0 by omega]
  have e2 : ask o f g = 2 * o + 2 * (f * g) := by
    unfold ask
    rw [Int.mul_assoc]
  have b : 0 ≤ f * g := Int.mul_nonneg f0 (by omega)
  have c : f * g ≤ 3 * 5 := Int.mul_le_mul f1 g1 (by omega) (by omega)
  constructor <;> (try rw [e]) <;> (try rw [e2]) <;> omega
theorem c153 [W.Fn P 18 W.F18] [W.Fn P 19 W.F19] [W.Fn P 21 W.F21] [W.Fn P 22 W.F22] [W.In P 1 21] [W.Fn P 33 W.F33] [W.Fn P 36 W.F36] [W.Fn P 46 W.F46] [W.Fn P 153 W.F153] {n : Nat} {f o p : Int} (g : h.get n = some (bnd f o)) (f0 : 0 ≤ f) (f1 : f ≤ 3) (o0 : 1 ≤ o) (o1 : o ≤ 5) (g0 : 1 ≤ p) (g1 : p ≤ 5) :
    ∃ h', callM P (k + 4) 153 [.ref n, .int p] h = .ok (.ref h.size) h' ∧ h'.get h.size = some (rul (f + 1) p (2 * o + f * p) f (clm (f + 1) p (2 * o + f * p) + 2) (2 * ask o f p)) ∧ Grow h h' := by
  have hs : small p = true := sm9 (by omega) (by omega)
  have e0 := c33 (P := P) (k := k + 2) g
  have e1 := c46 (P := P) (k := k + 2) g
  have e2 : callM P (k + 3) 22 [.int (f + 1), .int p, .int (2 * o + f * p)] h = _ := c22 hs
  have e3 : callM P (k + 3) 36 [.int o, .int f, .int p] h = _ := c36 hs
  have e4 : callM P (k + 3) 19 [.int p, .int 1, .int 5] h = .ok (.bl true) h := by rw [c19]; simp only [decide_eq_true g0, decide_eq_true g1, Bool.and_true]
  have d2 : subM (.kd low6) (.str [103, 97, 112]) h = .ok (.int 1) h := sub_kd rfl
  have d3 : subM (.kd top6) (.str [103, 97, 112]) h = .ok (.int 5) h := sub_kd rfl
  obtain ⟨h', e5, g5, G5⟩ := mk1 (P := P) (k := k) (h := h) (least_right f0 f1 o0 o1 g0 g1) (sh := [.kw 0, .kw 1, .kw 2, .kw 3, .kw 4, .kw 5]) (vs := []) (ws := [.int (f + 1), .int p, .int (2 * o + f * p), .int f, .int (clm (f + 1) p (2 * o + f * p) + 2), .int (2 * ask o f p)]) rfl
  refine ⟨h', ?_, g5, G5⟩
  rw [c_fn]
  simp only [ask] at e5
  simp only [runFn, List.map_cons, List.map_nil, List.replicate, List.cons_append, List.nil_append, upds, exec, execs, tv, ev, evs, eo, ct, asg, asgs, itv, bind_ok', go_ok, noEx_ok', setM, callP, pick, negM, isNM, mc_bt, t_bl, b_add, b_sub, b_mod, b_fdiv, b_pow3, b_pow18, b_pow30, b_str, c_lt, c_gt, c_le, c_ge, c_eqi, c_nei, c_eqs, c_nes, c_eqb, c_neb, f_len, f_max, f_min, f_abs, List.getElem?_cons_zero, List.getElem?_cons_succ, List.set_cons_zero, List.set_cons_succ, List.length_cons, List.length_nil, if_true, if_false, decide_true, decide_false, Bool.not_true, Bool.not_false, Bool.false_eq_true, Bool.or_true, Bool.true_or, Bool.or_false, Bool.false_or, Bool.and_true, Bool.true_and, Bool.and_false, Bool.false_and, beq_self_eq_true, W.b153, W.s153_0, W.s153_1, W.s153_2, W.s153_3, W.s153_4, W.s153_5, W.s153_6, W.s153_7, e0, e1, e2, e3, e4, e5, L.g7.e, L.g8.e, d2, d3, b_mull s2, b_mulr hs]
end WR
set_option linter.all false
set_option maxRecDepth 100000
set_option maxHeartbeats 4000000
namespace K09
open DM WB WR
variable {shw : PD → Tx} {k : Nat} {h : MH}
instance : Six (P shw) := ⟨⟨rfl⟩, ⟨rfl⟩, ⟨rfl⟩, ⟨rfl⟩, ⟨rfl⟩, ⟨rfl⟩, ⟨rfl⟩, ⟨rfl⟩, ⟨rfl⟩, ⟨rfl⟩⟩
instance : Lim (P shw) := ⟨⟨rfl⟩, ⟨rfl⟩, ⟨rfl⟩, ⟨rfl⟩⟩
theorem c23 {i : Int} : callM (P shw) (k + 1) 23 [.int i] h = .ok (.bl true) h := by
  have e1 : isiM (P shw) (.int i) .int h = some true := ty_int rfl
  have e2 : isiM (P shw) (.int i) .bool h = some false := ty_int rfl
  simp only [c_fn, runFn, List.map_cons, List.map_nil, List.replicate, List.cons_append, List.nil_append, upds, exec, execs, tv, ev, evs, eo, ct, asg, asgs, itv, bind_ok', go_ok, noEx_ok', setM, callP, pick, negM, isNM, mc_bt, t_bl, b_add, b_sub, b_mod, b_fdiv, b_pow3, b_pow18, b_pow30, b_str, c_lt, c_gt, c_le, c_ge, c_eqi, c_nei, c_eqs, c_nes, c_eqb, c_neb, f_len, f_max, f_min, f_abs, List.getElem?_cons_zero, List.getElem?_cons_succ, List.set_cons_zero, List.set_cons_succ, List.length_cons, List.length_nil, if_true, if_false, decide_true, decide_false, Bool.not_true, Bool.not_false, Bool.false_eq_true, Bool.or_true, Bool.true_or, Bool.or_false, Bool.false_or, Bool.and_true, Bool.true_and, Bool.and_false, Bool.false_and, beq_self_eq_true, b23, s23_0, e1, e2, bR]
theorem c40 {r : Nat} {p0 p1 p2 p3 p4 p5 : Int} (g : h.get r = some (.lst [.int p0, .int p1, .int p2, .int p3, .int p4, .int p5])) (hs : small p1 = true) : callM (P shw) (k + 1) 40 [.ref r] h = .ok (.int (clm p0 p1 p2)) h := by
  have r0 := s_ref g (at_nat (n := 0) rfl)
  have r1 := s_ref g (at_nat (n := 1) rfl)
  have r2 := s_ref g (at_nat (n := 2) rfl)
  simp only [Int.ofNat_eq_natCast, Int.cast_ofNat_Int] at r0 r1 r2
  simp only [c_fn, runFn, List.map_cons, List.map_nil, List.replicate, List.cons_append, List.nil_append, upds, exec, execs, tv, ev, evs, eo, ct, asg, asgs, itv, bind_ok', go_ok, noEx_ok', setM, callP, pick, negM, isNM, mc_bt, t_bl, b_add, b_sub, b_mod, b_fdiv, b_pow3, b_pow18, b_pow30, b_str, c_lt, c_gt, c_le, c_ge, c_eqi, c_nei, c_eqs, c_nes, c_eqb, c_neb, f_len, f_max, f_min, f_abs, List.getElem?_cons_zero, List.getElem?_cons_succ, List.set_cons_zero, List.set_cons_succ, List.length_cons, List.length_nil, if_true, if_false, decide_true, decide_false, Bool.not_true, Bool.not_false, Bool.false_eq_true, Bool.or_true, Bool.true_or, Bool.or_false, Bool.false_or, Bool.and_true, Bool.true_and, Bool.and_false, Bool.false_and, beq_self_eq_true, b40, s40_0, r0, r1, r2, b_mulr hs, clm, mx]
theorem c27 {r : Nat} {p0 p1 p2 p3 p4 p5 : Int} (g : h.get r = some (.lst [.int p0, .int p1, .int p2, .int p3, .int p4, .int p5])) (R : Right p0 p1 p2 p3 p4 p5) :
    ∃ h', callM (P shw) (k + 4) 27 [.ref r] h = .ok (.ref h.size) h' ∧ h'.get h.size = some (rul p0 p1 p2 p3 p4 p5) ∧ Grow h h' := by
  have r0 := s_ref g (at_nat (n := 0) rfl)
  have r1 := s_ref g (at_nat (n := 1) rfl)
  have r2 := s_ref g (at_nat (n := 2) rfl)
  have r3 := s_ref g (at_nat (n := 3) rfl)
  have r4 := s_ref g (at_nat (n := 4) rfl)
  have r5 := s_ref g (at_nat (n := 5) rfl)
  obtain ⟨h', e5, g5, G5⟩ := mk1 (P := P shw) (k := k) (h := h) R (sh := [.kw 2, .kw 1, .kw 4, .kw 5, .kw 3, .kw 0]) (vs := []) (ws := [.int p5, .int p1, .int p0, .int p4, .int p2, .int p3]) rfl
  refine ⟨h', ?_, g5, G5⟩
  simp only [Int.ofNat_eq_natCast, Int.cast_ofNat_Int] at r0 r1 r2 r3 r4 r5
  rw [c_fn]
  simp only [runFn, List.map_cons, List.map_nil, List.replicate, List.cons_append, List.nil_append, upds, exec, execs, tv, ev, evs, eo, ct, asg, asgs, itv, bind_ok', go_ok, noEx_ok', setM, callP, pick, negM, isNM, mc_bt, t_bl, b_add, b_sub, b_mod, b_fdiv, b_pow3, b_pow18, b_pow30, b_str, c_lt, c_gt, c_le, c_ge, c_eqi, c_nei, c_eqs, c_nes, c_eqb, c_neb, f_len, f_max, f_min, f_abs, List.getElem?_cons_zero, List.getElem?_cons_succ, List.set_cons_zero, List.set_cons_succ, List.length_cons, List.length_nil, if_true, if_false, decide_true, decide_false, Bool.not_true, Bool.not_false, Bool.false_eq_true, Bool.or_true, Bool.true_or, Bool.or_false, Bool.false_or, Bool.and_true, Bool.true_and, Bool.and_false, Bool.false_and, beq_self_eq_true, b27, s27_0, r0, r1, r2, r3, r4, r5, e5]
structure Rng (p0 p1 p2 p3 p4 p5 : Int) : Prop where
  a0 : 0 ≤ p0
  b0 : p0 ≤ 9
  a1 : 1 ≤ p1
  b1 : p1 ≤ 5
  a2 : 0 ≤ p2
  b2 : p2 ≤ 99
  a3 : 0 ≤ p3
  b3 : p3 ≤ 9
  a4 : 1 ≤ p4
  b4 : p4 ≤ 400
  a5 : 1 ≤ p5
  b5 : p5 ≤ 400
theorem Rng.cl {p0 p1 p2 p3 p4 p5 : Int} (r : Rng p0 p1 p2 p3 p4 p5) : 0 ≤ clm p0 p1 p2 ∧ clm p0 p1 p2 ≤ 139 := by
  have m0 : 0 ≤ mx (p0 - 1) ∧ mx (p0 - 1) ≤ 8 := by
    have := r.a0; have := r.b0
    unfold mx
    split <;> omega
  have := r.a1; have := r.b1; have := r.a2; have := r.b2
  have e1 : 0 ≤ mx (p0 - 1) * p1 := Int.mul_nonneg m0.1 (by omega)
  have e2 : mx (p0 - 1) * p1 ≤ 8 * 5 := Int.mul_le_mul m0.2 r.b1 (by omega) (by omega)
  unfold clm
  omega
theorem Rng.s1 {p0 p1 p2 p3 p4 p5 : Int} (r : Rng p0 p1 p2 p3 p4 p5) : small p1 = true := by
  have := r.a1; have := r.b1
  exact sm9 (by omega) (by omega)
theorem Rng.set4 {p0 p1 p2 p3 p4 p5 q : Int} (r : Rng p0 p1 p2 p3 p4 p5) (h0 : 1 ≤ q) (h1 : q ≤ 400) : Rng p0 p1 p2 p3 q p5 := ⟨r.a0, r.b0, r.a1, r.b1, r.a2, r.b2, r.a3, r.b3, h0, h1, r.a5, r.b5⟩
theorem Rng.right {p0 p1 p2 p3 p4 p5 : Int} (r : Rng p0 p1 p2 p3 p4 p5) (c : clm p0 p1 p2 + 2 ≤ p4) : Right p0 p1 p2 p3 p4 p5 := ⟨r.a0, r.b0, r.a1, r.b1, r.a2, r.b2, r.a3, r.b3, r.a4, r.b4, r.a5, r.b5, c⟩
abbrev six (p0 p1 p2 p3 p4 p5 : Int) : MO := .lst [.int p0, .int p1, .int p2, .int p3, .int p4, .int p5]
def ends : List MV := [.tup [.int 0, .int 9], .tup [.int 1, .int 5], .tup [.int 0, .int 99], .tup [.int 0, .int 9], .tup [.int 1, .int 400], .tup [.int 1, .int 400]]
theorem t2 {a b : MV} : litM [a, b] h = .ok (.tup [a, b]) h := l_tup (by simp [LIM])
theorem ends_ok {l : List MV} (e : l = ends) : newList h l = .ok (.ref h.size) (h.push (.lst ends)) := by
  subst e
  exact n_list (by decide)
theorem ends_at {i : Nat} {v : MV} (e : ends[i]? = some v) : ∃ lo hi : Int, v = .tup [.int lo, .int hi] ∧ 0 ≤ lo ∧ lo + 3 ≤ hi ∧ hi ≤ 400 := by
  unfold ends at e
  match i, e with
  | 0, e => cases e; exact ⟨_, _, rfl, by omega, by omega, by omega⟩
  | 1, e => cases e; exact ⟨_, _, rfl, by omega, by omega, by omega⟩
  | 2, e => cases e; exact ⟨_, _, rfl, by omega, by omega, by omega⟩
  | 3, e => cases e; exact ⟨_, _, rfl, by omega, by omega, by omega⟩
  | 4, e => cases e; exact ⟨_, _, rfl, by omega, by omega, by omega⟩
  | 5, e => cases e; exact ⟨_, _, rfl, by omega, by omega, by omega⟩
def In4 (L : List MV) (Q : Int → Prop) : Prop := ∀ v ∈ L, ∃ m, v = .int m ∧ Q m
/-- one of four, by the bag -/
theorem pick4 {L : List MV} {Q : Int → Prop} {b : Nat} (w : Bag h b) (hl : L.length = 4) (hq : In4 L Q) : ∃ d h', callM (P shw) (k + 1) 3 [.ref b, .int 4] (h.push (.lst L)) = .ok (.int d) h' ∧ Bag h' b ∧ Gb b h h' ∧ ∃ m, subM (.ref h.size) (.int d) h' = .ok (.int m) h' ∧ Q m := by
  obtain ⟨d, h', d0, d1, e, w', G, _⟩ := (w.push (o := .lst L)).tk (P := P shw) (k := k) 4 (by omega) (by omega)
  refine ⟨d, h', e, w', Gb.trans Gb.refl.push G, ?_⟩
  obtain ⟨m, hm, q⟩ := pick3 hl hq d0 d1
  exact ⟨m, s_ref (G.2 _ _ (Nat.ne_of_gt w.lt) get_push_size) hm, q⟩
theorem part_ok {b : Nat} (w : Bag h b) {lo hi : Int} (h0 : 0 ≤ lo) (h1 : lo + 3 ≤ hi) (h2 : hi ≤ 400) {x1 x2 x3 x4 x5 : Option MV} : ∃ m h', lcB (asg (P shw) (callM (P shw) (k + 1)) (.tup (.cons (.nm 4) (.cons (.nm 5) .nil)))) (ct (P shw) (callM (P shw) (k + 1)) .no) (ev (P shw) (callM (P shw) (k + 1)) (.sub (.lst (.cons (.var 4) (.cons (.var 5) (.cons (.bin .add (.var 4) (.call 3 (.cons (.var 0) (.cons (.bin .add (.bin .sub (.var 5) (.var 4)) (.int 1)) .nil)) .nil [] [.pos 0, .pos 1])) (.cons (.bin .add (.var 4) (.call 3 (.cons (.var 0) (.cons (.int 4) .nil)) .nil [] [.pos 0, .pos 1])) .nil))))) (.call 3 (.cons (.var 0) (.cons (.int 4) .nil)) .nil [] [.pos 0, .pos 1]))) [4, 5] [some (.ref b), x1, x2, x3, x4, x5] (.tup [.int lo, .int hi]) h = .ok (some (.int m)) h' ∧ lo ≤ m ∧ m ≤ hi ∧ Bag h' b ∧ Gb b h h' := by
  obtain ⟨d1, h1', d10, d11, e1, w1, G1, _⟩ := w.tk (P := P shw) (k := k) (hi - lo + 1) (by omega) (by omega)
  obtain ⟨d2, h2', d20, d21, e2, w2, G2, _⟩ := w1.tk (P := P shw) (k := k) 4 (by omega) (by omega)
  obtain ⟨d3, h3', e3, w3, G3, m, e4, q⟩ := pick4 (shw := shw) (k := k) (L := [.int lo, .int hi, .int (lo + d1), .int (lo + d2)]) (Q := fun m => lo ≤ m ∧ m ≤ hi) w2 rfl (by
    intro v hv
    simp only [List.mem_cons, List.not_mem_nil, or_false] at hv
    rcases hv with rfl | rfl | rfl | rfl <;> exact ⟨_, rfl, by omega, by omega⟩)
  have nl : newList h2' [.int lo, .int hi, .int (lo + d1), .int (lo + d2)] = .ok (.ref h2'.size) (h2'.push (.lst [.int lo, .int hi, .int (lo + d1), .int (lo + d2)])) := n_list (by simp [LIM])
  exact ⟨m, h3', by simp only [lcB, wipe, exec, execs, tv, ev, evs, eo, ct, asg, asgs, itv, bind_ok', go_ok, noEx_ok', setM, callP, pick, negM, isNM, mc_bt, t_bl, b_add, b_sub, b_mod, b_fdiv, b_pow3, b_pow18, b_pow30, b_str, c_lt, c_gt, c_le, c_ge, c_eqi, c_nei, c_eqs, c_nes, c_eqb, c_neb, f_len, f_max, f_min, f_abs, List.getElem?_cons_zero, List.getElem?_cons_succ, List.set_cons_zero, List.set_cons_succ, List.length_cons, List.length_nil, if_true, if_false, decide_true, decide_false, Bool.not_true, Bool.not_false, Bool.false_eq_true, Bool.or_true, Bool.true_or, Bool.or_false, Bool.false_or, Bool.and_true, Bool.true_and, Bool.and_false, Bool.false_and, beq_self_eq_true, e1, e2, nl, e3, e4], q.1, q.2, w3, (G1.trans G2).trans G3⟩
theorem c25 {b : Nat} (w : Bag h b) : ∃ r h' p0 p1 p2 p3 p4 p5, callM (P shw) (k + 2) 25 [.ref b] h = .ok (.ref r) h' ∧ Bag h' b ∧ Gb b h h' ∧ h.size ≤ r ∧ h'.get r = some (six p0 p1 p2 p3 p4 p5) ∧ Rng p0 p1 p2 p3 p4 p5 := by
  have hb := w.lt
  obtain ⟨acc, h2, e2, w2, g2, G2, l2, q2⟩ := lc_g (P := P shw) (C := callM (P shw) (k + 1)) (σ := [some (.ref b), some (.ref h.size), none, none, none, none]) (h := h.push (.lst ends)) (tg := (.tup (.cons (.nm 4) (.cons (.nm 5) .nil)))) (c := .no)
    (elt := (.sub (.lst (.cons (.var 4) (.cons (.var 5) (.cons (.bin .add (.var 4) (.call 3 (.cons (.var 0) (.cons (.bin .add (.bin .sub (.var 5) (.var 4)) (.int 1)) .nil)) .nil [] [.pos 0, .pos 1])) (.cons (.bin .add (.var 4) (.call 3 (.cons (.var 0) (.cons (.int 4) .nil)) .nil [] [.pos 0, .pos 1])) .nil))))) (.call 3 (.cons (.var 0) (.cons (.int 4) .nil)) .nil [] [.pos 0, .pos 1]))) (own := [4, 5])
    (it_ref (b := .var 1) (r := h.size) (l := ends) (by simp only [exec, execs, tv, ev, evs, eo, ct, asg, asgs, itv, bind_ok', go_ok, noEx_ok', setM, callP, pick, negM, isNM, mc_bt, t_bl, b_add, b_sub, b_mod, b_fdiv, b_pow3, b_pow18, b_pow30, b_str, c_lt, c_gt, c_le, c_ge, c_eqi, c_nei, c_eqs, c_nes, c_eqb, c_neb, f_len, f_max, f_min, f_abs, List.getElem?_cons_zero, List.getElem?_cons_succ, List.set_cons_zero, List.set_cons_succ, List.length_cons, List.length_nil, if_true, if_false, decide_true, decide_false, Bool.not_true, Bool.not_false, Bool.false_eq_true, Bool.or_true, Bool.true_or, Bool.or_false, Bool.false_or, Bool.and_true, Bool.true_and, Bool.and_false, Bool.false_and, beq_self_eq_true]) get_push_size) (len_live get_push_size) (by decide)
    (fun i acc h' => Bag h' b ∧ h'.get h.size = some (.lst ends) ∧ Gb b h h' ∧ acc.length = i ∧ ∀ j v, acc[j]? = some v → ∃ m lo hi, v = MV.int m ∧ ends[j]? = some (MV.tup [MV.int lo, MV.int hi]) ∧ lo ≤ m ∧ m ≤ hi)
    (fun i acc h' p => at_live p.2.1) ⟨w.push, get_push_size, Gb.refl.push, rfl, fun j v e => absurd (List.mem_of_getElem? e) (by simp)⟩ (by
      rintro i v acc h' ev ⟨w', g', G', hl, hq⟩
      obtain ⟨lo, hi, rfl, q0, q1, q2⟩ := ends_at ev
      obtain ⟨m, h1, e1, m0, m1, w1, G1⟩ := part_ok (shw := shw) (k := k) w' q0 q1 q2 (x1 := some (.ref h.size)) (x2 := none) (x3 := none) (x4 := none) (x5 := none)
      refine ⟨_, h1, e1, w1, G1.2 _ _ (Nat.ne_of_gt hb) g', G'.trans G1, ?_, ?_⟩
      · rw [Option.toList, List.length_append, hl]; rfl
      · intro j v e
        rw [Option.toList] at e
        rcases Nat.lt_or_ge j acc.length with hj | hj
        · rw [List.getElem?_append_left hj] at e
          exact hq j v e
        · rw [List.getElem?_append_right hj] at e
          rcases Nat.eq_zero_or_pos (j - acc.length) with h0 | h0
          · rw [h0] at e
            cases e
            rw [show j = i by omega]
            exact ⟨m, lo, hi, rfl, ev, m0, m1⟩
          · rw [List.getElem?_eq_none (by simp; omega)] at e
            cases e)
  match acc, l2, q2, e2 with
  | [v0, v1, v2, v3, v4, v5], _, q2, e2 =>
  obtain ⟨p0, l0, u0, rfl, t0, a0, b0⟩ := q2 0 _ rfl
  cases t0
  obtain ⟨p1, l1, u1, rfl, t1, a1, b1⟩ := q2 1 _ rfl
  cases t1
  obtain ⟨p2, l2, u2, rfl, t2, a2, b2⟩ := q2 2 _ rfl
  cases t2
  obtain ⟨p3, l3, u3, rfl, t3, a3, b3⟩ := q2 3 _ rfl
  cases t3
  obtain ⟨p4, l4, u4, rfl, t4, a4, b4⟩ := q2 4 _ rfl
  cases t4
  obtain ⟨p5, l5, u5, rfl, t5, a5, b5⟩ := q2 5 _ rfl
  cases t5
  have R : Rng p0 p1 p2 p3 p4 p5 := ⟨a0, b0, a1, b1, a2, b2, a3, b3, a4, b4, a5, b5⟩
  have e0 := ends_ok (h := h) (l := ends) rfl
  have hb2 : h.size ≤ h2.size := G2.1
  have g3 : (h2.push (six p0 p1 p2 p3 p4 p5)).get h2.size = some (six p0 p1 p2 p3 p4 p5) := get_push_size
  have G3 : Gb b h (h2.push (six p0 p1 p2 p3 p4 p5)) := G2.push
  have w3 := w2.push (o := six p0 p1 p2 p3 p4 p5)
  generalize h2.size = r at e2 g3 hb2
  generalize h2.push (six p0 p1 p2 p3 p4 p5) = h3 at e2 g3 G3 w3
  have C := R.cl
  have c1 : small p1 = true := R.s1
  obtain ⟨d, h4, d0, d1, e4, w4, G4, _⟩ := w3.tk (P := P shw) (k := k) 40 (by omega) (by omega)
  have hr : r ≠ b := by omega
  have g4 := G4.2 _ _ hr g3
  generalize hc : clm p0 p1 p2 = c at C
  obtain ⟨u, h5, e5, w5, G5, m, e6, q⟩ := pick4 (shw := shw) (k := k) (L := [.int p4, .int (c + 2), .int (c + 1), .int (if c + 2 + d < 400 then c + 2 + d else 400)]) (Q := fun m => 1 ≤ m ∧ m ≤ 400) w4 rfl (by
    intro v hv
    simp only [List.mem_cons, List.not_mem_nil, or_false] at hv
    rcases hv with rfl | rfl | rfl | rfl
    · exact ⟨_, rfl, R.a4, R.b4⟩
    · exact ⟨_, rfl, by omega, by omega⟩
    · exact ⟨_, rfl, by omega, by omega⟩
    · exact ⟨_, rfl, by split <;> omega, by split <;> omega⟩)
  have nl : newList h4 [.int p4, .int (c + 2), .int (c + 1), .int (if c + 2 + d < 400 then c + 2 + d else 400)] = .ok (.ref h4.size) (h4.push (.lst [.int p4, .int (c + 2), .int (c + 1), .int (if c + 2 + d < 400 then c + 2 + d else 400)])) := n_list (by simp [LIM])
  have g5 := G5.2 _ _ hr g4
  have wr := w_ref (k := 4) (v := .int m) g5 (by simp)
  have r0 := s_ref g3 (at_nat (n := 0) rfl)
  have r1 := s_ref g3 (at_nat (n := 1) rfl)
  have r2 := s_ref g3 (at_nat (n := 2) rfl)
  have r4 := s_ref g3 (at_nat (n := 4) rfl)
  simp only [Int.ofNat_eq_natCast, Int.cast_ofNat_Int] at r0 r1 r2 r4 wr
  refine ⟨r, h5.put r (six p0 p1 p2 p3 m p5), p0, p1, p2, p3, m, p5, ?_, w5.put (Ne.symm hr), ((G3.trans G4).trans G5).put_new hb2, hb2, get_put g5, R.set4 q.1 q.2⟩
  rw [c_fn]
  refine f_rt [some (.ref b), none, none, none, none, none] rfl rfl (x_nx (σ1 := [some (.ref b), some (.ref h.size), none, none, none, none]) (h1 := h.push (.lst ends)) ?_ (x_nx (σ1 := [some (.ref b), some (.ref h.size), some (.ref r), none, none, none]) (h1 := h3) ?_
    (x_nx (σ1 := [some (.ref b), some (.ref h.size), some (.ref r), some (.int c), none, none]) (h1 := h3) ?_ (x_nx (σ1 := [some (.ref b), some (.ref h.size), some (.ref r), some (.int c), none, none]) (h1 := h5.put r (six p0 p1 p2 p3 m p5)) ?_ (x_rt ?_)))))
  · unfold ends at e0 ⊢
    simp only [exec, execs, tv, ev, evs, eo, ct, asg, asgs, itv, bind_ok', go_ok, noEx_ok', setM, callP, pick, negM, isNM, mc_bt, t_bl, b_add, b_sub, b_mod, b_fdiv, b_pow3, b_pow18, b_pow30, b_str, c_lt, c_gt, c_le, c_ge, c_eqi, c_nei, c_eqs, c_nes, c_eqb, c_neb, f_len, f_max, f_min, f_abs, List.getElem?_cons_zero, List.getElem?_cons_succ, List.set_cons_zero, List.set_cons_succ, List.length_cons, List.length_nil, if_true, if_false, decide_true, decide_false, Bool.not_true, Bool.not_false, Bool.false_eq_true, Bool.or_true, Bool.true_or, Bool.or_false, Bool.false_or, Bool.and_true, Bool.true_and, Bool.and_false, Bool.false_and, beq_self_eq_true, s25_0, t2, e0]
  · rw [s25_1]
    exact x_set e2
  · simp only [exec, execs, tv, ev, evs, eo, ct, asg, asgs, itv, bind_ok', go_ok, noEx_ok', setM, callP, pick, negM, isNM, mc_bt, t_bl, b_add, b_sub, b_mod, b_fdiv, b_pow3, b_pow18, b_pow30, b_str, c_lt, c_gt, c_le, c_ge, c_eqi, c_nei, c_eqs, c_nes, c_eqb, c_neb, f_len, f_max, f_min, f_abs, List.getElem?_cons_zero, List.getElem?_cons_succ, List.set_cons_zero, List.set_cons_succ, List.length_cons, List.length_nil, if_true, if_false, decide_true, decide_false, Bool.not_true, Bool.not_false, Bool.false_eq_true, Bool.or_true, Bool.true_or, Bool.or_false, Bool.false_or, Bool.and_true, Bool.true_and, Bool.and_false, Bool.false_and, beq_self_eq_true, s25_2, r0, r1, r2, b_mulr c1, ← hc, clm, mx]
  · simp only [exec, execs, tv, ev, evs, eo, ct, asg, asgs, itv, bind_ok', go_ok, noEx_ok', setM, callP, pick, negM, isNM, mc_bt, t_bl, b_add, b_sub, b_mod, b_fdiv, b_pow3, b_pow18, b_pow30, b_str, c_lt, c_gt, c_le, c_ge, c_eqi, c_nei, c_eqs, c_nes, c_eqb, c_neb, f_len, f_max, f_min, f_abs, List.getElem?_cons_zero, List.getElem?_cons_succ, List.set_cons_zero, List.set_cons_succ, List.length_cons, List.length_nil, if_true, if_false, decide_true, decide_false, Bool.not_true, Bool.not_false, Bool.false_eq_true, Bool.or_true, Bool.true_or, Bool.or_false, Bool.false_or, Bool.and_true, Bool.true_and, Bool.and_false, Bool.false_and, beq_self_eq_true, s25_3, r4, e4, nl, e5, e6, wr]
  · simp only [exec, execs, tv, ev, evs, eo, ct, asg, asgs, itv, bind_ok', go_ok, noEx_ok', setM, callP, pick, negM, isNM, mc_bt, t_bl, b_add, b_sub, b_mod, b_fdiv, b_pow3, b_pow18, b_pow30, b_str, c_lt, c_gt, c_le, c_ge, c_eqi, c_nei, c_eqs, c_nes, c_eqb, c_neb, f_len, f_max, f_min, f_abs, List.getElem?_cons_zero, List.getElem?_cons_succ, List.set_cons_zero, List.set_cons_succ, List.length_cons, List.length_nil, if_true, if_false, decide_true, decide_false, Bool.not_true, Bool.not_false, Bool.false_eq_true, Bool.or_true, Bool.true_or, Bool.or_false, Bool.false_or, Bool.and_true, Bool.true_and, Bool.and_false, Bool.false_and, beq_self_eq_true, s25_4]
theorem c41 {b : Nat} (w : Bag h b) : ∃ r h' p0 p1 p2 p3 p4 p5, callM (P shw) (k + 3) 41 [.ref b] h = .ok (.ref r) h' ∧ Bag h' b ∧ Gb b h h' ∧ h.size ≤ r ∧ h'.get r = some (six p0 p1 p2 p3 p4 p5) ∧ Right p0 p1 p2 p3 p4 p5 := by
  obtain ⟨r, h1, p0, p1, p2, p3, p4, p5, e1, w1, G1, hr, g1, R⟩ := c25 (shw := shw) (k := k) w
  have hb := w.lt
  have C := R.cl
  have c1 : small p1 = true := R.s1
  have r0 := s_ref g1 (at_nat (n := 0) rfl)
  have r1 := s_ref g1 (at_nat (n := 1) rfl)
  have r2 := s_ref g1 (at_nat (n := 2) rfl)
  have r4 := s_ref g1 (at_nat (n := 4) rfl)
  have wr := w_ref (k := 4) (v := .int (if clm p0 p1 p2 + 2 > p4 then clm p0 p1 p2 + 2 else p4)) g1 (by simp)
  simp only [Int.ofNat_eq_natCast, Int.cast_ofNat_Int] at r0 r1 r2 r4 wr
  refine ⟨r, h1.put r (six p0 p1 p2 p3 (if clm p0 p1 p2 + 2 > p4 then clm p0 p1 p2 + 2 else p4) p5), p0, p1, p2, p3, _, p5, ?_, w1.put (by omega), G1.put_new hr, hr, get_put g1, (R.set4 ?_ ?_).right ?_⟩
  · rw [c_fn]
    simp only [runFn, List.map_cons, List.map_nil, List.replicate, List.cons_append, List.nil_append, upds, exec, execs, tv, ev, evs, eo, ct, asg, asgs, itv, bind_ok', go_ok, noEx_ok', setM, callP, pick, negM, isNM, mc_bt, t_bl, b_add, b_sub, b_mod, b_fdiv, b_pow3, b_pow18, b_pow30, b_str, c_lt, c_gt, c_le, c_ge, c_eqi, c_nei, c_eqs, c_nes, c_eqb, c_neb, f_len, f_max, f_min, f_abs, List.getElem?_cons_zero, List.getElem?_cons_succ, List.set_cons_zero, List.set_cons_succ, List.length_cons, List.length_nil, if_true, if_false, decide_true, decide_false, Bool.not_true, Bool.not_false, Bool.false_eq_true, Bool.or_true, Bool.true_or, Bool.or_false, Bool.false_or, Bool.and_true, Bool.true_and, Bool.and_false, Bool.false_and, beq_self_eq_true, b41, s41_0, s41_1, s41_2, e1, r0, r1, r2, r4, b_mulr c1, clm_eq, wr]
  · have := R.a4; split <;> omega
  · have := R.b4; split <;> omega
  · split <;> omega
def inF : MV → MV
  | .tup [.int p, .tup [.int lo, .int hi]] => .bl (decide (lo ≤ p) && decide (p ≤ hi))
  | _ => .non
theorem c26 {r : Nat} {p0 p1 p2 p3 p4 p5 : Int} (g : h.get r = some (six p0 p1 p2 p3 p4 p5)) (hs : small p1 = true) : ∃ t h', callM (P shw) (k + 2) 26 [.ref r] h = .ok (.bl t) h' ∧ Grow h h' ∧ (t = true → Right p0 p1 p2 p3 p4 p5) := by
  have e0 := ends_ok (h := h) (l := ends) rfl
  have hr : r ≠ h.size := Nat.ne_of_lt (get_lt g)
  have g0 := get_push (o := .lst ends) g
  have ge : (h.push (.lst ends)).get h.size = some (.lst ends) := get_push_size
  have G0 : Grow h (h.push (.lst ends)) := Grow.one
  have e1 := lc_m (P := P shw) (C := callM (P shw) (k + 1)) (σ := [some (.ref r), some (.ref h.size), none, none, none]) (h := h.push (.lst ends)) inF (elt := .and_ (.call 23 (.cons (.var 2) .nil) .nil [] [.pos 0]) (.ch .le .le (.var 3) (.var 2) (.var 4))) (own := [2, 3, 4]) (tg := .tup (.cons (.nm 2) (.cons (.tup (.cons (.nm 3) (.cons (.nm 4) .nil))) .nil)))
    (it_zip (h1 := h.push (.lst ends)) (a := .var 0) (b := .var 1) (m := r) (n := h.size) (by simp only [exec, execs, tv, ev, evs, eo, ct, asg, asgs, itv, bind_ok', go_ok, noEx_ok', setM, callP, pick, negM, isNM, mc_bt, t_bl, b_add, b_sub, b_mod, b_fdiv, b_pow3, b_pow18, b_pow30, b_str, c_lt, c_gt, c_le, c_ge, c_eqi, c_nei, c_eqs, c_nes, c_eqb, c_neb, f_len, f_max, f_min, f_abs, List.getElem?_cons_zero, List.getElem?_cons_succ, List.set_cons_zero, List.set_cons_succ, List.length_cons, List.length_nil, if_true, if_false, decide_true, decide_false, Bool.not_true, Bool.not_false, Bool.false_eq_true, Bool.or_true, Bool.true_or, Bool.or_false, Bool.false_or, Bool.and_true, Bool.true_and, Bool.and_false, Bool.false_and, beq_self_eq_true]) (by simp only [exec, execs, tv, ev, evs, eo, ct, asg, asgs, itv, bind_ok', go_ok, noEx_ok', setM, callP, pick, negM, isNM, mc_bt, t_bl, b_add, b_sub, b_mod, b_fdiv, b_pow3, b_pow18, b_pow30, b_str, c_lt, c_gt, c_le, c_ge, c_eqi, c_nei, c_eqs, c_nes, c_eqb, c_neb, f_len, f_max, f_min, f_abs, List.getElem?_cons_zero, List.getElem?_cons_succ, List.set_cons_zero, List.set_cons_succ, List.length_cons, List.length_nil, if_true, if_false, decide_true, decide_false, Bool.not_true, Bool.not_false, Bool.false_eq_true, Bool.or_true, Bool.true_or, Bool.or_false, Bool.false_or, Bool.and_true, Bool.true_and, Bool.and_false, Bool.false_and, beq_self_eq_true]) g0 ge) (by rw [zip_len]; exact Nat.le_trans (Nat.min_le_right _ _) (by decide)) (len_zip g0 ge) (fun i => at_zip g0 ge) (by
      intro v hv
      have hx : ∃ p lo hi : Int, v = .tup [.int p, .tup [.int lo, .int hi]] := by
        simp only [ends, zipT, List.mem_cons, List.not_mem_nil, or_false] at hv
        rcases hv with rfl | rfl | rfl | rfl | rfl | rfl <;> exact ⟨_, _, _, rfl⟩
      obtain ⟨p, lo, hi, rfl⟩ := hx
      have e2 := c23 (shw := shw) (k := k) (h := h.push (.lst ends)) (i := p)
      simp only [lcB, wipe, exec, execs, tv, ev, evs, eo, ct, asg, asgs, itv, bind_ok', go_ok, noEx_ok', setM, callP, pick, negM, isNM, mc_bt, t_bl, b_add, b_sub, b_mod, b_fdiv, b_pow3, b_pow18, b_pow30, b_str, c_lt, c_gt, c_le, c_ge, c_eqi, c_nei, c_eqs, c_nes, c_eqb, c_neb, f_len, f_max, f_min, f_abs, List.getElem?_cons_zero, List.getElem?_cons_succ, List.set_cons_zero, List.set_cons_succ, List.length_cons, List.length_nil, if_true, if_false, decide_true, decide_false, Bool.not_true, Bool.not_false, Bool.false_eq_true, Bool.or_true, Bool.true_or, Bool.or_false, Bool.false_or, Bool.and_true, Bool.true_and, Bool.and_false, Bool.false_and, beq_self_eq_true, e2, ch_int, inF])
  have gl : ((h.push (.lst ends)).push (.lst ((zipT [.int p0, .int p1, .int p2, .int p3, .int p4, .int p5] ends).map inF))).get (h.push (.lst ends)).size = _ := get_push_size
  have G1 := G0.push (o := .lst ((zipT [.int p0, .int p1, .int p2, .int p3, .int p4, .int p5] ends).map inF))
  have g1 := get_push (o := .lst ((zipT [.int p0, .int p1, .int p2, .int p3, .int p4, .int p5] ends).map inF)) g0
  have e2 := f_all (P := P shw) (b := (decide (0 ≤ p0) && decide (p0 ≤ 9)) && ((decide (1 ≤ p1) && decide (p1 ≤ 5)) && ((decide (0 ≤ p2) && decide (p2 ≤ 99)) && ((decide (0 ≤ p3) && decide (p3 ≤ 9)) && ((decide (1 ≤ p4) && decide (p4 ≤ 400)) && ((decide (1 ≤ p5) && decide (p5 ≤ 400)) && true)))))) gl rfl
  generalize ((h.push (.lst ends)).push (.lst ((zipT [.int p0, .int p1, .int p2, .int p3, .int p4, .int p5] ends).map inF))) = h2 at e1 e2 G1 g1
  generalize hz : ((decide (0 ≤ p0) && decide (p0 ≤ 9)) && ((decide (1 ≤ p1) && decide (p1 ≤ 5)) && ((decide (0 ≤ p2) && decide (p2 ≤ 99)) && ((decide (0 ≤ p3) && decide (p3 ≤ 9)) && ((decide (1 ≤ p4) && decide (p4 ≤ 400)) && ((decide (1 ≤ p5) && decide (p5 ≤ 400)) && true)))))) = z at e2
  have r0 := s_ref g1 (at_nat (n := 0) rfl)
  have r1 := s_ref g1 (at_nat (n := 1) rfl)
  have r2 := s_ref g1 (at_nat (n := 2) rfl)
  have r4 := s_ref g1 (at_nat (n := 4) rfl)
  simp only [Int.ofNat_eq_natCast, Int.cast_ofNat_Int] at r0 r1 r2 r4
  have s0 : exec (P shw) (callM (P shw) (k + 1)) s26_0 [some (.ref r), none, none, none, none] h = .nx [some (.ref r), some (.ref h.size), none, none, none] (h.push (.lst ends)) := by
    unfold ends at e0 ⊢
    simp only [exec, execs, tv, ev, evs, eo, ct, asg, asgs, itv, bind_ok', go_ok, noEx_ok', setM, callP, pick, negM, isNM, mc_bt, t_bl, b_add, b_sub, b_mod, b_fdiv, b_pow3, b_pow18, b_pow30, b_str, c_lt, c_gt, c_le, c_ge, c_eqi, c_nei, c_eqs, c_nes, c_eqb, c_neb, f_len, f_max, f_min, f_abs, List.getElem?_cons_zero, List.getElem?_cons_succ, List.set_cons_zero, List.set_cons_succ, List.length_cons, List.length_nil, if_true, if_false, decide_true, decide_false, Bool.not_true, Bool.not_false, Bool.false_eq_true, Bool.or_true, Bool.true_or, Bool.or_false, Bool.false_or, Bool.and_true, Bool.true_and, Bool.and_false, Bool.false_and, beq_self_eq_true, s26_0, t2, e0]
  cases z with
  | false =>
    refine ⟨false, h2, ?_, G1, fun e => by cases e⟩
    rw [c_fn]
    refine f_rt [some (.ref r), none, none, none, none] rfl rfl (x_nx s0 (x_rt ?_))
    rw [s26_1, exec, tv, tv, ev_bif1 e1, e2]
    simp only [exec, execs, tv, ev, evs, eo, ct, asg, asgs, itv, bind_ok', go_ok, noEx_ok', setM, callP, pick, negM, isNM, mc_bt, t_bl, b_add, b_sub, b_mod, b_fdiv, b_pow3, b_pow18, b_pow30, b_str, c_lt, c_gt, c_le, c_ge, c_eqi, c_nei, c_eqs, c_nes, c_eqb, c_neb, f_len, f_max, f_min, f_abs, List.getElem?_cons_zero, List.getElem?_cons_succ, List.set_cons_zero, List.set_cons_succ, List.length_cons, List.length_nil, if_true, if_false, decide_true, decide_false, Bool.not_true, Bool.not_false, Bool.false_eq_true, Bool.or_true, Bool.true_or, Bool.or_false, Bool.false_or, Bool.and_true, Bool.true_and, Bool.and_false, Bool.false_and, beq_self_eq_true]
  | true =>
    refine ⟨decide (clm p0 p1 p2 + 2 ≤ p4), h2, ?_, G1, fun e => ?_⟩
    · rw [c_fn]
      refine f_rt [some (.ref r), none, none, none, none] rfl rfl (x_nx s0 (x_nx (σ1 := [some (.ref r), some (.ref h.size), none, none, none]) (h1 := h2) ?_ (x_rt ?_)))
      · rw [s26_1, exec, tv, tv, ev_bif1 e1, e2]
        simp only [exec, execs, tv, ev, evs, eo, ct, asg, asgs, itv, bind_ok', go_ok, noEx_ok', setM, callP, pick, negM, isNM, mc_bt, t_bl, b_add, b_sub, b_mod, b_fdiv, b_pow3, b_pow18, b_pow30, b_str, c_lt, c_gt, c_le, c_ge, c_eqi, c_nei, c_eqs, c_nes, c_eqb, c_neb, f_len, f_max, f_min, f_abs, List.getElem?_cons_zero, List.getElem?_cons_succ, List.set_cons_zero, List.set_cons_succ, List.length_cons, List.length_nil, if_true, if_false, decide_true, decide_false, Bool.not_true, Bool.not_false, Bool.false_eq_true, Bool.or_true, Bool.true_or, Bool.or_false, Bool.false_or, Bool.and_true, Bool.true_and, Bool.and_false, Bool.false_and, beq_self_eq_true]
      · simp only [exec, execs, tv, ev, evs, eo, ct, asg, asgs, itv, bind_ok', go_ok, noEx_ok', setM, callP, pick, negM, isNM, mc_bt, t_bl, b_add, b_sub, b_mod, b_fdiv, b_pow3, b_pow18, b_pow30, b_str, c_lt, c_gt, c_le, c_ge, c_eqi, c_nei, c_eqs, c_nes, c_eqb, c_neb, f_len, f_max, f_min, f_abs, List.getElem?_cons_zero, List.getElem?_cons_succ, List.set_cons_zero, List.set_cons_succ, List.length_cons, List.length_nil, if_true, if_false, decide_true, decide_false, Bool.not_true, Bool.not_false, Bool.false_eq_true, Bool.or_true, Bool.true_or, Bool.or_false, Bool.false_or, Bool.and_true, Bool.true_and, Bool.and_false, Bool.false_and, beq_self_eq_true, s26_2, r0, r1, r2, r4, b_mulr hs, clm_eq, le_d]
    · simp only [Bool.and_eq_true, decide_eq_true_eq, and_true] at hz e
      obtain ⟨⟨a0, b0⟩, ⟨a1, b1⟩, ⟨a2, b2⟩, ⟨a3, b3⟩, ⟨a4, b4⟩, ⟨a5, b5⟩⟩ := hz
      exact ⟨a0, b0, a1, b1, a2, b2, a3, b3, a4, b4, a5, b5, e⟩
structure Pre (M p0 p1 p2 p3 p4 p5 : Int) : Prop where
  a0 : 0 ≤ p0
  b0 : p0 ≤ M
  a1 : 1 ≤ p1
  b1 : p1 ≤ 5
  a2 : 0 ≤ p2
  b2 : p2 ≤ M
  a3 : 0 ≤ p3
  b3 : p3 ≤ M
  a4 : 1 ≤ p4
  b4 : p4 ≤ M
  a5 : 1 ≤ p5
  b5 : p5 ≤ M
theorem f_intb {b : Bool} : bifM (P shw) .int [.bl b] h = .ok (.int (if b then 1 else 0)) h := rfl
theorem turn_ok {b r : Nat} (w : Bag h b) (hr : r ≠ b) {p0 p1 p2 p3 p4 p5 M : Int} (g : h.get r = some (six p0 p1 p2 p3 p4 p5)) (p : Pre M p0 p1 p2 p3 p4 p5) {h0 : MH} (G : Gb b h0 h) (hn : h0.size ≤ r) {x1 x2 x4 x5 : Option MV} :
    ∃ h' q0 q2 q3 q4 q5 y5, execs (P shw) (callM (P shw) (k + 1)) k157_2 [some (.ref b), x1, x2, some (.ref r), x4, x5] h = .nx [some (.ref b), x1, x2, some (.ref r), x4, y5] h' ∧ Bag h' b ∧ Gb b h0 h' ∧ h'.get r = some (six q0 p1 q2 q3 q4 q5) ∧ Pre (M + 9) q0 p1 q2 q3 q4 q5 := by
  have n1 : newList h [.int 0, .int 2, .int 3, .int 4, .int 5] = .ok (.ref h.size) (h.push (.lst [.int 0, .int 2, .int 3, .int 4, .int 5])) := n_list (by simp [LIM])
  obtain ⟨d1, h1, d10, d11, e1, w1, G1, _⟩ := (w.push (o := .lst [.int 0, .int 2, .int 3, .int 4, .int 5])).tk (P := P shw) (k := k) 5 (by omega) (by omega)
  have gl : h1.get h.size = some (.lst [.int 0, .int 2, .int 3, .int 4, .int 5]) := G1.2 _ _ (Nat.ne_of_gt w.lt) get_push_size
  have G2 : Gb b h h1 := Gb.trans Gb.refl.push G1
  have g1 := G2.2 _ _ hr g
  obtain ⟨s, hs, qs⟩ := pick3 (l := [.int 0, .int 2, .int 3, .int 4, .int 5]) (d := d1) (n := 5) (Q := fun m => m = 0 ∨ m = 2 ∨ m = 3 ∨ m = 4 ∨ m = 5) rfl (by
    intro v hv
    simp only [List.mem_cons, List.not_mem_nil, or_false] at hv
    rcases hv with rfl | rfl | rfl | rfl | rfl <;> exact ⟨_, rfl, by omega⟩) d10 d11
  have e2 := s_ref gl hs
  obtain ⟨d3, h3, e3, w3, G3, m, e4, q⟩ := pick4 (shw := shw) (k := k) (L := [.int 1, .int (-1), .int 2, .int 9]) (Q := fun m => -1 ≤ m ∧ m ≤ 9) w1 rfl (by
    intro v hv
    simp only [List.mem_cons, List.not_mem_nil, or_false] at hv
    rcases hv with rfl | rfl | rfl | rfl <;> exact ⟨_, rfl, by omega, by omega⟩)
  have n2 : newList h1 [.int 1, .int (-1), .int 2, .int 9] = .ok (.ref h1.size) (h1.push (.lst [.int 1, .int (-1), .int 2, .int 9])) := n_list (by simp [LIM])
  have g3 := G3.2 _ _ hr g1
  have G4 : Gb b h0 h3 := (G.trans G2).trans G3
  have r0 := s_ref g1 (at_nat (n := 0) rfl)
  have r2 := s_ref g1 (at_nat (n := 2) rfl)
  have r3 := s_ref g1 (at_nat (n := 3) rfl)
  have r4 := s_ref g1 (at_nat (n := 4) rfl)
  have r5 := s_ref g1 (at_nat (n := 5) rfl)
  have u0 := fun v => w_ref (k := 0) (v := .int v) g3 (by simp)
  have u2 := fun v => w_ref (k := 2) (v := .int v) g3 (by simp)
  have u3 := fun v => w_ref (k := 3) (v := .int v) g3 (by simp)
  have u4 := fun v => w_ref (k := 4) (v := .int v) g3 (by simp)
  have u5 := fun v => w_ref (k := 5) (v := .int v) g3 (by simp)
  simp only [Int.ofNat_eq_natCast, Int.cast_ofNat_Int] at r0 r2 r3 r4 r5 u0 u2 u3 u4 u5
  obtain ⟨a0, b0, a1, b1, a2, b2, a3, b3, a4, b4, a5, b5⟩ := p
  rcases qs with rfl | rfl | rfl | rfl | rfl
  · refine ⟨h3.put r (six (if p0 + m > 0 then p0 + m else 0) p1 p2 p3 p4 p5), _, _, _, _, _, some (.int 0), by simp only [k157_2, s157_2_0, s157_2_1, exec, execs, tv, ev, evs, eo, ct, asg, asgs, itv, bind_ok', go_ok, noEx_ok', setM, callP, pick, negM, isNM, mc_bt, t_bl, b_add, b_sub, b_mod, b_fdiv, b_pow3, b_pow18, b_pow30, b_str, c_lt, c_gt, c_le, c_ge, c_eqi, c_nei, c_eqs, c_nes, c_eqb, c_neb, f_len, f_max, f_min, f_abs, List.getElem?_cons_zero, List.getElem?_cons_succ, List.set_cons_zero, List.set_cons_succ, List.length_cons, List.length_nil, if_true, if_false, decide_true, decide_false, Bool.not_true, Bool.not_false, Bool.false_eq_true, Bool.or_true, Bool.true_or, Bool.or_false, Bool.false_or, Bool.and_true, Bool.true_and, Bool.and_false, Bool.false_and, beq_self_eq_true, n1, e1, e2, f_intb, r0, n2, e3, e4, u0, show ¬ (3 : Int) < 0 by omega], w3.put hr.symm, G4.put_new hn, get_put g3, ?_⟩
    constructor <;> (try split) <;> omega
  · refine ⟨h3.put r (six p0 p1 (if p2 + m > 0 then p2 + m else 0) p3 p4 p5), _, _, _, _, _, some (.int 2), by simp only [k157_2, s157_2_0, s157_2_1, exec, execs, tv, ev, evs, eo, ct, asg, asgs, itv, bind_ok', go_ok, noEx_ok', setM, callP, pick, negM, isNM, mc_bt, t_bl, b_add, b_sub, b_mod, b_fdiv, b_pow3, b_pow18, b_pow30, b_str, c_lt, c_gt, c_le, c_ge, c_eqi, c_nei, c_eqs, c_nes, c_eqb, c_neb, f_len, f_max, f_min, f_abs, List.getElem?_cons_zero, List.getElem?_cons_succ, List.set_cons_zero, List.set_cons_succ, List.length_cons, List.length_nil, if_true, if_false, decide_true, decide_false, Bool.not_true, Bool.not_false, Bool.false_eq_true, Bool.or_true, Bool.true_or, Bool.or_false, Bool.false_or, Bool.and_true, Bool.true_and, Bool.and_false, Bool.false_and, beq_self_eq_true, n1, e1, e2, f_intb, r2, n2, e3, e4, u2, show ¬ (3 : Int) < 2 by omega], w3.put hr.symm, G4.put_new hn, get_put g3, ?_⟩
    constructor <;> (try split) <;> omega
  · refine ⟨h3.put r (six p0 p1 p2 (if p3 + m > 0 then p3 + m else 0) p4 p5), _, _, _, _, _, some (.int 3), by simp only [k157_2, s157_2_0, s157_2_1, exec, execs, tv, ev, evs, eo, ct, asg, asgs, itv, bind_ok', go_ok, noEx_ok', setM, callP, pick, negM, isNM, mc_bt, t_bl, b_add, b_sub, b_mod, b_fdiv, b_pow3, b_pow18, b_pow30, b_str, c_lt, c_gt, c_le, c_ge, c_eqi, c_nei, c_eqs, c_nes, c_eqb, c_neb, f_len, f_max, f_min, f_abs, List.getElem?_cons_zero, List.getElem?_cons_succ, List.set_cons_zero, List.set_cons_succ, List.length_cons, List.length_nil, if_true, if_false, decide_true, decide_false, Bool.not_true, Bool.not_false, Bool.false_eq_true, Bool.or_true, Bool.true_or, Bool.or_false, Bool.false_or, Bool.and_true, Bool.true_and, Bool.and_false, Bool.false_and, beq_self_eq_true, n1, e1, e2, f_intb, r3, n2, e3, e4, u3, show ¬ (3 : Int) < 3 by omega], w3.put hr.symm, G4.put_new hn, get_put g3, ?_⟩
    constructor <;> (try split) <;> omega
  · refine ⟨h3.put r (six p0 p1 p2 p3 (if p4 + m > 1 then p4 + m else 1) p5), _, _, _, _, _, some (.int 4), by simp only [k157_2, s157_2_0, s157_2_1, exec, execs, tv, ev, evs, eo, ct, asg, asgs, itv, bind_ok', go_ok, noEx_ok', setM, callP, pick, negM, isNM, mc_bt, t_bl, b_add, b_sub, b_mod, b_fdiv, b_pow3, b_pow18, b_pow30, b_str, c_lt, c_gt, c_le, c_ge, c_eqi, c_nei, c_eqs, c_nes, c_eqb, c_neb, f_len, f_max, f_min, f_abs, List.getElem?_cons_zero, List.getElem?_cons_succ, List.set_cons_zero, List.set_cons_succ, List.length_cons, List.length_nil, if_true, if_false, decide_true, decide_false, Bool.not_true, Bool.not_false, Bool.false_eq_true, Bool.or_true, Bool.true_or, Bool.or_false, Bool.false_or, Bool.and_true, Bool.true_and, Bool.and_false, Bool.false_and, beq_self_eq_true, n1, e1, e2, f_intb, r4, n2, e3, e4, u4, show (3 : Int) < 4 by omega], w3.put hr.symm, G4.put_new hn, get_put g3, ?_⟩
    constructor <;> (try split) <;> omega
  · refine ⟨h3.put r (six p0 p1 p2 p3 p4 (if p5 + m > 1 then p5 + m else 1)), _, _, _, _, _, some (.int 5), by simp only [k157_2, s157_2_0, s157_2_1, exec, execs, tv, ev, evs, eo, ct, asg, asgs, itv, bind_ok', go_ok, noEx_ok', setM, callP, pick, negM, isNM, mc_bt, t_bl, b_add, b_sub, b_mod, b_fdiv, b_pow3, b_pow18, b_pow30, b_str, c_lt, c_gt, c_le, c_ge, c_eqi, c_nei, c_eqs, c_nes, c_eqb, c_neb, f_len, f_max, f_min, f_abs, List.getElem?_cons_zero, List.getElem?_cons_succ, List.set_cons_zero, List.set_cons_succ, List.length_cons, List.length_nil, if_true, if_false, decide_true, decide_false, Bool.not_true, Bool.not_false, Bool.false_eq_true, Bool.or_true, Bool.true_or, Bool.or_false, Bool.false_or, Bool.and_true, Bool.true_and, Bool.and_false, Bool.false_and, beq_self_eq_true, n1, e1, e2, f_intb, r5, n2, e3, e4, u5, show (3 : Int) < 5 by omega], w3.put hr.symm, G4.put_new hn, get_put g3, ?_⟩
    constructor <;> (try split) <;> omega
theorem c154 {f o g : Int} (f0 : 0 ≤ f) (f1 : f ≤ 3) : callM (P shw) (k + 1) 154 [.int f, .int o, .int g] h = .ok (.tup [.int (f + 1), .int g, .int (2 * o + f * g), .int f, .int (f * g + 2 * o + f * g + 2), .int (2 * (2 * o + 2 * f * g))]) h := by
  have e : litM [.int (f + 1), .int g, .int (2 * o + f * g), .int f, .int (f * g + 2 * o + f * g + 2), .int (2 * (2 * o + 2 * f * g))] h = .ok (.tup [.int (f + 1), .int g, .int (2 * o + f * g), .int f, .int (f * g + 2 * o + f * g + 2), .int (2 * (2 * o + 2 * f * g))]) h := l_tup (by simp [LIM])
  have hf : small f = true := sm9 f0 (by omega)
  have s2f : binM .mul (.int (2 * f)) (.int g) h = .ok (.int (2 * f * g)) h := b_mull (sm9 (by omega) (by omega))
  simp only [c_fn, runFn, List.map_cons, List.map_nil, List.replicate, List.cons_append, List.nil_append, upds, exec, execs, tv, ev, evs, eo, ct, asg, asgs, itv, bind_ok', go_ok, noEx_ok', setM, callP, pick, negM, isNM, mc_bt, t_bl, b_add, b_sub, b_mod, b_fdiv, b_pow3, b_pow18, b_pow30, b_str, c_lt, c_gt, c_le, c_ge, c_eqi, c_nei, c_eqs, c_nes, c_eqb, c_neb, f_len, f_max, f_min, f_abs, List.getElem?_cons_zero, List.getElem?_cons_succ, List.set_cons_zero, List.set_cons_succ, List.length_cons, List.length_nil, if_true, if_false, decide_true, decide_false, Bool.not_true, Bool.not_false, Bool.false_eq_true, Bool.or_true, Bool.true_or, Bool.or_false, Bool.false_or, Bool.and_true, Bool.true_and, Bool.and_false, Bool.false_and, beq_self_eq_true, b154, s154_0, s154_1, b_mull s2, b_mull hf, s2f, e]
theorem c157 {b : Nat} (w : Bag h b) {f o : Int} (f0 : 0 ≤ f) (f1 : f ≤ 3) (o0 : 1 ≤ o) (o1 : o ≤ 5) : ∃ r h' p0 p1 p2 p3 p4 p5, callM (P shw) (k + 4) 157 [.ref b, .int f, .int o] h = .ok (.ref r) h' ∧ Bag h' b ∧ Gb b h h' ∧ h.size ≤ r ∧ h'.get r = some (six p0 p1 p2 p3 p4 p5) ∧ Right p0 p1 p2 p3 p4 p5 := by
  obtain ⟨d, h1, d0, d1, e1, w1, G1, z1⟩ := w.tk (P := P shw) (k := k + 2) 4 (by omega) (by omega)
  rw [c_fn]
  by_cases hd : d = 0
  · subst hd
    obtain ⟨r, h2, p0, p1, p2, p3, p4, p5, e2, w2, G2, hr, g2, R⟩ := c41 (shw := shw) (k := k) w1
    refine ⟨r, h2, p0, p1, p2, p3, p4, p5, ?_, w2, G1.trans G2, by omega, g2, R⟩
    refine f_rt [some (.ref b), some (.int f), some (.int o), none, none, none] rfl rfl (x_rt ?_)
    simp only [s157_0, exec, execs, tv, ev, evs, eo, ct, asg, asgs, itv, bind_ok', go_ok, noEx_ok', setM, callP, pick, negM, isNM, mc_bt, t_bl, b_add, b_sub, b_mod, b_fdiv, b_pow3, b_pow18, b_pow30, b_str, c_lt, c_gt, c_le, c_ge, c_eqi, c_nei, c_eqs, c_nes, c_eqb, c_neb, f_len, f_max, f_min, f_abs, List.getElem?_cons_zero, List.getElem?_cons_succ, List.set_cons_zero, List.set_cons_succ, List.length_cons, List.length_nil, if_true, if_false, decide_true, decide_false, Bool.not_true, Bool.not_false, Bool.false_eq_true, Bool.or_true, Bool.true_or, Bool.or_false, Bool.false_or, Bool.and_true, Bool.true_and, Bool.and_false, Bool.false_and, beq_self_eq_true, e1, e2]
  · have hd' : (d == 0) = false := beq_false_of_ne hd
    obtain ⟨u, h2, u0, u1, e2, w2, G2, z2⟩ := w1.tk (P := P shw) (k := k + 2) 5 (by omega) (by omega)
    have e3 := c154 (shw := shw) (k := k + 2) (h := h2) (o := o) (g := 1 + u) f0 f1
    have n3 : bifM (P shw) .list [.tup [.int (f + 1), .int (1 + u), .int (2 * o + f * (1 + u)), .int f, .int (f * (1 + u) + 2 * o + f * (1 + u) + 2), .int (2 * (2 * o + 2 * f * (1 + u)))]] h2 = .ok (.ref h2.size) (h2.push (six (f + 1) (1 + u) (2 * o + f * (1 + u)) f (f * (1 + u) + 2 * o + f * (1 + u) + 2) (2 * (2 * o + 2 * f * (1 + u))))) := n_list (by simp [LIM])
    have g3 : (h2.push (six (f + 1) (1 + u) (2 * o + f * (1 + u)) f (f * (1 + u) + 2 * o + f * (1 + u) + 2) (2 * (2 * o + 2 * f * (1 + u))))).get h2.size = _ := get_push_size
    have w3 := w2.push (o := six (f + 1) (1 + u) (2 * o + f * (1 + u)) f (f * (1 + u) + 2 * o + f * (1 + u) + 2) (2 * (2 * o + 2 * f * (1 + u))))
    have G3 : Gb b h (h2.push (six (f + 1) (1 + u) (2 * o + f * (1 + u)) f (f * (1 + u) + 2 * o + f * (1 + u) + 2) (2 * (2 * o + 2 * f * (1 + u))))) := (G1.trans G2).push
    have hn : h.size ≤ h2.size := by omega
    have hr : h2.size ≠ b := by have := w.lt; omega
    have p0 : Pre 80 (f + 1) (1 + u) (2 * o + f * (1 + u)) f (f * (1 + u) + 2 * o + f * (1 + u) + 2) (2 * (2 * o + 2 * f * (1 + u))) := by
      have b0 : 0 ≤ f * (1 + u) := Int.mul_nonneg f0 (by omega)
      have b1 : f * (1 + u) ≤ 3 * 5 := Int.mul_le_mul f1 (by omega) (by omega) (by omega)
      rw [Int.mul_assoc]
      constructor <;> omega
    generalize (f + 1) = q0 at g3 p0 n3 e3 w3 G3
    generalize (2 * o + f * (1 + u)) = q2 at g3 p0 n3 e3 w3 G3
    generalize (f * (1 + u) + 2 * o + f * (1 + u) + 2) = q4 at g3 p0 n3 e3 w3 G3
    generalize 2 * (2 * o + 2 * f * (1 + u)) = q5 at g3 p0 n3 e3 w3 G3
    have s0 : exec (P shw) (callM (P shw) (k + 3)) s157_0 [some (.ref b), some (.int f), some (.int o), none, none, none] h = .nx [some (.ref b), some (.int f), some (.int o), none, none, none] h1 := by
      simp only [s157_0, exec, execs, tv, ev, evs, eo, ct, asg, asgs, itv, bind_ok', go_ok, noEx_ok', setM, callP, pick, negM, isNM, mc_bt, t_bl, b_add, b_sub, b_mod, b_fdiv, b_pow3, b_pow18, b_pow30, b_str, c_lt, c_gt, c_le, c_ge, c_eqi, c_nei, c_eqs, c_nes, c_eqb, c_neb, f_len, f_max, f_min, f_abs, List.getElem?_cons_zero, List.getElem?_cons_succ, List.set_cons_zero, List.set_cons_succ, List.length_cons, List.length_nil, if_true, if_false, decide_true, decide_false, Bool.not_true, Bool.not_false, Bool.false_eq_true, Bool.or_true, Bool.true_or, Bool.or_false, Bool.false_or, Bool.and_true, Bool.true_and, Bool.and_false, Bool.false_and, beq_self_eq_true, e1, hd']
    have s1 : exec (P shw) (callM (P shw) (k + 3)) s157_1 [some (.ref b), some (.int f), some (.int o), none, none, none] h1 = .nx [some (.ref b), some (.int f), some (.int o), some (.ref h2.size), none, none] (h2.push (six q0 (1 + u) q2 f q4 q5)) := by
      simp only [s157_1, exec, execs, tv, ev, evs, eo, ct, asg, asgs, itv, bind_ok', go_ok, noEx_ok', setM, callP, pick, negM, isNM, mc_bt, t_bl, b_add, b_sub, b_mod, b_fdiv, b_pow3, b_pow18, b_pow30, b_str, c_lt, c_gt, c_le, c_ge, c_eqi, c_nei, c_eqs, c_nes, c_eqb, c_neb, f_len, f_max, f_min, f_abs, List.getElem?_cons_zero, List.getElem?_cons_succ, List.set_cons_zero, List.set_cons_succ, List.length_cons, List.length_nil, if_true, if_false, decide_true, decide_false, Bool.not_true, Bool.not_false, Bool.false_eq_true, Bool.or_true, Bool.true_or, Bool.or_false, Bool.false_or, Bool.and_true, Bool.true_and, Bool.and_false, Bool.false_and, beq_self_eq_true, e2, e3, n3]
    generalize (h2.push (six q0 (1 + u) q2 f q4 q5)) = h3 at g3 w3 G3 s1
    generalize h2.size = r at g3 s1 hn hr
    obtain ⟨v, h4, v0, v1, e4, w4, G4, z4⟩ := w3.tk (P := P shw) (k := k + 2) 4 (by omega) (by omega)
    have g4 := G4.2 _ _ hr g3
    have G5 := G3.trans G4
    obtain ⟨σ5, h5, e5, y4, y5, a0, a2, a3, a4, a5, rfl, w5, G5, g5, p5⟩ := for_items (P := P shw) (C := callM (P shw) (k + 3)) (j := 4) (b := k157_2) (fun n σ h' => ∃ x4 x5 p0 p2 p3 p4 p5, σ = [some (.ref b), some (.int f), some (.int o), some (.ref r), x4, x5] ∧ Bag h' b ∧ Gb b h h' ∧ h'.get r = some (six p0 (1 + u) p2 p3 p4 p5) ∧ Pre (80 + 9 * n) p0 (1 + u) p2 p3 p4 p5)
      (it_rng (b := .call 3 (.cons (.var 0) (.cons (.int 4) .nil)) .nil [] [.pos 0, .pos 1]) (n := v) (h1 := h4) (σ := [some (.ref b), some (.int f), some (.int o), some (.ref r), none, none]) (h := h3) (by simp only [exec, execs, tv, ev, evs, eo, ct, asg, asgs, itv, bind_ok', go_ok, noEx_ok', setM, callP, pick, negM, isNM, mc_bt, t_bl, b_add, b_sub, b_mod, b_fdiv, b_pow3, b_pow18, b_pow30, b_str, c_lt, c_gt, c_le, c_ge, c_eqi, c_nei, c_eqs, c_nes, c_eqb, c_neb, f_len, f_max, f_min, f_abs, List.getElem?_cons_zero, List.getElem?_cons_succ, List.set_cons_zero, List.set_cons_succ, List.length_cons, List.length_nil, if_true, if_false, decide_true, decide_false, Bool.not_true, Bool.not_false, Bool.false_eq_true, Bool.or_true, Bool.true_or, Bool.or_false, Bool.false_or, Bool.and_true, Bool.true_and, Bool.and_false, Bool.false_and, beq_self_eq_true, e4]) (by omega) (by omega))
      ⟨_, _, _, _, _, _, _, rfl, w4, G5, g4, p0⟩ (by
        rintro n x σ h' ev ⟨x4, x5, p0, p2, p3, p4, p5, rfl, w', G', g', p'⟩
        obtain ⟨h'', a0, a2, a3, a4, a5, y5, e', w'', G'', g'', p''⟩ := turn_ok (shw := shw) (k := k + 2) w' hr g' p' G' hn (x1 := some (.int f)) (x2 := some (.int o)) (x4 := some x) (x5 := x5)
        exact ⟨_, h'', e', _, _, _, _, _, _, _, rfl, w'', G'', g'', by
          have e9 : (80 : Int) + 9 * (↑(n + 1) : Int) = 80 + 9 * n + 9 := by omega
          rw [e9]
          exact p''⟩)
    rw [rng_len] at p5
    have p6 : Pre 107 a0 (1 + u) a2 a3 a4 a5 := by
      obtain ⟨c0, d0, c1, d1, c2, d2, c3, d3, c4, d4, c5, d5⟩ := p5
      constructor <;> omega
    have s2 : exec (P shw) (callM (P shw) (k + 3)) s157_2 [some (.ref b), some (.int f), some (.int o), some (.ref r), none, none] h3 = _ := e5
    obtain ⟨c0, d0, c1, d1, c2, d2, c3, d3, c4, d4, c5, d5⟩ := p6
    have R : Rng (if a0 < 9 then a0 else 9) (1 + u) (if a2 < 99 then a2 else 99) (if a3 < 9 then a3 else 9) a4 a5 := by
      constructor <;> (try split) <;> omega
    have r0 := s_ref g5 (at_nat (n := 0) rfl)
    have r2 := s_ref g5 (at_nat (n := 2) rfl)
    have r3 := s_ref g5 (at_nat (n := 3) rfl)
    have t3 : litM [.int (if a0 < 9 then a0 else 9), .int (if a2 < 99 then a2 else 99), .int (if a3 < 9 then a3 else 9)] h5 = .ok (.tup [.int (if a0 < 9 then a0 else 9), .int (if a2 < 99 then a2 else 99), .int (if a3 < 9 then a3 else 9)]) h5 := l_tup (by simp [LIM])
    have u0 := w_ref (k := 0) (v := .int (if a0 < 9 then a0 else 9)) g5 (by simp)
    have u2 := w_ref (k := 2) (v := .int (if a2 < 99 then a2 else 99)) (get_put (o := six (if a0 < 9 then a0 else 9) (1 + u) a2 a3 a4 a5) g5) (by simp)
    have u3 := w_ref (k := 3) (v := .int (if a3 < 9 then a3 else 9)) (get_put (o := six (if a0 < 9 then a0 else 9) (1 + u) (if a2 < 99 then a2 else 99) a3 a4 a5) g5) (by simp)
    simp only [put_put, Int.ofNat_eq_natCast, Int.cast_ofNat_Int] at r0 r2 r3 u0 u2 u3
    have s3 : exec (P shw) (callM (P shw) (k + 3)) s157_3 [some (.ref b), some (.int f), some (.int o), some (.ref r), y4, y5] h5 = .nx [some (.ref b), some (.int f), some (.int o), some (.ref r), y4, y5] (h5.put r (six (if a0 < 9 then a0 else 9) (1 + u) (if a2 < 99 then a2 else 99) (if a3 < 9 then a3 else 9) a4 a5)) := by
      simp only [s157_3, exec, execs, tv, ev, evs, eo, ct, asg, asgs, itv, bind_ok', go_ok, noEx_ok', setM, callP, pick, negM, isNM, mc_bt, t_bl, b_add, b_sub, b_mod, b_fdiv, b_pow3, b_pow18, b_pow30, b_str, c_lt, c_gt, c_le, c_ge, c_eqi, c_nei, c_eqs, c_nes, c_eqb, c_neb, f_len, f_max, f_min, f_abs, List.getElem?_cons_zero, List.getElem?_cons_succ, List.set_cons_zero, List.set_cons_succ, List.length_cons, List.length_nil, if_true, if_false, decide_true, decide_false, Bool.not_true, Bool.not_false, Bool.false_eq_true, Bool.or_true, Bool.true_or, Bool.or_false, Bool.false_or, Bool.and_true, Bool.true_and, Bool.and_false, Bool.false_and, beq_self_eq_true, r0, r2, r3, t3, u0, u2, u3]
    clear t3 u0 u2 u3
    have g6 := get_put (o := six (if a0 < 9 then a0 else 9) (1 + u) (if a2 < 99 then a2 else 99) (if a3 < 9 then a3 else 9) a4 a5) g5
    have w6 := w5.put (o := six (if a0 < 9 then a0 else 9) (1 + u) (if a2 < 99 then a2 else 99) (if a3 < 9 then a3 else 9) a4 a5) hr.symm
    have G6 := G5.put_new (o := six (if a0 < 9 then a0 else 9) (1 + u) (if a2 < 99 then a2 else 99) (if a3 < 9 then a3 else 9) a4 a5) hn
    generalize h5.put r (six (if a0 < 9 then a0 else 9) (1 + u) (if a2 < 99 then a2 else 99) (if a3 < 9 then a3 else 9) a4 a5) = h6 at s3 g6 w6 G6
    generalize (if a0 < 9 then a0 else 9) = m0 at R g6
    generalize (if a2 < 99 then a2 else 99) = m2 at R g6
    generalize (if a3 < 9 then a3 else 9) = m3 at R g6
    have e6 := c40 (shw := shw) (k := k + 2) g6 R.s1
    have r4 := s_ref g6 (at_nat (n := 4) rfl)
    have u4 := w_ref (k := 4) (v := .int (if clm m0 (1 + u) m2 + 2 > a4 then clm m0 (1 + u) m2 + 2 else a4)) g6 (by simp)
    simp only [Int.ofNat_eq_natCast, Int.cast_ofNat_Int] at r4 u4
    have C := R.cl
    refine ⟨r, h6.put r (six m0 (1 + u) m2 m3 (if clm m0 (1 + u) m2 + 2 > a4 then clm m0 (1 + u) m2 + 2 else a4) a5), m0, (1 + u), m2, m3, _, a5, ?_, w6.put hr.symm, G6.put_new hn, hn, get_put g6, (R.set4 ?_ ?_).right ?_⟩
    · refine f_rt [some (.ref b), some (.int f), some (.int o), none, none, none] rfl rfl (x_nx s0 (x_nx s1 (x_nx s2 (x_nx s3 (x_nx (σ1 := [some (.ref b), some (.int f), some (.int o), some (.ref r), y4, y5]) (h1 := h6.put r (six m0 (1 + u) m2 m3 (if clm m0 (1 + u) m2 + 2 > a4 then clm m0 (1 + u) m2 + 2 else a4) a5)) ?_ (x_rt ?_))))))
      · simp only [s157_4, exec, execs, tv, ev, evs, eo, ct, asg, asgs, itv, bind_ok', go_ok, noEx_ok', setM, callP, pick, negM, isNM, mc_bt, t_bl, b_add, b_sub, b_mod, b_fdiv, b_pow3, b_pow18, b_pow30, b_str, c_lt, c_gt, c_le, c_ge, c_eqi, c_nei, c_eqs, c_nes, c_eqb, c_neb, f_len, f_max, f_min, f_abs, List.getElem?_cons_zero, List.getElem?_cons_succ, List.set_cons_zero, List.set_cons_succ, List.length_cons, List.length_nil, if_true, if_false, decide_true, decide_false, Bool.not_true, Bool.not_false, Bool.false_eq_true, Bool.or_true, Bool.true_or, Bool.or_false, Bool.false_or, Bool.and_true, Bool.true_and, Bool.and_false, Bool.false_and, beq_self_eq_true, e6, r4, u4]
      · simp only [s157_5, exec, execs, tv, ev, evs, eo, ct, asg, asgs, itv, bind_ok', go_ok, noEx_ok', setM, callP, pick, negM, isNM, mc_bt, t_bl, b_add, b_sub, b_mod, b_fdiv, b_pow3, b_pow18, b_pow30, b_str, c_lt, c_gt, c_le, c_ge, c_eqi, c_nei, c_eqs, c_nes, c_eqb, c_neb, f_len, f_max, f_min, f_abs, List.getElem?_cons_zero, List.getElem?_cons_succ, List.set_cons_zero, List.set_cons_succ, List.length_cons, List.length_nil, if_true, if_false, decide_true, decide_false, Bool.not_true, Bool.not_false, Bool.false_eq_true, Bool.or_true, Bool.true_or, Bool.or_false, Bool.false_or, Bool.and_true, Bool.true_and, Bool.and_false, Bool.false_and, beq_self_eq_true]
    · split <;> omega
    · split <;> omega
    · split <;> omega
theorem sl_ref {n : Nat} {l : List MV} {a b : Option Int} (g : h.get n = some (.lst l)) : slM (.ref n) a b h = .ok (.ref h.size) (h.push (.lst (cut l a b))) := by
  unfold slM listOf
  simp only [g]
  rfl
theorem more_list {r j : Nat} {L : List MV} {v : Int} {C} {x0 x2 x4 x5 : Option MV} (g : h.get r = some (.lst L)) (hj : L[j]? = some (.int v)) (hl : L.length ≤ 100) :
    ∃ h' q, exec (P shw) C s158_1_0 [x0, some (.ref r), x2, some (.int j), x4, x5] h = .nx [x0, some (.ref r), x2, some (.int j), some (.ref q), x5] h' ∧ h'.get q = some (.lst (L.take j ++ [.int (v + 1)] ++ L.drop (j + 1))) ∧ Grow h h' := by
  have hj2 : j < L.length := (List.getElem?_eq_some_iff.mp hj).1
  have e1 := sl_ref (a := none) (b := some (j : Int)) g
  rw [cut_to] at e1
  have g1 := get_push (o := .lst (L.take j)) g
  have a1 : (h.push (.lst (L.take j))).get h.size = _ := get_push_size
  have G1 : Grow h (h.push (.lst (L.take j))) := Grow.one
  generalize h.push (.lst (L.take j)) = h1 at e1 g1 a1 G1
  have e2 := s_ref g1 (at_nat hj)
  have e3 : newList h1 [.int (v + 1)] = .ok (.ref h1.size) (h1.push (.lst [.int (v + 1)])) := n_list (by simp [LIM])
  have g2 := get_push (o := .lst [.int (v + 1)]) g1
  have a2 := get_push (o := .lst [.int (v + 1)]) a1
  have b2 : (h1.push (.lst [.int (v + 1)])).get h1.size = _ := get_push_size
  have G2 := G1.push (o := .lst [.int (v + 1)])
  generalize h1.push (.lst [.int (v + 1)]) = h2 at e3 g2 a2 b2 G2
  have e4 := b_lst a2 b2 (by simp only [List.length_take, List.length_cons, List.length_nil, LIM]; omega)
  have g3 := get_push (o := .lst (L.take j ++ [.int (v + 1)])) g2
  have a3 : (h2.push (.lst (L.take j ++ [.int (v + 1)]))).get h2.size = _ := get_push_size
  have G3 := G2.push (o := .lst (L.take j ++ [.int (v + 1)]))
  generalize h2.push (.lst (L.take j ++ [.int (v + 1)])) = h3 at e4 g3 a3 G3
  have e5 := sl_ref (a := some ((j : Int) + 1)) (b := none) g3
  rw [show (j : Int) + 1 = ((j + 1 : Nat) : Int) from by omega, cut_from, show ((j + 1 : Nat) : Int) = (j : Int) + 1 from by omega] at e5
  have a4 := get_push (o := .lst (L.drop (j + 1))) a3
  have b4 : (h3.push (.lst (L.drop (j + 1)))).get h3.size = _ := get_push_size
  have G4 := G3.push (o := .lst (L.drop (j + 1)))
  generalize h3.push (.lst (L.drop (j + 1))) = h4 at e5 a4 b4 G4
  have e6 := b_lst a4 b4 (by simp only [List.length_append, List.length_drop, List.length_take, List.length_cons, List.length_nil, LIM]; omega)
  refine ⟨h4.push (.lst (L.take j ++ [.int (v + 1)] ++ L.drop (j + 1))), h4.size, ?_, get_push_size, G4.push⟩
  rw [s158_1_0]
  exact x_set (ev_bin (ev_bin (ev_slto (ev_var rfl) (ev_var rfl) ⟨by omega, by omega⟩ e1) (by simp only [exec, execs, tv, ev, evs, eo, ct, asg, asgs, itv, bind_ok', go_ok, noEx_ok', setM, callP, pick, negM, isNM, mc_bt, t_bl, b_add, b_sub, b_mod, b_fdiv, b_pow3, b_pow18, b_pow30, b_str, c_lt, c_gt, c_le, c_ge, c_eqi, c_nei, c_eqs, c_nes, c_eqb, c_neb, f_len, f_max, f_min, f_abs, List.getElem?_cons_zero, List.getElem?_cons_succ, List.set_cons_zero, List.set_cons_succ, List.length_cons, List.length_nil, if_true, if_false, decide_true, decide_false, Bool.not_true, Bool.not_false, Bool.false_eq_true, Bool.or_true, Bool.true_or, Bool.or_false, Bool.false_or, Bool.and_true, Bool.true_and, Bool.and_false, Bool.false_and, beq_self_eq_true, e2, e3] : _ = R.ok (.ref h1.size) h2) e4) (ev_slfr (ev_var rfl) (ev_bin (ev_var rfl) ev_int b_add) ⟨by omega, by omega⟩ e5) e6)
theorem mx_le {a b : Int} (e : a ≤ b) : mx a ≤ mx b := by
  unfold mx
  split <;> split <;> omega
theorem mx_0 {a : Int} : 0 ≤ mx a := by
  unfold mx
  split <;> omega
theorem clm_le {p0 p1 p2 q0 q2 : Int} (h1 : 0 ≤ p1) (h0 : p0 ≤ q0) (h2 : p2 ≤ q2) : clm p0 p1 p2 ≤ clm q0 p1 q2 := by
  have := Int.mul_le_mul_of_nonneg_right (mx_le (show p0 - 1 ≤ q0 - 1 by omega)) h1
  unfold clm
  omega
theorem mend_le {f o p0 p1 p2 p4 q0 q2 q4 : Int} (f0 : 0 ≤ f) (h1 : 0 ≤ p1) (h0 : p0 ≤ q0) (h2 : p2 ≤ q2) (h4 : p4 ≤ q4) : mend f o p0 p1 p2 p4 ≤ mend f o q0 p1 q2 q4 := by
  have e1 := clm_le h1 h0 h2
  have e2 : (f + 1) * p4 ≤ (f + 1) * q4 := Int.mul_le_mul_of_nonneg_left h4 (by omega)
  unfold mend
  omega
theorem eno_le {f o p0 p1 p2 p3 p5 q0 q2 q5 : Int} (h0 : p0 ≤ q0) (h2 : p2 ≤ q2) (h5 : p5 ≤ q5) (e : eno f o p0 p1 p2 p3 p5 = true) : eno f o q0 p1 q2 p3 q5 = true := by
  unfold eno fit at *
  simp only [Bool.and_eq_true, decide_eq_true_eq] at *
  omega
theorem more_tail {n r m q : Nat} {f o p0 p1 p2 p3 p4 p5 q0 q2 q4 q5 : Int} {x1 x3 x5 : Option MV} (f0 : 0 ≤ f) (gb : h.get n = some (bnd f o)) (gm : h.get m = some (rul p0 p1 p2 p3 p4 p5)) (R : Right p0 p1 p2 p3 p4 p5)
    (gq : h.get q = some (six q0 p1 q2 p3 q4 q5)) (h0 : p0 ≤ q0) (h2 : p2 ≤ q2) (h4 : p4 ≤ q4) (h5 : p5 ≤ q5) :
    ∃ h' y5, exec (P shw) (callM (P shw) (k + 5)) s158_1_1 [some (.ref n), x1, some (.ref m), x3, some (.ref q), x5] h = .nx [some (.ref n), x1, some (.ref m), x3, some (.ref q), y5] h' ∧ Grow h h' := by
  obtain ⟨t, h1, e1, G1, ht⟩ := c26 (shw := shw) (k := k + 3) gq R.s1
  cases t with
  | false => exact ⟨h1, x5, by simp only [s158_1_1, exec, execs, tv, ev, evs, eo, ct, asg, asgs, itv, bind_ok', go_ok, noEx_ok', setM, callP, pick, negM, isNM, mc_bt, t_bl, b_add, b_sub, b_mod, b_fdiv, b_pow3, b_pow18, b_pow30, b_str, c_lt, c_gt, c_le, c_ge, c_eqi, c_nei, c_eqs, c_nes, c_eqb, c_neb, f_len, f_max, f_min, f_abs, List.getElem?_cons_zero, List.getElem?_cons_succ, List.set_cons_zero, List.set_cons_succ, List.length_cons, List.length_nil, if_true, if_false, decide_true, decide_false, Bool.not_true, Bool.not_false, Bool.false_eq_true, Bool.or_true, Bool.true_or, Bool.or_false, Bool.false_or, Bool.and_true, Bool.true_and, Bool.and_false, Bool.false_and, beq_self_eq_true, e1], G1⟩
  | true =>
    have Rq := ht rfl
    obtain ⟨h2', e2, g2, G2⟩ := c27 (shw := shw) (k := k + 1) (G1.2 _ _ gq) Rq
    have G3 := G1.trans G2
    have gb2 := G3.2 _ _ gb
    have gm2 := G3.2 _ _ gm
    have e3 := c50 (P := P shw) (k := k) gm2 gb2 R.s1
    have e4 := c50 (P := P shw) (k := k) g2 gb2 Rq.s1
    have e5 := c39 (P := P shw) (k := k + 2) gm2 gb2 R.s1 R.s4
    have e6 := c39 (P := P shw) (k := k + 2) g2 gb2 Rq.s1 Rq.s4
    have e7 := c37 (P := P shw) (k := k + 3) gm2 R.s1
    have e8 := c37 (P := P shw) (k := k + 3) g2 Rq.s1
    have hp1 := R.a1
    have l1 : ¬ mend f o q0 p1 q2 q4 < mend f o p0 p1 p2 p4 := by
      have := mend_le (o := o) f0 (show 0 ≤ p1 by omega) h0 h2 h4
      omega
    have l2 : ¬ clm q0 p1 q2 < clm p0 p1 p2 := by
      have := clm_le (show 0 ≤ p1 by omega) h0 h2
      omega
    refine ⟨h2', some (.ref h1.size), ?_, G3⟩
    cases he : eno f o p0 p1 p2 p3 p5 with
    | false =>
      rw [he] at e3
      simp only [s158_1_1, k158_1_1a, s158_1_1a_0, s158_1_1a_1, s158_1_1a_2, exec, execs, tv, ev, evs, eo, ct, asg, asgs, itv, bind_ok', go_ok, noEx_ok', setM, callP, pick, negM, isNM, mc_bt, t_bl, b_add, b_sub, b_mod, b_fdiv, b_pow3, b_pow18, b_pow30, b_str, c_lt, c_gt, c_le, c_ge, c_eqi, c_nei, c_eqs, c_nes, c_eqb, c_neb, f_len, f_max, f_min, f_abs, List.getElem?_cons_zero, List.getElem?_cons_succ, List.set_cons_zero, List.set_cons_succ, List.length_cons, List.length_nil, if_true, if_false, decide_true, decide_false, Bool.not_true, Bool.not_false, Bool.false_eq_true, Bool.or_true, Bool.true_or, Bool.or_false, Bool.false_or, Bool.and_true, Bool.true_and, Bool.and_false, Bool.false_and, beq_self_eq_true, e1, e2, e3, e4, e5, e6, e7, e8, l1, l2]
    | true =>
      rw [he] at e3
      rw [eno_le h0 h2 h5 he] at e4
      simp only [s158_1_1, k158_1_1a, s158_1_1a_0, s158_1_1a_1, s158_1_1a_2, exec, execs, tv, ev, evs, eo, ct, asg, asgs, itv, bind_ok', go_ok, noEx_ok', setM, callP, pick, negM, isNM, mc_bt, t_bl, b_add, b_sub, b_mod, b_fdiv, b_pow3, b_pow18, b_pow30, b_str, c_lt, c_gt, c_le, c_ge, c_eqi, c_nei, c_eqs, c_nes, c_eqb, c_neb, f_len, f_max, f_min, f_abs, List.getElem?_cons_zero, List.getElem?_cons_succ, List.set_cons_zero, List.set_cons_succ, List.length_cons, List.length_nil, if_true, if_false, decide_true, decide_false, Bool.not_true, Bool.not_false, Bool.false_eq_true, Bool.or_true, Bool.true_or, Bool.or_false, Bool.false_or, Bool.and_true, Bool.true_and, Bool.and_false, Bool.false_and, beq_self_eq_true, e1, e2, e3, e4, e5, e6, e7, e8, l1, l2]
theorem more_turn {n r m : Nat} {f o p0 p1 p2 p3 p4 p5 : Int} {x4 x5 : Option MV} {j : Nat} (hj : j = 0 ∨ j = 2 ∨ j = 4 ∨ j = 5) (f0 : 0 ≤ f) (gb : h.get n = some (bnd f o)) (gr : h.get r = some (six p0 p1 p2 p3 p4 p5)) (gm : h.get m = some (rul p0 p1 p2 p3 p4 p5)) (R : Right p0 p1 p2 p3 p4 p5) :
    ∃ h' y4 y5, execs (P shw) (callM (P shw) (k + 5)) k158_1 [some (.ref n), some (.ref r), some (.ref m), some (.int j), x4, x5] h = .nx [some (.ref n), some (.ref r), some (.ref m), some (.int j), y4, y5] h' ∧ Grow h h' := by
  have tl : ∀ {h1 : MH} {q : Nat} {q0 q2 q4 q5 : Int}, h1.get q = some (six q0 p1 q2 p3 q4 q5) → Grow h h1 → p0 ≤ q0 → p2 ≤ q2 → p4 ≤ q4 → p5 ≤ q5 → exec (P shw) (callM (P shw) (k + 5)) s158_1_0 [some (.ref n), some (.ref r), some (.ref m), some (.int j), x4, x5] h = .nx [some (.ref n), some (.ref r), some (.ref m), some (.int j), some (.ref q), x5] h1 →
      ∃ h' y4 y5, execs (P shw) (callM (P shw) (k + 5)) k158_1 [some (.ref n), some (.ref r), some (.ref m), some (.int j), x4, x5] h = .nx [some (.ref n), some (.ref r), some (.ref m), some (.int j), y4, y5] h' ∧ Grow h h' := by
    intro h1 q q0 q2 q4 q5 gq G a0 a2 a4 a5 e
    obtain ⟨h2, y5, e2, G2⟩ := more_tail (shw := shw) (k := k) (r := r) (x1 := some (.ref r)) (x3 := some (.int j)) (x5 := x5) f0 (G.2 _ _ gb) (G.2 _ _ gm) R gq a0 a2 a4 a5
    exact ⟨h2, _, y5, x_nx e (x_end e2), G.trans G2⟩
  rcases hj with rfl | rfl | rfl | rfl
  · obtain ⟨h1, q, e1, g1, G1⟩ := more_list (shw := shw) (C := callM (P shw) (k + 5)) (j := 0) (x0 := some (.ref n)) (x2 := some (.ref m)) (x4 := x4) (x5 := x5) gr rfl (by simp)
    exact tl g1 G1 (by omega) (by omega) (by omega) (by omega) e1
  · obtain ⟨h1, q, e1, g1, G1⟩ := more_list (shw := shw) (C := callM (P shw) (k + 5)) (j := 2) (x0 := some (.ref n)) (x2 := some (.ref m)) (x4 := x4) (x5 := x5) gr rfl (by simp)
    exact tl g1 G1 (by omega) (by omega) (by omega) (by omega) e1
  · obtain ⟨h1, q, e1, g1, G1⟩ := more_list (shw := shw) (C := callM (P shw) (k + 5)) (j := 4) (x0 := some (.ref n)) (x2 := some (.ref m)) (x4 := x4) (x5 := x5) gr rfl (by simp)
    exact tl g1 G1 (by omega) (by omega) (by omega) (by omega) e1
  · obtain ⟨h1, q, e1, g1, G1⟩ := more_list (shw := shw) (C := callM (P shw) (k + 5)) (j := 5) (x0 := some (.ref n)) (x2 := some (.ref m)) (x4 := x4) (x5 := x5) gr rfl (by simp)
    exact tl g1 G1 (by omega) (by omega) (by omega) (by omega) e1
def spots : List MV := [.int 0, .int 2, .int 4, .int 5]
theorem c158 {n r : Nat} {f o p0 p1 p2 p3 p4 p5 : Int} (f0 : 0 ≤ f) (gb : h.get n = some (bnd f o)) (gr : h.get r = some (six p0 p1 p2 p3 p4 p5)) (R : Right p0 p1 p2 p3 p4 p5) : ∃ h', callM (P shw) (k + 6) 158 [.ref n, .ref r] h = .ok (.bl true) h' ∧ Grow h h' := by
  obtain ⟨h1, e1, g1, G1⟩ := c27 (shw := shw) (k := k + 1) gr R
  have n2 : newList h1 spots = .ok (.ref h1.size) (h1.push (.lst spots)) := n_list (by decide)
  have g2 : (h1.push (.lst spots)).get h1.size = some (.lst spots) := get_push_size
  have G2 : Grow h1 (h1.push (.lst spots)) := Grow.one
  obtain ⟨σ3, h3, e3, y4, y3, y5, rfl, G3⟩ := for_live (P := P shw) (C := callM (P shw) (k + 5)) (j := 3) (b := k158_1) (l := spots) (r := h1.size) (fun i σ h' => ∃ x3 x4 x5, σ = [some (.ref n), some (.ref r), some (.ref h.size), x3, x4, x5] ∧ Grow (h1.push (.lst spots)) h')
    (it_ref (b := .lst (.cons (.int 0) (.cons (.int 2) (.cons (.int 4) (.cons (.int 5) .nil))))) (σ := [some (.ref n), some (.ref r), some (.ref h.size), none, none, none]) (h := h1) (by unfold spots at n2 ⊢; simp only [exec, execs, tv, ev, evs, eo, ct, asg, asgs, itv, bind_ok', go_ok, noEx_ok', setM, callP, pick, negM, isNM, mc_bt, t_bl, b_add, b_sub, b_mod, b_fdiv, b_pow3, b_pow18, b_pow30, b_str, c_lt, c_gt, c_le, c_ge, c_eqi, c_nei, c_eqs, c_nes, c_eqb, c_neb, f_len, f_max, f_min, f_abs, List.getElem?_cons_zero, List.getElem?_cons_succ, List.set_cons_zero, List.set_cons_succ, List.length_cons, List.length_nil, if_true, if_false, decide_true, decide_false, Bool.not_true, Bool.not_false, Bool.false_eq_true, Bool.or_true, Bool.true_or, Bool.or_false, Bool.false_or, Bool.and_true, Bool.true_and, Bool.and_false, Bool.false_and, beq_self_eq_true, n2]) g2)
    (fun i σ h' ⟨_, _, _, _, G⟩ => G.2 _ _ g2) ⟨_, _, _, rfl, Grow.refl⟩ (by
      rintro i v σ h' ev ⟨x3, x4, x5, rfl, G'⟩
      obtain ⟨j, rfl, hj⟩ : ∃ j : Nat, v = .int j ∧ (j = 0 ∨ j = 2 ∨ j = 4 ∨ j = 5) := by
        have hv := List.mem_of_getElem? ev
        simp only [spots, List.mem_cons, List.not_mem_nil, or_false] at hv
        rcases hv with rfl | rfl | rfl | rfl
        · exact ⟨0, rfl, Or.inl rfl⟩
        · exact ⟨2, rfl, Or.inr (Or.inl rfl)⟩
        · exact ⟨4, rfl, Or.inr (Or.inr (Or.inl rfl))⟩
        · exact ⟨5, rfl, Or.inr (Or.inr (Or.inr rfl))⟩
      have G4 := (G1.trans G2).trans G'
      obtain ⟨h'', y4, y5, e', G''⟩ := more_turn (shw := shw) (k := k) (x4 := x4) (x5 := x5) hj f0 (G4.2 _ _ gb) (G4.2 _ _ gr) ((G2.trans G').2 _ _ g1) R
      exact ⟨_, h'', e', _, _, _, rfl, G'.trans G''⟩)
  refine ⟨h3, ?_, (G1.trans G2).trans G3⟩
  rw [c_fn]
  exact f_rt [some (.ref n), some (.ref r), none, none, none, none] rfl rfl (x_nx (σ1 := [some (.ref n), some (.ref r), some (.ref h.size), none, none, none]) (h1 := h1) (by simp only [s158_0, exec, execs, tv, ev, evs, eo, ct, asg, asgs, itv, bind_ok', go_ok, noEx_ok', setM, callP, pick, negM, isNM, mc_bt, t_bl, b_add, b_sub, b_mod, b_fdiv, b_pow3, b_pow18, b_pow30, b_str, c_lt, c_gt, c_le, c_ge, c_eqi, c_nei, c_eqs, c_nes, c_eqb, c_neb, f_len, f_max, f_min, f_abs, List.getElem?_cons_zero, List.getElem?_cons_succ, List.set_cons_zero, List.set_cons_succ, List.length_cons, List.length_nil, if_true, if_false, decide_true, decide_false, Bool.not_true, Bool.not_false, Bool.false_eq_true, Bool.or_true, Bool.true_or, Bool.or_false, Bool.false_or, Bool.and_true, Bool.true_and, Bool.and_false, Bool.false_and, beq_self_eq_true, e1]) (x_nx e3 (x_rt (by simp only [s158_2, exec, execs, tv, ev, evs, eo, ct, asg, asgs, itv, bind_ok', go_ok, noEx_ok', setM, callP, pick, negM, isNM, mc_bt, t_bl, b_add, b_sub, b_mod, b_fdiv, b_pow3, b_pow18, b_pow30, b_str, c_lt, c_gt, c_le, c_ge, c_eqi, c_nei, c_eqs, c_nes, c_eqb, c_neb, f_len, f_max, f_min, f_abs, List.getElem?_cons_zero, List.getElem?_cons_succ, List.set_cons_zero, List.set_cons_succ, List.length_cons, List.length_nil, if_true, if_false, decide_true, decide_false, Bool.not_true, Bool.not_false, Bool.false_eq_true, Bool.or_true, Bool.true_or, Bool.or_false, Bool.false_or, Bool.and_true, Bool.true_and, Bool.and_false, Bool.false_and, beq_self_eq_true]))))
theorem ask_le {a o p3 p1 : Int} (e : a ≤ o) : ask a p3 p1 ≤ ask o p3 p1 := by
  unfold ask
  omega
theorem mend_less {f o a c p0 p1 p2 p4 : Int} (e1 : c ≤ f) (e2 : a ≤ o) (h4 : 0 ≤ p4) : mend c a p0 p1 p2 p4 ≤ mend f o p0 p1 p2 p4 := by
  have e3 : (c + 1) * p4 ≤ (f + 1) * p4 := Int.mul_le_mul_of_nonneg_right (by omega) h4
  unfold mend
  omega
theorem eno_less {f o a c p0 p1 p2 p3 p5 : Int} (e1 : c ≤ f) (e2 : a ≤ o) (h1 : 0 ≤ p1) (e : eno f o p0 p1 p2 p3 p5 = true) : eno c a p0 p1 p2 p3 p5 = true := by
  have e3 : c * p1 ≤ f * p1 := Int.mul_le_mul_of_nonneg_right e1 h1
  have e4 := ask_le (p3 := p3) (p1 := p1) e2
  unfold eno fit at *
  simp only [Bool.and_eq_true, decide_eq_true_eq] at *
  omega
theorem turn9 {b n m : Nat} {f o a c : Int} {x0 x1 x5 x8 x9 x10 x11 : Option MV} (w : Bag h b) (hn : n ≠ b) (hm : m ≠ b) (gn : h.get n = some (bnd f o)) (gm : h.get m = some (bnd c a)) (f0 : 0 ≤ f) (f1 : f ≤ 3) (o0 : 1 ≤ o) (o1 : o ≤ 5) (c0 : 0 ≤ c) (c1 : c ≤ f) (a1 : a ≤ o) :
    ∃ h' y8 y9 y10 y11, execs (P shw) (callM (P shw) (k + 6)) k159_0_4 [x0, x1, some (.ref b), some (.ref n), some (.ref m), x5, some (.int f), some (.int o), x8, x9, x10, x11] h = .nx [x0, x1, some (.ref b), some (.ref n), some (.ref m), x5, some (.int f), some (.int o), y8, y9, y10, y11] h' ∧ Bag h' b ∧ Gb b h h' := by
  obtain ⟨r, h1, p0, p1, p2, p3, p4, p5, e1, w1, G1, hr, g1, R⟩ := c157 (shw := shw) (k := k + 2) w f0 f1 o0 o1
  obtain ⟨h2, e2, g2, G2⟩ := c27 (shw := shw) (k := k + 2) g1 R
  have r1 := s_ref (G2.2 _ _ g1) (at_nat (n := 1) rfl)
  simp only [Int.ofNat_eq_natCast, Int.cast_ofNat_Int] at r1
  obtain ⟨h3, e3, g3, G3⟩ := c153 (P := P shw) (k := k + 2) (G2.2 _ _ (G1.2 _ _ hn gn)) f0 f1 o0 o1 R.a1 R.b1
  have gd := G3.2 _ _ g2
  have gn3 := G3.2 _ _ (G2.2 _ _ (G1.2 _ _ hn gn))
  have gm3 := G3.2 _ _ (G2.2 _ _ (G1.2 _ _ hm gm))
  have gr3 := G3.2 _ _ (G2.2 _ _ g1)
  have w3 : Bag h3 b := by
    obtain ⟨g, m, hb, z⟩ := w1
    exact ⟨g, m, (G2.trans G3).2 _ _ hb, z⟩
  obtain ⟨h4, e4, G4⟩ := c158 (shw := shw) (k := k) f0 gn3 gr3 R
  have v0 := a6 (P := P shw) gd
  have v1 := a6 (P := P shw) g3
  have v2 := a9 (P := P shw) gd
  have v3 := a9 (P := P shw) g3
  have v4 := a8 (P := P shw) gd
  have v5 := a8 (P := P shw) g3
  have v6 := a11 (P := P shw) gd
  have e5 := c38 (P := P shw) (k := k + 3) gd gn3 R.s1
  have e6 := c50 (P := P shw) (k := k + 1) gd gn3 R.s1
  have e7 := c49 (P := P shw) (k := k + 2) gd gn3 R.s1
  have e8 := c50 (P := P shw) (k := k + 1) gd gm3 R.s1
  have e9 := c38 (P := P shw) (k := k + 3) gd gm3 R.s1
  have e10 := c39 (P := P shw) (k := k + 3) (G4.2 _ _ gd) (G4.2 _ _ gn3) R.s1 R.s4
  have e11 := c39 (P := P shw) (k := k + 3) (G4.2 _ _ gd) (G4.2 _ _ gm3) R.s1 R.s4
  have hp1 := R.a1
  have hp4 := R.a4
  have l1 : ¬ ask o p3 p1 < ask a p3 p1 := by
    have := ask_le (p3 := p3) (p1 := p1) a1
    omega
  have l2 : ¬ mend f o p0 p1 p2 p4 < mend c a p0 p1 p2 p4 := by
    have := mend_less (p0 := p0) (p1 := p1) (p2 := p2) c1 a1 (show 0 ≤ p4 by omega)
    omega
  have due : ∀ σ : En, σ = [x0, x1, some (.ref b), some (.ref n), some (.ref m), x5, some (.int f), some (.int o), some (.ref r), some (.ref h1.size), some (.ref h2.size), x11] → ∀ q, execs (P shw) (callM (P shw) (k + 6)) (.cons s159_0_4_5 (.cons s159_0_4_6 (.cons s159_0_4_7 .nil))) (σ.set 11 (some (.bl (eno f o p0 p1 p2 p3 p5)))) h3 = q → execs (P shw) (callM (P shw) (k + 6)) (.cons s159_0_4_3 (.cons s159_0_4_4 (.cons s159_0_4_5 (.cons s159_0_4_6 (.cons s159_0_4_7 .nil))))) σ h3 = q := by
    rintro σ rfl q hq
    by_cases q1 : f + 1 ≤ p0 <;> by_cases q2 : f ≤ p3 <;> by_cases q3 : 2 * o + f * p1 ≤ p2 <;>
    · simp only [eno, fit, q1, q2, q3, exec, execs, tv, ev, evs, eo, ct, asg, asgs, itv, bind_ok', go_ok, noEx_ok', setM, callP, pick, negM, isNM, mc_bt, t_bl, b_add, b_sub, b_mod, b_fdiv, b_pow3, b_pow18, b_pow30, b_str, c_lt, c_gt, c_le, c_ge, c_eqi, c_nei, c_eqs, c_nes, c_eqb, c_neb, f_len, f_max, f_min, f_abs, List.getElem?_cons_zero, List.getElem?_cons_succ, List.set_cons_zero, List.set_cons_succ, List.length_cons, List.length_nil, if_true, if_false, decide_true, decide_false, Bool.not_true, Bool.not_false, Bool.false_eq_true, Bool.or_true, Bool.true_or, Bool.or_false, Bool.false_or, Bool.and_true, Bool.true_and, Bool.and_false, Bool.false_and, beq_self_eq_true] at hq
      refine x_nx (σ1 := _) (h1 := h3) (by simp only [s159_0_4_3, exec, execs, tv, ev, evs, eo, ct, asg, asgs, itv, bind_ok', go_ok, noEx_ok', setM, callP, pick, negM, isNM, mc_bt, t_bl, b_add, b_sub, b_mod, b_fdiv, b_pow3, b_pow18, b_pow30, b_str, c_lt, c_gt, c_le, c_ge, c_eqi, c_nei, c_eqs, c_nes, c_eqb, c_neb, f_len, f_max, f_min, f_abs, List.getElem?_cons_zero, List.getElem?_cons_succ, List.set_cons_zero, List.set_cons_succ, List.length_cons, List.length_nil, if_true, if_false, decide_true, decide_false, Bool.not_true, Bool.not_false, Bool.false_eq_true, Bool.or_true, Bool.true_or, Bool.or_false, Bool.false_or, Bool.and_true, Bool.true_and, Bool.and_false, Bool.false_and, beq_self_eq_true, v0, v1, v2, v3, v4, v5, le_d, q1, q2, q3]; rfl) (x_nx (σ1 := _) (h1 := h3) (by simp only [s159_0_4_4, exec, execs, tv, ev, evs, eo, ct, asg, asgs, itv, bind_ok', go_ok, noEx_ok', setM, callP, pick, negM, isNM, mc_bt, t_bl, b_add, b_sub, b_mod, b_fdiv, b_pow3, b_pow18, b_pow30, b_str, c_lt, c_gt, c_le, c_ge, c_eqi, c_nei, c_eqs, c_nes, c_eqb, c_neb, f_len, f_max, f_min, f_abs, List.getElem?_cons_zero, List.getElem?_cons_succ, List.set_cons_zero, List.set_cons_succ, List.length_cons, List.length_nil, if_true, if_false, decide_true, decide_false, Bool.not_true, Bool.not_false, Bool.false_eq_true, Bool.or_true, Bool.true_or, Bool.or_false, Bool.false_or, Bool.and_true, Bool.true_and, Bool.and_false, Bool.false_and, beq_self_eq_true, e5, v6, b_mull s2, le_d]) hq)
  refine ⟨h4, some (.ref r), some (.ref h1.size), some (.ref h2.size), some (.bl (eno f o p0 p1 p2 p3 p5)), ?_, ?_, ((G1.trans G2.gb).trans G3.gb).trans G4.gb⟩
  · refine x_nx (σ1 := [x0, x1, some (.ref b), some (.ref n), some (.ref m), x5, some (.int f), some (.int o), some (.ref r), x9, x10, x11]) (h1 := h1) (by simp only [s159_0_4_0, exec, execs, tv, ev, evs, eo, ct, asg, asgs, itv, bind_ok', go_ok, noEx_ok', setM, callP, pick, negM, isNM, mc_bt, t_bl, b_add, b_sub, b_mod, b_fdiv, b_pow3, b_pow18, b_pow30, b_str, c_lt, c_gt, c_le, c_ge, c_eqi, c_nei, c_eqs, c_nes, c_eqb, c_neb, f_len, f_max, f_min, f_abs, List.getElem?_cons_zero, List.getElem?_cons_succ, List.set_cons_zero, List.set_cons_succ, List.length_cons, List.length_nil, if_true, if_false, decide_true, decide_false, Bool.not_true, Bool.not_false, Bool.false_eq_true, Bool.or_true, Bool.true_or, Bool.or_false, Bool.false_or, Bool.and_true, Bool.true_and, Bool.and_false, Bool.false_and, beq_self_eq_true, e1]) (x_nx (σ1 := [x0, x1, some (.ref b), some (.ref n), some (.ref m), x5, some (.int f), some (.int o), some (.ref r), some (.ref h1.size), x10, x11]) (h1 := h2) (by simp only [s159_0_4_1, exec, execs, tv, ev, evs, eo, ct, asg, asgs, itv, bind_ok', go_ok, noEx_ok', setM, callP, pick, negM, isNM, mc_bt, t_bl, b_add, b_sub, b_mod, b_fdiv, b_pow3, b_pow18, b_pow30, b_str, c_lt, c_gt, c_le, c_ge, c_eqi, c_nei, c_eqs, c_nes, c_eqb, c_neb, f_len, f_max, f_min, f_abs, List.getElem?_cons_zero, List.getElem?_cons_succ, List.set_cons_zero, List.set_cons_succ, List.length_cons, List.length_nil, if_true, if_false, decide_true, decide_false, Bool.not_true, Bool.not_false, Bool.false_eq_true, Bool.or_true, Bool.true_or, Bool.or_false, Bool.false_or, Bool.and_true, Bool.true_and, Bool.and_false, Bool.false_and, beq_self_eq_true, e2])
      (x_nx (σ1 := [x0, x1, some (.ref b), some (.ref n), some (.ref m), x5, some (.int f), some (.int o), some (.ref r), some (.ref h1.size), some (.ref h2.size), x11]) (h1 := h3) (by simp only [s159_0_4_2, exec, execs, tv, ev, evs, eo, ct, asg, asgs, itv, bind_ok', go_ok, noEx_ok', setM, callP, pick, negM, isNM, mc_bt, t_bl, b_add, b_sub, b_mod, b_fdiv, b_pow3, b_pow18, b_pow30, b_str, c_lt, c_gt, c_le, c_ge, c_eqi, c_nei, c_eqs, c_nes, c_eqb, c_neb, f_len, f_max, f_min, f_abs, List.getElem?_cons_zero, List.getElem?_cons_succ, List.set_cons_zero, List.set_cons_succ, List.length_cons, List.length_nil, if_true, if_false, decide_true, decide_false, Bool.not_true, Bool.not_false, Bool.false_eq_true, Bool.or_true, Bool.true_or, Bool.or_false, Bool.false_or, Bool.and_true, Bool.true_and, Bool.and_false, Bool.false_and, beq_self_eq_true, r1, e3]) (due _ rfl _ ?_)))
    cases he : eno f o p0 p1 p2 p3 p5 with
    | false =>
      rw [he] at e6
      simp only [s159_0_4_5, s159_0_4_6, s159_0_4_7, exec, execs, tv, ev, evs, eo, ct, asg, asgs, itv, bind_ok', go_ok, noEx_ok', setM, callP, pick, negM, isNM, mc_bt, t_bl, b_add, b_sub, b_mod, b_fdiv, b_pow3, b_pow18, b_pow30, b_str, c_lt, c_gt, c_le, c_ge, c_eqi, c_nei, c_eqs, c_nes, c_eqb, c_neb, f_len, f_max, f_min, f_abs, List.getElem?_cons_zero, List.getElem?_cons_succ, List.set_cons_zero, List.set_cons_succ, List.length_cons, List.length_nil, if_true, if_false, decide_true, decide_false, Bool.not_true, Bool.not_false, Bool.false_eq_true, Bool.or_true, Bool.true_or, Bool.or_false, Bool.false_or, Bool.and_true, Bool.true_and, Bool.and_false, Bool.false_and, beq_self_eq_true, e4, e6, e9, e5, e10, e11, l1, l2]
    | true =>
      have hf : fit o p1 p3 p5 = true := by
        unfold eno at he
        simp only [Bool.and_eq_true] at he
        exact he.2.2
      rw [he] at e6
      rw [hf] at e7
      rw [eno_less c1 a1 (by omega) he] at e8
      simp only [s159_0_4_5, s159_0_4_6, s159_0_4_7, exec, execs, tv, ev, evs, eo, ct, asg, asgs, itv, bind_ok', go_ok, noEx_ok', setM, callP, pick, negM, isNM, mc_bt, t_bl, b_add, b_sub, b_mod, b_fdiv, b_pow3, b_pow18, b_pow30, b_str, c_lt, c_gt, c_le, c_ge, c_eqi, c_nei, c_eqs, c_nes, c_eqb, c_neb, f_len, f_max, f_min, f_abs, List.getElem?_cons_zero, List.getElem?_cons_succ, List.set_cons_zero, List.set_cons_succ, List.length_cons, List.length_nil, if_true, if_false, decide_true, decide_false, Bool.not_true, Bool.not_false, Bool.false_eq_true, Bool.or_true, Bool.true_or, Bool.or_false, Bool.false_or, Bool.and_true, Bool.true_and, Bool.and_false, Bool.false_and, beq_self_eq_true, e4, e6, e7, e8, e9, e5, e10, e11, l1, l2]
  · obtain ⟨g, m, hb, z⟩ := w3
    exact ⟨g, m, G4.2 _ _ hb, z⟩
theorem cell_ok {i : Nat} {ns : List Int} {x2 x3 x4 x5 x6 x7 x8 x9 x10 x11 : Option MV} (hi : i < 8) :
    ∃ h' y2 y3 y4 y5 y6 y7 y8 y9 y10 y11, execs (P shw) (callM (P shw) (k + 6)) k159_0 [some (.kl (ns.map MV.int)), some (.int i), x2, x3, x4, x5, x6, x7, x8, x9, x10, x11] h = .nx [some (.kl (ns.map MV.int)), some (.int i), y2, y3, y4, y5, y6, y7, y8, y9, y10, y11] h' := by
  obtain ⟨b, h1, e1, w1, G1, hb⟩ := bag_new (P := P shw) (k := k + 5) (h := h) (ns := ns) hi
  obtain ⟨f, h2, f0, f1, e2, w2, G2, z2⟩ := w1.tk (P := P shw) (k := k + 5) 4 (by omega) (by omega)
  obtain ⟨u, h3, u0, u1, e3, w3, G3, z3⟩ := w2.tk (P := P shw) (k := k + 5) 5 (by omega) (by omega)
  have e4 := mk2 (P := P shw) (k := k + 3) (h := h3) (f := f) (o := 1 + u) f0 (by omega) (by omega) (by omega)
  have w4 := w3.push (o := bnd f (1 + u))
  have g4 : (h3.push (bnd f (1 + u))).get h3.size = _ := get_push_size
  have n4 : h3.size ≠ b := Nat.ne_of_gt w3.lt
  generalize h3.push (bnd f (1 + u)) = h4 at e4 w4 g4
  generalize h3.size = n at e4 g4 n4
  obtain ⟨c, h5, c0, c1, e5, w5, G5, z5⟩ := w4.tk (P := P shw) (k := k + 5) (f + 1) (by omega) (by omega)
  obtain ⟨a, h6, a0, a1, e6, w6, G6, z6⟩ := w5.tk (P := P shw) (k := k + 5) (1 + u) (by omega) (by omega)
  have e7 := mk2 (P := P shw) (k := k + 3) (h := h6) (f := c) (o := 1 + a) c0 (by omega) (by omega) (by omega)
  have g7 := get_push (o := bnd c (1 + a)) (G6.2 _ _ n4 (G5.2 _ _ n4 g4))
  have w7 := w6.push (o := bnd c (1 + a))
  have l7 : (h6.push (bnd c (1 + a))).get h6.size = _ := get_push_size
  have n7 : h6.size ≠ b := Nat.ne_of_gt w6.lt
  generalize h6.push (bnd c (1 + a)) = h7 at e7 w7 g7 l7
  generalize h6.size = m at e7 l7 n7
  obtain ⟨σ8, h8, e8, y5, y8, y9, y10, y11, rfl, w8, G8⟩ := for_items (P := P shw) (C := callM (P shw) (k + 6)) (j := 5) (b := k159_0_4) (fun _ σ h' => ∃ y5 y8 y9 y10 y11, σ = [some (.kl (ns.map MV.int)), some (.int i), some (.ref b), some (.ref n), some (.ref m), y5, some (.int f), some (.int (1 + u)), y8, y9, y10, y11] ∧ Bag h' b ∧ Gb b h7 h')
    (it_rng (b := .int 8) (n := 8) (h1 := h7) (σ := [some (.kl (ns.map MV.int)), some (.int i), some (.ref b), some (.ref n), some (.ref m), x5, some (.int f), some (.int (1 + u)), x8, x9, x10, x11]) (h := h7) (by simp only [exec, execs, tv, ev, evs, eo, ct, asg, asgs, itv, bind_ok', go_ok, noEx_ok', setM, callP, pick, negM, isNM, mc_bt, t_bl, b_add, b_sub, b_mod, b_fdiv, b_pow3, b_pow18, b_pow30, b_str, c_lt, c_gt, c_le, c_ge, c_eqi, c_nei, c_eqs, c_nes, c_eqb, c_neb, f_len, f_max, f_min, f_abs, List.getElem?_cons_zero, List.getElem?_cons_succ, List.set_cons_zero, List.set_cons_succ, List.length_cons, List.length_nil, if_true, if_false, decide_true, decide_false, Bool.not_true, Bool.not_false, Bool.false_eq_true, Bool.or_true, Bool.true_or, Bool.or_false, Bool.false_or, Bool.and_true, Bool.true_and, Bool.and_false, Bool.false_and, beq_self_eq_true]) (by omega) (by omega))
    ⟨_, _, _, _, _, rfl, w7, Gb.refl⟩ (by
      rintro i' v σ h' ev ⟨y5, y8, y9, y10, y11, rfl, w', G'⟩
      obtain ⟨h'', z8, z9, z10, z11, e', w'', G''⟩ := turn9 (shw := shw) (k := k) (x0 := some (.kl (ns.map MV.int))) (x1 := some (.int i)) (x5 := some v) (x8 := y8) (x9 := y9) (x10 := y10) (x11 := y11) w' n4 n7 (G'.2 _ _ n4 g7) (G'.2 _ _ n7 l7) f0 (by omega) (by omega) (by omega) c0 (by omega) (by omega)
      exact ⟨_, h'', e', _, _, _, _, _, rfl, w'', G'.trans G''⟩)
  refine ⟨h8, _, _, _, _, _, _, _, _, _, _, x_nx (σ1 := [some (.kl (ns.map MV.int)), some (.int i), some (.ref b), x3, x4, x5, x6, x7, x8, x9, x10, x11]) (h1 := h1) ?_ (x_nx (σ1 := [some (.kl (ns.map MV.int)), some (.int i), some (.ref b), x3, x4, x5, some (.int f), some (.int (1 + u)), x8, x9, x10, x11]) (h1 := h3) ?_
    (x_nx (σ1 := [some (.kl (ns.map MV.int)), some (.int i), some (.ref b), some (.ref n), x4, x5, some (.int f), some (.int (1 + u)), x8, x9, x10, x11]) (h1 := h4) ?_ (x_nx (σ1 := [some (.kl (ns.map MV.int)), some (.int i), some (.ref b), some (.ref n), some (.ref m), x5, some (.int f), some (.int (1 + u)), x8, x9, x10, x11]) (h1 := h7) ?_ (x_end e8))))⟩
  · simp only [s159_0_0, exec, execs, tv, ev, evs, eo, ct, asg, asgs, itv, bind_ok', go_ok, noEx_ok', setM, callP, pick, negM, isNM, mc_bt, t_bl, b_add, b_sub, b_mod, b_fdiv, b_pow3, b_pow18, b_pow30, b_str, c_lt, c_gt, c_le, c_ge, c_eqi, c_nei, c_eqs, c_nes, c_eqb, c_neb, f_len, f_max, f_min, f_abs, List.getElem?_cons_zero, List.getElem?_cons_succ, List.set_cons_zero, List.set_cons_succ, List.length_cons, List.length_nil, if_true, if_false, decide_true, decide_false, Bool.not_true, Bool.not_false, Bool.false_eq_true, Bool.or_true, Bool.true_or, Bool.or_false, Bool.false_or, Bool.and_true, Bool.true_and, Bool.and_false, Bool.false_and, beq_self_eq_true, e1]
  · simp only [s159_0_1, exec, execs, tv, ev, evs, eo, ct, asg, asgs, itv, bind_ok', go_ok, noEx_ok', setM, callP, pick, negM, isNM, mc_bt, t_bl, b_add, b_sub, b_mod, b_fdiv, b_pow3, b_pow18, b_pow30, b_str, c_lt, c_gt, c_le, c_ge, c_eqi, c_nei, c_eqs, c_nes, c_eqb, c_neb, f_len, f_max, f_min, f_abs, List.getElem?_cons_zero, List.getElem?_cons_succ, List.set_cons_zero, List.set_cons_succ, List.length_cons, List.length_nil, if_true, if_false, decide_true, decide_false, Bool.not_true, Bool.not_false, Bool.false_eq_true, Bool.or_true, Bool.true_or, Bool.or_false, Bool.false_or, Bool.and_true, Bool.true_and, Bool.and_false, Bool.false_and, beq_self_eq_true, e2, e3, upds]
  · simp only [s159_0_2, exec, execs, tv, ev, evs, eo, ct, asg, asgs, itv, bind_ok', go_ok, noEx_ok', setM, callP, pick, negM, isNM, mc_bt, t_bl, b_add, b_sub, b_mod, b_fdiv, b_pow3, b_pow18, b_pow30, b_str, c_lt, c_gt, c_le, c_ge, c_eqi, c_nei, c_eqs, c_nes, c_eqb, c_neb, f_len, f_max, f_min, f_abs, List.getElem?_cons_zero, List.getElem?_cons_succ, List.set_cons_zero, List.set_cons_succ, List.length_cons, List.length_nil, if_true, if_false, decide_true, decide_false, Bool.not_true, Bool.not_false, Bool.false_eq_true, Bool.or_true, Bool.true_or, Bool.or_false, Bool.false_or, Bool.and_true, Bool.true_and, Bool.and_false, Bool.false_and, beq_self_eq_true, e4]
  · simp only [s159_0_3, exec, execs, tv, ev, evs, eo, ct, asg, asgs, itv, bind_ok', go_ok, noEx_ok', setM, callP, pick, negM, isNM, mc_bt, t_bl, b_add, b_sub, b_mod, b_fdiv, b_pow3, b_pow18, b_pow30, b_str, c_lt, c_gt, c_le, c_ge, c_eqi, c_nei, c_eqs, c_nes, c_eqb, c_neb, f_len, f_max, f_min, f_abs, List.getElem?_cons_zero, List.getElem?_cons_succ, List.set_cons_zero, List.set_cons_succ, List.length_cons, List.length_nil, if_true, if_false, decide_true, decide_false, Bool.not_true, Bool.not_false, Bool.false_eq_true, Bool.or_true, Bool.true_or, Bool.or_false, Bool.false_or, Bool.and_true, Bool.true_and, Bool.and_false, Bool.false_and, beq_self_eq_true, e5, e6, e7]
theorem pure_law (shw : PD → Tx) : ∀ ns : List Int, ns.length ≤ 63 → ∃ h', callM (P shw) (9 + 1) nlaw [.kl (ns.map MV.int)] ⟨[]⟩ = .ok (.bl true) h' := by
  intro ns hn
  obtain ⟨σ', h', e⟩ := cells (P := P shw) (C := callM (P shw) 9) (ns := ns) (n := 12) (b := k159_0) (m := 4) (by omega) (by omega) rfl [some (.kl (ns.map MV.int)), none, none, none, none, none, none, none, none, none, none, none] ⟨[]⟩ rfl (by
    intro i σ h hi hl h0
    match σ, hl, h0 with
    | [x0, x1, x2, x3, x4, x5, x6, x7, x8, x9, x10, x11], _, h0 =>
      cases h0
      obtain ⟨h', y2, y3, y4, y5, y6, y7, y8, y9, y10, y11, e⟩ := cell_ok (shw := shw) (k := 3) (h := h) (ns := ns) (i := i) (x2 := x2) (x3 := x3) (x4 := x4) (x5 := x5) (x6 := x6) (x7 := x7) (x8 := x8) (x9 := x9) (x10 := x10) (x11 := x11) hi
      exact ⟨_, h', e, rfl, rfl⟩) rfl
  refine ⟨h', ?_⟩
  rw [show nlaw = 159 from rfl, c_fn]
  exact f_rt [some (.kl (ns.map MV.int)), none, none, none, none, none, none, none, none, none, none, none] rfl rfl (x_nx e (x_rt (by simp only [exec, execs, tv, ev, evs, eo, ct, asg, asgs, itv, bind_ok', go_ok, noEx_ok', setM, callP, pick, negM, isNM, mc_bt, t_bl, b_add, b_sub, b_mod, b_fdiv, b_pow3, b_pow18, b_pow30, b_str, c_lt, c_gt, c_le, c_ge, c_eqi, c_nei, c_eqs, c_nes, c_eqb, c_neb, f_len, f_max, f_min, f_abs, List.getElem?_cons_zero, List.getElem?_cons_succ, List.set_cons_zero, List.set_cons_succ, List.length_cons, List.length_nil, if_true, if_false, decide_true, decide_false, Bool.not_true, Bool.not_false, Bool.false_eq_true, Bool.or_true, Bool.true_or, Bool.or_false, Bool.false_or, Bool.and_true, Bool.true_and, Bool.and_false, Bool.false_and, beq_self_eq_true, s159_1])))
end K09
set_option Elab.async false
set_option linter.all false
set_option maxRecDepth 100000
set_option maxHeartbeats 4000000
/-! S1: how the plain interpreter's values and heap stand for the hand layer's. -/
namespace DM
open PySem L2

/-- what the text's own things stand at -/
structure Env1 where
  ca : Nat → Addr          -- classes
  fnm : Nat → Str          -- attributes' and methods' names
  fa : Nat → Addr          -- defs
  kn : Nat → Bool          -- known names

/-- the written part, the world, the defs -/
structure KW where
  K : PySem.W.Frag
  w : World
  fa : Nat → Addr
instance : Coe KW PySem.W.Frag := ⟨KW.K⟩
abbrev KW.In (k : KW) (h : Heap) : Prop := k.K.In h
section
variable (K : PySem.W.Frag)
/-- a list of the top -/
def KL (a : Addr) (xs : List V) : Prop := ∃ (o : Obj) (its : Array Value) (n : Nat), K.lookup a = some o ∧ o.cls = .type "list" ∧ o.dict = none ∧ o.data = .seq its n ∧ its.size ≤ sizeLine ∧ Vals xs its.toList
/-- a list that is never written: of the top, or known whole -/
def KLs (H : Hp) (a : Addr) (xs : List V) : Prop := (∃ o, H a = some (.frz o (.lst xs))) ∨ KL K a xs
theorem KLs.sq {K : PySem.W.Frag} {a : Addr} {xs : List V} {H : Hp} (h : KLs K H a xs) : SqL K H a xs := by
  rcases h with ⟨o, h⟩ | h
  · exact .inl (.inr ⟨o, h⟩)
  · exact .inr h
/-- what is never written stays -/
structure Fx (H H' : Hp) : Prop where
  t : ∀ a xs, SqT K H a xs → SqT K H' a xs
  l : ∀ a xs, KLs K H a xs → KLs K H' a xs
end
/-- a text of signs, no longer than may be -/
def TxOk (s : Tx) : Prop := s.length ≤ sizeLine ∧ ∀ c ∈ s, c < 1114112
section
variable (K : KW) (Z : Env1)
mutual
def VR (f : Nat → Addr) (N : Nat) (H : Hp) : MV → V → Prop
  | .non, v => v = .non
  | .bl b, v => v = .bl b
  | .int i, v => v = .int i
  | .str s, v => v = .str ⟨s.toArray⟩ ∧ TxOk s
  | .tup l, v => ∃ a vs, v = .ref a ∧ SqT K H a vs ∧ VRs f N H l vs
  | .ref n, v => n < N ∧ v = .ref (f n)
  | .kl l, v => ∃ a vs, v = .ref a ∧ KLs K H a vs ∧ VRs f N H l vs
  | .kd l, v => ∃ a es n, v = .ref a ∧ KDict K.K K.w a es n ∧ KDr f N H l es.toList
  | .fn i, v => v = .ref (K.fa i)
  | .exc _ _, _ => False
def VRs (f : Nat → Addr) (N : Nat) (H : Hp) : List MV → List V → Prop
  | [], vs => vs = []
  | x :: xs, vs => ∃ y ys, vs = y :: ys ∧ VR f N H x y ∧ VRs f N H xs ys
/-- a written dict's entries -/
def KDr (f : Nat → Addr) (N : Nat) (H : Hp) : List (MV × MV) → List DictEntry → Prop
  | [], es => es = []
  | (k, m) :: r, es => ∃ e es' s t v, es = e :: es' ∧ k = .str s ∧ e.key = .str ⟨s.toArray⟩ t ∧ TxOk s ∧ RelV v e.val ∧ VR f N H m v ∧ KDr f N H r es'
end

/-- an instance's attributes -/
def FRs (f : Nat → Addr) (N : Nat) (H : Hp) : List (Nat × MV) → List (Str × V) → Prop
  | [], gs => gs = []
  | p :: r, gs => ∃ v ys, gs = (Z.fnm p.1, v) :: ys ∧ VR K f N H p.2 v ∧ FRs f N H r ys
/-- a dict's keys, its entries -/
def KR : MV → Key → Prop
  | .int i, k => k = .inl i
  | .str s, k => k = .inr ⟨s.toArray⟩ ∧ TxOk s
  | _, _ => False
def DKr (f : Nat → Addr) (N : Nat) (H : Hp) : List (MV × MV) → List (Key × V) → Prop
  | [], gs => gs = []
  | p :: r, gs => ∃ k v ys, gs = (k, v) :: ys ∧ KR p.1 k ∧ VR K f N H p.2 v ∧ DKr f N H r ys
/-- a dict, walked or not -/
def DAt (H : Hp) (a : Addr) (kvs : List (Key × V)) : Bool → Prop
  | false => H a = some (.dK kvs)
  | true => ∃ o, H a = some (.frz o (.dK kvs))

def OR (f : Nat → Addr) (N : Nat) (H : Hp) (a : Addr) : MO → Prop
  | .lst l => ∃ vs, H a = some (.lst vs) ∧ VRs K f N H l vs
  | .ins c fs => ∃ dx gs, H a = some (.ins (Z.ca c) dx gs) ∧ FRs K Z f N H fs gs ∧ ∀ p ∈ fs, Z.kn p.1 = true
  | .dct t lk l => t = false ∧ ∃ kvs, DAt H a kvs lk ∧ DKr K f N H l kvs
  | .set _ => False
def MO.unl : MO → Bool
  | .dct _ lk _ => !lk
  | _ => true

structure Rl (f : Nat → Addr) (h : MH) (H : Hp) : Prop where
  ob : ∀ n o, h.get n = some o → OR K Z f h.size H (f n) o
  inj : ∀ n m, n < h.size → m < h.size → f n = f m → n = m
end

structure Ext (f : Nat → Addr) (N : Nat) (H : Hp) (f' : Nat → Addr) (N' : Nat) (H' : Hp) : Prop where
  sz : N ≤ N'
  ag : ∀ n, n < N → f' n = f n
  fr : ∀ a o, H a = some o → (∀ n, n < N → f n ≠ a) → H' a = some o
  nw : ∀ n, N ≤ n → n < N' → H (f' n) = none
  dm : ∀ a, H' a = none → H a = none
  fz : ∀ a o u, H a = some (.frz o u) → H' a = some (.frz o u)

theorem Ext.refl (f : Nat → Addr) (N : Nat) (H : Hp) : Ext f N H f N H := ⟨Nat.le_refl _, fun _ _ => rfl, fun _ _ h _ => h, fun n h1 h2 => absurd h2 (by omega), fun _ h => h, fun _ _ _ h => h⟩
theorem Ext.trans {f f' f'' : Nat → Addr} {N N' N'' : Nat} {H H' H'' : Hp} (a : Ext f N H f' N' H') (b : Ext f' N' H' f'' N'' H'') : Ext f N H f'' N'' H'' := by
  refine ⟨Nat.le_trans a.sz b.sz, fun n h => (b.ag n (Nat.lt_of_lt_of_le h a.sz)).trans (a.ag n h), fun x o h hn => ?_, fun n h1 h2 => ?_, fun x h => a.dm x (b.dm x h), fun x o u h => b.fz x o u (a.fz x o u h)⟩
  · refine b.fr x o (a.fr x o h hn) fun n hn' e => ?_
    by_cases hc : n < N
    · rw [a.ag n hc] at e
      exact hn n hc e
    · have := a.nw n (by omega) hn'
      rw [e, h] at this
      cases this
  · by_cases hc : n < N'
    · rw [b.ag n hc]
      exact a.nw n h1 hc
    · exact a.dm _ (b.nw n (by omega) h2)

theorem MH.get_lt {h : MH} {n : Nat} {o : MO} (e : h.get n = some o) : n < h.size := (List.getElem?_eq_some_iff.mp e).1
theorem MH.get_of_lt {h : MH} {n : Nat} (e : n < h.size) : ∃ o, h.get n = some o := ⟨h.objs[n], List.getElem?_eq_getElem e⟩
theorem MH.get_put_same {h : MH} {n : Nat} {o o' : MO} (e : h.get n = some o) : (h.put n o').get n = some o' := List.getElem?_set_self (MH.get_lt e)
theorem MH.get_put_ne {h : MH} {n m : Nat} {o : MO} (e : m ≠ n) : (h.put n o).get m = h.get m := List.getElem?_set_ne (fun q => e q.symm)
theorem MH.size_put (h : MH) (n : Nat) (o : MO) : (h.put n o).size = h.size := List.length_set
theorem MH.size_push (h : MH) (o : MO) : (h.push o).size = h.size + 1 := by
  show (h.objs ++ [o]).length = _
  rw [List.length_append]
  rfl
theorem MH.get_push_lt {h : MH} {n : Nat} {o : MO} (e : n < h.size) : (h.push o).get n = h.get n := List.getElem?_append_left e
theorem MH.get_push_size (h : MH) (o : MO) : (h.push o).get h.size = some o := List.getElem?_concat_length

section
variable {K : KW} {Z : Env1} {f f' : Nat → Addr} {N N' : Nat} {H H' : Hp} {h h' : MH}

mutual
theorem VR.mono (hN : N ≤ N') (hf : ∀ n, n < N → f' n = f n) (ht : Fx K H H') : ∀ (m : MV) (v : V), VR K f N H m v → VR K f' N' H' m v
  | .non, _, h => by unfold VR at h ⊢; exact h
  | .bl _, _, h => by unfold VR at h ⊢; exact h
  | .int _, _, h => by unfold VR at h ⊢; exact h
  | .str _, _, h => by unfold VR at h ⊢; exact h
  | .tup l, _, h => by
    unfold VR at h ⊢
    obtain ⟨a, vs, e, s, r⟩ := h
    exact ⟨a, vs, e, ht.t a vs s, VRs.mono hN hf ht l vs r⟩
  | .ref n, _, h => by
    unfold VR at h ⊢
    exact ⟨Nat.lt_of_lt_of_le h.1 hN, by rw [hf n h.1]; exact h.2⟩
  | .kl l, _, h => by
    unfold VR at h ⊢
    obtain ⟨a, vs, e, s, r⟩ := h
    exact ⟨a, vs, e, ht.l a vs s, VRs.mono hN hf ht l vs r⟩
  | .kd l, _, h => by
    unfold VR at h ⊢
    obtain ⟨a, es, n, e, d, r⟩ := h
    exact ⟨a, es, n, e, d, KDr.mono hN hf ht l _ r⟩
  | .fn _, _, h => by unfold VR at h ⊢; exact h
  | .exc _ _, _, h => by unfold VR at h; exact h.elim
theorem VRs.mono (hN : N ≤ N') (hf : ∀ n, n < N → f' n = f n) (ht : Fx K H H') : ∀ (l : List MV) (vs : List V), VRs K f N H l vs → VRs K f' N' H' l vs
  | [], _, h => by unfold VRs at h ⊢; exact h
  | x :: xs, _, h => by
    unfold VRs at h ⊢
    obtain ⟨y, ys, e, r, s⟩ := h
    exact ⟨y, ys, e, VR.mono hN hf ht x y r, VRs.mono hN hf ht xs ys s⟩
theorem KDr.mono (hN : N ≤ N') (hf : ∀ n, n < N → f' n = f n) (ht : Fx K H H') : ∀ (l : List (MV × MV)) (es : List DictEntry), KDr K f N H l es → KDr K f' N' H' l es
  | [], _, h => by unfold KDr at h ⊢; exact h
  | (k, m) :: r, _, h => by
    unfold KDr at h ⊢
    obtain ⟨e, es', s, t, v, h1, h2, h3, h4, h5, h6, h7⟩ := h
    exact ⟨e, es', s, t, v, h1, h2, h3, h4, h5, VR.mono hN hf ht m v h6, KDr.mono hN hf ht r es' h7⟩
end
theorem FRs.mono (hN : N ≤ N') (hf : ∀ n, n < N → f' n = f n) (ht : Fx K H H') : ∀ (l : List (Nat × MV)) (gs : List (Str × V)), FRs K Z f N H l gs → FRs K Z f' N' H' l gs
  | [], _, h => h
  | _ :: r, _, ⟨v, ys, e, a, b⟩ => ⟨v, ys, e, VR.mono hN hf ht _ _ a, FRs.mono hN hf ht r ys b⟩

theorem DKr.mono (hN : N ≤ N') (hf : ∀ n, n < N → f' n = f n) (ht : Fx K H H') : ∀ (l : List (MV × MV)) (gs : List (Key × V)), DKr K f N H l gs → DKr K f' N' H' l gs
  | [], _, h => h
  | _ :: r, _, ⟨k, v, ys, e, c, a, b⟩ => ⟨k, v, ys, e, c, VR.mono hN hf ht _ _ a, DKr.mono hN hf ht r ys b⟩
/-- an object that stands as it stood -/
theorem OR.mono {a : Addr} {o : MO} (hN : N ≤ N') (hf : ∀ n, n < N → f' n = f n) (ht : Fx K H H') (ha : H' a = H a) (x : OR K Z f N H a o) : OR K Z f' N' H' a o := by
  cases o with
  | lst l => obtain ⟨vs, e1, e2⟩ := x; exact ⟨vs, ha ▸ e1, VRs.mono hN hf ht _ _ e2⟩
  | ins c fs => obtain ⟨dx, gs, e1, e2, e3⟩ := x; exact ⟨dx, gs, ha ▸ e1, FRs.mono hN hf ht _ _ e2, e3⟩
  | dct t lk l =>
    obtain ⟨et, kvs, e1, e2⟩ := x
    refine ⟨et, kvs, ?_, DKr.mono hN hf ht _ _ e2⟩
    cases lk with
    | false => exact (ha.trans e1 : H' a = some (.dK kvs))
    | true => obtain ⟨o, e1⟩ := e1; exact ⟨o, ha ▸ e1⟩
  | set l => exact x.elim
/-- what is named is no tuple -/
theorem OR.notup {a : Addr} {o : MO} (h : OR K Z f N H a o) : (∀ xs, H a ≠ some (.tup xs)) ∧ (o.unl = true → ∀ ob u, H a ≠ some (.frz ob u)) ∧ H a ≠ none := by
  cases o with
  | lst l => obtain ⟨vs, e, _⟩ := h; rw [e]; exact ⟨fun _ q => (by cases q), fun _ _ _ q => (by cases q), fun q => (by cases q)⟩
  | ins c fs => obtain ⟨dx, gs, e, _⟩ := h; rw [e]; exact ⟨fun _ q => (by cases q), fun _ _ _ q => (by cases q), fun q => (by cases q)⟩
  | dct t lk l =>
    obtain ⟨_, kvs, e, _⟩ := h
    cases lk with
    | false =>
      have e : H a = some (.dK kvs) := e
      rw [e]
      exact ⟨fun _ q => (by cases q), fun _ _ _ q => (by cases q), fun q => (by cases q)⟩
    | true =>
      obtain ⟨o, e⟩ := e
      rw [e]
      exact ⟨fun _ q => (by cases q), fun z => (by cases z), fun q => (by cases q)⟩
  | set l => exact h.elim
theorem Rl.named (r : Rl K Z f h H) {n : Nat} (hn : n < h.size) : (∀ xs, H (f n) ≠ some (.tup xs)) ∧ H (f n) ≠ none := by
  obtain ⟨o, e⟩ := MH.get_of_lt hn
  have := OR.notup (r.ob n o e)
  exact ⟨this.1, this.2.2⟩
theorem Rl.nofz (r : Rl K Z f h H) {n : Nat} {o : MO} (e : h.get n = some o) (hk : o.unl = true) : ∀ ob u, H (f n) ≠ some (.frz ob u) := (OR.notup (r.ob n o e)).2.1 hk
theorem Rl.text (r : Rl K Z f h H) (e : Ext f h.size H f' N' H') : Fx K H H' := by
  refine ⟨?_, ?_⟩
  · rintro a xs ((q | ⟨o, q⟩) | q)
    · exact .inl (.inl (e.fr a _ q fun n hn ea => (r.named hn).1 xs (ea ▸ q)))
    · exact .inl (.inr ⟨o, e.fz a _ _ q⟩)
    · exact .inr q
  · rintro a xs (⟨o, q⟩ | q)
    · exact .inl ⟨o, e.fz a _ _ q⟩
    · exact .inr q
theorem Rl.vr (r : Rl K Z f h H) (e : Ext f h.size H f' N' H') {m : MV} {v : V} (x : VR K f h.size H m v) : VR K f' N' H' m v := VR.mono e.sz e.ag (r.text e) m v x
theorem Rl.vrs (r : Rl K Z f h H) (e : Ext f h.size H f' N' H') {l : List MV} {vs : List V} (x : VRs K f h.size H l vs) : VRs K f' N' H' l vs := VRs.mono e.sz e.ag (r.text e) l vs x

/-- lists of values -/
theorem VRs.length : ∀ {l : List MV} {vs : List V}, VRs K f N H l vs → l.length = vs.length
  | [], vs, h => by unfold VRs at h; rw [h]; rfl
  | x :: xs, vs, h => by
    unfold VRs at h
    obtain ⟨y, ys, rfl, _, r⟩ := h
    rw [List.length_cons, List.length_cons, VRs.length r]
theorem VRs.get : ∀ {l : List MV} {vs : List V} {i : Nat} {x : MV}, VRs K f N H l vs → l[i]? = some x → ∃ v, vs[i]? = some v ∧ VR K f N H x v
  | [], _, _, _, _, e => by simp at e
  | y :: ys, vs, 0, x, h, e => by
    unfold VRs at h
    obtain ⟨v, ws, rfl, r, _⟩ := h
    have e' : y = x := Option.some.inj e
    exact ⟨v, rfl, e' ▸ r⟩
  | y :: ys, vs, i + 1, x, h, e => by
    unfold VRs at h
    obtain ⟨v, ws, rfl, _, r⟩ := h
    exact VRs.get (i := i) r e
theorem VRs.nil : VRs K f N H [] [] := by unfold VRs; rfl
theorem VRs.cons {x : MV} {v : V} {l : List MV} {vs : List V} (a : VR K f N H x v) (b : VRs K f N H l vs) : VRs K f N H (x :: l) (v :: vs) := by
  unfold VRs
  exact ⟨v, vs, rfl, a, b⟩
theorem VRs.append : ∀ {l : List MV} {vs : List V} {l2 : List MV} {ws : List V}, VRs K f N H l vs → VRs K f N H l2 ws → VRs K f N H (l ++ l2) (vs ++ ws)
  | [], vs, _, _, h, h2 => by unfold VRs at h; rw [h]; exact h2
  | x :: xs, vs, _, _, h, h2 => by
    unfold VRs at h
    obtain ⟨v, ws, rfl, r, t⟩ := h
    exact .cons r (VRs.append t h2)
theorem VRs.set {x : MV} {v : V} (a : VR K f N H x v) : ∀ {l : List MV} {vs : List V} (i : Nat), VRs K f N H l vs → VRs K f N H (l.set i x) (vs.set i v)
  | [], vs, _, h => by unfold VRs at h; rw [h]; exact .nil
  | y :: ys, vs, 0, h => by
    unfold VRs at h
    obtain ⟨w, ws, rfl, r, t⟩ := h
    exact .cons a t
  | y :: ys, vs, i + 1, h => by
    unfold VRs at h
    obtain ⟨w, ws, rfl, r, t⟩ := h
    exact .cons r (VRs.set a i t)
theorem VRs.drop : ∀ {l : List MV} {vs : List V} (i : Nat), VRs K f N H l vs → VRs K f N H (l.drop i) (vs.drop i)
  | l, vs, 0, h => h
  | [], vs, i + 1, h => by unfold VRs at h; rw [h]; exact .nil
  | y :: ys, vs, i + 1, h => by
    unfold VRs at h
    obtain ⟨w, ws, rfl, r, t⟩ := h
    exact VRs.drop i t
theorem VRs.take : ∀ {l : List MV} {vs : List V} (i : Nat), VRs K f N H l vs → VRs K f N H (l.take i) (vs.take i)
  | l, vs, 0, h => .nil
  | [], vs, i + 1, h => by unfold VRs at h; rw [h]; exact .nil
  | y :: ys, vs, i + 1, h => by
    unfold VRs at h
    obtain ⟨w, ws, rfl, r, t⟩ := h
    exact .cons r (VRs.take i t)
theorem VRs.nil_inv {vs : List V} (h : VRs K f N H [] vs) : vs = [] := by unfold VRs at h; exact h
theorem VRs.cons_inv {x : MV} {l : List MV} {vs : List V} (h : VRs K f N H (x :: l) vs) : ∃ v ws, vs = v :: ws ∧ VR K f N H x v ∧ VRs K f N H l ws := by unfold VRs at h; exact h

/-- an object is changed -/
theorem Ext.put {n : Nat} {u : HO} (hn : n < N) (hz : ∀ ob v, H (f n) ≠ some (.frz ob v)) : Ext f N H f N (upd H (f n) u) := ⟨Nat.le_refl _, fun _ _ => rfl, fun a o q hq => by rw [upd_ne (fun z => hq n hn z.symm)]; exact q, fun m h1 h2 => absurd h2 (by omega), fun a q => by
    by_cases z : a = f n
    · rw [z, upd_same] at q; cases q
    · rw [upd_ne z] at q; exact q, fun a o v q => by
    have hne : a ≠ f n := fun z => hz o v (by rw [← z]; exact q)
    rw [upd_ne hne]; exact q⟩
theorem Rl.put (r : Rl K Z f h H) {n : Nat} {o o' : MO} {u : HO} (e : h.get n = some o) (hu : (∀ xs, u ≠ .tup xs)) (ho : OR K Z f h.size (upd H (f n) u) (f n) o') (hk : o.unl = true := by rfl) :
    Ext f h.size H f (h.put n o').size (upd H (f n) u) ∧ Rl K Z f (h.put n o') (upd H (f n) u) := by
  have hn := MH.get_lt e
  have ex : Ext f h.size H f h.size (upd H (f n) u) := Ext.put hn (r.nofz e hk)
  rw [MH.size_put]
  refine ⟨ex, ⟨fun m x q => ?_, fun m k h1 h2 => r.inj m k (by rw [MH.size_put] at h1; exact h1) (by rw [MH.size_put] at h2; exact h2)⟩⟩
  rw [MH.size_put]
  by_cases hm : m = n
  · subst hm
    rw [MH.get_put_same e] at q
    cases q
    exact ho
  · rw [MH.get_put_ne hm] at q
    have hm' := MH.get_lt q
    have hne : f m ≠ f n := fun z => hm (r.inj m n hm' hn z)
    exact (r.ob m x q).mono (Nat.le_refl _) (fun _ _ => rfl) (r.text ex) (upd_ne hne)
/-- something that bears no name is laid or changed aside -/
theorem Ext.aside {p : Addr} {u : HO} (hp : H p = none) : Ext f N H f N (upd H p u) := ⟨Nat.le_refl _, fun _ _ => rfl, fun a o q hq => by rw [upd_ne (ne_of_none q hp)]; exact q, fun m h1 h2 => absurd h2 (by omega), fun a q => by
    by_cases z : a = p
    · rw [z]; exact hp
    · rw [upd_ne z] at q; exact q, fun a o v q => by rw [upd_ne (ne_of_none q hp)]; exact q⟩
theorem Rl.along (r : Rl K Z f h H) (e : Ext f h.size H f h.size H') (hk : ∀ n, n < h.size → H' (f n) = H (f n)) : Rl K Z f h H' :=
  ⟨fun n o q => (r.ob n o q).mono (Nat.le_refl _) (fun _ _ => rfl) (r.text e) (hk n (MH.get_lt q)), r.inj⟩
theorem Rl.aside (r : Rl K Z f h H) {p : Addr} {u : HO} (hp : H p = none) : Rl K Z f h (upd H p u) :=
  r.along (Ext.aside hp) fun n hn => upd_ne fun z => (r.named hn).2 (z ▸ hp)
/-- a new object gets the next number -/
def nxt (f : Nat → Addr) (N : Nat) (p : Addr) : Nat → Addr := fun n => if n = N then p else f n
theorem nxt_at {p : Addr} : nxt f N p N = p := if_pos rfl
theorem nxt_lt {p : Addr} {n : Nat} (hn : n < N) : nxt f N p n = f n := if_neg (Nat.ne_of_lt hn)
theorem Ext.push {p : Addr} {u : HO} (hp : H p = none) : Ext f N H (nxt f N p) (N + 1) (upd H p u) := by
  refine ⟨Nat.le_succ _, fun n hn => nxt_lt hn, fun a o q hq => by rw [upd_ne (ne_of_none q hp)]; exact q, fun m h1 h2 => ?_, fun a q => ?_, fun a o v q => by rw [upd_ne (ne_of_none q hp)]; exact q⟩
  · have : m = N := by omega
    rw [this, nxt_at]
    exact hp
  · by_cases z : a = p
    · rw [z]; exact hp
    · rw [upd_ne z] at q; exact q
theorem Rl.push (r : Rl K Z f h H) {p : Addr} {o : MO} {u : HO} (hp : H p = none) (ho : OR K Z (nxt f h.size p) (h.size + 1) (upd H p u) p o) :
    Ext f h.size H (nxt f h.size p) (h.push o).size (upd H p u) ∧ Rl K Z (nxt f h.size p) (h.push o) (upd H p u) := by
  have ex : Ext f h.size H (nxt f h.size p) (h.size + 1) (upd H p u) := Ext.push hp
  rw [MH.size_push]
  refine ⟨ex, ⟨fun n x q => ?_, fun n m h1 h2 e => ?_⟩⟩
  · have hn : n < h.size + 1 := by rw [← MH.size_push h o]; exact MH.get_lt q
    rw [MH.size_push]
    by_cases z : n = h.size
    · subst z
      rw [MH.get_push_size] at q
      cases q
      rw [nxt_at]
      exact ho
    · have hn' : n < h.size := by omega
      rw [MH.get_push_lt hn'] at q
      rw [nxt_lt hn']
      have hne : f n ≠ p := fun z => (r.named hn').2 (z ▸ hp)
      exact (r.ob n x q).mono ex.sz ex.ag (r.text ex) (upd_ne hne)
  · rw [MH.size_push] at h1 h2
    by_cases z1 : n = h.size
    · by_cases z2 : m = h.size
      · rw [z1, z2]
      · exfalso
        have hm : m < h.size := by omega
        rw [z1, nxt_at, nxt_lt hm] at e
        exact (r.named hm).2 (e ▸ hp)
    · have hn : n < h.size := by omega
      by_cases z2 : m = h.size
      · exfalso
        rw [z2, nxt_at, nxt_lt hn] at e
        exact (r.named hn).2 (e ▸ hp)
      · have hm : m < h.size := by omega
        rw [nxt_lt hn, nxt_lt hm] at e
        exact r.inj n m hn hm e
end

/-- the slots -/
def SR (K : KW) (f : Nat → Addr) (N : Nat) (H : Hp) (ms : En) (σ : L2.St) : Prop := ms.length = σ.length ∧ ∀ (i : Nat) (v : MV), ms[i]? = some (some v) → ∃ x, σ[i]? = some (some x) ∧ VR K f N H v x
section
variable {K : KW} {Z : Env1} {f f' : Nat → Addr} {N N' : Nat} {H H' : Hp} {h h' : MH} {ms : En} {σ : L2.St}
theorem Rl.sr (r : Rl K Z f h H) (e : Ext f h.size H f' N' H') (x : SR K f h.size H ms σ) : SR K f' N' H' ms σ := ⟨x.1, fun i v q => let ⟨y, a, b⟩ := x.2 i v q; ⟨y, a, r.vr e b⟩⟩
theorem SR.set (x : SR K f N H ms σ) {v : MV} {y : V} (r : VR K f N H v y) (i : Nat) : SR K f N H (ms.set i (some v)) (σ.set i (some y)) := by
  refine ⟨by rw [List.length_set, List.length_set]; exact x.1, fun j w q => ?_⟩
  by_cases hj : j = i
  · subst hj
    have hl : j < ms.length := by
      have := (List.getElem?_eq_some_iff.mp q).1
      rwa [List.length_set] at this
    rw [List.getElem?_set_self hl] at q
    have e : v = w := Option.some.inj (Option.some.inj q)
    exact ⟨y, List.getElem?_set_self (x.1 ▸ hl), e ▸ r⟩
  · rw [List.getElem?_set_ne (fun z => hj z.symm)] at q
    obtain ⟨z, a, b⟩ := x.2 j w q
    exact ⟨z, by rw [List.getElem?_set_ne (fun z => hj z.symm)]; exact a, b⟩
theorem SR.wipe1 (x : SR K f N H ms σ) (i : Nat) : SR K f N H (ms.set i none) (σ.set i none) := by
  refine ⟨by rw [List.length_set, List.length_set]; exact x.1, fun j w q => ?_⟩
  by_cases hj : j = i
  · subst hj
    have hl : j < ms.length := by
      have := (List.getElem?_eq_some_iff.mp q).1
      rwa [List.length_set] at this
    rw [List.getElem?_set_self hl] at q
    cases q
  · rw [List.getElem?_set_ne (fun z => hj z.symm)] at q
    obtain ⟨z, a, b⟩ := x.2 j w q
    exact ⟨z, by rw [List.getElem?_set_ne (fun z => hj z.symm)]; exact a, b⟩
end

/-! ### a run of the interpreter, as a wish -/
/-- how an exception of the model stands for one of the layer's; cn: the class of number c, fn: its attribute's name -/
def XR (K : KW) (xc : Nat → Value) (xf : Nat → Str) (f : Nat → Addr) (N : Nat) (H : Hp) (c : Nat) (l : List MV) (cls : Value) (d : Option Addr) : Prop :=
  cls = xc c ∧ match l with
    | [] => d = none
    | [m] => ∃ dd v, d = some dd ∧ H dd = some (.xd [(xf c, v)]) ∧ VR K f N H m v
    | _ => False
structure Ctx where
  K : KW
  Z : Env1
  xc : Nat → Value
  xf : Nat → Str
abbrev Wish := Value → Option Addr → L2.St → Hp → Prop
/-- what the run r from (f, h, H) comes to is wished -/
def G (Y : Ctx) (W : Wish) (σ : L2.St) (f : Nat → Addr) (h : MH) (H : Hp) {α : Type} (r : R α) (T : α → (Nat → Addr) → MH → Hp → Prop) : Prop := match r with
  | .ok a h' => ∀ f' H', Ext f h.size H f' h'.size H' → Rl Y.K Y.Z f' h' H' → T a f' h' H'
  | .ex c l h' => ∀ f' H' cls d, Ext f h.size H f' h'.size H' → Rl Y.K Y.Z f' h' H' → XR Y.K Y.xc Y.xf f' h'.size H' c l cls d → W cls d σ H'
  | .stk => False
section
variable {Y : Ctx} {W : Wish} {σ : L2.St} {f : Nat → Addr} {h : MH} {H : Hp}
theorem G.bind {α β : Type} {r : R α} {k : α → MH → R β} {T : β → (Nat → Addr) → MH → Hp → Prop} (g : G Y W σ f h H (r.bind k) T) :
    G Y W σ f h H r (fun a f1 h1 H1 => G Y W σ f1 h1 H1 (k a h1) T) := by
  cases r with
  | ok a h1 =>
    intro f1 H1 e1 r1
    have g' : G Y W σ f h H (k a h1) T := g
    cases hk : k a h1 with
    | ok b h2 =>
      rw [hk] at g'
      exact fun f2 H2 e2 r2 => g' f2 H2 (e1.trans e2) r2
    | ex c l h2 =>
      rw [hk] at g'
      exact fun f2 H2 cls d e2 r2 x => g' f2 H2 cls d (e1.trans e2) r2 x
    | stk =>
      rw [hk] at g'
      exact g'
  | ex c l h1 => exact g
  | stk => exact g
theorem G.mono {α : Type} {r : R α} {T T' : α → (Nat → Addr) → MH → Hp → Prop} (g : G Y W σ f h H r T) (k : ∀ a h' f' H', r = .ok a h' → Ext f h.size H f' h'.size H' → Rl Y.K Y.Z f' h' H' → T a f' h' H' → T' a f' h' H') : G Y W σ f h H r T' := by
  cases r with
  | ok a h1 => exact fun f1 H1 e1 r1 => k a h1 f1 H1 rfl e1 r1 (g f1 H1 e1 r1)
  | ex c l h1 => exact g
  | stk => exact g
theorem G.ok {α : Type} {a : α} {T : α → (Nat → Addr) → MH → Hp → Prop} (r : Rl Y.K Y.Z f h H) (g : G Y W σ f h H (.ok a h) T) : T a f h H := g f H (Ext.refl _ _ _) r
end
/-- an expression's reading by its run -/
def rdE (Y : Ctx) (W : Wish) (m : En → MH → R MV) : TE := fun σ H Q => ∃ f ms h, Rl Y.K Y.Z f h H ∧ SR Y.K f h.size H ms σ ∧ G Y W σ f h H (m ms h) fun v f' h' H' => ∀ x, VR Y.K f' h'.size H' v x → Q x H'
def rdT (Y : Ctx) (W : Wish) (m : En → MH → R Bool) : TT := fun σ H Q => ∃ f ms h, Rl Y.K Y.Z f h H ∧ SR Y.K f h.size H ms σ ∧ G Y W σ f h H (m ms h) fun b _ _ H' => Q b H'
def rdA (Y : Ctx) (W : Wish) (m : En → MH → R (List MV)) : TA := fun σ H Q => ∃ f ms h, Rl Y.K Y.Z f h H ∧ SR Y.K f h.size H ms σ ∧ G Y W σ f h H (m ms h) fun l f' h' H' => ∀ xs, VRs Y.K f' h'.size H' l xs → Q xs H'
theorem _root_.L2.PE.conv {X : Cx} {e : Expr} {t t' : TE} (p : PE X e t) (k : ∀ σ H Q, t' σ H Q → t σ H Q) : PE X e t' := ⟨fun pins s σ H Q I q => p.run pins s σ H Q I (k σ H Q q)⟩
theorem _root_.L2.PT.conv {X : Cx} {e : Expr} {t t' : TT} (p : PT X e t) (k : ∀ σ H Q, t' σ H Q → t σ H Q) : PT X e t' := ⟨fun pins s σ H Q I q => p.run pins s σ H Q I (k σ H Q q)⟩
theorem _root_.L2.PA.conv {X : Cx} {es : List Expr} {t t' : TA} (p : PA X es t) (k : ∀ σ H Q, t' σ H Q → t σ H Q) : PA X es t' := ⟨fun pos pins s σ H Q I q => p.run pos pins s σ H Q I (k σ H Q q)⟩
theorem _root_.L2.PS.conv {X : Cx} {st : Stmt} {t t' : TS} (p : PS X st t) (k : ∀ D σ H, t' D σ H → t D σ H) : PS X st t' := ⟨fun pins s σ H D I q => p.run pins s σ H D I (k D σ H q)⟩
theorem _root_.L2.PSs.conv {X : Cx} {st : List Stmt} {t t' : TS} (p : PSs X st t) (k : ∀ D σ H, t' D σ H → t D σ H) : PSs X st t' := ⟨fun pins s σ H D I q => p.run pins s σ H D I (k D σ H q)⟩
end DM
set_option Elab.async false
set_option linter.all false
set_option maxRecDepth 100000
set_option maxHeartbeats 4000000
/-! S2: operations on values. -/
namespace DM
open PySem L2 PyProof.Rows

theorem LIM_eq : LIM = sizeLine := by rw [sizeLine_eq]; rfl

/-! ### data -/
mutual
def toPy : PD → PyData
  | .non => .none
  | .bl b => .bool b
  | .int i => .int i
  | .str s => .str ⟨s.toArray⟩
  | .tup l => .tuple (toPys l)
  | .lst l => .list (toPys l)
  | .dct l => .dict (toPyd l)
def toPys : List PD → List PyData
  | [] => []
  | x :: xs => toPy x :: toPys xs
def toPyd : List (PD × PD) → List (PyData × PyData)
  | [] => []
  | (a, b) :: r => (toPy a, toPy b) :: toPyd r
end
mutual
/-- flat enough, without dicts, texts of signs -/
def pdOk : Nat → PD → Prop
  | _, .non => True
  | _, .bl _ => True
  | _, .int _ => True
  | _, .str s => TxOk s
  | 0, .tup _ => False
  | 0, .lst _ => False
  | n + 1, .tup l => pdOks n l
  | n + 1, .lst l => pdOks n l
  | _, .dct _ => False
def pdOks : Nat → List PD → Prop
  | _, [] => True
  | n, x :: xs => pdOk n x ∧ pdOks n xs
end
mutual
theorem eqv_toPy : ∀ (a b : PD), PyData.eqv (toPy a) (toPy b) = eqP a b
  | .non, b => by cases b <;> simp [toPy, PyData.eqv, eqP]
  | .bl _, b => by cases b <;> simp [toPy, PyData.eqv, eqP]
  | .int _, b => by cases b <;> simp [toPy, PyData.eqv, eqP]
  | .str s, b => by
    cases b <;> simp [toPy, PyData.eqv, eqP]
    rename_i t
    rw [Bool.eq_iff_iff]
    simp
  | .tup l, b => by
    cases b <;> simp [toPy, PyData.eqv, eqP]
    exact eqv_toPys _ _
  | .lst l, b => by
    cases b <;> simp [toPy, PyData.eqv, eqP]
    exact eqv_toPys _ _
  | .dct l, b => by cases b <;> simp [toPy, PyData.eqv, eqP]
theorem eqv_toPys : ∀ (a b : List PD), PyData.eqvAll (toPys a) (toPys b) = eqPs a b
  | [], [] => by simp [toPys, PyData.eqvAll, eqPs]
  | [], _ :: _ => by simp [toPys, PyData.eqvAll, eqPs]
  | _ :: _, [] => by simp [toPys, PyData.eqvAll, eqPs]
  | x :: xs, y :: ys => by simp [toPys, PyData.eqvAll, eqPs, eqv_toPy x y, eqv_toPys xs ys]
end
theorem strOk_of {s : Tx} (h : TxOk s) : PyData.strOk ⟨s.toArray⟩ = true := by
  unfold PyData.strOk
  simp
  exact fun i hi => h.2 i hi
mutual
theorem lay_of : ∀ (n : Nat) (d : PD), pdOk n d → (toPy d).canLay0 = true ∧ (toPy d).depth ≤ n
  | n, .non, _ => by simp [toPy, PyData.canLay0, PyData.depth]
  | n, .bl _, _ => by simp [toPy, PyData.canLay0, PyData.depth]
  | n, .int _, _ => by simp [toPy, PyData.canLay0, PyData.depth]
  | n, .str s, h => by
    have h' : TxOk s := by unfold pdOk at h; exact h
    exact ⟨by simp only [toPy, PyData.canLay0]; exact strOk_of h', by simp [toPy, PyData.depth]⟩
  | 0, .tup _, h => by unfold pdOk at h; exact h.elim
  | 0, .lst _, h => by unfold pdOk at h; exact h.elim
  | n + 1, .tup l, h => by
    unfold pdOk at h
    obtain ⟨a, b⟩ := lays_of n l h
    exact ⟨by simp only [toPy, PyData.canLay0]; exact a, by simp only [toPy, PyData.depth]; omega⟩
  | n + 1, .lst l, h => by
    unfold pdOk at h
    obtain ⟨a, b⟩ := lays_of n l h
    exact ⟨by simp only [toPy, PyData.canLay0]; exact a, by simp only [toPy, PyData.depth]; omega⟩
  | n, .dct l, h => by unfold pdOk at h; exact h.elim
theorem lays_of : ∀ (n : Nat) (l : List PD), pdOks n l → PyData.canLayAll0 (toPys l) = true ∧ PyData.depthAll (toPys l) ≤ n
  | n, [], _ => by simp [toPys, PyData.canLayAll0, PyData.depthAll]
  | n, x :: xs, h => by
    unfold pdOks at h
    obtain ⟨a, b⟩ := lay_of n x h.1
    obtain ⟨c, d⟩ := lays_of n xs h.2
    refine ⟨by simp only [toPys, PyData.canLayAll0, a, c, Bool.and_self], ?_⟩
    simp only [toPys, PyData.depthAll]
    omega
end
theorem shaped_of {n : Nat} {d : PD} (h : pdOk n d) (hn : n ≤ 64) : SeqAt.shaped (toPy d) = true := by
  obtain ⟨a, b⟩ := lay_of n d h
  unfold SeqAt.shaped
  rw [a, decide_eq_true (by omega)]
  rfl

section
variable {K : KW} {Z : Env1} {f : Nat → Addr} {h : MH} {H : Hp}
theorem datL_dp {n : Nat} (hd : ∀ (m : MV) (d : PD) (x : V), dat n h m = some d → VR K f h.size H m x → Dp K H x (toPy d) ∧ pdOk n d) :
    ∀ (l : List MV) (ds : List PD) (xs : List V), l.mapM (dat n h) = some ds → VRs K f h.size H l xs → DpAll K H xs (toPys ds) ∧ pdOks n ds
  | [], ds, xs, e, r => by
    rw [List.mapM_nil] at e
    cases e
    rw [r.nil_inv]
    exact ⟨by unfold toPys; exact .nil, by unfold pdOks; trivial⟩
  | m :: ms, ds, xs, e, r => by
    obtain ⟨v, ws, rfl, r1, r2⟩ := r.cons_inv
    rw [List.mapM_cons] at e
    cases e1 : dat n h m with
    | none => rw [e1] at e; cases e
    | some d =>
      rw [e1] at e
      cases e2 : ms.mapM (dat n h) with
      | none => rw [e2] at e; cases e
      | some ds' =>
        rw [e2] at e
        have e' : d :: ds' = ds := Option.some.inj e
        subst e'
        obtain ⟨a, b⟩ := hd m d v e1 r1
        obtain ⟨c, g⟩ := datL_dp hd ms ds' ws e2 r2
        exact ⟨by unfold toPys; exact .cons a c, by unfold pdOks; exact ⟨b, g⟩⟩
theorem dat_dp (r : Rl K Z f h H) : ∀ (n : Nat) (m : MV) (d : PD) (x : V), dat n h m = some d → VR K f h.size H m x → Dp K H x (toPy d) ∧ pdOk n d
  | n, .non, d, x, e, q => by
    unfold VR at q
    subst q
    have : PD.non = d := by cases n <;> (simp only [dat] at e; exact Option.some.inj e)
    subst this
    exact ⟨by unfold toPy; exact .non, by cases n <;> (unfold pdOk; trivial)⟩
  | n, .bl b, d, x, e, q => by
    unfold VR at q
    subst q
    have : PD.bl b = d := by cases n <;> (simp only [dat] at e; exact Option.some.inj e)
    subst this
    exact ⟨by unfold toPy; exact .bl b, by cases n <;> (unfold pdOk; trivial)⟩
  | n, .int b, d, x, e, q => by
    unfold VR at q
    subst q
    have : PD.int b = d := by cases n <;> (simp only [dat] at e; exact Option.some.inj e)
    subst this
    exact ⟨by unfold toPy; exact .int b, by cases n <;> (unfold pdOk; trivial)⟩
  | n, .str b, d, x, e, q => by
    unfold VR at q
    obtain ⟨q, hb⟩ := q
    subst q
    have : PD.str b = d := by cases n <;> (simp only [dat] at e; exact Option.some.inj e)
    subst this
    exact ⟨by unfold toPy; exact .str _, by cases n <;> (unfold pdOk; exact hb)⟩
  | 0, .tup l, d, x, e, q => by simp [dat] at e
  | 0, .kl l, d, x, e, q => by simp [dat] at e
  | 0, .ref k, d, x, e, q => by simp [dat] at e
  | n + 1, .tup l, d, x, e, q => by
    unfold VR at q
    obtain ⟨a, vs, rfl, s, t⟩ := q
    simp only [dat] at e
    cases e1 : l.mapM (dat n h) with
    | none => rw [e1] at e; cases e
    | some ds =>
      rw [e1] at e
      have e' : PD.tup ds = d := Option.some.inj e
      subst e'
      obtain ⟨c, g⟩ := datL_dp (dat_dp r n) l ds vs e1 t
      exact ⟨by unfold toPy; exact .tup s c, by unfold pdOk; exact g⟩
  | n + 1, .kl l, d, x, e, q => by
    unfold VR at q
    obtain ⟨a, vs, rfl, s, t⟩ := q
    simp only [dat] at e
    cases e1 : l.mapM (dat n h) with
    | none => rw [e1] at e; cases e
    | some ds =>
      rw [e1] at e
      have e' : PD.lst ds = d := Option.some.inj e
      subst e'
      obtain ⟨c, g⟩ := datL_dp (dat_dp r n) l ds vs e1 t
      exact ⟨by unfold toPy; exact .lst s.sq c, by unfold pdOk; exact g⟩
  | n + 1, .ref k, d, x, e, q => by
    unfold VR at q
    obtain ⟨hk, rfl⟩ := q
    simp only [dat] at e
    cases e0 : h.get k with
    | none => rw [e0] at e; cases e
    | some o =>
      rw [e0] at e
      have ho := r.ob k o e0
      cases o with
      | lst l =>
        obtain ⟨vs, e2, t⟩ := ho
        cases e1 : l.mapM (dat n h) with
        | none => simp only [e1] at e; cases e
        | some ds =>
          simp only [e1] at e
          have e' : PD.lst ds = d := Option.some.inj e
          subst e'
          obtain ⟨c, g⟩ := datL_dp (dat_dp r n) l ds vs e1 t
          exact ⟨by unfold toPy; exact .lst (SqL.of e2) c, by unfold pdOk; exact g⟩
      | ins c fs => cases e
      | dct t lk l => cases e
      | set l => exact ho.elim
  | n, .kd l, d, x, e, q => by cases n <;> simp [dat] at e
  | n, .fn l, d, x, e, q => by cases n <;> simp [dat] at e
  | n, .exc c l, d, x, e, q => by unfold VR at q; exact q.elim
end

/-! ### operations -/
/-- what a pure operation comes to -/
def GP (Y : Ctx) (f : Nat → Addr) (h : MH) (H : Hp) {α : Type} (r : R α) (T : α → (Nat → Addr) → MH → Hp → Prop) : Prop := ∃ W σ, G Y W σ f h H r T
theorem GP.elim {Y : Ctx} {f : Nat → Addr} {h : MH} {H : Hp} {α : Type} {T : α → (Nat → Addr) → MH → Hp → Prop} {P : Prop} (g : GP Y f h H (.stk : R α) T) : P := by
  obtain ⟨W, σ, g⟩ := g
  exact g.elim
theorem GP.app {Y : Ctx} {f f' : Nat → Addr} {h h' : MH} {H H' : Hp} {α : Type} {a : α} {T : α → (Nat → Addr) → MH → Hp → Prop} (g : GP Y f h H (.ok a h') T) (e : Ext f h.size H f' h'.size H') (r : Rl Y.K Y.Z f' h' H') : T a f' h' H' := by
  obtain ⟨W, σ, g⟩ := g
  exact g f' H' e r
def rB (Y : Ctx) (k : MV → MV → MH → R MV) : R2 := fun x y H Q => ∃ f h a b, Rl Y.K Y.Z f h H ∧ VR Y.K f h.size H a x ∧ VR Y.K f h.size H b y ∧ GP Y f h H (k a b h) fun v f' h' H' => ∀ z, VR Y.K f' h'.size H' v z → Q z H'
theorem GP.here {Y : Ctx} {f : Nat → Addr} {h : MH} {H : Hp} {α : Type} {a : α} {T : α → (Nat → Addr) → MH → Hp → Prop} (r : Rl Y.K Y.Z f h H) (g : GP Y f h H (.ok a h) T) : T a f h H := g.app (Ext.refl _ _ _) r

section
variable {Y : Ctx} {f : Nat → Addr} {N : Nat} {h : MH} {H : Hp}
theorem VR.int_inv {K : KW} {i : Int} {x : V} (r : VR K f N H (.int i) x) : x = .int i := by unfold VR at r; exact r
theorem VR.bl_inv {K : KW} {i : Bool} {x : V} (r : VR K f N H (.bl i) x) : x = .bl i := by unfold VR at r; exact r
theorem VR.non_inv {K : KW} {x : V} (r : VR K f N H .non x) : x = .non := by unfold VR at r; exact r
theorem VR.str_inv {K : KW} {s : Tx} {x : V} (r : VR K f N H (.str s) x) : x = .str ⟨s.toArray⟩ ∧ TxOk s := by unfold VR at r; exact r
theorem VR.tup_inv {K : KW} {l : List MV} {x : V} (r : VR K f N H (.tup l) x) : ∃ a vs, x = .ref a ∧ SqT K H a vs ∧ VRs K f N H l vs := by unfold VR at r; exact r
theorem VR.kl_inv {K : KW} {l : List MV} {x : V} (r : VR K f N H (.kl l) x) : ∃ a vs, x = .ref a ∧ KLs K H a vs ∧ VRs K f N H l vs := by unfold VR at r; exact r
theorem VR.ref_inv {K : KW} {n : Nat} {x : V} (r : VR K f N H (.ref n) x) : n < N ∧ x = .ref (f n) := by unfold VR at r; exact r
theorem VR.int {K : KW} {i : Int} : VR K f N H (.int i) (.int i) := by unfold VR; rfl
theorem VR.bl {K : KW} {i : Bool} : VR K f N H (.bl i) (.bl i) := by unfold VR; rfl
theorem VR.non {K : KW} : VR K f N H .non .non := by unfold VR; rfl
theorem VR.str {K : KW} {s : Tx} (t : TxOk s) : VR K f N H (.str s) (.str ⟨s.toArray⟩) := by unfold VR; exact ⟨rfl, t⟩
theorem VR.tup {K : KW} {l : List MV} {a : Addr} {vs : List V} (s : SqT K H a vs) (t : VRs K f N H l vs) : VR K f N H (.tup l) (.ref a) := by unfold VR; exact ⟨a, vs, rfl, s, t⟩
theorem VR.ref {K : KW} {n : Nat} (hn : n < N) : VR K f N H (.ref n) (.ref (f n)) := by unfold VR; exact ⟨hn, rfl⟩
theorem small_of {i : Int} (q : small i = true) : -(2 ^ 64) < i ∧ i < 2 ^ 64 := by
  have := of_decide_eq_true q
  omega

theorem str_app (a b : Tx) : ((⟨a.toArray⟩ : Str) ++ (⟨b.toArray⟩ : Str)) = ⟨(a ++ b).toArray⟩ := by
  show (⟨a.toArray ++ b.toArray⟩ : Str) = _
  simp
theorem TxOk.app {a b : Tx} (ha : TxOk a) (hb : TxOk b) (hl : a.length + b.length ≤ LIM) : TxOk (a ++ b) := ⟨by rw [List.length_append, ← LIM_eq]; exact hl, fun c hc => (List.mem_append.mp hc).elim (ha.2 c) (hb.2 c)⟩
/-- a new list, a new tuple -/
theorem GP.newList {l : List MV} {T : MV → (Nat → Addr) → MH → Hp → Prop} (r : Rl Y.K Y.Z f h H) (g : GP Y f h H (newList h l) T) {vs : List V} (rv : VRs Y.K f h.size H l vs) {p : Addr} (hp : H p = none) :
    vs.length ≤ sizeLine ∧ ∃ f', T (.ref h.size) f' (h.push (.lst l)) (upd H p (.lst vs)) ∧ f' h.size = p := by
  unfold DM.newList at g
  by_cases hl : l.length ≤ LIM
  · rw [if_pos hl] at g
    have hv : vs.length ≤ sizeLine := by rw [← rv.length, ← LIM_eq]; exact hl
    have ex0 : Ext f h.size H (nxt f h.size p) (h.size + 1) (upd H p (.lst vs)) := Ext.push hp
    obtain ⟨ex, rl⟩ := r.push (o := .lst l) (u := .lst vs) hp ⟨vs, upd_same, VRs.mono ex0.sz ex0.ag (r.text ex0) _ _ rv⟩
    exact ⟨hv, _, g.app ex rl, nxt_at⟩
  · rw [if_neg hl] at g
    exact g.elim

def bo : BOp → Operator
  | .add => .Add | .sub => .Sub | .mul => .Mult | .mod => .Mod | .fdiv => .FloorDiv | .pow => .Pow
variable {X : Cx}
theorem op_bin (hK : X.K = Y.K) (op : BOp) : OpR X (binaryOp (bo op)) (rB Y (binM op)) := by
  intro pins s σ H x y v u Q I rx ry ⟨f, h, a, b, r, ra, rb, g⟩
  unfold binM at g
  split at g
  · cases ra.int_inv; cases rb.int_inv
    exact op_add pins s σ H _ _ v u Q I rx ry ⟨_, _, rfl, rfl, g.here r _ .int⟩
  · rename_i a b
    obtain ⟨rfl, ta⟩ := ra.str_inv
    obtain ⟨rfl, tb⟩ := rb.str_inv
    by_cases hl : a.length + b.length ≤ LIM
    · rw [if_pos hl] at g
      refine op_add_str pins s σ H _ _ v u Q I rx ry ⟨_, _, rfl, rfl, ?_, ?_⟩
      · rw [← LIM_eq]; exact hl
      · rw [str_app]
        exact g.here r _ (.str (ta.app tb hl))
    · rw [if_neg hl] at g
      exact g.elim
  · rename_i a b
    obtain ⟨p, xs, rfl, sa, ta⟩ := ra.tup_inv
    obtain ⟨q, ys, rfl, sb, tb⟩ := rb.tup_inv
    by_cases hl : a.length + b.length ≤ LIM
    · rw [if_pos hl] at g
      have l1 := ta.length
      have l2 := tb.length
      refine op_catA pins s σ H _ _ v u Q I rx ry ⟨p, q, xs, ys, rfl, rfl, hK ▸ sa, hK ▸ sb, ?_, fun e => ?_, fun _ e => ?_, fun _ e z hz => ?_⟩
      · rw [← l1, ← l2, ← LIM_eq]; exact hl
      · subst e
        have e2 : a = [] := List.length_eq_zero_iff.mp l1
        subst e2
        rw [List.nil_append] at g
        exact g.here r _ (.tup sb tb)
      · subst e
        have e2 : b = [] := List.length_eq_zero_iff.mp l2
        subst e2
        rw [List.append_nil] at g
        exact g.here r _ (.tup sa ta)
      · have e1 : Ext f h.size H f h.size (upd H z (.tup (xs ++ ys))) := Ext.aside hz
        have r1 := r.aside (u := .tup (xs ++ ys)) hz
        exact g.app e1 r1 _ (.tup (SqT.of upd_same) ((r.vrs e1 ta).append (r.vrs e1 tb)))
    · rw [if_neg hl] at g
      exact g.elim
  · rename_i m n
    obtain ⟨hm, rfl⟩ := ra.ref_inv
    obtain ⟨hn, rfl⟩ := rb.ref_inv
    split at g
    · rename_i a b em en
      obtain ⟨xs, ea, ta⟩ := r.ob _ _ em
      obtain ⟨ys, eb, tb⟩ := r.ob _ _ en
      refine op_cat pins s σ H _ _ v u Q I rx ry ⟨f m, f n, xs, ys, rfl, rfl, ea, eb, ?_, fun p hp => ?_⟩
      · have := (GP.newList r g (ta.append tb) (p := s.heap.objs.size) I.fresh).1
        rwa [List.length_append] at this
      · obtain ⟨_, f', t, e⟩ := GP.newList r g (ta.append tb) hp
        refine t _ ?_
        rw [← e]
        exact .ref (by rw [MH.size_push]; omega)
    · exact g.elim
  · cases ra.int_inv; cases rb.int_inv
    exact op_sub pins s σ H _ _ v u Q I rx ry ⟨_, _, rfl, rfl, g.here r _ .int⟩
  · cases ra.int_inv; cases rb.int_inv
    rename_i i j
    by_cases hl : (small i || small j) = true
    · rw [if_pos hl] at g
      refine op_mul pins s σ H _ _ v u Q I rx ry ⟨_, _, rfl, rfl, ?_, g.here r _ .int⟩
      rcases Bool.or_eq_true_iff.mp hl with q | q
      · exact .inl (small_of q)
      · exact .inr (small_of q)
    · rw [if_neg hl] at g
      exact g.elim
  · cases ra.int_inv; cases rb.int_inv
    rename_i i j
    by_cases hl : 0 < j
    · rw [if_pos hl] at g
      exact op_mod pins s σ H _ _ v u Q I rx ry ⟨_, _, rfl, rfl, hl, g.here r _ .int⟩
    · rw [if_neg hl] at g
      exact g.elim
  · cases ra.int_inv; cases rb.int_inv
    rename_i i j
    by_cases hl : 0 < j ∧ j < 1073741824
    · rw [if_pos hl] at g
      exact op_fdiv pins s σ H _ _ v u Q I rx ry ⟨_, _, rfl, rfl, hl, g.here r _ .int⟩
    · rw [if_neg hl] at g
      exact g.elim
  · cases ra.int_inv; cases rb.int_inv
    rename_i i j
    by_cases hl : 0 ≤ j ∧ j ≤ 1000000 ∧ small i
    · rw [if_pos hl] at g
      refine op_pow pins s σ H _ _ v u Q I rx ry ⟨_, _, rfl, rfl, ⟨hl.1, hl.2.1, ?_⟩, g.here r _ .int⟩
      have := small_of hl.2.2
      omega
    · rw [if_neg hl] at g
      exact g.elim
  · exact g.elim
end
end DM
set_option Elab.async false
set_option linter.all false
set_option maxRecDepth 100000
set_option maxHeartbeats 4000000
/-! S3: further operations on values. -/
namespace DM
open PySem L2 PyProof.Rows
section
variable {Y : Ctx} {f : Nat → Addr} {N : Nat} {h : MH} {H : Hp} {X : Cx}
theorem bR_inv {o : Option Bool} {T : MV → (Nat → Addr) → MH → Hp → Prop} (r : Rl Y.K Y.Z f h H) (g : GP Y f h H (bR o h) T) : ∃ b, o = some b ∧ T (.bl b) f h H := by
  cases o with
  | none => exact g.elim
  | some b => exact ⟨b, rfl, GP.here r g⟩
theorem eqM_inv {a b : MV} {x y : V} {c : Bool} (r : Rl Y.K Y.Z f h H) (ra : VR Y.K f h.size H a x) (rb : VR Y.K f h.size H b y) (e : eqM h a b = some c) :
    ∃ d1 d2, Dp Y.K H x d1 ∧ Dp Y.K H y d2 ∧ SeqAt.shaped d1 = true ∧ SeqAt.shaped d2 = true ∧ PyData.eqv d1 d2 = c := by
  unfold eqM at e
  cases e1 : dat DEP h a with
  | none => rw [e1] at e; cases e
  | some d1 =>
    rw [e1] at e
    cases e2 : dat DEP h b with
    | none => rw [e2] at e; cases e
    | some d2 =>
      rw [e2] at e
      obtain ⟨p1, o1⟩ := dat_dp r _ _ _ _ e1 ra
      obtain ⟨p2, o2⟩ := dat_dp r _ _ _ _ e2 rb
      refine ⟨_, _, p1, p2, shaped_of o1 (by decide), shaped_of o2 (by decide), ?_⟩
      rw [eqv_toPy]
      exact Option.some.inj e
/-! ### what a dict holds -/
theorem keyA_eq {a b : MV} {x y : Key} (ha : KR a x) (hb : KR b y) : eqK a b = decide (x = y) := by
  cases a <;> first | exact ha.elim | skip
  all_goals cases b <;> first | exact hb.elim | skip
  · obtain rfl : x = _ := ha
    obtain rfl : y = _ := hb
    simp [eqK]
  · obtain rfl : x = _ := ha
    obtain ⟨rfl, _⟩ := hb
    simp [eqK]
  · obtain ⟨rfl, _⟩ := ha
    obtain rfl : y = _ := hb
    simp [eqK]
  · obtain ⟨rfl, _⟩ := ha
    obtain ⟨rfl, _⟩ := hb
    simp [eqK]
/-- found, or not -/
def RO (K : KW) (f : Nat → Addr) (N : Nat) (H : Hp) : Option MV → Option V → Prop
  | some m, some v => VR K f N H m v
  | none, none => True
  | _, _ => False
theorem DKr.look {K : KW} {k : MV} {y : Key} (hk : KR k y) : ∀ {l : List (MV × MV)} {kvs : List (Key × V)}, DKr K f N H l kvs → RO K f N H (lookK k l) (valV kvs y)
  | [], kvs, e => by
    obtain rfl : kvs = [] := e
    exact True.intro
  | (a, m) :: r, kvs, ⟨x, v, ys, e, c, rv, b⟩ => by
    subst e
    unfold lookK
    have q := keyA_eq c hk
    by_cases hx : x = y
    · rw [q, if_pos (decide_eq_true hx), valV_pos (p := (x, v)) hx]
      exact rv
    · rw [q, if_neg (by simpa using hx), valV_neg (p := (x, v)) hx]
      exact DKr.look hk b
theorem DKr.len {K : KW} : ∀ {l : List (MV × MV)} {kvs : List (Key × V)}, DKr K f N H l kvs → l.length = kvs.length
  | [], kvs, e => by
    obtain rfl : kvs = [] := e
    rfl
  | _ :: r, kvs, ⟨x, v, ys, e, c, rv, b⟩ => by
    subst e
    rw [List.length_cons, List.length_cons, DKr.len b]
theorem DKr.has {K : KW} {k : MV} {y : Key} (hk : KR k y) : ∀ {l : List (MV × MV)} {kvs : List (Key × V)}, DKr K f N H l kvs → hasK k l = kvs.any fun kv => decide (kv.1 = y)
  | [], kvs, e => by
    obtain rfl : kvs = [] := e
    rfl
  | (a, m) :: r, kvs, ⟨x, v, ys, e, c, rv, b⟩ => by
    subst e
    rw [List.any_cons, ← DKr.has hk b, ← keyA_eq c hk]
    rfl
theorem DKr.rpl {K : KW} {k m : MV} {y : Key} {v : V} (hk : KR k y) (rm : VR K f N H m v) : ∀ {l : List (MV × MV)} {kvs : List (Key × V)}, DKr K f N H l kvs → DKr K f N H (l.map fun p => if eqK p.1 k then (p.1, m) else p) (kvs.map fun kv => if kv.1 = y then (kv.1, v) else kv)
  | [], kvs, e => by
    obtain rfl : kvs = [] := e
    rfl
  | (a, n) :: r, kvs, ⟨x, u, ys, e, c, rv, b⟩ => by
    subst e
    rw [List.map_cons, List.map_cons]
    have q := keyA_eq c hk
    by_cases hx : x = y
    · rw [if_pos (show eqK (a, n).1 k = true from by rw [q, decide_eq_true hx]), if_pos hx]
      exact ⟨x, v, _, rfl, c, rm, DKr.rpl hk rm b⟩
    · rw [if_neg (show ¬ eqK (a, n).1 k = true from by rw [q, decide_eq_false hx]; exact Bool.false_ne_true), if_neg hx]
      exact ⟨x, u, _, rfl, c, rv, DKr.rpl hk rm b⟩
theorem DKr.snoc {K : KW} {k m : MV} {y : Key} {v : V} (hk : KR k y) (rm : VR K f N H m v) : ∀ {l : List (MV × MV)} {kvs : List (Key × V)}, DKr K f N H l kvs → DKr K f N H (l ++ [(k, m)]) (kvs ++ [(y, v)])
  | [], kvs, e => by
    obtain rfl : kvs = [] := e
    exact ⟨y, v, [], rfl, hk, rm, rfl⟩
  | (a, n) :: r, kvs, ⟨x, u, ys, e, c, rv, b⟩ => by
    subst e
    exact ⟨x, u, _, rfl, c, rv, DKr.snoc hk rm b⟩
theorem DKr.put {K : KW} {k m : MV} {y : Key} {v : V} {l : List (MV × MV)} {kvs : List (Key × V)} (hk : KR k y) (rm : VR K f N H m v) (d : DKr K f N H l kvs) : DKr K f N H (DM.putK k m l) (L2.putK kvs y v) := by
  unfold DM.putK L2.putK
  rw [DKr.has hk d]
  by_cases q : (kvs.any fun kv => decide (kv.1 = y)) = true
  · rw [if_pos q, if_pos q]
    exact d.rpl hk rm
  · rw [if_neg q, if_neg q]
    exact d.snoc hk rm
theorem DKr.drop {K : KW} {k : MV} {y : Key} (hk : KR k y) : ∀ {l : List (MV × MV)} {kvs : List (Key × V)}, DKr K f N H l kvs → DKr K f N H (DM.dropK k l) (L2.dropK kvs y)
  | [], kvs, e => by
    obtain rfl : kvs = [] := e
    rfl
  | (a, n) :: r, kvs, ⟨x, u, ys, e, c, rv, b⟩ => by
    subst e
    have q := keyA_eq c hk
    have ih := DKr.drop hk b
    unfold DM.dropK L2.dropK at ih ⊢
    rw [List.filter_cons, List.filter_cons]
    by_cases hx : x = y
    · have h1 : ¬ (!eqK (a, n).1 k) = true := by rw [show eqK (a, n).1 k = _ from q, decide_eq_true hx]; exact Bool.false_ne_true
      have h2 : ¬ decide ((x, u).1 ≠ y) = true := by simpa using hx
      rw [if_neg h1, if_neg h2]
      exact ih
    · have h1 : (!eqK (a, n).1 k) = true := by rw [show eqK (a, n).1 k = _ from q, decide_eq_false hx]; rfl
      have h2 : decide ((x, u).1 ≠ y) = true := by simpa using hx
      rw [if_pos h1, if_pos h2]
      exact ⟨x, u, _, rfl, c, rv, ih⟩
theorem KR.kOk {K : KW} {k : MV} {x : V} (hk : kOk false k = true) (r : VR K f N H k x) : ∃ y, KR k y ∧ x = kV y := by
  cases k <;> first | (cases hk; done) | skip
  · exact ⟨.inl _, rfl, r.int_inv⟩
  · exact ⟨.inr _, ⟨rfl, r.str_inv.2⟩, r.str_inv.1⟩
theorem DAt.rd {a : Addr} {kvs : List (Key × V)} {lk : Bool} (d : DAt H a kvs lk) : Rd H a (.dK kvs) := by
  cases lk with
  | false => exact .inl d
  | true => exact .inr d
theorem KDr.look {K : KW} {s : Tx} : ∀ {l : List (MV × MV)} {es : List DictEntry}, KDr K f N H l es → ∃ u, (match es.find? (·.key.isStr ⟨s.toArray⟩) with
      | some e => some (some e.val)
      | none => if es.any (·.refKey) then none else some none) = some u ∧ match lookK (.str s) l, u with
      | some m, some w => ∃ v, RelV v w ∧ VR K f N H m v
      | none, none => True
      | _, _ => False
  | [], es, e => by
    unfold KDr at e
    subst e
    exact ⟨none, rfl, True.intro⟩
  | (k, m) :: r, es, h => by
    unfold KDr at h
    obtain ⟨e, es', s', t, v, rfl, rfl, h3, h4, h5, h6, h7⟩ := h
    obtain ⟨u, e1, e2⟩ := KDr.look (s := s) h7
    unfold lookK
    by_cases hs : s' = s
    · subst hs
      refine ⟨some e.val, ?_, ?_⟩
      · rw [List.find?_cons, show e.key.isStr ⟨s'.toArray⟩ = true from by rw [h3]; exact beq_self_eq_true _]
      · rw [show eqK (.str s') (.str s') = true from by simp [eqK]]
        exact ⟨v, h5, h6⟩
    · refine ⟨u, ?_, ?_⟩
      · rw [List.find?_cons, show e.key.isStr ⟨s.toArray⟩ = false from by rw [h3]; exact beq_eq_false_iff_ne.mpr fun z => hs (by injection z with z; simpa using congrArg Array.toList z)]
        simp only
        rw [List.any_cons, show e.refKey = false from by unfold DictEntry.refKey; rw [h3]]
        exact e1
      · rw [show eqK (.str s') (.str s) = false from by simp [eqK, hs]]
        exact e2
inductive DX (K : KW) (H : Hp) (a : Addr) (y : V) (r : Option V) : Prop
  | d (g : DGet H a y r)
  | k {es : Array DictEntry} {n : Nat} {z : Str} {u : Option Value} (D : KDict K.K K.w a es n) (e : y = .str z) (ns : PySem.W.nsIn K.K a z = some u) (ro : RelO r u)
theorem dget_inv {x k : MV} {v y : V} {o : Option MV} (r : Rl Y.K Y.Z f h H) (rx : VR Y.K f h.size H x v) (rk : VR Y.K f h.size H k y) (e : dget h x k = some o) : ∃ a u, v = .ref a ∧ DX Y.K H a y u ∧ RO Y.K f h.size H o u := by
  unfold dget at e
  split at e
  · rename_i l
    split at e
    · rename_i s
      cases e
      obtain ⟨rfl, ts⟩ := rk.str_inv
      unfold VR at rx
      obtain ⟨a, es, n, rfl, D, kd⟩ := rx
      obtain ⟨u, e1, e2⟩ := KDr.look (s := s) kd
      have ns : PySem.W.nsIn Y.K.K a ⟨s.toArray⟩ = some u := by
        unfold PySem.W.nsIn
        rw [D.at_]
        exact e1
      cases hl : lookK (.str s) l with
      | none =>
        rw [hl] at e2
        cases u with
        | none => exact ⟨a, none, rfl, .k D rfl ns True.intro, True.intro⟩
        | some w => exact e2.elim
      | some m =>
        rw [hl] at e2
        cases u with
        | none => exact e2.elim
        | some w =>
          obtain ⟨v, r1, r2⟩ := e2
          exact ⟨a, some v, rfl, .k D rfl ns r1, r2⟩
    · cases e
  · rename_i n
    obtain ⟨hn, rfl⟩ := rx.ref_inv
    split at e
    · rename_i t lk l en
      obtain ⟨rfl, kvs, e1, e2⟩ := r.ob _ _ en
      split at e
      · rename_i hk
        cases e
        have rd : Rd H (f n) (.dK kvs) := by
          cases lk with
          | false => exact .inl e1
          | true => exact .inr e1
        cases k <;> first | (cases hk; done) | skip
        · rename_i i
          cases rk.int_inv
          exact ⟨_, _, rfl, .d (.inl ⟨kvs, .inl i, rd, rfl, rfl⟩), DKr.look (k := .int i) (y := .inl i) rfl e2⟩
        · rename_i s
          obtain ⟨rfl, ts⟩ := rk.str_inv
          exact ⟨_, _, rfl, .d (.inl ⟨kvs, .inr ⟨s.toArray⟩, rd, rfl, rfl⟩), DKr.look (k := .str s) (y := .inr ⟨s.toArray⟩) ⟨rfl, ts⟩ e2⟩
      · cases e
    · cases e
  · cases e
section
variable {pins : List (Addr × Obj)} {σ : L2.St} {s : Shared} {a : Addr} {y v : V} {u r : Value} {o : Option V} {A : Around} {E : Value → Shared → Prop} {K : KW}
theorem dx_type (hK : X.K = K) (hW : X.w = K.w) (I : Inv X pins σ H s) (g : DX K H a y o) : s.TypeIs (.ref a) "dict" := by
  cases g with
  | d g => exact dict_typeIs I g
  | k D e ns ro => exact kd_type (X := X) (by rw [hK, hW]; exact D) I
theorem dx_getItem {Q : Value → Shared → Prop} (hK : X.K = K) (hW : X.w = K.w) (hu : A.units + 1 < cLine) (I : Inv X pins σ H s) (g : DX K H a y (some v)) (ry : RelV y u) (h : ∀ w' s', Inv X pins σ H s' → RelV v w' → Q w' s') :
    wpAny (model X.prog X.w) A (getItem (.ref a) u) Q E s := by
  cases g with
  | d g => exact d_getItem hu I g ry h
  | k D e ns ro =>
    rename_i es n z w0
    subst e
    have D : KDict X.K X.w a es n := by rw [hK, hW]; exact D
    rw [← hK] at ns
    cases w0 with
    | none => exact (show False from ro).elim
    | some w0 =>
      obtain ⟨t, rfl⟩ := ry
      exact wpAny_getItem_of (strKind_is X.prog X.w z t) (PySem.W.mapOf_K (prog := X.prog) I.kIn D.at_ D.lit) (PySem.W.find_K D.at_ ns) (h _ _ (I.tok _) ro)
theorem dx_in {Q : Value → Shared → Prop} (hK : X.K = K) (hW : X.w = K.w) (hu : A.units + 1 < cLine) (I : Inv X pins σ H s) (g : DX K H a y o) (ry : RelV y u) (h : ∀ s', Inv X pins σ H s' → Q (.bool o.isSome) s') :
    wpAny (model X.prog X.w) A (compareOp .In u (.ref a)) Q E s := by
  cases g with
  | d g => exact d_in hu I g ry h
  | k D e ns ro =>
    rename_i es n z w0
    subst e
    have D : KDict X.K X.w a es n := by rw [hK, hW]; exact D
    rw [← hK] at ns
    obtain ⟨t, rfl⟩ := ry
    refine wpAny_in_of (strKind_is X.prog X.w z t) D.low (PySem.W.mapOf_K (prog := X.prog) I.kIn D.at_ D.lit) ?_
    rw [PySem.W.find_K D.at_ ns, ← ro.isSome_eq]
    exact h _ (I.tok _)
theorem dx_notIn {Q : Value → Shared → Prop} (hK : X.K = K) (hW : X.w = K.w) (hu : A.units + 1 < cLine) (I : Inv X pins σ H s) (g : DX K H a y o) (ry : RelV y u) (h : ∀ s', Inv X pins σ H s' → Q (.bool (!o.isSome)) s') :
    wpAny (model X.prog X.w) A (compareOp .NotIn u (.ref a)) Q E s := by
  cases g with
  | d g => exact d_notIn hu I g ry h
  | k D e ns ro =>
    rename_i es n z w0
    subst e
    have D : KDict X.K X.w a es n := by rw [hK, hW]; exact D
    rw [← hK] at ns
    obtain ⟨t, rfl⟩ := ry
    refine wpAny_notIn_of (strKind_is X.prog X.w z t) D.low (PySem.W.mapOf_K (prog := X.prog) I.kIn D.at_ D.lit) ?_
    rw [PySem.W.find_K D.at_ ns, ← ro.isSome_eq]
    exact h _ (I.tok _)
end
theorem RO.isSome {K : KW} {o : Option MV} {u : Option V} (r : RO K f N H o u) : o.isSome = u.isSome := by
  cases o <;> cases u <;> first | rfl | exact r.elim
def co : COp → CmpOp
  | .lt => .Lt | .le => .LtE | .gt => .Gt | .ge => .GtE | .eq => .Eq | .ne => .NotEq | .isin => .In | .notin => .NotIn
theorem ltM_inv {a b : MV} {x y : V} {c : Bool} (ra : VR Y.K f h.size H a x) (rb : VR Y.K f h.size H b y) (e : ltM h a b = some c) : ∃ i j, x = .int i ∧ y = .int j ∧ c = decide (i < j) := by
  unfold ltM at e
  split at e
  · exact ⟨_, _, ra.int_inv, rb.int_inv, (Option.some.inj e).symm⟩
  · cases e
theorem mapNot {o : Option Bool} {b : Bool} (e : o.map not = some b) : o = some (!b) := by
  cases o with
  | none => cases e
  | some c =>
    have e' : (!c) = b := Option.some.inj e
    rw [← e']
    simp
theorem toPys_any (d : PD) : ∀ l : List PD, ((toPys l).any fun z => PyData.eqv z (toPy d)) = l.any fun z => eqP z d
  | [] => rfl
  | x :: xs => by
    unfold toPys
    rw [List.any_cons, List.any_cons, eqv_toPy, toPys_any d xs]
theorem inM_dict {x y : V} {a m : MV} {b : Bool} (r : Rl Y.K Y.Z f h H) (ra : VR Y.K f h.size H a x) (rm : VR Y.K f h.size H m y) (hd : isD h m = true) (e : inM h a m = some b) : ∃ p o, y = .ref p ∧ DX Y.K H p x o ∧ b = o.isSome := by
  unfold inM at e
  rw [if_pos hd] at e
  obtain ⟨o, e1, e2⟩ := Option.map_eq_some_iff.mp e
  obtain ⟨p, u, e3, g, ro⟩ := dget_inv r rm ra e1
  exact ⟨p, u, e3, g, by rw [← e2]; exact ro.isSome⟩
theorem inM_str {x : V} {a : MV} {t : Tx} {b : Bool} (ra : VR Y.K f h.size H a x) (e : inM h a (.str t) = some b) : ∃ c, x = .str ⟨#[c]⟩ ∧ b = decide (c ∈ t) := by
  unfold inM at e
  rw [if_neg (by simp [isD])] at e
  split at e
  · rename_i t' et
    cases et
    split at e
    · rename_i c
      obtain ⟨rfl, _⟩ := ra.str_inv
      exact ⟨c, rfl, (Option.some.inj e).symm⟩
    · cases e
  · rename_i hn
    exact absurd rfl (hn t)
theorem inM_data {x y : V} {a m : MV} {b : Bool} (r : Rl Y.K Y.Z f h H) (ra : VR Y.K f h.size H a x) (rm : VR Y.K f h.size H m y) (hd : isD h m = false) (hm : ∀ t, m ≠ .str t) (e : inM h a m = some b) :
    ∃ d ds, Dp Y.K H x d ∧ SeqAt.shaped d = true ∧ (Dp Y.K H y (.list ds) ∧ SeqAt.shaped (.list ds) = true ∨ Dp Y.K H y (.tuple ds) ∧ SeqAt.shaped (.tuple ds) = true) ∧ b = ds.any fun z => PyData.eqv z d := by
  unfold inM at e
  rw [if_neg (by rw [hd]; exact Bool.false_ne_true)] at e
  split at e
  · exact absurd rfl (hm _)
  · split at e
    · rename_i d l e1 e2
      obtain ⟨p1, o1⟩ := dat_dp r _ _ _ _ e1 ra
      obtain ⟨p2, o2⟩ := dat_dp r _ _ _ _ e2 rm
      have s2 := shaped_of o2 (by decide)
      unfold toPy at p2 s2
      exact ⟨_, _, p1, shaped_of o1 (by decide), .inl ⟨p2, s2⟩, by rw [toPys_any]; exact (Option.some.inj e).symm⟩
    · rename_i d l e1 e2
      obtain ⟨p1, o1⟩ := dat_dp r _ _ _ _ e1 ra
      obtain ⟨p2, o2⟩ := dat_dp r _ _ _ _ e2 rm
      have s2 := shaped_of o2 (by decide)
      unfold toPy at p2 s2
      exact ⟨_, _, p1, shaped_of o1 (by decide), .inr ⟨p2, s2⟩, by rw [toPys_any]; exact (Option.some.inj e).symm⟩
    · cases e
theorem op_cmp (hK : X.K = Y.K) (hW : X.w = Y.K.w) (hu : X.A.units + 65 < cLine) (op : COp) : OpR X (compareOp (co op)) (rB Y (cmpM op)) := by
  intro pins s σ H x y v u Q I rx ry ⟨f, h, a, b, r, ra, rb, g⟩
  cases op with
  | eq =>
    obtain ⟨c, e, t⟩ := bR_inv r g
    obtain ⟨d1, d2, p1, p2, s1, s2, e2⟩ := eqM_inv r ra rb e
    exact op_eqD (by omega) pins s σ H _ _ v u Q I rx ry ⟨d1, d2, hK ▸ p1, hK ▸ p2, s1, s2, by rw [e2]; exact t _ .bl⟩
  | ne =>
    obtain ⟨c, e, t⟩ := bR_inv r g
    obtain ⟨d1, d2, p1, p2, s1, s2, e2⟩ := eqM_inv r ra rb (mapNot e)
    exact op_neD (by omega) pins s σ H _ _ v u Q I rx ry ⟨d1, d2, hK ▸ p1, hK ▸ p2, s1, s2, by rw [e2, Bool.not_not]; exact t _ .bl⟩
  | lt =>
    obtain ⟨c, e, t⟩ := bR_inv r g
    obtain ⟨i, j, rfl, rfl, e2⟩ := ltM_inv ra rb e
    exact op_lt pins s σ H _ _ v u Q I rx ry ⟨i, j, rfl, rfl, by show Q (V.bl (decide (i < j))) H; rw [← e2]; exact t _ .bl⟩
  | gt =>
    obtain ⟨c, e, t⟩ := bR_inv r g
    obtain ⟨j, i, rfl, rfl, e2⟩ := ltM_inv rb ra e
    exact op_gt pins s σ H _ _ v u Q I rx ry ⟨i, j, rfl, rfl, by show Q (V.bl (decide (j < i))) H; rw [← e2]; exact t _ .bl⟩
  | le =>
    obtain ⟨c, e, t⟩ := bR_inv r g
    obtain ⟨j, i, rfl, rfl, e2⟩ := ltM_inv rb ra (mapNot e)
    have e3 : decide (i ≤ j) = c := by
      have : decide (i ≤ j) = !decide (j < i) := by rw [Bool.eq_iff_iff]; simp
      rw [this, ← e2, Bool.not_not]
    exact op_le pins s σ H _ _ v u Q I rx ry ⟨i, j, rfl, rfl, by show Q (V.bl (decide (i ≤ j))) H; rw [e3]; exact t _ .bl⟩
  | ge =>
    obtain ⟨c, e, t⟩ := bR_inv r g
    obtain ⟨i, j, rfl, rfl, e2⟩ := ltM_inv ra rb (mapNot e)
    have e3 : decide (j ≤ i) = c := by
      have : decide (j ≤ i) = !decide (i < j) := by rw [Bool.eq_iff_iff]; simp
      rw [this, ← e2, Bool.not_not]
    exact op_ge pins s σ H _ _ v u Q I rx ry ⟨i, j, rfl, rfl, by show Q (V.bl (decide (j ≤ i))) H; rw [e3]; exact t _ .bl⟩
  | isin =>
    obtain ⟨c, e, t⟩ := bR_inv r g
    cases hd : isD h b with
    | true =>
      obtain ⟨p, o, rfl, g1, rfl⟩ := inM_dict r ra rb hd e
      obtain rfl : u = Value.ref p := ry
      exact dx_in hK hW (by omega) I g1 rx fun s' I' => ⟨.bl _, H, I', rfl, t _ .bl⟩
    | false =>
    by_cases hs : ∃ z, b = .str z
    · obtain ⟨z, rfl⟩ := hs
      obtain ⟨rfl, tb⟩ := rb.str_inv
      obtain ⟨k, rfl, e2⟩ := inM_str ra e
      refine op_in_sign pins s σ H _ _ v u Q I rx ry ⟨k, _, rfl, rfl, ?_⟩
      rw [show ((⟨z.toArray⟩ : Str).cps.toList) = z from by simp, ← e2]
      exact t _ .bl
    · obtain ⟨d, ds, p1, s1, p2, e2⟩ := inM_data r ra rb hd (fun z q => hs ⟨z, q⟩) e
      subst e2
      rcases p2 with ⟨p2, s2⟩ | ⟨p2, s2⟩
      · exact op_inD (by omega) pins s σ H _ _ v u Q I rx ry ⟨d, ds, hK ▸ p1, hK ▸ p2, s1, s2, t _ .bl⟩
      · obtain ⟨as, r1⟩ := Dp.reads I d x v (hK ▸ p1) rx
        obtain ⟨bs, r2⟩ := Dp.reads I (.tuple ds) y u (hK ▸ p2) ry
        have hd := SeqAt.depth_of_shaped s1
        exact SeqAt.in_tuple_reads r2 r1 (SeqAt.canLay_of_shaped s2) (SeqAt.canLay_of_shaped s1) (by omega) ⟨.bl _, H, I, rfl, t _ .bl⟩
  | notin =>
    obtain ⟨c, e, t⟩ := bR_inv r g
    have e := mapNot e
    cases hd : isD h b with
    | true =>
      obtain ⟨p, o, rfl, g1, e2⟩ := inM_dict r ra rb hd e
      obtain rfl : u = Value.ref p := ry
      exact dx_notIn hK hW (by omega) I g1 rx fun s' I' => ⟨.bl _, H, I', rfl, by rw [← e2, Bool.not_not]; exact t _ .bl⟩
    | false =>
    by_cases hs : ∃ z, b = .str z
    · obtain ⟨z, rfl⟩ := hs
      obtain ⟨rfl, tb⟩ := rb.str_inv
      obtain ⟨k, rfl, e2⟩ := inM_str ra e
      refine op_notIn_sign pins s σ H _ _ v u Q I rx ry ⟨k, _, rfl, rfl, ?_⟩
      rw [show ((⟨z.toArray⟩ : Str).cps.toList) = z from by simp, ← e2, Bool.not_not]
      exact t _ .bl
    · obtain ⟨d, ds, p1, s1, p2, e2⟩ := inM_data r ra rb hd (fun z q => hs ⟨z, q⟩) e
      have e3 : (!ds.any fun z => PyData.eqv z d) = c := by rw [← e2, Bool.not_not]
      rcases p2 with ⟨p2, s2⟩ | ⟨p2, s2⟩
      · exact op_notInD (by omega) pins s σ H _ _ v u Q I rx ry ⟨d, ds, hK ▸ p1, hK ▸ p2, s1, s2, by rw [e3]; exact t _ .bl⟩
      · obtain ⟨as, r1⟩ := Dp.reads I d x v (hK ▸ p1) rx
        obtain ⟨bs, r2⟩ := Dp.reads I (.tuple ds) y u (hK ▸ p2) ry
        have hd := SeqAt.depth_of_shaped s1
        exact SeqAt.notIn_tuple_reads r2 r1 (SeqAt.canLay_of_shaped s2) (SeqAt.canLay_of_shaped s1) (by omega) ⟨.bl _, H, I, rfl, by rw [e3]; exact t _ .bl⟩

/-! ### truth -/
theorem listOf_sq {m : MV} {x : V} {l : List MV} (r : Rl Y.K Y.Z f h H) (rm : VR Y.K f h.size H m x) (e : listOf h m = some l) : ∃ a vs, x = .ref a ∧ SqL Y.K H a vs ∧ VRs Y.K f h.size H l vs := by
  unfold listOf at e
  split at e
  · rename_i n
    obtain ⟨hn, rfl⟩ := rm.ref_inv
    split at e
    · rename_i l' en
      cases e
      obtain ⟨vs, e1, t⟩ := r.ob _ _ en
      exact ⟨_, vs, rfl, SqL.of e1, t⟩
    · cases e
  · cases e
    obtain ⟨a, vs, rfl, s, t⟩ := rm.kl_inv
    exact ⟨a, vs, rfl, s.sq, t⟩
  · cases e
theorem seqOf_sq {m : MV} {x : V} {l : List MV} (r : Rl Y.K Y.Z f h H) (rm : VR Y.K f h.size H m x) (e : seqOf h m = some l) : ∃ a vs, x = .ref a ∧ (SqL Y.K H a vs ∨ SqT Y.K H a vs) ∧ VRs Y.K f h.size H l vs := by
  unfold seqOf at e
  split at e
  · cases e
    obtain ⟨a, vs, rfl, s, t⟩ := rm.tup_inv
    exact ⟨a, vs, rfl, .inr s, t⟩
  · obtain ⟨a, vs, rfl, s, t⟩ := listOf_sq r rm e
    exact ⟨a, vs, rfl, .inl s, t⟩
theorem emptyEq {l : List MV} {vs : List V} (t : VRs Y.K f h.size H l vs) : (!l.isEmpty) = !vs.isEmpty := by
  have := t.length
  cases l <;> cases vs <;> simp at this ⊢
theorem truM_inv {m : MV} {x : V} {T : Bool → (Nat → Addr) → MH → Hp → Prop} (r : Rl Y.K Y.Z f h H) (rm : VR Y.K f h.size H m x) (g : GP Y f h H (truM m h) T) : ∃ b, truM m h = .ok b h ∧ TruV Y.K x H b ∧ T b f h H := by
  unfold truM at g ⊢
  split at g
  · exact ⟨_, rfl, by rw [rm.non_inv]; rfl, GP.here r g⟩
  · exact ⟨_, rfl, by rw [rm.bl_inv]; rfl, GP.here r g⟩
  · exact ⟨_, rfl, by rw [rm.int_inv]; rfl, GP.here r g⟩
  · rename_i s
    obtain ⟨rfl, t⟩ := rm.str_inv
    refine ⟨_, rfl, ⟨?_, ?_⟩, GP.here r g⟩
    · show s.toArray.size ≤ _
      rw [List.size_toArray]
      exact t.1
    · show (!s.isEmpty) = ((s.toArray.size : Int) != 0)
      rw [List.size_toArray]
      cases s with
      | nil => rfl
      | cons c r =>
        rw [Bool.eq_iff_iff]
        simp
        omega
  · obtain ⟨a, vs, rfl, s, t⟩ := rm.tup_inv
    exact ⟨_, rfl, .inr (.inl ⟨vs, s, emptyEq t⟩), GP.here r g⟩
  · obtain ⟨a, vs, rfl, s, t⟩ := rm.kl_inv
    exact ⟨_, rfl, .inl ⟨vs, s.sq, emptyEq t⟩, GP.here r g⟩
  · obtain ⟨hn, rfl⟩ := rm.ref_inv
    split at g
    · rename_i l en
      obtain ⟨vs, e1, t⟩ := r.ob _ _ en
      exact ⟨_, rfl, .inl ⟨vs, SqL.of e1, emptyEq t⟩, GP.here r g⟩
    · exact g.elim
  · exact g.elim

/-! ### places, slices -/
theorem ixN_eq (i : Int) (n : Nat) : DM.ixN i n = L2.ixN n i := by
  unfold DM.ixN L2.ixN
  by_cases h0 : 0 ≤ i
  · rw [if_pos h0, if_pos h0]
  · rw [if_neg h0, if_neg h0]
    by_cases h1 : -(n : Int) ≤ i
    · rw [if_pos h1, if_pos (by omega)]
    · rw [if_neg h1, if_neg (by omega)]
theorem atL_at {l : List MV} {vs : List V} {i : Int} {v : MV} (t : VRs Y.K f h.size H l vs) (e : atL l i = some v) : ∃ x, atI vs i = some x ∧ VR Y.K f h.size H v x := by
  unfold atL at e
  rw [ixN_eq, t.length] at e
  unfold atI
  cases q : L2.ixN vs.length i with
  | none => rw [q] at e; cases e
  | some k =>
    rw [q] at e
    obtain ⟨x, e1, r1⟩ := t.get e
    exact ⟨x, e1, r1⟩
theorem ix_dict (hK : X.K = Y.K) (hW : X.w = Y.K.w) (hu : X.A.units + 65 < cLine) {value slice : Expr} {pins : List (Addr × Obj)} {s : Shared} {σ : L2.St} {x y : V} {v u : Value} {Q : VK} {a b m : MV} (I : Inv X pins σ H s) (rx : RelV x v) (ry : RelV y u) (r : Rl Y.K Y.Z f h H)
    (ra : VR Y.K f h.size H a x) (rb : VR Y.K f h.size H b y) (e : dget h a b = some (some m)) (q : ∀ z, VR Y.K f h.size H m z → Q z H) (hs : subscripted slice false v u = operate [v, u] (getItem v u)) : wpAny (model X.prog X.w) X.A (subscriptTail value slice v u) (EP X pins σ Q) X.xe s := by
  obtain ⟨p, o, rfl, g, ro⟩ := dget_inv r ra rb e
  obtain rfl : v = Value.ref p := rx
  cases o with
  | none => exact ro.elim
  | some z => exact tail_any (dx_type hK hW I g) PySem.F.slot_dict_getitem.lookup (dx_getItem hK hW (by omega) I g ry fun w' s' I' r' => ⟨z, H, I', r', q z ro⟩) hs
theorem ix_sub (hK : X.K = Y.K) (hW : X.w = Y.K.w) (hu : X.A.units + 65 < cLine) : IxR X (rB Y subM) := by
  intro value slice pins s σ H x y v u Q I rx ry ⟨f, h, a, b, r, ra, rb, g⟩ hs
  unfold subM at g
  split at g
  · rename_i z k
    obtain ⟨rfl, t⟩ := ra.str_inv
    cases rb.int_inv
    split at g
    · rename_i j ej
      split at g
      · rename_i c ec
        refine ix_str value slice pins s σ H _ _ v u Q I rx ry ⟨⟨z.toArray⟩, k, c, rfl, rfl, ?_, ?_, ?_⟩ hs
        · show z.toArray.size ≤ _
          rw [List.size_toArray]
          exact t.1
        · rw [show ((⟨z.toArray⟩ : Str).cps.toList) = z from by simp]
          unfold atI
          rw [← ixN_eq, ej]
          exact ec
        · refine GP.here r g _ (.str (s := [c]) ⟨?_, fun d hd => ?_⟩)
          · rw [sizeLine_eq]; show 1 ≤ _; omega
          · have : d = c := by simpa using hd
            rw [this]
            exact t.2 c (List.mem_of_getElem? ec)
      · exact g.elim
    · exact g.elim
  · obtain ⟨p, vs, rfl, sq, t⟩ := ra.tup_inv
    cases rb.int_inv
    split at g
    · rename_i w e
      obtain ⟨z, e1, r1⟩ := atL_at t e
      exact ix_tup value slice pins s σ H _ _ v u Q I rx ry ⟨p, vs, _, z, rfl, rfl, hK ▸ sq, e1, GP.here r g _ r1⟩ hs
    · exact g.elim
  · obtain ⟨p, vs, rfl, sq, t⟩ := ra.kl_inv
    cases rb.int_inv
    split at g
    · rename_i w e
      obtain ⟨z, e1, r1⟩ := atL_at t e
      exact ix_list value slice pins s σ H _ _ v u Q I rx ry ⟨p, vs, _, z, rfl, rfl, hK ▸ sq.sq, e1, GP.here r g _ r1⟩ hs
    · exact g.elim
  · split at g
    · rename_i m e
      exact ix_dict hK hW hu I rx ry r ra rb e (GP.here r g) hs
    · exact g.elim
  · split at g
    · split at g
      · rename_i m e
        exact ix_dict hK hW hu I rx ry r ra rb e (GP.here r g) hs
      · exact g.elim
    · rename_i l en
      obtain ⟨hn, rfl⟩ := ra.ref_inv
      obtain ⟨vs, e0, t⟩ := r.ob _ _ en
      split at g
      · cases rb.int_inv
        split at g
        · rename_i w e
          obtain ⟨z, e1, r1⟩ := atL_at t e
          exact ix_list value slice pins s σ H _ _ v u Q I rx ry ⟨_, vs, _, z, rfl, rfl, SqL.of e0, e1, GP.here r g _ r1⟩ hs
        · exact g.elim
      · exact g.elim
    · exact g.elim
  · exact g.elim
theorem clip_sIx (d n : Nat) (o : Option Int) : clip d n o = HT.sIx n d o := by
  cases o <;> rfl
theorem cutV_of {l : List MV} {vs : List V} (t : VRs Y.K f N H l vs) (lo hi : Option Int) : VRs Y.K f N H (cut l lo hi) (cutV vs lo hi) := by
  unfold cut cutV
  rw [clip_sIx, clip_sIx, t.length]
  exact (t.drop _).take _
theorem TxOk.sub {s t : Tx} (h : TxOk s) (hl : t.length ≤ s.length) (hm : ∀ c ∈ t, c ∈ s) : TxOk t := ⟨Nat.le_trans hl h.1, fun c hc => h.2 c (hm c hc)⟩
theorem cut_len {α : Type} (l : List α) (lo hi : Option Int) : (cut l lo hi).length ≤ l.length := by
  unfold cut
  rw [List.length_take, List.length_drop]
  omega
theorem cut_mem {α : Type} (l : List α) (lo hi : Option Int) (c : α) (hc : c ∈ cut l lo hi) : c ∈ l := List.mem_of_mem_drop (List.mem_of_mem_take hc)
def rSl (Y : Ctx) : V → Option Int → Option Int → Hp → VK → Prop := fun x lo hi H Q => ∃ f h a, Rl Y.K Y.Z f h H ∧ VR Y.K f h.size H a x ∧ GP Y f h H (slM a lo hi h) fun v f' h' H' => ∀ z, VR Y.K f' h'.size H' v z → Q z H'
theorem GP.newL {l : List MV} {T : MV → (Nat → Addr) → MH → Hp → Prop} (r : Rl Y.K Y.Z f h H) (g : GP Y f h H (new h (.lst l)) T) {vs : List V} (rv : VRs Y.K f h.size H l vs) {p : Addr} (hp : H p = none) :
    ∃ f', T (.ref h.size) f' (h.push (.lst l)) (upd H p (.lst vs)) ∧ f' h.size = p := by
  have ex0 : Ext f h.size H (nxt f h.size p) (h.size + 1) (upd H p (.lst vs)) := Ext.push hp
  obtain ⟨ex, rl⟩ := r.push (o := .lst l) (u := .lst vs) hp ⟨vs, upd_same, VRs.mono ex0.sz ex0.ag (r.text ex0) _ _ rv⟩
  exact ⟨_, g.app ex rl, nxt_at⟩
theorem sl_cut (hK : X.K = Y.K) : SlR X (rSl Y) := by
  intro pins s σ H x v vl vu lo hi sl Q I rx hs pl pu ⟨f, h, a, r, ra, g⟩
  unfold slM at g
  split at g
  · rename_i z
    obtain ⟨rfl, t⟩ := ra.str_inv
    refine sl_str pins s σ H _ v vl vu lo hi sl Q I rx hs pl pu ⟨_, rfl, ?_, ?_⟩
    · show z.toArray.size ≤ _
      rw [List.size_toArray]
      exact t.1
    · have e : L2.cutS ⟨z.toArray⟩ lo hi = ⟨(cut z lo hi).toArray⟩ := by
        unfold L2.cutS cut
        have e1 : (⟨z.toArray⟩ : Str).length = z.length := by show z.toArray.size = _; simp
        have e2 : (⟨z.toArray⟩ : Str).cps.toList = z := by simp
        rw [e1, e2, clip_sIx, clip_sIx]
      rw [e]
      exact GP.here r g _ (.str (t.sub (cut_len _ _ _) (cut_mem _ _ _)))
  · obtain ⟨p, vs, rfl, sq, t⟩ := ra.tup_inv
    refine sl_tupA pins s σ H _ v vl vu lo hi sl Q I rx hs pl pu ⟨p, vs, rfl, hK ▸ sq, fun hw => ?_, fun _ z hz => ?_⟩
    · have e : VRs Y.K f h.size H (cut _ lo hi) (cutV vs lo hi) := cutV_of t lo hi
      have e2 : cutV vs lo hi = vs := by
        unfold cutV
        rw [hw.1, hw.2, List.drop_zero, Nat.sub_zero, List.take_length]
      rw [e2] at e
      exact GP.here r g _ (.tup sq e)
    · have e1 : Ext f h.size H f h.size (upd H z (.tup (cutV vs lo hi))) := Ext.aside hz
      have r1 := r.aside (u := .tup (cutV vs lo hi)) hz
      exact g.app e1 r1 _ (.tup (SqT.of upd_same) (r.vrs e1 (cutV_of t lo hi)))
  · obtain ⟨p, vs, rfl, sq, t⟩ := ra.kl_inv
    refine sl_list pins s σ H _ v vl vu lo hi sl Q I rx hs pl pu ⟨p, vs, rfl, hK ▸ sq.sq, fun z hz => ?_⟩
    obtain ⟨f', q, e⟩ := GP.newL r g (cutV_of t lo hi) hz
    exact q _ (by rw [← e]; exact .ref (by rw [MH.size_push]; omega))
  · split at g
    · rename_i n l e
      obtain ⟨p, vs, rfl, sq, t⟩ := listOf_sq r ra e
      refine sl_list pins s σ H _ v vl vu lo hi sl Q I rx hs pl pu ⟨p, vs, rfl, hK ▸ sq, fun z hz => ?_⟩
      obtain ⟨f', q, e⟩ := GP.newL r g (cutV_of t lo hi) hz
      exact q _ (by rw [← e]; exact .ref (by rw [MH.size_push]; omega))
    · exact g.elim
  · exact g.elim
end
end DM
set_option Elab.async false
set_option linter.all false
set_option maxRecDepth 100000
set_option maxHeartbeats 4000000
/-! S4: defs' promises where no guard of the machine's own is up, calls, the law's own call. -/
namespace DM
open PySem L2 PyProof.Rows PySem.Spec

/-- as the layer's FnOk, where no guard is up -/
structure FnG (P0 : Program) (w : World) (K : PySem.W.Frag) (mg : Str → Option Value) (base : Heap) (CX : CXT) (k : Nat) (f : Addr) (fd : FuncData) (ps : List Str) (sp : Sp) : Prop where
  len : ∀ vs H Q E, sp vs H Q E → vs.length = ps.length
  run : ∀ (A : Around) (outer : List Env) (s : Shared) (H : Hp) (args : Args) (us : List Value) (vs : List V) (Q : VK) (E : XK), Room k A → A.guards = some [] →
    Env0 P0 w K mg base A outer s H → BindsTo s fd args (ps.zip us) → Vals vs us → sp vs H Q E → codeAny (model P0 w) A (.call (.ref f) args) (CR CX outer P0 w H s Q E) s

/-- a def by its body -/
theorem fnG_of {CX : CXT} {P0 : Program} {w : World} {K : PySem.W.Frag} {mg : Str → Option Value} {base : Heap} {k : Nat} {f : Addr} {x qual : Str} {params : Arguments} {body : List Stmt} {scope : Scope}
    {dvs : List V} {kws : List (Str × V)} {fd : FuncData} {N ps : List Str} {sp : Sp} (F : FunD K x qual params body scope dvs kws f fd) (S : FnScope N ps scope) (len : ∀ vs H Q E, sp vs H Q E → vs.length = ps.length)
    (hbody : ∀ (cdv : Value) (A : Around) (outer : List Env) (s : Shared) (H : Hp) (vs : List V) (Q : VK) (E : XK),
      Room k (A.deeper (envOfC qual scope s.heap.objs.size f cdv)) → A.guards = some [] → sp vs H Q E →
      ∃ t, PSs (cxOf CX P0 w K mg base N qual scope f cdv A outer s H E) body t ∧ t { nx := fun _ H' => Q .non H', rt := Q } (start N vs) H) :
    FnG P0 w K mg base CX (k + 1) f fd ps sp := by
  obtain ⟨oc, od, dV, kV, doc, pm, an, cdv, ct, osl, efd, lk, hcd, _, _⟩ := F.ex
  subst efd
  constructor
  · exact len
  intro A outer s H args us vs Q E hr hG e0 hb rv hsp
  have stays : ∀ b o, base.get? b = some o → s.heap.get? b = some o := fun b o e => (e0.bs b o e).1
  have kin : K.In s.heap := e0.mod.kin.keeps stays
  have slots : ∀ y ∈ ps.zip us, scope.names.lookup y.1 = some .local ∨
      (scope.names.lookup y.1 = some .cell ∧ ((cellsFrom (s.heap.objs.size + 1) scope.names []).lookup y.1).isSome = true) := by
    rintro ⟨n, v⟩ hy
    have hp := S.par n (List.of_mem_zip hy).1
    rcases hp with q | q
    · exact Or.inl q
    · exact Or.inr ⟨q, PySem.W.cellsFrom_some _ _ _ (Or.inl q)⟩
  refine codeAny_call_function hr.depth (kin _ _ lk) rfl S.co S.gen rfl (PySem.W.codeRec_of kin hcd) ?_
  refine hb _ _ _ _ ?_
  refine wpAny_newFunctionEnv_cells S.kind slots ?_
  intro env he s1 hx
  subst he
  refine ⟨(e0.mod.nolimit.keeps stays).keeps hx.toInCall.keep, codeAny_func ?_⟩
  obtain ⟨t, pt, hq⟩ := hbody cdv A outer s H vs Q E (hr.deeper _) hG hsp
  have I := inv_start (CX := CX) (E := E) (f := f) (N := N) S hr.hd e0 (len _ _ _ _ hsp) rv hx
  refine wpAny_mono (pt.run [] s1 (start N vs) H _ I hq) ?_ (fun _ _ z => z)
  intro fl s' hs
  cases fl with
  | next =>
    obtain ⟨σ', H', J, q⟩ := hs
    exact ⟨V.non, H', J.os, J.bare, J.base, J.hok, (rfl : RelV V.non Value.none), q⟩
  | ret u =>
    obtain ⟨v, σ', H', J, r, q⟩ := hs
    exact ⟨v, H', J.os, J.bare, J.base, J.hok, r, q⟩
  | brk => obtain ⟨_, _, _, q⟩ := hs; exact q.elim
  | cont => obtain ⟨_, _, _, q⟩ := hs; exact q.elim

section
variable {X : Cx} {CX : CXT} {k : Nat} {f C : Addr} {fd : FuncData} {ps : List Str} {sp : Sp} {E : XK} {pins : List (Addr × Obj)} {σ : L2.St} {H : Hp} {s : Shared} {Q : VK}
/-- a call of a def with arguments that bind -/
theorem run_fnG (F : FnG X.prog X.w X.K X.mg X.base CX k f fd ps sp) (hr : Room k X.A) (hG : X.A.guards = some []) (hx : PassesAt CX X σ E) (I : Inv X pins σ H s) {us bs : List Value} {ks : List (Str × Value)} {vs : List V}
    (hb : BindsTo s fd ⟨us, ks⟩ (ps.zip bs)) (r : Vals vs bs) (h : sp vs H Q E) : wpAny (model X.prog X.w) X.A (call (.ref f) us ks) (EP X pins σ Q) X.xe s := by
  have go := F.run X.A X.stack s H ⟨us, ks⟩ bs vs Q E hr hG I.env0 hb r h
  refine wpAny_call (codeAny_mono go ?_)
  intro rr s' hq
  rcases rr with e | fl
  · exact hx pins H s e s' I hq
  · cases fl <;> first | exact I.after hq | exact False.elim hq
/-- a new instance, then its __init__ -/
theorem run_makeG (M : Mk X.K C f) (F : FnG X.prog X.w X.K X.mg X.base CX k f fd ps sp) (hr : Room (k + 1) X.A) (hG : X.A.guards = some []) (hx : PassesAt CX X σ E) (I : Inv X pins σ H s) {us bs : List Value} {ks : List (Str × Value)} {vs : List V}
    (hb : ∀ (s' : Shared), X.K.In s'.heap → ∀ u : Value, BindsTo s' fd ⟨u :: us, ks⟩ (ps.zip (u :: bs))) (r : Vals vs bs)
    (h : ∀ x dx, H x = none → H dx = none → dx ≠ x → sp (.ref x :: vs) (upd (upd H dx (.own x)) x (.ins C dx [])) (fun v H2 => v = .non ∧ Q (.ref x) H2) E) :
    wpAny (model X.prog X.w) X.A (call (.ref C) us ks) (EP X pins σ Q) X.xe s := by
  have n1 : H (s.heap.objs.size + 1) = none := I.hok.fresh (Nat.le_succ _)
  have n0 : H s.heap.objs.size = none := I.hok.fresh (Nat.le_refl _)
  have hq := h _ _ n1 n0 (Nat.ne_of_lt (Nat.lt_succ_self _))
  have I2 := Inv.made (C := C) I
  have r1 : RelV (V.ref (s.heap.objs.size + 1)) (Value.ref (s.heap.objs.size + 1)) := rfl
  have go := F.run _ X.stack _ _ ⟨Value.ref (s.heap.objs.size + 1) :: us, ks⟩ (Value.ref (s.heap.objs.size + 1) :: bs) _ _ E (hr.make C us ks) hG (I2.env0.make C us ks) (hb _ I2.kIn _)
    (Paired.cons r1 r) hq
  refine wpAny_call (make_map (f := f) I.kIn M.makes M.init (beq_iff_eq.mp M.fn) (codeAny_mono go ?_))
  intro rr s' hz
  rcases rr with e | fl
  · exact hx pins _ _ e s' I2 hz
  · cases fl with
    | ret u =>
      obtain ⟨v, H', I3, rv, ev, q3⟩ := I2.after hz
      subst ev
      exact ⟨rv, V.ref (s.heap.objs.size + 1), H', I3, rfl, q3⟩
    | next => exact False.elim hz
    | brk => exact False.elim hz
    | cont => exact False.elim hz
end

/-! ### the law's call -/
/-- the script, known whole -/
def scrH (a : Addr) (ob : Obj) (xs : List V) : Hp := fun b => if b = a then some (.frz ob (.lst xs)) else none
theorem law_callG {P0 : Program} {w : World} {K : PySem.W.Frag} {mg mb : Str → Option Value} {CX : CXT} {k : Nat} {fa a : Addr} {fd : FuncData} {x : Str} {sp : Sp} {s₁ : Shared} {vs : List Value} {ns : List Int}
    (kin : K.In s₁.heap) (hns : s₁.heap.Ns mainGlobals mg) (hb : s₁.heap.Ns builtinsNs mb) (hbb : ∀ x : Str, x ≠ "__name__" → mb x = bootBuiltins x) (hlim : s₁.heap.NoLimit) (hg : s₁.gens = #[])
    (ha : s₁.heap.get? a = some { cls := .type "list", data := .seq vs.toArray }) (hi : IntsAre vs ns) (hl : ns.length ≤ sizeLine) (hr : Room k callerA)
    (F : ∀ base : Heap, K.In base → base.Ns mainGlobals mg → FnG P0 w K mg base CX k fa fd [x] sp) (hbind : ∀ (s : Shared) (u : Value), BindsTo s fd ⟨[u], []⟩ [(x, u)])
    (hsp : ∀ H : Hp, KLs K H a (ns.map V.int) → sp [.ref a] H (fun v _ => v = .bl true) fun _ _ _ => False)
    (hCX : ∀ H e s', CX [] H s₁ (fun _ _ _ => False) e s' → False) :
    codeAny (model P0 w) callerA (.call (.ref fa) ⟨[.ref a], []⟩) (fun r s' => r = .ok (.ret (.bool true)) ∧ OldK s₁.heap s'.heap ∧ s'.os = s₁.os ∧ AllBare s'.gens) s₁ := by
  have rv : Vals (ns.map V.int) vs := vals_ints hi
  have lenV := hi.length
  -- H: nothing, or the script alone
  have core : ∀ H : Hp, (∀ b u, H b = some u → b = a ∧ ∃ xs, u = .frz { cls := .type "list", data := .seq vs.toArray } (.lst xs)) → KLs K H a (ns.map V.int) → HOk P0 w H s₁.heap → (H a ≠ none → K.lookup a = none) →
      codeAny (model P0 w) callerA (.call (.ref fa) ⟨[.ref a], []⟩) (fun r s' => r = .ok (.ret (.bool true)) ∧ OldK s₁.heap s'.heap ∧ s'.os = s₁.os ∧ AllBare s'.gens) s₁ := by
    intro H hH hS hok hK
    -- the ground: the heap without the script
    have ground : ∀ {b : Addr} {o : Obj}, s₁.heap.get? b = some o → (b = a → False) ∨ H a = none → (hidT s₁.heap H).get? b = some o := by
      intro b o e hc
      refine hidT_get e ?_
      cases q : H b with
      | none => rfl
      | some u =>
        obtain ⟨e1, _⟩ := hH b u q
        rcases hc with z | z
        · exact (z e1).elim
        · rw [← e1, q] at z; cases z
    have kinG : K.In (hidT s₁.heap H) := by
      intro b o e
      refine ground (kin b o e) ?_
      by_cases hc : H a = none
      · exact Or.inr hc
      · refine Or.inl fun z => ?_
        rw [z, hK hc] at e
        cases e
    have nsG : ∀ {b : Addr} {m : Str → Option Value}, s₁.heap.Ns b m → (hidT s₁.heap H).Ns b m := by
      rintro b m ⟨o, es, ep, e, d, r⟩
      refine ⟨o, es, ep, ground e (Or.inl fun z => ?_), d, r⟩
      rw [z, ha] at e
      cases e
      cases d
    obtain ⟨mc, c1, c2⟩ := hlim
    have md : Mod K mg (hidT s₁.heap H) := ⟨kinG, nsG hns, ⟨mb, nsG hb, hbb⟩, ⟨mc, nsG c1, c2⟩⟩
    have none_in : ∀ b : Addr, b ∈ ([] : List Addr) → False := fun b z => nomatch z
    have e0 : Env0 P0 w K mg (hidT s₁.heap H) callerA [] s₁ H :=
      { frames := rfl, mod := md, bs := fun b o e => of_hidT e, bsz := Nat.le_of_eq (hidT_size _ _), funs := trivial, frf := fun b z => (none_in b z).elim, hok := hok, bare := .of_eq hg }
    have r1 : RelV (V.ref a) (Value.ref a) := rfl
    have go := (F _ kinG (nsG hns)).run callerA [] s₁ H ⟨[.ref a], []⟩ [.ref a] [.ref a] _ _ hr rfl e0 (hbind s₁ (.ref a)) (Paired.cons r1 Paired.nil) (hsp H hS)
    refine codeAny_mono go ?_
    intro rr s' hz
    rcases rr with e | fl
    · exact (hCX H e s' hz).elim
    cases fl with
    | ret u =>
      obtain ⟨v, H', os, bare, un, hok', r', q⟩ := hz
      have q' : v = V.bl true := q
      subst q'
      have ru : u = Value.bool true := r'
      subst ru
      refine ⟨rfl, OldK.of_keep ?_, os, bare⟩
      intro b o e
      cases q : H b with
      | none => exact un.keep b o e q (fun z => none_in b z) (fun z => none_in b z)
      | some u =>
        obtain ⟨_, xs, rfl⟩ := hH b u q
        have t1 := (hok b _ q).1
        have t2 := (hok' b _ (un.frzs b _ _ q)).1
        rw [e] at t1
        cases t1
        exact t2
    | next => exact False.elim hz
    | brk => exact False.elim hz
    | cont => exact False.elim hz
  cases hk : K.lookup a with
  | none =>
    refine core (scrH a { cls := .type "list", data := .seq vs.toArray } (ns.map V.int)) ?_ (Or.inl ⟨_, if_pos rfl⟩) ?_ (fun _ => hk)
    · intro b u e
      unfold scrH at e
      split at e
      · rename_i hb
        cases e
        exact ⟨hb, _, rfl⟩
      · cases e
    · intro b u e
      unfold scrH at e
      split at e
      · rename_i hb
        cases e
        subst hb
        exact ⟨ha, by rw [List.length_map]; exact hl, vs, _, rv, ha⟩
      · cases e
  | some o =>
    have e := kin a o hk
    rw [ha] at e
    cases e
    refine core (fun _ => none) (fun b u z => nomatch z) (Or.inr ?_) (fun b u z => nomatch z) (fun z => absurd rfl z)
    exact ⟨_, vs.toArray, _, hk, rfl, rfl, rfl, by rw [List.size_toArray, lenV]; exact hl, by simpa using rv⟩
open PySem.W in
theorem walk_G {l : PySem.W.OpenLaw} {n k : Nat} {q : Program} {loose : List Str} {XP : (Str → Option Value) → Heap → Prop} {YP : World → Heap → Prop} {d : DefRec} {CX : CXT} {x : Str}
    (hn : l.most = some n) (hn2 : n ≤ sizeLine) (hdf : d.params.defaults = []) (hr : Room k callerA)
    (F : ∀ (w : World) (mg : Str → Option Value) (fa : Addr) (h : Heap), YP w h → h.Ns mainGlobals mg → mg d.name = some (.ref fa) →
      ∃ (K : PySem.W.Frag) (fd : FuncData) (sp : Sp), K.In h ∧ (∀ (s : Shared) (u : Value), BindsTo s fd ⟨[u], []⟩ [(x, u)]) ∧
        (∀ (H : Hp) (a : Addr) (ns : List Int), ns.length ≤ n → KLs K H a (ns.map V.int) → sp [.ref a] H (fun v _ => v = .bl true) fun _ _ _ => False) ∧
        ∀ base : Heap, K.In base → base.Ns mainGlobals mg → FnG l.prog w K mg base CX k fa fd [x] sp)
    (hCX : ∀ (H : Hp) (s : Shared) (e : Value) (s' : Shared), CX [] H s (fun _ _ _ => False) e s' → False) :
    PySem.W.WalkO q loose XP YP l.row.toRowW d [] (fun f vs => PySem.call f vs) := by
  refine Att.attach_call hn hdf ?_
  intro w s₀ s₁ mg mb fa o pm cd doc a vs ns G Y ho hd hcd hmg hobj hints hlen hg
  obtain ⟨K, fd, sp, KX, bnd, hsp, hF⟩ := F w mg fa _ Y G.T.g hmg
  refine law_callG KX G.T.g G.T.b G.T.builtins G.T.nolimit hg hobj hints (Nat.le_trans hlen hn2) hr hF bnd (fun H hS => hsp H a ns hlen hS) ?_
  exact fun H e s' => hCX H s₁ e s'
end DM
set_option Elab.async false
set_option linter.all false
set_option maxRecDepth 100000
set_option maxHeartbeats 4000000
/-! S5: which text a term of the interpreter's is. -/
namespace DM
open PySem L2 PyProof.Rows PySem.Spec

structure Tab where
  P : Prog
  fnm : Nat → Str           -- names of attributes, methods, keywords
  gn : Nat → Str            -- names of the module's constants
  gok : Nat → Bool
  fname : Nat → Str         -- names of the module's defs
  fok : Nat → Bool
  fps : Nat → List Str      -- their parameters
  cname : Nat → Str         -- names of the module's classes
  cok : Nat → Bool
  shc : Nat → Nat → List Nat → List Src → Bool   -- forms of making: the class
  shm : Nat → Nat → List Nat → List Src → Bool   -- forms of methods' calls
  mnm : Nat → Str           -- a method's name
  sh : Nat → Nat → List Nat → List Src → Bool   -- forms of calls: the def, how many by place, the names, where each parameter is from

def visB (sc : Scope) (x : Str) : Bool := match sc.names.lookup x with
  | some .local => true
  | some .cell => true
  | some .free => true
  | _ => false
def glB (sc : Scope) (x : Str) : Bool := match sc.names.lookup x with
  | some .globalImplicit => true
  | _ => false
/-- a name that may be stored: any of a def's own; in a block its plain own ones -/
def locB (inB : Bool) (sc : Scope) (x : Str) : Bool := match sc.names.lookup x with
  | some .local => true
  | some .cell => !inB
  | _ => false
def nmB (N : List Str) (i : Nat) (x : Str) : Bool := decide (N[i]? = some x) && !(x == ("__debug__" : Str)) && !(x == ("__classdict__" : Str))
def isStar : Expr → Bool
  | .Starred _ _ => true
  | _ => false
def isSlice : Expr → Bool
  | .Slice _ _ none _ => true
  | _ => false
def txB (s : Tx) : Bool := decide (s.length ≤ LIM) && s.all fun c => decide (c < 1114112)
def bName : Bif → Str
  | .len => "len" | .abs => "abs" | .max => "max" | .min => "min" | .repr => "repr" | .list => "list" | .tuple => "tuple" | .set => "set" | .sorted => "sorted" | .int => "int" | .str => "str" | .all => "all" | .any => "any"
def tName : Ty → Str
  | .int => "int" | .bool => "bool" | .str => "str" | .list => "list" | .tuple => "tuple" | .dict => "dict" | .lookup => "LookupError" | .value => "ValueError" | .own _ => "?"
def tyS : Ty → Option String
  | .int => some "int" | .bool => some "bool" | .str => some "str" | .list => some "list" | .tuple => some "tuple" | .dict => some "dict" | _ => none
/-- a method of a built-in class: its name -/
def mName : Nat → Option Str
  | 0 => some "append"
  | 1 => some "join"
  | _ => none
/-- the object of an attribute is no super() -/
def noSup : Expr → Bool
  | .Call (.Name x _) [] [] _ => !(x == ("super" : Str))
  | _ => true
mutual
/-- the slots that a target stores -/
def tgS : Tg → List Nat
  | .nm i => [i]
  | .tup l => tgSs l
  | _ => []
def tgSs : Tgs → List Nat
  | .nil => []
  | .cons t r => tgS t ++ tgSs r
end
def isSet : Expr → Bool
  | .Set _ _ _ => true
  | _ => false
/-- a test that is a value's truth, or a comparison -/
def plainT : Expr → Bool
  | .UnaryOp .Not _ _ => false
  | .BoolOp _ _ _ => false
  | .IfExp _ _ _ _ => false
  | .Compare _ _ _ _ => false
  | _ => true
def isCmp : Expr → Bool
  | .Compare _ _ _ _ => true
  | _ => false
def isTup : Expr → Bool
  | .Tuple _ _ _ => true
  | _ => false
section
variable (T : Tab) (N : List Str)
mutual
def mE (sc : Scope) : Ex → Expr → Bool
  | .var i, e => match e with
    | .Name x _ => nmB N i x && visB sc x
    | _ => false
  | .non, e => match e with
    | .Constant .none _ _ => true
    | _ => false
  | .bl b, e => match e with
    | .Constant (.bool c) _ _ => b == c
    | _ => false
  | .int i, e => match e with
    | .Constant (.int j) _ _ => decide (i = j)
    | _ => false
  | .str s, e => match e with
    | .Constant (.str t) _ _ => decide (t = ⟨s.toArray⟩) && txB s
    | _ => false
  | .gl g, e => match e with
    | .Name x _ => decide (x = T.gn g) && T.gok g && glB sc x && !(x == ("__debug__" : Str))
    | _ => false
  | .bin op a b, e => match e with
    | .BinOp l o r _ => decide (bo op = o) && mE sc a l && mE sc b r
    | _ => false
  | .neg a, e => match e with
    | .UnaryOp .USub x _ => mE sc a x
    | _ => false
  | .not_ a, e => match e with
    | .UnaryOp .Not x _ => mE sc a x
    | _ => false
  | .cmp op a b, e => match e with
    | .Compare l [o] [r] _ => decide (co op = o) && !behindInMarks o r && mE sc a l && mE sc b r
    | _ => false
  | .isN a, e => match e with
    | .Compare l [.Is] [.Constant .none _ _] _ => mE sc a l
    | _ => false
  | .isNt a, e => match e with
    | .Compare l [.IsNot] [.Constant .none _ _] _ => mE sc a l
    | _ => false
  | .ch o1 o2 a b c, e => match e with
    | .Compare l [p1, p2] [m, r] _ => decide (co o1 = p1) && decide (co o2 = p2) && !lastMarks [p1, p2] [m, r] && mE sc a l && mE sc b m && mE sc c r
    | _ => false
  | .and_ a b, e => match e with
    | .BoolOp .And (x :: y :: rest) p => mE sc a x && (match rest with
      | [] => mE sc b y
      | _ => mE sc b (.BoolOp .And (y :: rest) p))
    | _ => false
  | .or_ a b, e => match e with
    | .BoolOp .Or (x :: y :: rest) p => mE sc a x && (match rest with
      | [] => mE sc b y
      | _ => mE sc b (.BoolOp .Or (y :: rest) p))
    | _ => false
  | .ife c a b, e => match e with
    | .IfExp t x y _ => mT sc c t && mE sc a x && mE sc b y
    | _ => false
  | .att a f, e => match e with
    | .Attribute o m _ => decide (m = T.fnm f) && mE sc a o && noSup o
    | _ => false
  | .sub a i, e => match e with
    | .Subscript v s _ => mE sc a v && mE sc i s && !isSlice s
    | _ => false
  | .sl a lo hi, e => match e with
    | .Subscript v (.Slice l h none _) _ => mE sc a v && mO sc lo l && mO sc hi h
    | _ => false
  | .rev a, e => match e with
    | .Subscript v (.Slice none none (some (.UnaryOp .USub (.Constant (.int 1) _ _) _)) _) _ => mE sc a v
    | _ => false
  | .tup es, e => match e with
    | .Tuple xs _ _ => mEs sc es xs
    | _ => false
  | .lst es, e => match e with
    | .List xs _ => mEs sc es xs
    | _ => false
  | .dct es, e => match e with
    | .Dict ks vs _ => mDs sc es ks vs && decide (ks.length ≤ 15)
    | _ => false
  | .call f es ks kn sh, e => match e with
    | .Call (.Name x _) args kws _ => decide (x = T.fname f) && T.fok f && glB sc x && !(x == ("__debug__" : Str)) && mEs sc es args && mKs sc ks kn kws && T.sh f args.length kn sh
    | _ => false
  | .bif b es, e => match e with
    | .Call (.Name x _) (a :: args) [] _ => decide (x = bName b) && glB sc x && mEs sc es (a :: args)
    | _ => false
  | .isi a t, e => match e with
    | .Call (.Name x _) [o, .Name y _] [] _ => decide (x = "isinstance") && glB sc x && mE sc a o && !isStar o && glB sc y && (match t with
      | .own c => decide (y = T.cname c) && T.cok c && !(y == ("__debug__" : Str))
      | _ => decide (y = tName t) && (tyS t).isSome)
    | _ => false
  | .met m o es ks kn sh, e => match e with
    | .Call (.Attribute v x ap) args kws p => (match mName m, kws, args with
      | some y, [], a :: r => decide (x = y) && mE sc o v && noSup v && mEs sc es (a :: r) && decide (ap.endLine = p.line) && decide ((a :: r).length < 20) && (match ks with | .nil => true | _ => false)
      | some _, _, _ => false
      | none, _, _ => decide (100 ≤ m) && decide (x = T.mnm m) && mE sc o v && noSup v && mEs sc es args && mKs sc ks kn kws && T.shm m args.length kn sh && decide (ap.endLine = p.line) && decide (args.length < 12) && decide (kws.length < 12))
    | _ => false
  | .mk c es ks kn sh, e => match e with
    | .Call (.Name x _) args kws _ => decide (x = T.cname c) && T.cok c && glB sc x && !(x == ("__debug__" : Str)) && mEs sc es args && mKs sc ks kn kws && T.shc c args.length kn sh
    | _ => false
  | .lc elt own tg it c, e => match e with
    | .ListComp x [⟨t, i, ifs, 0⟩] scope _ => (match own.map fun k => N[k]? with
      | names => names.all (·.isSome) && blkC N sc scope ((names.filterMap id).zip own)) &&
        mI sc it i t && mG true (relS scope sc) tg t && (tgS tg).all (fun k => own.contains k) && mE (relS scope sc) elt x && mC (relS scope sc) c ifs && !isSet i
    | _ => false
  | .fst _, _ => false
  | .nev, _ => true
def mT (sc : Scope) : Te → Expr → Bool
  | .not_ a, e => match e with
    | .UnaryOp .Not x _ => mT sc a x
    | _ => false
  | .and_ a b, e => match e with
    | .BoolOp .And (x :: y :: rest) p => mT sc a x && (match rest with
      | [] => mT sc b y
      | _ => mT sc b (.BoolOp .And (y :: rest) p))
    | _ => false
  | .or_ a b, e => match e with
    | .BoolOp .Or (x :: y :: rest) p => mT sc a x && (match rest with
      | [] => mT sc b y
      | _ => mT sc b (.BoolOp .Or (y :: rest) p))
    | _ => false
  | .vl i, e => mE sc i e && (plainT e || isCmp e)
def mEs (sc : Scope) : Es → List Expr → Bool
  | .nil, l => l.isEmpty
  | .cons i r, l => match l with
    | e :: es => mE sc i e && !isStar e && mEs sc r es
    | [] => false
/-- keys and values by turns -/
def mDs (sc : Scope) : Es → List (Option Expr) → List Expr → Bool
  | .nil, ks, vs => ks.isEmpty && vs.isEmpty
  | .cons k r, ks, vs => match ks, r with
    | some x :: kr, .cons v t => (match vs with
      | y :: vr => mE sc k x && mE sc v y && mDs sc t kr vr
      | [] => false)
    | _, _ => false
def mKs (sc : Scope) : Es → List Nat → List Keyword → Bool
  | .nil, kn, l => kn.isEmpty && l.isEmpty
  | .cons i r, kn, l => match kn, l with
    | k :: kr, ⟨some x, e, _⟩ :: es => decide (x = T.fnm k) && mE sc i e && mKs sc r kr es
    | _, _ => false
def mO (sc : Scope) : Eo → Option Expr → Bool
  | .no, o => o.isNone
  | .so i, o => match o with
    | some e => mE sc i e
    | none => false
def mC (sc : Scope) : Tc → List Expr → Bool
  | .no, o => o.isEmpty
  | .so i, o => match o with
    | [e] => mT sc i e
    | _ => false
def mG (inB : Bool) (sc : Scope) : Tg → Expr → Bool
  | .nm i, e => match e with
    | .Name x _ => nmB N i x && locB inB sc x
    | _ => false
  | .tup l, e => match e with
    | .Tuple es _ _ => mGs inB sc l es
    | _ => false
  | .att o f, e => match e with
    | .Attribute v x _ => decide (x = T.fnm f) && mE sc o v && noSup v
    | _ => false
  | .sub o i, e => match e with
    | .Subscript v s _ => mE sc o v && mE sc i s && !isSlice s
    | _ => false
def mGs (inB : Bool) (sc : Scope) : Tgs → List Expr → Bool
  | .nil, l => l.isEmpty
  | .cons t r, l => match l with
    | e :: es => mG inB sc t e && !isStar e && mGs inB sc r es
    | [] => false
/-- what is walked, to the target t -/
def mI (sc : Scope) : Itx → Expr → Expr → Bool
  | .ex i, e, _ => mE sc i e
  | .rng i, e, _ => match e with
    | .Call (.Name x _) [a] [] _ => decide (x = "range") && glB sc x && mE sc i a && !isStar a
    | _ => false
  | .rng2 i j, e, _ => match e with
    | .Call (.Name x _) [a, b] [] _ => decide (x = "range") && glB sc x && mE sc i a && !isStar a && mE sc j b && !isStar b
    | _ => false
  | .zip i j, e, t => match e with
    | .Call (.Name x _) [a, b] [] _ => decide (x = "zip") && glB sc x && mE sc i a && !isStar a && mE sc j b && !isStar b && isTup t
    | _ => false
  | .enum i, e, t => match e with
    | .Call (.Name x _) [a] [] _ => decide (x = "enumerate") && glB sc x && mE sc i a && !isStar a && isTup t
    | _ => false
  | _, _, _ => false
end
end
end DM
set_option Elab.async false
set_option linter.all false
set_option maxRecDepth 100000
set_option maxHeartbeats 4000000
/-! S6: built-in functions, methods. -/
namespace DM
open PySem L2 PyProof.Rows PySem.Spec

/-! ### the text of a datum -/
def ChOk (s : Str) : Prop := ∀ c ∈ s.cps.toList, c < 1114112
theorem ChOk.app {a b : Str} (ha : ChOk a) (hb : ChOk b) : ChOk (a ++ b) := by
  intro c hc
  have e : (a ++ b).cps.toList = a.cps.toList ++ b.cps.toList := TL.tl_append a b
  rw [e] at hc
  exact (List.mem_append.mp hc).elim (ha c) (hb c)
theorem char_lt (c : Char) : c.toNat < 1114112 := by
  have h := c.valid
  unfold Char.toNat
  rcases h with h | h
  · have : c.val.toNat < 0xd800 := h
    omega
  · exact h.2
theorem ChOk.of (s : String) : ChOk (Str.ofString s) := by
  intro c hc
  rw [Str.ofString_eq_toList] at hc
  have hc' : c ∈ s.toList.map Char.toNat := by simpa using hc
  obtain ⟨d, _, rfl⟩ := List.mem_map.mp hc'
  exact char_lt d
theorem hex_lt {w c d : Nat} (h : d ∈ List.replicate (w - ((Nat.toDigits 16 c).map Char.toNat).length) 48 ++ (Nat.toDigits 16 c).map Char.toNat) : d < 1114112 := by
  rcases List.mem_append.mp h with h | h
  · rw [(List.mem_replicate.mp h).2]
    omega
  · obtain ⟨e, _, rfl⟩ := List.mem_map.mp h
    exact char_lt e
theorem reprChar_lt {q c : Nat} (hc : c < 1114112) : ∀ d ∈ Builtin.Str.reprChar q c, d < 1114112 := by
  intro d hd
  unfold Builtin.Str.reprChar at hd
  dsimp only at hd
  split at hd
  · simp at hd; omega
  split at hd
  · simp at hd; omega
  split at hd
  · simp at hd; omega
  split at hd
  · simp at hd; omega
  split at hd
  · simp at hd; omega
  split at hd
  · rcases List.mem_append.mp hd with hd | hd
    · simp at hd; omega
    · exact hex_lt hd
  split at hd
  · rcases List.mem_append.mp hd with hd | hd
    · simp at hd; omega
    · exact hex_lt hd
  · rcases List.mem_append.mp hd with hd | hd
    · simp at hd; omega
    · exact hex_lt hd
theorem foldl_repr_lt {q : Nat} : ∀ (l : List Nat) (acc : Array Nat), (∀ c ∈ l, c < 1114112) → (∀ c ∈ acc.toList, c < 1114112) → ∀ c ∈ (l.foldl (fun out c => out ++ (Builtin.Str.reprChar q c).toArray) acc).toList, c < 1114112
  | [], acc, _, ha => ha
  | x :: r, acc, hl, ha => by
    refine foldl_repr_lt r _ (fun c hc => hl c (List.mem_cons_of_mem _ hc)) ?_
    intro c hc
    rw [Array.toList_append] at hc
    rcases List.mem_append.mp hc with hc | hc
    · exact ha c hc
    · exact reprChar_lt (hl x List.mem_cons_self) c hc
theorem ChOk.repr {x : Str} (h : ChOk x) : ChOk (reprText x) := by
  have hq : reprQuote x < 1114112 := by unfold reprQuote; split <;> omega
  intro c hc
  unfold reprText at hc
  simp only [Array.toList_push] at hc
  rcases List.mem_append.mp hc with hc | hc
  · rw [← Array.foldl_toList] at hc
    refine foldl_repr_lt x.cps.toList _ h ?_ c hc
    intro d hd
    have : d = reprQuote x := by simpa using hd
    omega
  · have : c = reprQuote x := by simpa using hc
    omega
theorem ChOk.join {s : Str} (hs : ChOk s) : ∀ {l : List Str}, (∀ x ∈ l, ChOk x) → ChOk (Str.join s l)
  | [], _ => ChOk.of ""
  | [x], h => h x List.mem_cons_self
  | x :: y :: r, h => by
    show ChOk (x ++ s ++ Str.join s (y :: r))
    exact ((h x List.mem_cons_self).app hs).app (ChOk.join hs fun z hz => h z (List.mem_cons_of_mem _ hz))
theorem ChOk.textFrom : ∀ (l : List Str) (k : Nat) (acc : Str), (∀ x ∈ l, ChOk x) → ChOk acc → ChOk (textFrom k acc l)
  | [], k, acc, _, ha => ha
  | x :: r, k, acc, h, ha => by
    refine ChOk.textFrom r (k + 1) _ (fun z hz => h z (List.mem_cons_of_mem _ hz)) (ChOk.app (ChOk.app ha ?_) (h x List.mem_cons_self))
    exact ChOk.of _
theorem ChOk.list {l : List Str} (h : ∀ x ∈ l, ChOk x) : ChOk (listText l) := ChOk.app (ChOk.textFrom l 0 _ h (ChOk.of "[")) (ChOk.of "]")
theorem ChOk.tuple {l : List Str} (h : ∀ x ∈ l, ChOk x) : ChOk (tupleText l) := ChOk.app (ChOk.app (ChOk.of "(") (ChOk.join (ChOk.of ", ") h)) (ChOk.of _)
/-- the text of a datum without dicts -/
theorem len_sum_cons (t : Str) (ts : List Str) : ((t :: ts).map (·.length)).sum = t.length + (ts.map (·.length)).sum := by rw [List.map_cons, List.sum_cons]
mutual
theorem shown_le : ∀ (n : Nat) (d : PD), pdOk n d → shwOk d = true → (toPy d).shown.length ≤ msz d ∧ ChOk (toPy d).shown ∧ (toPy d).showable = true
  | n, .non, _, _ => ⟨by show 4 ≤ 4; omega, ChOk.of "None", by simp [toPy, PyData.showable]⟩
  | n, .bl b, _, _ => by
    refine ⟨?_, ?_, by simp [toPy, PyData.showable]⟩
    · cases b
      · show 5 ≤ 5; omega
      · show 4 ≤ 5; omega
    · cases b
      · exact ChOk.of "False"
      · exact ChOk.of "True"
  | n, .int i, _, hs => by
    have hs' : i.natAbs.log2 < 1920 := of_decide_eq_true (by simpa [shwOk] using hs)
    refine ⟨?_, ?_, ?_⟩
    · have e := int_text_length_le (k := i.natAbs.log2 + 1) (a := i) (by omega) (by omega)
      simp only [toPy, PyData.shown, msz]
      rw [PySem.ofString_length]
      omega
    · simp only [toPy, PyData.shown]
      exact ChOk.of _
    · simp only [toPy, PyData.showable]
      exact decide_eq_true hs'
  | n, .str s, h, hs => by
    have h' : TxOk s := by unfold pdOk at h; exact h
    have e0 : ((⟨s.toArray⟩ : Str).cps.toList) = s := by simp
    refine ⟨?_, ?_, by simp [toPy, PyData.showable]⟩
    · have e := StrLaws.reprText_len ⟨s.toArray⟩ (by rw [e0]; exact fun c hc => Nat.lt_trans (h'.2 c hc) (by decide))
      have e1 : (⟨s.toArray⟩ : Str).length = s.length := by show s.toArray.size = _; simp
      simp only [toPy, PyData.shown, msz]
      omega
    · simp only [toPy, PyData.shown]
      exact ChOk.repr (by unfold ChOk; rw [e0]; exact h'.2)
  | 0, .tup _, h, _ => by unfold pdOk at h; exact h.elim
  | 0, .lst _, h, _ => by unfold pdOk at h; exact h.elim
  | n + 1, .tup l, h, hs => by
    unfold pdOk at h
    obtain ⟨a, b, c⟩ := showns_le n l h (by simpa [shwOk] using hs)
    have e := tupleText_len_le (PyData.shownAll (toPys l))
    refine ⟨?_, ?_, ?_⟩
    · simp only [toPy, PyData.shown, msz]
      omega
    · simp only [toPy, PyData.shown]
      exact ChOk.tuple b
    · simp only [toPy, PyData.showable]
      exact c
  | n + 1, .lst l, h, hs => by
    unfold pdOk at h
    obtain ⟨a, b, c⟩ := showns_le n l h (by simpa [shwOk] using hs)
    have e := listText_len_le (PyData.shownAll (toPys l))
    refine ⟨?_, ?_, ?_⟩
    · simp only [toPy, PyData.shown, msz]
      omega
    · simp only [toPy, PyData.shown]
      exact ChOk.list b
    · simp only [toPy, PyData.showable]
      exact c
  | n, .dct l, h, _ => by unfold pdOk at h; exact h.elim
theorem showns_le : ∀ (n : Nat) (l : List PD), pdOks n l → shwOks l = true → ((PyData.shownAll (toPys l)).map (·.length)).sum + 2 * (PyData.shownAll (toPys l)).length ≤ mszs l ∧ (∀ x ∈ PyData.shownAll (toPys l), ChOk x) ∧ PyData.showableAll (toPys l) = true
  | n, [], _, _ => ⟨by simp [toPys, PyData.shownAll, mszs], fun x hx => (by simp [toPys, PyData.shownAll] at hx), by simp [toPys, PyData.showableAll]⟩
  | n, x :: xs, h, hs => by
    unfold pdOks at h
    have hs' : shwOk x = true ∧ shwOks xs = true := by simpa [shwOks] using hs
    obtain ⟨a, b, c⟩ := shown_le n x h.1 hs'.1
    obtain ⟨a2, b2, c2⟩ := showns_le n xs h.2 hs'.2
    simp only [toPys, PyData.shownAll, PyData.showableAll]
    refine ⟨?_, fun y hy => ?_, by rw [c, c2]; rfl⟩
    · rw [len_sum_cons, List.length_cons]
      simp only [mszs]
      omega
    · rcases List.mem_cons.mp hy with rfl | hy
      · exact b
      · exact b2 y hy
end
def shwOf (d : PD) : Tx := (toPy d).shown.cps.toList
theorem str_eta (s : Str) : (⟨s.cps.toList.toArray⟩ : Str) = s := by cases s; simp

section
variable {Y : Ctx} {f : Nat → Addr} {N : Nat} {h : MH} {H : Hp} {X : Cx}
def rC (Y : Ctx) (k : List MV → MH → R MV) : List V → Hp → VK → Prop := fun xs H Q => ∃ f h l, Rl Y.K Y.Z f h H ∧ VRs Y.K f h.size H l xs ∧ GP Y f h H (k l h) fun v f' h' H' => ∀ z, VR Y.K f' h'.size H' v z → Q z H'
/-- arguments, one by one -/
theorem VRs.inv1 {K : KW} {m : MV} {xs : List V} (r : VRs K f N H [m] xs) : ∃ x, xs = [x] ∧ VR K f N H m x := by
  obtain ⟨v, ws, rfl, a, b⟩ := r.cons_inv
  rw [b.nil_inv]
  exact ⟨v, rfl, a⟩
theorem VRs.inv2 {K : KW} {m n : MV} {xs : List V} (r : VRs K f N H [m, n] xs) : ∃ x y, xs = [x, y] ∧ VR K f N H m x ∧ VR K f N H n y := by
  obtain ⟨v, ws, rfl, a, b⟩ := r.cons_inv
  obtain ⟨x, rfl, c⟩ := b.inv1
  exact ⟨v, x, rfl, a, c⟩
/-- a builtin's name, as a value: a function or a type -/
def bVal : Bif → Value
  | .len => .builtin "len" | .abs => .builtin "abs" | .max => .builtin "max" | .min => .builtin "min" | .repr => .builtin "repr" | .list => .type "list" | .tuple => .type "tuple" | .set => .type "set" | .sorted => .builtin "sorted" | .int => .type "int" | .str => .type "str" | .all => .builtin "all" | .any => .builtin "any"
theorem allT_inv : ∀ {l : List MV} {b : Bool} {vs : List V}, allT l = some b → VRs Y.K f N H l vs → ∃ bs : List Bool, vs = bs.map V.bl ∧ bs.all id = b
  | [], b, vs, e, r => ⟨[], r.nil_inv, Option.some.inj e⟩
  | m :: ms, b, vs, e, r => by
    obtain ⟨v, ws, rfl, a, t⟩ := r.cons_inv
    cases m with
    | bl c =>
      simp only [allT] at e
      cases e1 : allT ms with
      | none => rw [e1] at e; cases e
      | some d =>
        rw [e1] at e
        obtain ⟨bs, rfl, e2⟩ := allT_inv e1 t
        refine ⟨c :: bs, by rw [a.bl_inv]; rfl, ?_⟩
        rw [List.all_cons, e2]
        exact Option.some.inj e
    | _ => cases e
theorem anyT_inv : ∀ {l : List MV} {b : Bool} {vs : List V}, anyT l = some b → VRs Y.K f N H l vs → ∃ bs : List Bool, vs = bs.map V.bl ∧ bs.any id = b
  | [], b, vs, e, r => ⟨[], r.nil_inv, Option.some.inj e⟩
  | m :: ms, b, vs, e, r => by
    obtain ⟨v, ws, rfl, a, t⟩ := r.cons_inv
    cases m with
    | bl c =>
      simp only [anyT] at e
      cases e1 : anyT ms with
      | none => rw [e1] at e; cases e
      | some d =>
        rw [e1] at e
        obtain ⟨bs, rfl, e2⟩ := anyT_inv e1 t
        refine ⟨c :: bs, by rw [a.bl_inv]; rfl, ?_⟩
        rw [List.any_cons, e2]
        exact Option.some.inj e
    | _ => cases e
theorem tR_inv {o : Option Tx} {T : MV → (Nat → Addr) → MH → Hp → Prop} (r : Rl Y.K Y.Z f h H) (g : GP Y f h H (tR o h) T) : ∃ s, o = some s ∧ T (.str s) f h H := by
  cases o with
  | none => exact g.elim
  | some b => exact ⟨b, rfl, GP.here r g⟩
/-- the signs of a text, each as a text -/
theorem VRs.signs {K : KW} : ∀ {s : Tx}, TxOk s → VRs K f N H (s.map fun c => MV.str [c]) (s.map fun c => V.str ⟨#[c]⟩)
  | [], _ => .nil
  | c :: r, t => by
    refine .cons (.str (s := [c]) ⟨?_, fun d hd => ?_⟩) (VRs.signs ⟨Nat.le_of_succ_le t.1, fun d hd => t.2 d (List.mem_cons_of_mem _ hd)⟩)
    · rw [sizeLine_eq]; show 1 ≤ _; omega
    · have : d = c := by simpa using hd
      rw [this]
      exact t.2 c List.mem_cons_self
theorem call_repr {P : Prog} (hP : P.shw = shwOf) (hK : X.K = Y.K) (hG : X.A.guards = some []) (hu : X.A.units + 65 < cLine) {pins : List (Addr × Obj)} {s : Shared} {σ : L2.St} {m : MV} {x : V} {u : Value} {Q : VK}
    (I : Inv X pins σ H s) (rx : RelV x u) (r : Rl Y.K Y.Z f h H) (rm : VR Y.K f h.size H m x) (g : GP Y f h H (tR (shM P m h) h) fun v f' h' H' => ∀ z, VR Y.K f' h'.size H' v z → Q z H') :
    wpAny (model X.prog X.w) X.A (call (.builtin "repr") [u]) (EP X pins σ Q) X.xe s := by
  obtain ⟨t, e, q⟩ := tR_inv r g
  unfold shM at e
  cases e1 : dat DEP h m with
  | none => rw [e1] at e; cases e
  | some d =>
    rw [e1] at e
    simp only at e
    split at e
    · rename_i hc
      cases e
      obtain ⟨dp, po⟩ := dat_dp r _ _ _ _ e1 rm
      obtain ⟨l1, l2, l3⟩ := shown_le _ _ po hc.1
      have hsz : (toPy d).shown.length ≤ sizeLine := Nat.le_trans l1 (LIM_eq ▸ hc.2)
      have hsh := shaped_of po (by decide)
      have q2 : Q (.str (toPy d).shown) H := by
        rw [hP] at q
        have := q _ (.str (K := Y.K) (f := f) (N := h.size) (H := H) (s := shwOf d) ⟨?_, l2⟩)
        · unfold shwOf at this
          rwa [str_eta] at this
        · show (toPy d).shown.cps.toList.length ≤ _
          rw [Array.length_toList]
          exact hsz
      obtain ⟨as, rd⟩ := Dp.reads I (toPy d) x u (hK ▸ dp) rx
      have done : ∀ (h' : Heap) (tk' : Tok) (tk : Nat), (∀ b o, s.heap.get? b = some o → h'.get? b = some o) → EP X pins σ Q (.str (toPy d).shown tk') { s with heap := h', toks := tk } := fun h' tk' tk k => ⟨.str _, H, I.kept k, ⟨_, rfl⟩, q2⟩
      have hd := SeqAt.depth_of_shaped hsh
      cases d with
      | non =>
        cases rm0 : x <;> (subst rm0; cases dp)
        cases rx
        exact PySem.P.repr_of_none (done s.heap _ _ fun _ _ z => z)
      | bl b =>
        cases rm0 : x <;> (subst rm0; cases dp)
        cases rx
        refine PySem.P.repr_of_bool ?_
        exact done s.heap s.toks (s.toks + 1) fun _ _ z => z
      | int i =>
        cases rm0 : x <;> (subst rm0; cases dp)
        obtain ⟨t, rfl⟩ := rx
        refine PySem.P.repr_of_int (of_decide_eq_true (by simpa [shwOk] using hc.1)) ?_
        exact done s.heap s.toks (s.toks + 1) fun _ _ z => z
      | str z =>
        cases rm0 : x <;> (subst rm0; cases dp)
        obtain ⟨t, rfl⟩ := rx
        have hz : (reprText ⟨z.toArray⟩).length ≤ sizeLine := by simpa [toPy, PyData.shown] using hsz
        refine PySem.P.repr_of_str ?_ hz
        exact done s.heap s.toks (s.toks + 1) fun _ _ z => z
      | tup l =>
        cases rm0 : x <;> (subst rm0; cases dp)
        cases rx
        exact repr_of_reads' rd l3 (PyData.noDict_hsm (PyData.hasDict_of_canLay _ (lay_of _ _ po).1)) hG (by omega) (fun _ _ z => z) (fun h' u' tk k => done h' u' tk k) hsz
      | lst l =>
        cases rm0 : x <;> (subst rm0; cases dp)
        cases rx
        exact repr_of_reads' rd l3 (PyData.noDict_hsm (PyData.hasDict_of_canLay _ (lay_of _ _ po).1)) hG (by omega) (fun _ _ z => z) (fun h' u' tk k => done h' u' tk k) hsz
      | dct l => cases po
    · cases e

/-- list(text) -/
theorem call_listS {K : KW} (hc : X.calm = true) : CallR X (.type "list") (fun xs H Q => ∃ z : Tx, xs = [.str ⟨z.toArray⟩] ∧ z.length ≤ sizeLine ∧ ∀ p, H p = none → Q (.ref p) (upd H p (.lst (z.map fun c => V.str ⟨#[c]⟩)))) := by
  intro pins s σ H xs us Q I r h
  obtain ⟨z, rfl, hz, q⟩ := h
  obtain ⟨u, rfl, t, rfl⟩ := vals1 r
  refine call_list_str (I.ok.hd hc) _ t (fun h' tk acc' c' hk hS hacc => ?_) (by show z.toArray.size ≤ _; simpa using hz)
  have hn := I.fresh
  refine ⟨.ref _, _, ?_, rfl, q _ hn⟩
  refine I.laid hk (Nat.le_refl _) ?_
  have hl : acc'.toList.length = z.length := by
    have := hacc.1
    simpa using this
  refine ⟨by rw [List.length_map]; exact hz, acc'.toList, c', ?_, ?_⟩
  · refine vals_of_at (by rw [List.length_map]; exact hl.symm) fun j x u e1 e2 => ?_
    obtain ⟨c, t2, e3, rfl⟩ := hacc.2 j u (by simpa using e2)
    have e3' : z[j]? = some c := by simpa using e3
    rw [List.getElem?_map, e3'] at e1
    cases e1
    exact ⟨t2, rfl⟩
  · simpa using hS
theorem call_bif {P : Prog} (hP : P.shw = shwOf) (hK : X.K = Y.K) (hc : X.calm = true) (hG : X.A.guards = some []) (hu : X.A.units + 65 < cLine) (b : Bif) : CallR X (bVal b) (rC Y (bifM P b)) := by
  intro pins s σ H xs us Q I rv ⟨f, h, l, r, rl, g⟩
  unfold bifM at g
  split at g
  · -- len of a text
    rename_i z
    obtain ⟨x, rfl, a⟩ := rl.inv1
    obtain ⟨rfl, t⟩ := a.str_inv
    split at g
    · refine call_len_str pins s σ H _ us Q I rv ⟨_, rfl, ?_, ?_⟩
      · show z.toArray.size ≤ _
        simpa using t.1
      · have e : ((⟨z.toArray⟩ : Str).length : Int) = z.length := by show (z.toArray.size : Int) = _; simp
        rw [e]
        exact GP.here r g _ .int
    · exact g.elim
  · rename_i m hm
    obtain ⟨x, rfl, a⟩ := rl.inv1
    split at g
    · rename_i l e
      obtain ⟨p, vs, rfl, sq, t⟩ := seqOf_sq r a e
      refine call_len_seq pins s σ H _ us Q I rv ⟨p, vs, rfl, hK ▸ sq, ?_⟩
      rw [← t.length]
      exact GP.here r g _ .int
    · split at g
      · split at g
        · rename_i lk l e
          obtain ⟨hn, rfl⟩ := a.ref_inv
          obtain ⟨_, kvs, e1, e2⟩ := r.ob _ _ e
          obtain ⟨u, rfl, ru⟩ := vals1 rv
          obtain rfl : u = Value.ref (f _) := ru
          refine d_len I (DAt.rd e1) fun t s' I' => ⟨.int kvs.length, H, I', ⟨t, rfl⟩, ?_⟩
          rw [← e2.len]
          exact GP.here r g _ .int
        · exact g.elim
      · exact g.elim
  · obtain ⟨x, rfl, a⟩ := rl.inv1
    cases a.int_inv
    exact call_abs pins s σ H _ us Q I rv ⟨_, rfl, GP.here r g _ .int⟩
  · obtain ⟨x, y, rfl, a, b⟩ := rl.inv2
    cases a.int_inv; cases b.int_inv
    exact call_max2 hc pins s σ H _ us Q I rv ⟨_, _, rfl, GP.here r g _ .int⟩
  · obtain ⟨x, y, rfl, a, b⟩ := rl.inv2
    cases a.int_inv; cases b.int_inv
    exact call_min2 hc pins s σ H _ us Q I rv ⟨_, _, rfl, GP.here r g _ .int⟩
  · obtain ⟨x, rfl, a⟩ := rl.inv1
    cases a.int_inv
    exact call_int1 pins s σ H _ us Q I rv (.inl ⟨_, rfl, GP.here r g _ .int⟩)
  · obtain ⟨x, rfl, a⟩ := rl.inv1
    cases a.bl_inv
    exact call_int1 pins s σ H _ us Q I rv (.inr ⟨_, rfl, GP.here r g _ .int⟩)
  · obtain ⟨x, rfl, a⟩ := rl.inv1
    obtain ⟨u, rfl, ru⟩ := vals1 rv
    exact call_repr hP hK hG hu I ru r a g
  · rename_i z
    obtain ⟨x, rfl, a⟩ := rl.inv1
    obtain ⟨rfl, t⟩ := a.str_inv
    refine call_listS (K := Y.K) hc pins s σ H _ us Q I rv ⟨z, rfl, t.1, fun p hp => ?_⟩
    obtain ⟨_, f', q, e⟩ := GP.newList r g (VRs.signs t) hp
    exact q _ (by rw [← e]; exact .ref (by rw [MH.size_push]; omega))
  · obtain ⟨x, rfl, a⟩ := rl.inv1
    split at g
    · rename_i l e
      obtain ⟨p, vs, rfl, sq, t⟩ := seqOf_sq r a e
      refine call_list_of pins s σ H _ us Q I rv ⟨p, vs, rfl, hK ▸ sq, fun z hz => ?_⟩
      obtain ⟨_, f', q, e⟩ := GP.newList r g t hz
      exact q _ (by rw [← e]; exact .ref (by rw [MH.size_push]; omega))
    · exact g.elim
  · obtain ⟨x, rfl, a⟩ := rl.inv1
    split at g
    · rename_i m l e
      obtain ⟨p, vs, rfl, sq, t⟩ := seqOf_sq r a e
      refine call_tuple_of pins s σ H _ us Q I rv ⟨p, vs, rfl, ?_⟩
      rcases sq with sq | sq
      · refine .inl ⟨hK ▸ sq, fun z hz => ?_⟩
        have e1 : Ext f h.size H f h.size (upd H z (.tup vs)) := Ext.aside hz
        exact g.app e1 (r.aside (u := .tup vs) hz) _ (.tup (SqT.of upd_same) (r.vrs e1 t))
      · exact .inr ⟨hK ▸ sq, GP.here r g _ (.tup sq t)⟩
    · exact g.elim
  · obtain ⟨x, rfl, a⟩ := rl.inv1
    split at g
    · rename_i l e
      obtain ⟨p, vs, rfl, sq, t⟩ := listOf_sq r a e
      obtain ⟨b, e2, q⟩ := bR_inv r g
      obtain ⟨bs, rfl, e3⟩ := allT_inv e2 t
      exact cr_all hc pins s σ H _ us Q I rv ⟨p, bs, rfl, hK ▸ sq, by rw [e3]; exact q _ .bl⟩
    · exact g.elim
  · obtain ⟨x, rfl, a⟩ := rl.inv1
    split at g
    · rename_i l e
      obtain ⟨p, vs, rfl, sq, t⟩ := listOf_sq r a e
      obtain ⟨b, e2, q⟩ := bR_inv r g
      obtain ⟨bs, rfl, e3⟩ := anyT_inv e2 t
      exact cr_any hc pins s σ H _ us Q I rv ⟨p, bs, rfl, hK ▸ sq, by rw [e3]; exact q _ .bl⟩
    · exact g.elim
  · exact g.elim

/-! ### isinstance -/
def ttV (Z : Env1) : Tt → Value
  | .nn => .type "NoneType" | .bl => .type "bool" | .int => .type "int" | .str => .type "str" | .tup => .type "tuple" | .lst => .type "list" | .own c => .ref (Z.ca c)
def tyV' (Z : Env1) : Ty → V
  | .int => .ty "int" | .bool => .ty "bool" | .str => .ty "str" | .list => .ty "list" | .tuple => .ty "tuple" | .dict => .ty "dict" | .own c => .ref (Z.ca c) | _ => .non
def tyU (Z : Env1) : Ty → Value
  | .int => .type "int" | .bool => .type "bool" | .str => .type "str" | .list => .type "list" | .tuple => .type "tuple" | .dict => .type "dict" | .own c => .ref (Z.ca c) | _ => .none
/-- what is known of own classes -/
structure IsF (P : Prog) (K : PySem.W.Frag) (Z : Env1) : Prop where
  ins : ∀ c, (P.cls c).isx = true → Cls K (Z.ca c) ∧ PySem.W.findIn K (.ref (Z.ca c)) "__class__" = some (some (.builtin "object.__class__")) ∧ PySem.W.specialIn K (.builtin "object.__class__") "__get__" = some (some (.builtin "getset_descriptor.__get__")) ∧
    PySem.W.takesIn K (.builtin "object.__class__") = some true ∧ PySem.W.mroIn K (Z.ca c) (.type "object") = some true
  one : ∀ a t, a.ok P = true → t.ok P = true → ((∃ c, a = .own c) ∨ ∃ c, t = .own c) → ∀ b, subT a t = some b → PySem.W.kitOne K (ttV Z a) (tyU Z t) = some b
theorem KLs.tyX {K : KW} {a : Addr} {xs : List V} (s : KLs K H a xs) : TyX K H (.ref a) (.type "list") := by
  rcases s with ⟨o, e⟩ | ⟨o, its, n, e, c, _⟩
  · exact .base (.frz e)
  · exact .kList e c
theorem SqT.tyX {K : KW} {a : Addr} {xs : List V} (s : SqT K H a xs) : TyX K H (.ref a) (.type "tuple") := by
  rcases s with (e | ⟨o, e⟩) | ⟨o, its, n, e, c, _⟩
  · exact .base (.tup e)
  · exact .fTuple e
  · exact .kTuple e c
theorem tyM_inv {P : Prog} {m : MV} {x : V} {a : Tt} (F : IsF P Y.K Y.Z) (r : Rl Y.K Y.Z f h H) (rm : VR Y.K f h.size H m x) (e : tyM h m = some a) (ok : a.ok P = true) : TyX Y.K H x (ttV Y.Z a) := by
  unfold tyM at e
  split at e
  · cases e; rw [rm.non_inv]; exact .base .non
  · cases e; rw [rm.bl_inv]; exact .base (.bl _)
  · cases e; rw [rm.int_inv]; exact .base (.int _)
  · cases e; rw [rm.str_inv.1]; exact .base (.str _)
  · cases e
    obtain ⟨p, vs, rfl, sq, t⟩ := rm.tup_inv
    exact SqT.tyX sq
  · cases e
    obtain ⟨p, vs, rfl, sq, t⟩ := rm.kl_inv
    exact KLs.tyX sq
  · obtain ⟨hn, rfl⟩ := rm.ref_inv
    split at e
    · rename_i l en
      cases e
      obtain ⟨vs, e1, t⟩ := r.ob _ _ en
      exact .base (.lst e1)
    · rename_i c fs en
      cases e
      obtain ⟨dx, gs, e1, _⟩ := r.ob _ _ en
      obtain ⟨f1, f2, f3, f4, f5⟩ := F.ins c ok
      exact .base (.ins e1 f1 f2 f3 f4 f5)
    · cases e
  · cases e
theorem kit_all {P : Prog} {K : PySem.W.Frag} {Z : Env1} {a : Tt} {t : Ty} {b : Bool} (F : IsF P K Z) (ha : a.ok P = true) (ht : t.ok P = true) (e : subT a t = some b) : PySem.W.kitOne K (ttV Z a) (tyU Z t) = some b := by
  cases a with
  | own c => exact F.one _ _ ha ht (.inl ⟨c, rfl⟩) _ e
  | _ =>
    cases t with
    | own c => exact F.one _ _ ha ht (.inr ⟨c, rfl⟩) _ e
    | lookup => cases e
    | value => cases e
    | _ => cases e; refine kit_ty ?_; decide +kernel
def rI1 (P : Prog) (Y : Ctx) (t : Ty) : List V → Hp → VK → Prop := fun xs H Q => ∃ f h m x, xs = [x, tyV' Y.Z t] ∧ Rl Y.K Y.Z f h H ∧ VR Y.K f h.size H m x ∧ GP Y f h H (bR (isiM P m t h) h) fun v f' h' H' => ∀ z, VR Y.K f' h'.size H' v z → Q z H'
theorem tyS_cls {Z : Env1} {t : Ty} (h1 : t ≠ .lookup) (h2 : t ≠ .value) : ClsV (tyV' Z t) (tyU Z t) := by
  cases t <;> first | exact .ty _ | exact .own _ | exact absurd rfl h1 | exact absurd rfl h2
theorem call_isiM {P : Prog} (hK : X.K = Y.K) (F : IsF P Y.K Y.Z) {t : Ty} : CallR X (.builtin "isinstance") (rI1 P Y t) := by
  intro pins s σ H xs us Q I rv ⟨f, h, m, x, ex, r, rm, g⟩
  obtain ⟨b, e, q⟩ := bR_inv r g
  unfold isiM at e
  cases e1 : tyM h m with
  | none => rw [e1] at e; cases e
  | some a =>
    rw [e1] at e
    simp only at e
    split at e
    · rename_i hok
      rw [Bool.and_eq_true] at hok
      have h1 : t ≠ .lookup := fun z => by subst z; cases a <;> cases e
      have h2 : t ≠ .value := fun z => by subst z; cases a <;> cases e
      exact call_isi pins s σ H xs us Q I rv ⟨x, _, _, _, b, ex, tyS_cls h1 h2, hK ▸ tyM_inv F r rm e1 hok.1, hK ▸ kit_all F hok.1 hok.2 e, q _ .bl⟩
    · cases e

/-! ### methods of built-in classes -/
def mId : Nat → String
  | 0 => "list.append"
  | _ => "str.join"
def mTy : Nat → String
  | 0 => "list"
  | _ => "str"
def rM (Y : Ctx) (k : Nat) : V → List V → Hp → VK → Prop := fun x xs H Q => ∃ f h m l, Rl Y.K Y.Z f h H ∧ VR Y.K f h.size H m x ∧ VRs Y.K f h.size H l xs ∧ GP Y f h H (metM k m l h) fun v f' h' H' => ∀ z, VR Y.K f' h'.size H' v z → Q z H'
theorem txs_inv : ∀ {l : List MV} {ts : List Tx} {vs : List V}, txs l = some ts → VRs Y.K f N H l vs → vs = (ts.map fun t => (⟨t.toArray⟩ : Str)).map V.str ∧ ∀ t ∈ ts, TxOk t
  | [], ts, vs, e, r => by
    cases e
    exact ⟨r.nil_inv, fun t h => (by cases h)⟩
  | m :: ms, ts, vs, e, r => by
    obtain ⟨v, ws, rfl, a, t⟩ := r.cons_inv
    cases m with
    | str z =>
      simp only [txs] at e
      cases e1 : txs ms with
      | none => rw [e1] at e; cases e
      | some d =>
        rw [e1] at e
        cases (Option.some.inj e)
        obtain ⟨rfl, h2⟩ := txs_inv e1 t
        obtain ⟨rfl, h3⟩ := a.str_inv
        refine ⟨rfl, fun t ht => ?_⟩
        rcases List.mem_cons.mp ht with rfl | ht
        · exact h3
        · exact h2 t ht
    | _ => cases e
theorem joinT_join (s : Tx) : ∀ ts : List Tx, Str.join ⟨s.toArray⟩ (ts.map fun t => (⟨t.toArray⟩ : Str)) = ⟨(joinT s ts).toArray⟩
  | [] => rfl
  | [a] => rfl
  | a :: b :: r => by
    show (⟨a.toArray⟩ : Str) ++ ⟨s.toArray⟩ ++ Str.join ⟨s.toArray⟩ ((b :: r).map fun t => (⟨t.toArray⟩ : Str)) = _
    rw [joinT_join s (b :: r), str_app, str_app]
    rfl
theorem joinT_len (s : Tx) : ∀ ts : List Tx, (joinT s ts).length ≤ (ts.map (·.length)).sum + ts.length * s.length
  | [] => Nat.zero_le _
  | [a] => by show a.length ≤ a.length + 0 + 1 * s.length; omega
  | a :: b :: r => by
    have := joinT_len s (b :: r)
    show (a ++ s ++ joinT s (b :: r)).length ≤ _
    rw [List.length_append, List.length_append, List.map_cons, List.sum_cons, List.length_cons, Nat.add_mul]
    omega
theorem joinT_mem {s : Tx} {P : Nat → Prop} (hs : ∀ c ∈ s, P c) : ∀ {ts : List Tx}, (∀ t ∈ ts, ∀ c ∈ t, P c) → ∀ c ∈ joinT s ts, P c
  | [], _, c, hc => by cases hc
  | [a], h, c, hc => h a List.mem_cons_self c hc
  | a :: b :: r, h, c, hc => by
    rcases List.mem_append.mp (show c ∈ (a ++ s) ++ joinT s (b :: r) from hc) with hc | hc
    · rcases List.mem_append.mp hc with hc | hc
      · exact h a List.mem_cons_self c hc
      · exact hs c hc
    · exact joinT_mem hs (fun t ht => h t (List.mem_cons_of_mem _ ht)) c hc
theorem Txt_join (a : Str) (ys : List Str) : Txt.join a ys = Str.join a ys := StrLaws.glued_eq_join a ys
theorem mt_met (hK : X.K = Y.K) (k : Nat) : MtR X (mId k) (rM Y k) := by
  intro pins s σ H x xs v us Q I rx rv ⟨f, h, m, l, r, rm, rl, g⟩
  unfold metM at g
  split at g
  · rename_i n v0
    obtain ⟨hn, rfl⟩ := rm.ref_inv
    obtain ⟨y, rfl, ry⟩ := rl.inv1
    split at g
    · rename_i l en
      obtain ⟨vs, e1, t⟩ := r.ob _ _ en
      split at g
      · rename_i hl
        refine mt_append pins s σ H _ _ v us Q I rx rv ⟨_, vs, y, rfl, rfl, e1, by rw [← t.length, ← LIM_eq]; exact hl, ?_⟩
        have ex : Ext f h.size H f h.size (upd H (f n) (.lst (vs ++ [y]))) := Ext.put hn (r.nofz en rfl)
        have hv := r.vrs ex (t.append (.cons ry .nil))
        obtain ⟨ex', rl'⟩ := r.put (o' := .lst (l ++ [v0])) (u := .lst (vs ++ [y])) en (fun _ q => by cases q) ⟨_, upd_same, hv⟩
        exact g.app ex' rl' _ .non
      · exact g.elim
    · exact g.elim
  · rename_i z w
    obtain ⟨rfl, tz⟩ := rm.str_inv
    obtain ⟨y, rfl, ry⟩ := rl.inv1
    split at g
    · rename_i l e
      obtain ⟨p, vs, rfl, sq, t⟩ := listOf_sq r ry e
      split at g
      · rename_i ts e1
        obtain ⟨rfl, ht⟩ := txs_inv e1 t
        split at g
        · rename_i hl
          refine L2.mt_join pins s σ H _ _ v us Q I rx rv ⟨_, p, ts.map fun t => (⟨t.toArray⟩ : Str), rfl, rfl, .inl (hK ▸ sq), ?_, ?_⟩
          · have e2 : ((ts.map fun t => (⟨t.toArray⟩ : Str)).map (·.length)).sum = (ts.map (·.length)).sum := by
              rw [List.map_map]
              exact congrArg List.sum (List.map_congr_left fun t _ => (show t.toArray.size = _ by simp))
            have e3 : (⟨z.toArray⟩ : Str).length = z.length := by show z.toArray.size = _; simp
            rw [e2, List.length_map, e3]
            exact hl
          · rw [Txt_join, joinT_join]
            refine GP.here r g _ (.str ⟨?_, ?_⟩)
            · rw [← LIM_eq]
              exact Nat.le_trans (joinT_len _ _) hl
            · exact joinT_mem tz.2 fun t h => (ht t h).2
        · exact g.elim
      · exact g.elim
    · exact g.elim
  · exact g.elim
end
end DM
set_option Elab.async false
set_option linter.all false
set_option maxRecDepth 100000
set_option maxHeartbeats 4000000
/-! S7: the forms of expressions, one by one. -/
namespace DM
open PySem L2 PyProof.Rows PySem.Spec

def btNames : List Str := ["len", "abs", "max", "min", "repr", "list", "tuple", "set", "sorted", "int", "str", "all", "any", "isinstance", "range", "bool", "dict", "zip", "enumerate", "LookupError", "ValueError"]
def spM (Y : Ctx) (T : Tab) (C : Nat → List MV → MH → R MV) (i : Nat) : Sp := fun vs H Q E => vs.length = (T.fps i).length ∧ ∃ f h ms, Rl Y.K Y.Z f h H ∧ VRs Y.K f h.size H ms vs ∧
  G Y (fun c d _ H => E c d H) [] f h H (C i ms h) fun v f' h' H' => ∀ z, VR Y.K f' h'.size H' v z → Q z H'
/-- how a form's values stand for what is bound -/
def PickR (K : KW) (sh : List Src) (us ws bs : List Value) : Prop := ∀ ms zs vs ys l f N H, pick ms zs sh = some l → Vals vs us → VRs K f N H ms vs → Vals ys ws → VRs K f N H zs ys → ∃ xs, Vals xs bs ∧ VRs K f N H l xs
/-- a form of a call with an object ahead -/
def FormS (T : Tab) (K : KW) (i : Nat) (fd : FuncData) (n : Nat) (kn : List Nat) (sh : List Src) : Prop := ∀ us ws : List Value, us.length = n → ws.length = kn.length →
  ∃ bs, bs.length + 1 = (T.fps i).length ∧ (∀ (s : Shared) (u : Value), K.In s.heap → BindsTo s fd ⟨u :: us, (kn.map T.fnm).zip ws⟩ ((T.fps i).zip (u :: bs))) ∧ PickR K sh us ws bs
/-- what the module holds -/
structure Fcts (T : Tab) (Y : Ctx) (C : Nat → List MV → MH → R MV) (CX : CXT) (lv : Nat) (P0 : Program) (w : World) (mg : Str → Option Value) (base : Heap) : Prop where
  shw : T.P.shw = shwOf
  Z : Y.Z.fnm = T.fnm
  kn : ∀ f g, Y.Z.kn f = true → Y.Z.kn g = true → T.fnm f = T.fnm g → f = g
  gl : ∀ g, T.gok g = true → ∃ u v, mg (T.gn g) = some u ∧ RelV v u ∧ ∀ f N H, VR Y.K f N H (T.P.glob g) v
  fd : ∀ i, T.fok i = true → ∃ a fd, mg (T.fname i) = some (.ref a) ∧ PySem.W.keepIn Y.K (.ref a) = true ∧ FnG P0 w Y.K mg base CX lv a fd (T.fps i) (spM Y T C i) ∧
    ∀ n kn sh, T.sh i n kn sh = true → ∀ (s : Shared) (us ws : List Value), Y.K.In s.heap → us.length = n → ws.length = kn.length →
      ∃ bs, bs.length = (T.fps i).length ∧ BindsTo s fd ⟨us, (kn.map T.fnm).zip ws⟩ ((T.fps i).zip bs) ∧
        ∀ ms zs vs ys l f N H, pick ms zs sh = some l → Vals vs us → VRs Y.K f N H ms vs → Vals ys ws → VRs Y.K f N H zs ys → ∃ xs, Vals xs bs ∧ VRs Y.K f N H l xs
  at_ : ∀ c f, (T.P.cls c).att f = true → Cls Y.K (Y.Z.ca c) ∧ NoAttr Y.K (Y.Z.ca c) (T.fnm f) ∧ Y.Z.kn f = true
  me : ∀ c m i, fldN m (T.P.cls c).met = some i → Cls Y.K (Y.Z.ca c) ∧ (∀ f, Y.Z.kn f = true → T.fnm f ≠ T.mnm m) ∧ ∃ a fd, Meth Y.K (Y.Z.ca c) (T.mnm m) a ∧ FnG P0 w Y.K mg base CX lv a fd (T.fps i) (spM Y T C i) ∧
    ∀ n kn sh, T.shm m n kn sh = true → FormS T Y.K i fd n kn sh
  mkc : ∀ c, T.cok c = true → mg (T.cname c) = some (.ref (Y.Z.ca c)) ∧ ∃ a fd, Mk Y.K (Y.Z.ca c) a ∧ FnG P0 w Y.K mg base CX lv a fd (T.fps (T.P.cls c).ini) (spM Y T C (T.P.cls c).ini) ∧
    ∀ n kn sh, T.shc c n kn sh = true → FormS T Y.K (T.P.cls c).ini fd n kn sh
  isf : IsF T.P Y.K Y.Z
  bt : ∀ x ∈ btNames, mg x = none
  cx : ∀ outer H s e s', CX outer H s (fun _ _ _ => False) e s' → False
structure Good (T : Tab) (Y : Ctx) (W : Wish) (C : Nat → List MV → MH → R MV) (CX : CXT) (lv : Nat) (inB : Bool) (N : List Str) (sc : Scope) (X : Cx) : Prop where
  eN : X.N = N
  nd : N.Nodup
  eS : X.env.scope = sc
  K : X.K = Y.K
  Wo : X.w = Y.K.w
  calm : X.calm = true
  gd : X.A.guards = some []
  room : Room (lv + 1) X.A
  fn : ∀ x, locB inB sc x = true → X.fn x = true ∨ sc.names.lookup x = some .local
  pass : ∀ σ, PassesAt CX X σ fun c d H => W c d σ H
  tk : L2N.Takes X W
  fc : Fcts T Y C CX lv X.prog X.w X.mg X.base

section
variable {T : Tab} {Y : Ctx} {W : Wish} {C : Nat → List MV → MH → R MV} {CX : CXT} {lv : Nat} {inB : Bool} {N : List Str} {sc : Scope} {X : Cx}
variable {σ : L2.St} {H : Hp} {f : Nat → Addr} {h : MH} {ms : En}

theorem Good.un (g : Good T Y W C CX lv inB N sc X) : X.A.units + 65 < cLine := by have := g.room.un; omega
theorem Good.gl (g : Good T Y W C CX lv inB N sc X) {x : Str} (e : glB sc x = true) : Gl X x := by
  unfold glB at e
  show X.env.scope.names.lookup x = _
  rw [g.eS]
  split at e
  · assumption
  · cases e
theorem Good.vis (g : Good T Y W C CX lv inB N sc X) {x : Str} (e : visB sc x = true) : Vis X.env.scope x := by
  unfold visB at e
  rw [g.eS]
  split at e
  · exact .inl (by assumption)
  · exact .inr (.inl (by assumption))
  · exact .inr (.inr (by assumption))
  · cases e
theorem Good.loc (g : Good T Y W C CX lv inB N sc X) {x : Str} (e : locB inB sc x = true) : Loc X.env.scope x ∧ (X.fn x = true ∨ X.env.scope.names.lookup x = some .local) := by
  have h1 := g.fn x e
  rw [g.eS]
  refine ⟨?_, h1⟩
  unfold locB at e
  split at e
  · exact .inl (by assumption)
  · exact .inr (by assumption)
  · cases e
theorem Good.In (g : Good T Y W C CX lv inB N sc X) {hp : Heap} (k : X.K.In hp) : Y.K.In hp := by
  show Y.K.K.In hp
  rw [← g.K]
  exact k
theorem Good.bt (g : Good T Y W C CX lv inB N sc X) {x : Str} (e : x ∈ btNames) : X.mg x = none := g.fc.bt x e
theorem G.wish {W' : Wish} {σ' : L2.St} {α : Type} {r : R α} {Tt : α → (Nat → Addr) → MH → Hp → Prop} (g : G Y W σ f h H r Tt) (k : ∀ c d H', W c d σ H' → W' c d σ' H') : G Y W' σ' f h H r Tt := by
  cases r with
  | ok a h1 => exact g
  | ex c l h1 => exact fun f1 H1 cls d e1 r1 x => k _ _ _ (g f1 H1 cls d e1 r1 x)
  | stk => exact g
theorem G.elim {α : Type} {Tt : α → (Nat → Addr) → MH → Hp → Prop} {P : Prop} (g : G Y W σ f h H (.stk : R α) Tt) : P := False.elim g

/-- from a state further on -/
theorem G.shift {f' : Nat → Addr} {h' : MH} {H' : Hp} {α : Type} {r : R α} {Tt : α → (Nat → Addr) → MH → Hp → Prop} (e : Ext f h.size H f' h'.size H') (g : G Y W σ f h H r Tt) : G Y W σ f' h' H' r Tt := by
  cases r with
  | ok a h1 => exact fun f1 H1 e1 r1 => g f1 H1 (e.trans e1) r1
  | ex c l h1 => exact fun f1 H1 cls d e1 r1 x => g f1 H1 cls d (e.trans e1) r1 x
  | stk => exact g
/-! ### names, constants -/
theorem c_var (g : Good T Y W C CX lv inB N sc X) {i : Nat} {x : Str} {p : Pos} (e1 : nmB N i x = true) (e2 : visB sc x = true) : PE X (.Name x p) (rdE Y W (ev T.P C (.var i))) := by
  unfold nmB at e1
  simp only [Bool.and_eq_true, decide_eq_true_eq, Bool.not_eq_true'] at e1
  refine (pe_var (i := i) (by rw [g.eN]; exact e1.1.1) (g.vis e2) e1.1.2 e1.2).conv ?_
  rintro σ H Q ⟨f, ms, h, r, sr, q⟩
  unfold ev at q
  cases e : ms[i]? with
  | none => rw [e] at q; exact q.elim
  | some o =>
    cases o with
    | none => rw [e] at q; exact q.elim
    | some v =>
      rw [e] at q
      obtain ⟨y, a, b⟩ := sr.2 i v e
      exact ⟨y, a, G.ok r q y b⟩
theorem c_const {e : Expr} {v : V} {m : MV} {k : En → MH → R MV} (p : PE X e (tC v)) (hk : ∀ ms h, k ms h = .ok m h) (hv : ∀ f N H, VR Y.K f N H m v) : PE X e (rdE Y W k) := by
  refine p.conv ?_
  rintro σ H Q ⟨f, ms, h, r, sr, q⟩
  rw [hk] at q
  exact G.ok r q v (hv _ _ _)
theorem c_gl (g : Good T Y W C CX lv inB N sc X) {i : Nat} {x : Str} {p : Pos} (e1 : x = T.gn i) (e2 : T.gok i = true) (e3 : glB sc x = true) (e4 : (x == ("__debug__" : Str)) = false) : PE X (.Name x p) (rdE Y W (ev T.P C (.gl i))) := by
  obtain ⟨u, v, h1, h2, h3⟩ := g.fc.gl i e2
  exact c_const (pe_glob (g.gl e3) (e1 ▸ h1) h2 e4) (fun _ _ => by simp only [ev]) h3
theorem txB_ok {s : Tx} (e : txB s = true) : TxOk s := by
  unfold txB at e
  simp only [Bool.and_eq_true, decide_eq_true_eq, List.all_eq_true] at e
  exact ⟨LIM_eq ▸ e.1, e.2⟩

/-! ### operations -/
variable {a b c e : Expr} {ma mb mc : En → MH → R MV} {p : Pos}
theorem rd_seq {k : MV → MH → R MV} {σ : L2.St} {H : Hp} {Q : VK} (q : rdE Y W (fun σ h => (ma σ h).bind k) σ H Q) :
    rdE Y W ma σ H fun x H1 => ∃ f1 h1 a, Rl Y.K Y.Z f1 h1 H1 ∧ VR Y.K f1 h1.size H1 a x ∧ G Y W σ f1 h1 H1 (k a h1) fun v f' h' H' => ∀ z, VR Y.K f' h'.size H' v z → Q z H' := by
  obtain ⟨f, ms, h, r, sr, q⟩ := q
  exact ⟨f, ms, h, r, sr, q.bind.mono fun a h1 f1 H1 _ e1 r1 g1 x rx => ⟨f1, h1, a, r1, rx, g1⟩⟩
theorem rd_seq2 {k : MV → MV → MH → R MV} {σ : L2.St} {H : Hp} {Q : VK} (q : rdE Y W (fun σ h => (ma σ h).bind fun x h1 => (mb σ h1).bind fun y h2 => k x y h2) σ H Q) :
    rdE Y W ma σ H fun x H1 => rdE Y W mb σ H1 fun y H2 => ∃ f2 h2 a b, Rl Y.K Y.Z f2 h2 H2 ∧ VR Y.K f2 h2.size H2 a x ∧ VR Y.K f2 h2.size H2 b y ∧ G Y W σ f2 h2 H2 (k a b h2) fun v f' h' H' => ∀ z, VR Y.K f' h'.size H' v z → Q z H' := by
  obtain ⟨f, ms, h, r, sr, q⟩ := q
  refine ⟨f, ms, h, r, sr, q.bind.mono fun a h1 f1 H1 _ e1 r1 g1 x rx => ⟨f1, ms, h1, r1, r.sr e1 sr, g1.bind.mono fun b h2 f2 H2 _ e2 r2 g2 y ry => ⟨f2, h2, a, b, r2, r1.vr e2 rx, ry, g2⟩⟩⟩
theorem rdE.mono {σ : L2.St} {H : Hp} {Q Q' : VK} (q : rdE Y W ma σ H Q) (k : ∀ x H', Q x H' → Q' x H') : rdE Y W ma σ H Q' := by
  obtain ⟨f, ms, h, r, sr, q⟩ := q
  exact ⟨f, ms, h, r, sr, q.mono fun a h1 f1 H1 _ e1 r1 g1 x rx => k x H1 (g1 x rx)⟩
theorem c_bin (g : Good T Y W C CX lv inB N sc X) (op : BOp) (ha : PE X a (rdE Y W ma)) (hb : PE X b (rdE Y W mb)) : PE X (.BinOp a (bo op) b p) (rdE Y W fun σ h => (ma σ h).bind fun x h1 => (mb σ h1).bind fun y h2 => binM op x y h2) := by
  refine (pe_op (op_bin g.K op) ha hb).conv fun σ H Q q => ?_
  exact (rd_seq2 q).mono fun x H1 q1 => q1.mono fun y H2 ⟨f2, h2, a, b, r, ra, rb, g2⟩ => ⟨f2, h2, a, b, r, ra, rb, W, σ, g2⟩
theorem v_cmp (op : COp) {σ : L2.St} {H : Hp} {Q : VK} (q : rdE Y W (fun σ h => (ma σ h).bind fun x h1 => (mb σ h1).bind fun y h2 => cmpM op x y h2) σ H Q) : tOp (rB Y (cmpM op)) (rdE Y W ma) (rdE Y W mb) σ H Q :=
  (rd_seq2 q).mono fun x H1 q1 => q1.mono fun y H2 ⟨f2, h2, a, b, r, ra, rb, g2⟩ => ⟨f2, h2, a, b, r, ra, rb, W, σ, g2⟩
theorem c_cmp (g : Good T Y W C CX lv inB N sc X) (op : COp) (ha : PE X a (rdE Y W ma)) (hb : PE X b (rdE Y W mb)) (hm : behindInMarks (co op) b = false) : PE X (.Compare a [co op] [b] p) (rdE Y W fun σ h => (ma σ h).bind fun x h1 => (mb σ h1).bind fun y h2 => cmpM op x y h2) :=
  (pe_cmpR (op_cmp g.K g.Wo g.un op) ha hb hm).conv fun σ H Q q => v_cmp op q
/-- a comparison as a test -/
theorem t_of {m : En → MH → R MV} {t : TE} (hp : PT X e fun σ H Q => t σ H fun x H' => ∃ k, x = .bl k ∧ Q k H') (k : ∀ σ H Q, rdE Y W m σ H Q → t σ H Q) (hb : ∀ ms h v h', m ms h = .ok v h' → ∃ b, v = .bl b) : PT X e (rdT Y W fun σ h => (m σ h).bind fun x h1 => truM x h1) := by
  refine hp.conv fun σ H Q q => k σ H _ ?_
  obtain ⟨f, ms, h, r, sr, q⟩ := q
  refine ⟨f, ms, h, r, sr, q.bind.mono fun v h1 f1 H1 eq e1 r1 g1 x rx => ?_⟩
  obtain ⟨b, rfl⟩ := hb _ _ _ _ eq
  exact ⟨b, rx.bl_inv, G.ok r1 g1⟩
theorem bind_ok {α β : Type} {r : R α} {k : α → MH → R β} {v : β} {h' : MH} (e : r.bind k = .ok v h') : ∃ a h1, r = .ok a h1 ∧ k a h1 = .ok v h' := by
  cases r with
  | ok a h1 => exact ⟨a, h1, rfl, e⟩
  | ex c l h1 => cases e
  | stk => cases e
theorem bR_bl {o : Option Bool} {h : MH} {v : MV} {h' : MH} (e : bR o h = .ok v h') : ∃ b, v = .bl b := by
  cases o with
  | none => cases e
  | some b => cases e; exact ⟨b, rfl⟩
theorem cmpM_bl {op : COp} {x y : MV} {h : MH} {v : MV} {h' : MH} (e : cmpM op x y h = .ok v h') : ∃ b, v = .bl b := by
  unfold cmpM at e
  cases op <;> exact bR_bl e
theorem t_cmp (g : Good T Y W C CX lv inB N sc X) (op : COp) (ha : PE X a (rdE Y W ma)) (hb : PE X b (rdE Y W mb)) (hm : behindInMarks (co op) b = false) : PT X (.Compare a [co op] [b] p) (rdT Y W fun σ h => ((ma σ h).bind fun x h1 => (mb σ h1).bind fun y h2 => cmpM op x y h2).bind fun x h1 => truM x h1) :=
  t_of (m := fun σ h => (ma σ h).bind fun x h1 => (mb σ h1).bind fun y h2 => cmpM op x y h2) (pt_cmpR (op_cmp g.K g.Wo g.un op) ha hb hm) (fun σ H Q q => v_cmp op q) fun ms h v h' e => by
    obtain ⟨x, h1, _, e⟩ := bind_ok e
    obtain ⟨y, h2, _, e⟩ := bind_ok e
    exact cmpM_bl e
theorem c_sub (g : Good T Y W C CX lv inB N sc X) (ha : PE X a (rdE Y W ma)) (hb : PE X b (rdE Y W mb)) (hs : isSlice b = false) : PE X (.Subscript a b p) (rdE Y W fun σ h => (ma σ h).bind fun x h1 => (mb σ h1).bind fun y h2 => subM x y h2) := by
  have pl : PlainIx b := by
    intro o i
    unfold subscripted
    cases b <;> first | rfl | skip
    rename_i l u st pp
    cases st
    · cases hs
    · rfl
  refine (pe_ix (ix_sub g.K g.Wo g.un) ha hb pl).conv fun σ H Q q => ?_
  exact (rd_seq2 q).mono fun x H1 q1 => q1.mono fun y H2 ⟨f2, h2, a, b, r, ra, rb, g2⟩ => ⟨f2, h2, a, b, r, ra, rb, W, σ, g2⟩
theorem c_neg (g : Good T Y W C CX lv inB N sc X) (ha : PE X a (rdE Y W ma)) : PE X (.UnaryOp .USub a p) (rdE Y W fun σ h => (ma σ h).bind fun x h1 => negM x h1) := by
  refine (pe_un un_neg ha).conv fun σ H Q q => ?_
  refine (rd_seq q).mono fun x H1 ⟨f1, h1, m, r, rm, g1⟩ => ?_
  cases m with
  | int i => exact ⟨i, rm.int_inv, G.ok r g1 _ .int⟩
  | _ => exact g1.elim
theorem c_not (g : Good T Y W C CX lv inB N sc X) (ha : PE X a (rdE Y W ma)) : PE X (.UnaryOp .Not a p) (rdE Y W fun σ h => (ma σ h).bind fun x h1 => (truM x h1).bind fun b h2 => .ok (.bl (!b)) h2) := by
  refine (pe_notT ha).conv fun σ H Q q => ?_
  refine (rd_seq q).mono fun x H1 ⟨f1, h1, m, r, rm, g1⟩ => ?_
  obtain ⟨b, e, t, q1⟩ := truM_inv (T := fun b f h H => GP Y f h H (.ok (.bl (!b)) h) fun v f' h' H' => ∀ z, VR Y.K f' h'.size H' v z → Q z H') r rm ⟨W, σ, g1.bind.mono fun _ _ _ _ _ _ _ g2 => ⟨W, σ, g2⟩⟩
  exact ⟨b, g.K ▸ t, GP.here r q1 _ .bl⟩
theorem non_no {m : MV} {x : V} {n : Nat} (rm : VR Y.K f n H m x) (hm : m ≠ .non) : decide (x = V.non) = false := by
  refine decide_eq_false fun hx => ?_
  subst hx
  cases m with
  | non => exact hm rfl
  | bl _ => cases rm.bl_inv
  | int _ => cases rm.int_inv
  | str _ => cases rm.str_inv.1
  | tup _ => obtain ⟨_, _, z, _⟩ := rm.tup_inv; cases z
  | kl _ => obtain ⟨_, _, z, _⟩ := rm.kl_inv; cases z
  | ref _ => cases rm.ref_inv.2
  | kd _ => unfold VR at rm; obtain ⟨_, _, _, z, _⟩ := rm; cases z
  | fn _ => unfold VR at rm; cases rm
  | exc _ _ => unfold VR at rm; exact rm.elim
theorem isNM_bl {b : Bool} {x : MV} {h : MH} {v : MV} {h' : MH} (e : isNM b x h = .ok v h') : ∃ b, v = .bl b := by
  unfold isNM at e
  split at e <;> (cases e; exact ⟨_, rfl⟩)
theorem v_isN {σ : L2.St} {H : Hp} {Q : VK} (q : rdE Y W (fun σ h => (ma σ h).bind fun x h1 => isNM true x h1) σ H Q) : tIsN (rdE Y W ma) σ H Q := by
  refine (rd_seq q).mono fun x H1 ⟨f1, h1, m, r, rm, g1⟩ => ?_
  cases m with
  | non =>
    rw [rm.non_inv]
    exact G.ok r g1 _ .bl
  | _ =>
    rw [non_no rm (fun z => by cases z)]
    exact G.ok r g1 _ .bl
theorem v_isNt {σ : L2.St} {H : Hp} {Q : VK} (q : rdE Y W (fun σ h => (ma σ h).bind fun x h1 => isNM false x h1) σ H Q) : tNotN (rdE Y W ma) σ H Q := by
  refine (rd_seq q).mono fun x H1 ⟨f1, h1, m, r, rm, g1⟩ => ?_
  cases m with
  | non =>
    rw [rm.non_inv]
    exact G.ok r g1 _ .bl
  | _ =>
    rw [non_no rm (fun z => by cases z)]
    exact G.ok r g1 _ .bl
theorem c_isN (ha : PE X a (rdE Y W ma)) {j p'} : PE X (.Compare a [.Is] [.Constant .none j p'] p) (rdE Y W fun σ h => (ma σ h).bind fun x h1 => isNM true x h1) :=
  (pe_cmp (pc_isN ha)).conv fun σ H Q q => v_isN q
theorem c_isNt (ha : PE X a (rdE Y W ma)) {j p'} : PE X (.Compare a [.IsNot] [.Constant .none j p'] p) (rdE Y W fun σ h => (ma σ h).bind fun x h1 => isNM false x h1) :=
  (pe_cmp (pc_notN ha)).conv fun σ H Q q => v_isNt q
theorem t_isN (ha : PE X a (rdE Y W ma)) {j p'} : PT X (.Compare a [.Is] [.Constant .none j p'] p) (rdT Y W fun σ h => ((ma σ h).bind fun x h1 => isNM true x h1).bind fun x h1 => truM x h1) :=
  t_of (m := fun σ h => (ma σ h).bind fun x h1 => isNM true x h1) (pt_cmp (pc_isN ha)) (fun σ H Q q => v_isN q) fun ms h v h' e => by
    obtain ⟨x, h1, _, e⟩ := bind_ok e
    exact isNM_bl e
theorem t_isNt (ha : PE X a (rdE Y W ma)) {j p'} : PT X (.Compare a [.IsNot] [.Constant .none j p'] p) (rdT Y W fun σ h => ((ma σ h).bind fun x h1 => isNM false x h1).bind fun x h1 => truM x h1) :=
  t_of (m := fun σ h => (ma σ h).bind fun x h1 => isNM false x h1) (pt_cmp (pc_notN ha)) (fun σ H Q q => v_isNt q) fun ms h v h' e => by
    obtain ⟨x, h1, _, e⟩ := bind_ok e
    exact isNM_bl e
theorem v_ch (o1 o2 : COp) {σ : L2.St} {H : Hp} {Q : VK} (q : rdE Y W (fun σ h => (ma σ h).bind fun x h1 => (mb σ h1).bind fun y h2 => chM (fun h3 => mc σ h3) o1 o2 x y h2) σ H Q) : tChain (rB Y (cmpM o1)) (rB Y (cmpM o2)) (rdE Y W ma) (rdE Y W mb) (rdE Y W mc) σ H Q := by
  obtain ⟨f, ms, h, r, sr, q⟩ := q
  refine ⟨f, ms, h, r, sr, q.bind.mono fun a h1 f1 H1 _ e1 r1 g1 x rx => ⟨f1, ms, h1, r1, r.sr e1 sr, g1.bind.mono fun b h2 f2 H2 _ e2 r2 g2 y ry => ?_⟩⟩
  refine ⟨f2, h2, a, b, r2, r1.vr e2 rx, ry, W, σ, g2.bind.mono fun z h3 f3 H3 _ e3 r3 g3 w rw => ?_⟩
  have sr3 := r2.sr e3 (r1.sr e2 (r.sr e1 sr))
  cases z with
  | bl k =>
    refine ⟨k, rw.bl_inv, ?_⟩
    cases k with
    | true => exact ⟨f3, ms, h3, r3, sr3, g3.bind.mono fun d h4 f4 H4 _ e4 r4 g4 v rv => ⟨f4, h4, b, d, r4, r3.vr e4 (r2.vr e3 ry), rv, W, σ, g4⟩⟩
    | false => exact G.ok r3 g3 _ .bl
  | _ => exact g3.elim
theorem c_ch (g : Good T Y W C CX lv inB N sc X) (o1 o2 : COp) (ha : PE X a (rdE Y W ma)) (hb : PE X b (rdE Y W mb)) (hc : PE X c (rdE Y W mc)) (hm : lastMarks [co o1, co o2] [b, c] = false) :
    PE X (.Compare a [co o1, co o2] [b, c] p) (rdE Y W fun σ h => (ma σ h).bind fun x h1 => (mb σ h1).bind fun y h2 => chM (fun h3 => mc σ h3) o1 o2 x y h2) :=
  (pe_chain (op_cmp g.K g.Wo g.un o1) (op_cmp g.K g.Wo g.un o2) ha hb hc hm).conv fun σ H Q q => v_ch o1 o2 q
theorem t_ch (g : Good T Y W C CX lv inB N sc X) (o1 o2 : COp) (ha : PE X a (rdE Y W ma)) (hb : PE X b (rdE Y W mb)) (hc : PE X c (rdE Y W mc)) (hm : lastMarks [co o1, co o2] [b, c] = false) :
    PT X (.Compare a [co o1, co o2] [b, c] p) (rdT Y W fun σ h => ((ma σ h).bind fun x h1 => (mb σ h1).bind fun y h2 => chM (fun h3 => mc σ h3) o1 o2 x y h2).bind fun x h1 => truM x h1) :=
  t_of (m := fun σ h => (ma σ h).bind fun x h1 => (mb σ h1).bind fun y h2 => chM (fun h3 => mc σ h3) o1 o2 x y h2) (pt_chain (op_cmp g.K g.Wo g.un o1) (op_cmp g.K g.Wo g.un o2) ha hb hc hm) (fun σ H Q q => v_ch o1 o2 q) fun ms h v h' e => by
    obtain ⟨x, h1, _, e⟩ := bind_ok e
    obtain ⟨y, h2, _, e⟩ := bind_ok e
    obtain ⟨z, h3, _, e⟩ := bind_ok e
    cases z with
    | bl k =>
      cases k with
      | true =>
        obtain ⟨w, h4, _, e⟩ := bind_ok e
        exact cmpM_bl e
      | false => cases e; exact ⟨_, rfl⟩
    | _ => cases e
theorem c_and (g : Good T Y W C CX lv inB N sc X) {rest : List Expr} (ha : PE X a (rdE Y W ma)) (hb : PE X (.BoolOp .And (b :: rest) p) (rdE Y W mb)) :
    PE X (.BoolOp .And (a :: b :: rest) p) (rdE Y W fun σ h => (ma σ h).bind fun x h1 => (truM x h1).bind fun c h2 => if c then mb σ h2 else .ok x h2) := by
  refine (pe_andT ha hb).conv fun σ H Q q => ?_
  obtain ⟨f, ms, h, r, sr, q⟩ := q
  refine ⟨f, ms, h, r, sr, q.bind.mono fun a h1 f1 H1 _ e1 r1 g1 x rx => ?_⟩
  obtain ⟨k, e, t, q1⟩ := truM_inv (T := fun k f h H => G Y W σ f h H (if k then mb ms h else .ok a h) fun v f' h' H' => ∀ z, VR Y.K f' h'.size H' v z → Q z H') r1 rx ⟨W, σ, g1.bind⟩
  refine ⟨k, g.K ▸ t, ?_⟩
  cases k with
  | true => exact ⟨f1, ms, h1, r1, r.sr e1 sr, q1⟩
  | false => exact G.ok r1 q1 _ rx
theorem c_or (g : Good T Y W C CX lv inB N sc X) {rest : List Expr} (ha : PE X a (rdE Y W ma)) (hb : PE X (.BoolOp .Or (b :: rest) p) (rdE Y W mb)) :
    PE X (.BoolOp .Or (a :: b :: rest) p) (rdE Y W fun σ h => (ma σ h).bind fun x h1 => (truM x h1).bind fun c h2 => if c then .ok x h2 else mb σ h2) := by
  refine (pe_orT ha hb).conv fun σ H Q q => ?_
  obtain ⟨f, ms, h, r, sr, q⟩ := q
  refine ⟨f, ms, h, r, sr, q.bind.mono fun a h1 f1 H1 _ e1 r1 g1 x rx => ?_⟩
  obtain ⟨k, e, t, q1⟩ := truM_inv (T := fun k f h H => G Y W σ f h H (if k then .ok a h else mb ms h) fun v f' h' H' => ∀ z, VR Y.K f' h'.size H' v z → Q z H') r1 rx ⟨W, σ, g1.bind⟩
  refine ⟨k, g.K ▸ t, ?_⟩
  cases k with
  | false => exact ⟨f1, ms, h1, r1, r.sr e1 sr, q1⟩
  | true => exact G.ok r1 q1 _ rx
/-! ### tests -/
variable {ta tb : En → MH → R Bool}
theorem rt_seq {k : Bool → En → MH → R MV} {σ : L2.St} {H : Hp} {Q : VK} (q : rdE Y W (fun σ h => (ta σ h).bind fun d h1 => k d σ h1) σ H Q) : rdT Y W ta σ H fun d H1 => rdE Y W (k d) σ H1 Q := by
  obtain ⟨f, ms, h, r, sr, q⟩ := q
  exact ⟨f, ms, h, r, sr, q.bind.mono fun a h1 f1 H1 _ e1 r1 g1 => ⟨f1, ms, h1, r1, r.sr e1 sr, g1⟩⟩
theorem c_ife (hc : PT X c (rdT Y W ta)) (ha : PE X a (rdE Y W ma)) (hb : PE X b (rdE Y W mb)) : PE X (.IfExp c a b p) (rdE Y W fun σ h => (ta σ h).bind fun d h1 => if d then ma σ h1 else mb σ h1) := by
  refine (pe_ifExp hc ha hb).conv fun σ H Q q => ?_
  have q2 := rt_seq (k := fun d σ h1 => if d then ma σ h1 else mb σ h1) q
  obtain ⟨f, ms, h, r, sr, q⟩ := q2
  refine ⟨f, ms, h, r, sr, q.mono fun d h1 f1 H1 _ e1 r1 g1 => ?_⟩
  cases d with
  | true => exact g1
  | false => exact g1
theorem plainT_true (e : Expr) (h : plainT e = true) (env : Env) (whole : Sem Value) : isTrue e env whole = (do let v ← whole; standAt e.pos; holding [v] (truthy v)) := by
  cases e <;> first | rfl | (cases h; done) | skip
  all_goals (rename_i op _ _; cases op <;> first | rfl | (cases h; done))
theorem t_val (g : Good T Y W C CX lv inB N sc X) (ha : PE X a (rdE Y W ma)) (hp : plainT a = true) : PT X a (rdT Y W fun σ h => (ma σ h).bind fun x h1 => truM x h1) := by
  refine (pt_truth ha (plainT_true a hp X.env)).conv fun σ H Q q => ?_
  obtain ⟨f, ms, h, r, sr, q⟩ := q
  refine ⟨f, ms, h, r, sr, q.bind.mono fun a h1 f1 H1 _ e1 r1 g1 x rx => ?_⟩
  obtain ⟨k, e, t, q1⟩ := truM_inv (T := fun k f h H => Q k H) r1 rx ⟨W, σ, g1⟩
  exact ⟨k, g.K ▸ t, q1⟩
theorem t_not (ha : PT X a (rdT Y W ta)) : PT X (.UnaryOp .Not a p) (rdT Y W fun σ h => (ta σ h).bind fun b h1 => .ok (!b) h1) := by
  refine (pt_not ha).conv fun σ H Q q => ?_
  obtain ⟨f, ms, h, r, sr, q⟩ := q
  exact ⟨f, ms, h, r, sr, q.bind.mono fun a h1 f1 H1 _ e1 r1 g1 => G.ok r1 g1⟩
theorem _root_.L2.PW.conv {X : Cx} {e : Expr} {t t' : TT} (p : PW X e t) (k : ∀ σ H Q, t' σ H Q → t σ H Q) : PW X e t' := ⟨fun w pins s σ H Q I q => p.run w pins s σ H Q I (k σ H Q q)⟩
theorem t_and {rest : List Expr} (ha : PT X a (rdT Y W ta)) (hb : PW X (.BoolOp .And (b :: rest) p) (rdT Y W tb)) : PW X (.BoolOp .And (a :: b :: rest) p) (rdT Y W fun σ h => (ta σ h).bind fun c h1 => if c then tb σ h1 else .ok false h1) := by
  refine (pw_and ha hb).conv fun σ H Q q => ?_
  obtain ⟨f, ms, h, r, sr, q⟩ := q
  refine ⟨f, ms, h, r, sr, q.bind.mono fun a h1 f1 H1 _ e1 r1 g1 => ?_⟩
  cases a with
  | true => exact ⟨f1, ms, h1, r1, r.sr e1 sr, g1⟩
  | false => exact G.ok r1 g1
theorem t_or {rest : List Expr} (ha : PT X a (rdT Y W ta)) (hb : PW X (.BoolOp .Or (b :: rest) p) (rdT Y W tb)) : PW X (.BoolOp .Or (a :: b :: rest) p) (rdT Y W fun σ h => (ta σ h).bind fun c h1 => if c then .ok true h1 else tb σ h1) := by
  refine (pw_or ha hb).conv fun σ H Q q => ?_
  obtain ⟨f, ms, h, r, sr, q⟩ := q
  refine ⟨f, ms, h, r, sr, q.bind.mono fun a h1 f1 H1 _ e1 r1 g1 => ?_⟩
  cases a with
  | false => exact ⟨f1, ms, h1, r1, r.sr e1 sr, g1⟩
  | true => exact G.ok r1 g1
/-! ### argument lists -/
variable {es : List Expr} {me : En → MH → R (List MV)}
theorem star_cons {e : Expr} {es : List Expr} {env : Env} (h : isStar e = false) : starEach (e :: es) env = (false, eval e env) :: starEach es env := by
  cases e <;> first | rfl | cases h
def noStars (es : List Expr) : Bool := es.all fun e => !isStar e
theorem star_any {env : Env} {pos : Pos} : ∀ {es : List Expr}, noStars es = true → (backTo pos (starEach es env)).any (·.1) = false
  | [], _ => rfl
  | e :: es, h => by
    unfold noStars at h
    rw [List.all_cons, Bool.and_eq_true] at h
    rw [star_cons (by simpa using h.1)]
    show (false || (backTo pos (starEach es env)).any (·.1)) = false
    rw [star_any h.2]
    rfl
theorem a_nil : PA X [] (rdA Y W fun σ h => .ok [] h) := by
  refine pa_nil.conv fun σ H Q q => ?_
  obtain ⟨f, ms, h, r, sr, q⟩ := q
  exact G.ok r q _ .nil
theorem a_cons (ha : PE X e (rdE Y W ma)) (hr : PA X es (rdA Y W me)) (hs : isStar e = false) : PA X (e :: es) (rdA Y W fun σ h => (ma σ h).bind fun x h1 => (me σ h1).bind fun l h2 => .ok (x :: l) h2) := by
  refine (pa_cons ha hr (star_cons hs)).conv fun σ H Q q => ?_
  obtain ⟨f, ms, h, r, sr, q⟩ := q
  refine ⟨f, ms, h, r, sr, q.bind.mono fun a h1 f1 H1 _ e1 r1 g1 x rx => ⟨f1, ms, h1, r1, r.sr e1 sr, g1.bind.mono fun l h2 f2 H2 _ e2 r2 g2 xs rl => ?_⟩⟩
  exact G.ok r2 g2 _ (.cons (r1.vr e2 rx) rl)
theorem _root_.L2.PK.conv {X : Cx} {e : List Keyword} {t t' : TA} (p : PK X e t) (k : ∀ σ H Q, t' σ H Q → t σ H Q) : PK X e t' := ⟨fun pos pins s σ H Q I q => p.run pos pins s σ H Q I (k σ H Q q)⟩
theorem k_nil : PK X [] (rdA Y W fun σ h => .ok [] h) := by
  refine pk_nil.conv fun σ H Q q => ?_
  obtain ⟨f, ms, h, r, sr, q⟩ := q
  exact G.ok r q _ .nil
theorem k_cons {kws : List Keyword} {nm : Option Str} {kpos : Pos} (ha : PE X e (rdE Y W ma)) (hr : PK X kws (rdA Y W me)) : PK X (⟨nm, e, kpos⟩ :: kws) (rdA Y W fun σ h => (ma σ h).bind fun x h1 => (me σ h1).bind fun l h2 => .ok (x :: l) h2) := by
  refine (pk_cons ha hr).conv fun σ H Q q => ?_
  obtain ⟨f, ms, h, r, sr, q⟩ := q
  refine ⟨f, ms, h, r, sr, q.bind.mono fun a h1 f1 H1 _ e1 r1 g1 x rx => ⟨f1, ms, h1, r1, r.sr e1 sr, g1.bind.mono fun l h2 f2 H2 _ e2 r2 g2 xs rl => ?_⟩⟩
  exact G.ok r2 g2 _ (.cons (r1.vr e2 rx) rl)
theorem c_tup (he : PA X es (rdA Y W me)) {k1} : PE X (.Tuple es k1 p) (rdE Y W fun σ h => (me σ h).bind fun l h1 => litM l h1) := by
  refine (pe_tup he).conv fun σ H Q q => ?_
  obtain ⟨f, ms, h, r, sr, q⟩ := q
  refine ⟨f, ms, h, r, sr, q.bind.mono fun l h1 f1 H1 _ e1 r1 g1 xs rx => ?_⟩
  unfold litM at g1
  by_cases hl : l.length ≤ LIM
  · rw [if_pos hl] at g1
    refine ⟨by rw [← rx.length, ← LIM_eq]; exact hl, fun z hz => ?_⟩
    have e2 : Ext f1 h1.size H1 f1 h1.size (upd H1 z (.tup xs)) := Ext.aside hz
    exact g1 _ _ e2 (r1.aside (u := .tup xs) hz) _ (.tup (SqT.of upd_same) (r1.vrs e2 rx))
  · rw [if_neg hl] at g1
    exact g1.elim
theorem c_lst (he : PA X es (rdA Y W me)) : PE X (.List es p) (rdE Y W fun σ h => (me σ h).bind fun l h1 => newList h1 l) := by
  refine (pe_lst he).conv fun σ H Q q => ?_
  obtain ⟨f, ms, h, r, sr, q⟩ := q
  refine ⟨f, ms, h, r, sr, q.bind.mono fun l h1 f1 H1 _ e1 r1 g1 xs rx => ?_⟩
  have g2 : GP Y f1 h1 H1 (newList h1 l) fun v f' h' H' => ∀ z, VR Y.K f' h'.size H' v z → Q z H' := ⟨W, σ, g1⟩
  have hz : xs.length ≤ sizeLine := by
    unfold newList at g1
    by_cases hl : l.length ≤ LIM
    · rw [← rx.length, ← LIM_eq]; exact hl
    · rw [if_neg hl] at g1
      exact g1.elim
  refine ⟨hz, fun z hz => ?_⟩
  obtain ⟨_, f', t, e⟩ := GP.newList r1 g2 rx hz
  exact t _ (by rw [← e]; exact .ref (by rw [MH.size_push]; omega))
/-! ### slices -/
def rdO (Y : Ctx) (W : Wish) (m : En → MH → R (Option Int)) : TO := fun σ H Q => ∃ f ms h, Rl Y.K Y.Z f h H ∧ SR Y.K f h.size H ms σ ∧ G Y W σ f h H (m ms h) fun o _ _ H' => Q o H'
variable {ml mu : En → MH → R (Option Int)}
theorem _root_.L2.PO.conv {X : Cx} {e : Option Expr} {t t' : TO} (p : PO X e t) (k : ∀ σ H Q, t' σ H Q → t σ H Q) : PO X e t' := ⟨fun pins s σ H Q I q => p.run pins s σ H Q I (k σ H Q q)⟩
theorem o_no : PO X none (rdO Y W fun σ h => .ok none h) := by
  refine po_none.conv fun σ H Q q => ?_
  obtain ⟨f, ms, h, r, sr, q⟩ := q
  exact G.ok r q
theorem o_so (ha : PE X e (rdE Y W ma)) : PO X (some e) (rdO Y W fun σ h => (ma σ h).bind fun x h1 => oiM x h1) := by
  refine (po_some ha).conv fun σ H Q q => ?_
  obtain ⟨f, ms, h, r, sr, q⟩ := q
  refine ⟨f, ms, h, r, sr, q.bind.mono fun a h1 f1 H1 _ e1 r1 g1 x rx => ?_⟩
  cases a with
  | int i =>
    refine ⟨i, rx.int_inv, ?_⟩
    unfold oiM oi at g1
    simp only at g1
    split at g1
    · rename_i k ek
      split at ek
      · cases ek
        exact G.ok r1 g1
      · cases ek
    · exact g1.elim
  | _ => exact g1.elim
theorem c_sl (g : Good T Y W C CX lv inB N sc X) {lo hi : Option Expr} {p2} (ha : PE X a (rdE Y W ma)) (hl : PO X lo (rdO Y W ml)) (hu : PO X hi (rdO Y W mu)) : PE X (.Subscript a (.Slice lo hi none p2) p)
    (rdE Y W fun σ h => (ma σ h).bind fun x h1 => (ml σ h1).bind fun l h2 => (mu σ h2).bind fun u h3 => slM x l u h3) := by
  refine (pe_slice (sl_cut g.K) ha hl hu).conv fun σ H Q q => ?_
  obtain ⟨f, ms, h, r, sr, q⟩ := q
  refine ⟨f, ms, h, r, sr, q.bind.mono fun a h1 f1 H1 _ e1 r1 g1 x rx => ?_⟩
  have sr1 := r.sr e1 sr
  refine ⟨f1, ms, h1, r1, sr1, g1.bind.mono fun l h2 f2 H2 _ e2 r2 g2 => ?_⟩
  refine ⟨f2, ms, h2, r2, r1.sr e2 sr1, g2.bind.mono fun u h3 f3 H3 _ e3 r3 g3 => ?_⟩
  exact ⟨f3, h3, a, r3, r2.vr e3 (r1.vr e2 rx), W, σ, g3⟩

/-! ### dicts' displays -/
def pairV : List V → List (V × V)
  | k :: v :: r => (k, v) :: pairV r
  | _ => []
/-- the readings of the pairs -/
def trsOf (P : Prog) (C : Nat → List MV → MH → R MV) (Y : Ctx) (W : Wish) : Es → List (TE × TE)
  | .cons k (.cons v r) => (rdE Y W (ev P C k), rdE Y W (ev P C v)) :: trsOf P C Y W r
  | _ => []
def Es.even : Es → Bool
  | .nil => true
  | .cons _ .nil => false
  | .cons _ (.cons _ r) => r.even
theorem v_pairs : ∀ {es : Es} {σ : L2.St} {H : Hp} {Q : List (V × V) → Hp → Prop}, es.even = true → (rdA Y W (evs T.P C es) σ H fun xs H' => Q (pairV xs) H') → tPairs (trsOf T.P C Y W es) σ H Q
  | .nil, σ, H, Q, _, q => by
    obtain ⟨f, ms, h, r, sr, q⟩ := q
    unfold evs at q
    exact G.ok r q [] .nil
  | .cons k .nil, σ, H, Q, he, q => by cases he
  | .cons k (.cons v r), σ, H, Q, he, q => by
    obtain ⟨f, ms, h, r0, sr, q⟩ := q
    unfold evs at q
    refine ⟨f, ms, h, r0, sr, q.bind.mono fun x h1 f1 H1 _ e1 r1 g1 y ry => ?_⟩
    have g1 := g1.bind
    unfold evs at g1
    have sr1 := r0.sr e1 sr
    cases ev1 : ev T.P C v ms h1 with
    | stk => rw [ev1] at g1; exact g1.elim
    | ex c l h2 =>
      rw [ev1] at g1
      refine ⟨f1, ms, h1, r1, sr1, ?_⟩
      rw [ev1]
      exact g1
    | ok w h2 =>
      rw [ev1] at g1
      refine ⟨f1, ms, h1, r1, sr1, ?_⟩
      rw [ev1]
      intro f2 H2 e2 r2 z rz
      refine v_pairs (es := r) he ⟨f2, ms, h2, r2, r1.sr e2 sr1, ?_⟩
      have g2 : G Y W σ f1 h1 H1 ((evs T.P C r ms h2).bind fun l h3 => .ok (w :: l) h3) fun l f' h' H' => G Y W σ f' h' H' (.ok (x :: l) h') fun l f' h' H' => ∀ xs, VRs Y.K f' h'.size H' l xs → Q (pairV xs) H' := g1
      have g3 : G Y W σ f2 h2 H2 ((evs T.P C r ms h2).bind fun l h3 => .ok (w :: l) h3) fun l f' h' H' => G Y W σ f' h' H' (.ok (x :: l) h') fun l f' h' H' => ∀ xs, VRs Y.K f' h'.size H' l xs → Q (pairV xs) H' := by
        cases ev2 : evs T.P C r ms h2 with
        | stk => rw [ev2] at g2; exact g2.elim
        | ex c l h3 =>
          rw [ev2] at g2
          exact fun f3 H3 cls d e3 r3 xx => g2 f3 H3 cls d (e2.trans e3) r3 xx
        | ok l h3 =>
          rw [ev2] at g2
          exact fun f3 H3 e3 r3 => g2 f3 H3 (e2.trans e3) r3
      refine g3.bind.mono fun l h3 f3 H3 _ e3 r3 g4 xs rl => ?_
      have g5 := G.ok r3 (G.ok r3 g4) (y :: z :: xs) (.cons (r1.vr (e2.trans e3) ry) (.cons (r2.vr e3 rz) rl))
      exact g5
theorem merge_ok {K : KW} {N : Nat} : ∀ {l acc : List (MV × MV)} {kvs acc' : List (Key × V)}, DKr K f N H l kvs → DKr K f N H acc acc' → DKr K f N H (l.foldl (fun a p => DM.putK p.1 p.2 a) acc) (kvs.foldl (fun a kv => L2.putK a kv.1 kv.2) acc')
  | [], acc, kvs, acc', e, b => by
    obtain rfl : kvs = [] := e
    exact b
  | (k, m) :: r, acc, kvs, acc', ⟨x, v, ys, e, c, rv, d⟩, b => by
    subst e
    exact merge_ok (l := r) (kvs := ys) d (b.put c rv)
theorem pairs_ok {K : KW} {N : Nat} : ∀ {l : List MV} {ps : List (MV × MV)} {xs : List V}, DM.pairs l = some ps → (ps.all fun p => kOk false p.1) = true → VRs K f N H l xs → ∃ kvs, pairV xs = kvs.map (fun kv => (kV kv.1, kv.2)) ∧ DKr K f N H ps kvs ∧ kvs.length = ps.length
  | [], ps, xs, e, _, r => by
    cases e
    rw [r.nil_inv]
    exact ⟨[], rfl, rfl, rfl⟩
  | [_], ps, xs, e, _, r => by cases e
  | k :: v :: l, ps, xs, e, hk, r => by
    unfold DM.pairs at e
    obtain ⟨qs, e1, e2⟩ := Option.map_eq_some_iff.mp e
    subst e2
    rw [List.all_cons, Bool.and_eq_true] at hk
    obtain ⟨x, ws, rfl, rx, t⟩ := r.cons_inv
    obtain ⟨y, zs, rfl, ry, t2⟩ := t.cons_inv
    obtain ⟨kvs, h1, h2, h3⟩ := pairs_ok e1 hk.2 t2
    obtain ⟨kk, c, rfl⟩ := KR.kOk hk.1 rx
    exact ⟨(kk, y) :: kvs, by rw [List.map_cons, ← h1]; rfl, ⟨kk, y, kvs, rfl, c, ry, h2⟩, by rw [List.length_cons, List.length_cons, h3]⟩
theorem c_dct (g : Good T Y W C CX lv inB N sc X) {es : Es} {ks : List (Option Expr)} {vs : List Expr} (he : es.even = true) (hp : PPs X p ks vs (trsOf T.P C Y W es)) (hall : ks.all (·.isSome) = true) (hl : ks.length = vs.length) (h0 : ks ≠ []) (h15 : ks.length ≤ 15) :
    PE X (.Dict ks vs p) (rdE Y W fun σ h => (evs T.P C es σ (h.push (.dct false false []))).bind fun l h1 => dispM h.size l h1) := by
  refine (pe_disp hp hall hl h0 h15).conv fun σ H Q q z hz => ?_
  obtain ⟨f, ms, h, r, sr, q⟩ := q
  have ex0 : Ext f h.size H (nxt f h.size z) (h.size + 1) (upd H z (.dK [])) := Ext.push hz
  obtain ⟨e1, r1⟩ := r.push (o := .dct false false []) (u := .dK []) hz ⟨rfl, [], upd_same, rfl⟩
  refine v_pairs he ⟨_, ms, _, r1, r.sr e1 sr, ((G.shift e1 q).bind).mono fun l h2 f2 H2 _ e2 r2 g2 xs rl => ?_⟩
  unfold dispM at g2
  split at g2
  · exact g2.elim
  · rename_i ps hps
    split at g2
    · rename_i hok
      split at g2
      · rename_i en
        obtain ⟨_, kvs0, d0, dk0⟩ := r2.ob _ _ en
        have hs : h.size < (h.push (.dct false false [])).size := by rw [MH.size_push]; omega
        have ez : f2 h.size = z := by rw [e2.ag _ hs, nxt_at]
        obtain rfl : kvs0 = [] := dk0
        have d0 : H2 (f2 h.size) = some (.dK []) := d0
        rw [ez] at d0
        obtain ⟨kvs, k1, k2, k3⟩ := pairs_ok hps hok.2 rl
        refine ⟨d0, kvs, k1, by rw [k3]; exact hok.1, ?_⟩
        have hn : h.size < h2.size := Nat.lt_of_lt_of_le hs e2.sz
        have ex : Ext f2 h2.size H2 f2 h2.size (upd H2 z (.dK (mergeK [] kvs))) := by
          have := Ext.put (f := f2) (u := .dK (mergeK [] kvs)) hn (r2.nofz en rfl)
          rwa [ez] at this
        obtain ⟨ex', rl'⟩ := r2.put (o' := .dct false false (ps.foldl (fun a p => DM.putK p.1 p.2 a) [])) (u := .dK (mergeK [] kvs)) en (fun _ q => by cases q) ⟨rfl, _, upd_same, by
          rw [ez]
          exact DKr.mono (Nat.le_refl _) (fun _ _ => rfl) (r2.text ex) _ _ (merge_ok k2 rfl)⟩
        rw [ez] at ex' rl'
        refine g2 _ _ ex' rl' _ ?_
        have := VR.ref (K := Y.K) (f := f2) (H := upd H2 z (.dK (mergeK [] kvs))) (N := (h2.put h.size (.dct false false (ps.foldl (fun a p => DM.putK p.1 p.2 a) []))).size) (n := h.size) (by rw [MH.size_put]; exact hn)
        rwa [ez] at this
      · exact g2.elim
    · exact g2.elim
theorem c_dct0 {k1 : List (Option Expr)} {k2 : List Expr} (h1 : k1 = []) (h2 : k2 = []) : PE X (.Dict k1 k2 p) (rdE Y W fun σ h => (evs T.P C .nil σ (h.push (.dct false false []))).bind fun l h1 => dispM h.size l h1) := by
  subst h1 h2
  refine pe_dnewK.conv fun σ H Q q z hz => ?_
  obtain ⟨f, ms, h, r, sr, q⟩ := q
  have ex0 : Ext f h.size H (nxt f h.size z) (h.size + 1) (upd H z (.dK [])) := Ext.push hz
  obtain ⟨e1, r1⟩ := r.push (o := .dct false false []) (u := .dK []) hz ⟨rfl, [], upd_same, rfl⟩
  have q2 : G Y W σ f h H (dispM h.size [] (h.push (.dct false false []))) fun v f' h' H' => ∀ x, VR Y.K f' h'.size H' v x → Q x H' := by
    unfold evs at q
    exact q
  have e3 : dispM h.size [] (h.push (.dct false false [])) = .ok (.ref h.size) ((h.push (.dct false false [])).put h.size (.dct false false [])) := by
    unfold dispM DM.pairs
    simp [MH.get_push_size]
  have e4 : (h.push (.dct false false [])).put h.size (.dct false false []) = h.push (.dct false false []) := by
    unfold MH.put MH.push MH.size
    simp
  rw [e3, e4] at q2
  have := VR.ref (K := Y.K) (f := nxt f h.size z) (H := upd H z (.dK [])) (N := (h.push (.dct false false [])).size) (n := h.size) (by rw [MH.size_push]; omega)
  rw [nxt_at] at this
  exact q2 _ _ e1 r1 _ this

/-! ### attributes -/
theorem fld_look {K : KW} {Z : Env1} {N : Nat} (inj : ∀ f g, Z.kn f = true → Z.kn g = true → Z.fnm f = Z.fnm g → f = g) {i : Nat} (hi : Z.kn i = true) :
    ∀ {fs : List (Nat × MV)} {gs : List (Str × V)}, FRs K Z f N H fs gs → (∀ p ∈ fs, Z.kn p.1 = true) → (∀ v, fld i fs = some v → ∃ x, gs.lookup (Z.fnm i) = some x ∧ VR K f N H v x) ∧ (fld i fs = none → gs.lookup (Z.fnm i) = none)
  | [], gs, e, _ => by
    have e : gs = [] := e
    subst e
    exact ⟨fun v h => (by cases h), fun _ => rfl⟩
  | (j, m) :: r, gs, ⟨x, ys, e, a, b⟩, hk => by
    subst e
    obtain ⟨h1, h2⟩ := fld_look inj hi b fun p hp => hk p (List.mem_cons_of_mem _ hp)
    have hj : Z.kn j = true := hk (j, m) List.mem_cons_self
    unfold fld
    by_cases hji : j = i
    · subst hji
      rw [if_pos rfl]
      refine ⟨fun v h => ?_, fun h => (by cases h)⟩
      cases h
      exact ⟨x, by rw [List.lookup_cons_self], a⟩
    · rw [if_neg hji]
      have hne : (Z.fnm i == Z.fnm j) = false := by
        rw [beq_eq_false_iff_ne]
        exact fun z => hji (inj i j hi hj z).symm
      have el : ((Z.fnm j, x) :: ys).lookup (Z.fnm i) = ys.lookup (Z.fnm i) := by
        rw [List.lookup_cons, hne]
      rw [el]
      exact ⟨h1, h2⟩
theorem c_att (g : Good T Y W C CX lv inB N sc X) {i : Nat} {x : Str} (e1 : x = T.fnm i) (ha : PE X a (rdE Y W ma)) (hb : attributeBase a x X.env (eval a X.env) = eval a X.env) : PE X (.Attribute a x p) (rdE Y W fun σ h => (ma σ h).bind fun x h1 => attM T.P x i h1) := by
  subst e1
  refine (pe_fld ha hb).conv fun σ H Q q => ?_
  refine (rd_seq q).mono fun x H1 ⟨f1, h1, m, r, rm, g1⟩ => ?_
  unfold attM at g1
  split at g1
  · rename_i n
    obtain ⟨hn, rfl⟩ := rm.ref_inv
    split at g1
    · rename_i c fs en
      split at g1
      · rename_i v ev1
        split at g1
        · rename_i hat
          obtain ⟨dx, gs, e2, fr, kn⟩ := r.ob _ _ en
          obtain ⟨c1, c2, c3⟩ := g.fc.at_ c i hat
          have inj : ∀ f g, Y.Z.kn f = true → Y.Z.kn g = true → Y.Z.fnm f = Y.Z.fnm g → f = g := by rw [g.fc.Z]; exact g.fc.kn
          obtain ⟨y, l1, l2⟩ := (fld_look inj c3 fr kn).1 v ev1
          refine ⟨_, _, dx, gs, y, rfl, e2, g.K ▸ c1, g.K ▸ c2, ?_, G.ok r g1 y l2⟩
          rw [← g.fc.Z]
          exact l1
        · exact g1.elim
      · exact g1.elim
    · exact g1.elim
  · exact g1.elim
end
end DM
set_option Elab.async false
set_option linter.all false
set_option maxRecDepth 100000
set_option maxHeartbeats 4000000
/-! S8: calls. -/
namespace DM
open PySem L2 PyProof.Rows PySem.Spec
section
variable {T : Tab} {Y : Ctx} {W : Wish} {C : Nat → List MV → MH → R MV} {CX : CXT} {lv : Nat} {inB : Bool} {N : List Str} {sc : Scope} {X : Cx}
variable {σ : L2.St} {H : Hp} {f : Nat → Addr} {h : MH} {ms : En}
variable {a b c e : Expr} {ma mb mc : En → MH → R MV} {p pos : Pos} {es : List Expr} {me mk : En → MH → R (List MV)}

/-! ### own functions -/
theorem call_end (g : Good T Y W C CX lv inB N sc X) {i : Nat} {sh : List Src} {kn : List Nat} {A : Addr} {fd : FuncData} (F : FnG X.prog X.w Y.K X.mg X.base CX lv A fd (T.fps i) (spM Y T C i))
    {n : Nat} (B : ∀ (s : Shared) (us ws : List Value), Y.K.In s.heap → us.length = n → ws.length = kn.length →
      ∃ bs, bs.length = (T.fps i).length ∧ BindsTo s fd ⟨us, (kn.map T.fnm).zip ws⟩ ((T.fps i).zip bs) ∧
        ∀ ms zs vs ys l f N H, pick ms zs sh = some l → Vals vs us → VRs Y.K f N H ms vs → Vals ys ws → VRs Y.K f N H zs ys → ∃ xs, Vals xs bs ∧ VRs Y.K f N H l xs)
    {pins : List (Addr × Obj)} {s : Shared} {Q : VK} {us ws : List Value} {vs ys : List V} {ms zs : List MV} (I : Inv X pins σ H s) (r1 : Vals vs us) (r2 : Vals ys ws) (r : Rl Y.K Y.Z f h H)
    (l1 : ms.length = n) (l2 : zs.length = kn.length) (v1 : VRs Y.K f h.size H ms vs) (v2 : VRs Y.K f h.size H zs ys) (q : G Y W σ f h H (callP C i sh ms zs h) fun v f' h' H' => ∀ z, VR Y.K f' h'.size H' v z → Q z H') :
    wpAny (model X.prog X.w) X.A (call (.ref A) us ((kn.map T.fnm).zip ws)) (EP X pins σ Q) X.xe s := by
  obtain ⟨bs, hb, hB, hP⟩ := B s us ws (g.In I.kIn) (by rw [← r1.length, ← v1.length]; exact l1) (by rw [← r2.length, ← v2.length]; exact l2)
  unfold callP at q
  split at q
  · rename_i l el
    obtain ⟨xs, x1, x2⟩ := hP ms zs vs ys l f h.size H el r1 v1 r2 v2
    have F' : FnG X.prog X.w X.K X.mg X.base CX lv A fd (T.fps i) (spM Y T C i) := g.K ▸ F
    exact run_fnG F' (g.room.mono (Nat.le_succ _)) g.gd (g.pass σ) I hB x1 ⟨by rw [x1.length]; exact hb, f, h, l, r, x2, q.wish fun c d H' z => z⟩
  · exact q.elim
theorem kw_some {env : Env} {pos : Pos} : ∀ {kws : List Keyword}, (kws.all fun k => k.1.isSome) = true → (backToKw pos (keywordEach kws env)).all (·.1.isSome) = true ∧ (backToKw pos (keywordEach kws env)).any (·.1.isNone) = false
  | [], _ => ⟨rfl, rfl⟩
  | ⟨nm, e, kp⟩ :: r, h => by
    rw [List.all_cons, Bool.and_eq_true] at h
    obtain ⟨a, b⟩ := kw_some (env := env) (pos := pos) h.2
    cases nm with
    | none => cases h.1
    | some x =>
      constructor
      · show (true && (backToKw pos (keywordEach r env)).all (·.1.isSome)) = true
        rw [a]; rfl
      · show (false || (backToKw pos (keywordEach r env)).any (·.1.isNone)) = false
        rw [b]; rfl
theorem kw_names {env : Env} {pos : Pos} : ∀ {kws : List Keyword}, (backToKw pos (keywordEach kws env)).filterMap (·.1) = kws.filterMap (·.1)
  | [] => rfl
  | ⟨nm, e, kp⟩ :: r => by
    have := kw_names (env := env) (pos := pos) (kws := r)
    cases nm with
    | none => exact this
    | some x => exact congrArg (x :: ·) this
theorem star_all {e : Expr} {es : List Expr} {env : Env} {pos : Pos} (h : noStars (e :: es) = true) : (backTo pos (starEach (e :: es) env)).any (·.1) = false := star_any h
theorem c_call (g : Good T Y W C CX lv inB N sc X) {i : Nat} {x : Str} {kws : List Keyword} {kn : List Nat} {sh : List Src} (e1 : x = T.fname i) (e2 : T.fok i = true) (e3 : glB sc x = true) (e4 : (x == ("__debug__" : Str)) = false)
    (ha : PA X (e :: es) (rdA Y W me)) (hk : PK X kws (rdA Y W mk)) (hs : noStars (e :: es) = true) (hall : (kws.all fun k => k.1.isSome) = true) (hks : kws.filterMap (·.1) = kn.map T.fnm) (hsh : T.sh i (e :: es).length kn sh = true)
    (le : ∀ ms h l h', me ms h = .ok l h' → l.length = (e :: es).length) (lk : ∀ ms h l h', mk ms h = .ok l h' → l.length = kn.length) :
    PE X (.Call (.Name x p) (e :: es) kws pos) (rdE Y W fun σ h => (me σ h).bind fun vs h1 => (mk σ h1).bind fun ws h2 => callP C i sh vs ws h2) := by
  refine ⟨fun pins s σ H Q I q => ?_⟩
  obtain ⟨A, fd, h1, h2, F, B⟩ := g.fc.fd i e2
  obtain ⟨a1, a2⟩ := kw_some (env := X.env) (pos := pos) hall
  have hst : isStar e = false := by
    unfold noStars at hs
    rw [List.all_cons, Bool.and_eq_true] at hs
    simpa using hs.1
  refine wpAny_Call_Name_kw (ld_glob I (g.gl e3) (e1 ▸ h1) ?_ e4)
  refine PySem.W.callWith_KW (h₀ := X.base) I.ok.mod.kin (g.K ▸ h2) a1 ?_ (by rw [star_all hs, a2]; rfl) (star_cons hst)
  obtain ⟨f, ms, h, r, sr, q⟩ := q
  refine thn (ha.run pos pins s σ H (fun xs H1 => ∃ f1 h1 l, Ext f h.size H f1 h1.size H1 ∧ Rl Y.K Y.Z f1 h1 H1 ∧ l.length = (e :: es).length ∧ VRs Y.K f1 h1.size H1 l xs ∧ G Y W σ f1 h1 H1 ((mk ms h1).bind fun ws h2 => callP C i sh l ws h2) fun v f' h' H' => ∀ z, VR Y.K f' h'.size H' v z → Q z H') I
    ⟨f, ms, h, r, sr, q.bind.mono fun l h1 f1 H1 eq e1 r1 g1 xs rx => ⟨f1, h1, l, e1, r1, le _ _ _ _ eq, rx, g1⟩⟩) fun us s1 ⟨vs, H1, I1, rv, f1, h1, l, x1, r1, l1, v1, q1⟩ => ?_
  refine thn (hk.run pos pins s1 σ H1 (fun xs H2 => ∃ f2 h2 z, Ext f1 h1.size H1 f2 h2.size H2 ∧ Rl Y.K Y.Z f2 h2 H2 ∧ z.length = kn.length ∧ VRs Y.K f2 h2.size H2 z xs ∧ G Y W σ f2 h2 H2 (callP C i sh l z h2) fun v f' h' H' => ∀ z, VR Y.K f' h'.size H' v z → Q z H') I1
    ⟨f1, ms, h1, r1, r.sr x1 sr, q1.bind.mono fun l h1 f1 H1 eq e1 r1 g1 xs rx => ⟨f1, h1, l, e1, r1, lk _ _ _ _ eq, rx, g1⟩⟩) fun ws s2 ⟨ys, H2, I2, ry, f2, h2', z, x2, r2, l2, v2, q2⟩ => ⟨I2.kIn, ?_⟩
  rw [kw_names, hks]
  exact call_end g F (B _ kn sh hsh) I2 rv ry r2 l1 l2 (r1.vrs x2 v1) v2 q2
theorem c_call0 (g : Good T Y W C CX lv inB N sc X) {i : Nat} {x : Str} {kws : List Keyword} {kn : List Nat} {sh : List Src} (e1 : x = T.fname i) (e2 : T.fok i = true) (e3 : glB sc x = true) (e4 : (x == ("__debug__" : Str)) = false)
    (hk : PK X kws (rdA Y W mk)) (hall : (kws.all fun k => k.1.isSome) = true) (hks : kws.filterMap (·.1) = kn.map T.fnm) (hsh : T.sh i 0 kn sh = true)
    (lk : ∀ ms h l h', mk ms h = .ok l h' → l.length = kn.length) :
    PE X (.Call (.Name x p) [] kws pos) (rdE Y W fun σ h => (mk σ h).bind fun ws h2 => callP C i sh [] ws h2) := by
  refine ⟨fun pins s σ H Q I q => ?_⟩
  obtain ⟨A, fd, h1, h2, F, B⟩ := g.fc.fd i e2
  obtain ⟨a1, a2⟩ := kw_some (env := X.env) (pos := pos) hall
  refine wpAny_Call_Name_kw (ld_glob I (g.gl e3) (e1 ▸ h1) ?_ e4)
  refine PySem.W.callWith_KW0 (h₀ := X.base) I.ok.mod.kin (g.K ▸ h2) a1 ?_ (by rw [a2]; rfl)
  obtain ⟨f, ms, h, r, sr, q⟩ := q
  refine thn (hk.run pos pins s σ H (fun xs H2 => ∃ f2 h2 z, Rl Y.K Y.Z f2 h2 H2 ∧ z.length = kn.length ∧ VRs Y.K f2 h2.size H2 z xs ∧ G Y W σ f2 h2 H2 (callP C i sh [] z h2) fun v f' h' H' => ∀ z, VR Y.K f' h'.size H' v z → Q z H') I
    ⟨f, ms, h, r, sr, q.bind.mono fun l h1 f1 H1 eq e1 r1 g1 xs rx => ⟨f1, h1, l, r1, lk _ _ _ _ eq, rx, g1⟩⟩) fun ws s2 ⟨ys, H2, I2, ry, f2, h2', z, r2, l2, v2, q2⟩ => ⟨I2.kIn, ?_⟩
  rw [kw_names, hks]
  exact call_end g F (B _ kn sh hsh) I2 .nil ry r2 rfl l2 .nil v2 q2

/-! ### built-in ones -/
theorem boot_bif (b : Bif) : bootBuiltins (bName b) = some (bVal b) := by cases b <;> decide +kernel
theorem bName_in (b : Bif) : bName b ∈ btNames := by cases b <;> decide +kernel
theorem bName_ne (b : Bif) : bName b ≠ "__name__" ∧ (bName b == ("__debug__" : Str)) = false := by cases b <;> decide +kernel
theorem hd_star {e : Expr} {es : List Expr} (hs : noStars (e :: es) = true) : isStar e = false ∧ noStars es = true := by
  unfold noStars at hs ⊢
  rw [List.all_cons, Bool.and_eq_true] at hs
  exact ⟨by simpa using hs.1, hs.2⟩
theorem v_args {k : List MV → MH → R MV} {σ : L2.St} {H : Hp} {Q : VK} (q : rdE Y W (fun σ h => (me σ h).bind k) σ H Q) : rdA Y W me σ H fun xs H1 => rC Y k xs H1 Q := by
  obtain ⟨f, ms, h, r, sr, q⟩ := q
  exact ⟨f, ms, h, r, sr, q.bind.mono fun l h1 f1 H1 eq e1 r1 g1 xs rx => ⟨f1, h1, l, r1, rx, W, σ, g1⟩⟩
theorem c_bif (g : Good T Y W C CX lv inB N sc X) (b : Bif) {x : Str} (e1 : x = bName b) (e3 : glB sc x = true) (ha : PA X (e :: es) (rdA Y W me)) (hs : noStars (e :: es) = true) :
    PE X (.Call (.Name x p) (e :: es) [] pos) (rdE Y W fun σ h => (me σ h).bind fun vs h1 => bifM T.P b vs h1) := by
  subst e1
  have rule := call_bif (P := T.P) g.fc.shw g.K g.calm g.gd g.un b
  have n := bName_ne b
  have bb := boot_bif b
  obtain ⟨h1, h2⟩ := hd_star hs
  have hm := g.bt (bName_in b)
  have gl := g.gl e3
  have fin : PE X (.Call (.Name (bName b) p) (e :: es) [] pos) (tCB (rC Y (bifM T.P b)) (rdA Y W me)) := by
    cases b <;> first
      | exact pe_callB rule gl hm bb ha n.1 n.2 (star_cons h1) (star_any h2)
      | exact pe_callTy rule gl hm bb ha n.1 n.2 (star_cons h1) (star_any h2)
  exact fin.conv fun σ H Q q => v_args q
theorem boot_ty {t : Ty} {S : String} (e : tyS t = some S) : bootBuiltins (tName t) = some (.type S) ∧ tName t ∈ btNames ∧ tName t ≠ "__name__" ∧ (tName t == ("__debug__" : Str)) = false := by
  cases t <;> cases e <;> decide +kernel
theorem boot_isi : bootBuiltins "isinstance" = some (.builtin "isinstance") := by decide +kernel
theorem c_isi (g : Good T Y W C CX lv inB N sc X) {t : Ty} {S : String} (et : tyS t = some S) {x y : Str} {py : Pos} (e1 : x = "isinstance") (e2 : glB sc x = true) (e3 : y = tName t) (e4 : glB sc y = true) (ha : PE X a (rdE Y W ma)) (hs : isStar a = false) :
    PE X (.Call (.Name x p) [a, .Name y py] [] pos) (rdE Y W fun σ h => (ma σ h).bind fun x h1 => bR (isiM T.P x t h1) h1) := by
  subst e1 e3
  obtain ⟨b1, b2, b3, b4⟩ := boot_ty et
  have py' : PE X (.Name (tName t) py) (tC (.ty S)) := pe_bltn (g.gl e4) (g.bt b2) b1 rfl b3 b4
  have eS : V.ty S = tyV' Y.Z t := by cases t <;> cases et <;> rfl
  have pa : PA X [a, .Name (tName t) py] (tCons (rdE Y W ma) (tCons (tC (.ty S)) tNil)) := pa_cons ha (pa_cons py' pa_nil) (star_cons hs)
  refine (pe_callB (call_isiM (t := t) g.K g.fc.isf) (g.gl e2) (g.bt (by decide)) boot_isi pa (by decide) (by decide) (star_cons hs) rfl).conv fun σ H Q q => ?_
  refine (rd_seq q).mono fun x H1 ⟨f1, h1, m, r, rm, g1⟩ => ?_
  exact ⟨f1, h1, m, x, by rw [← eS], r, rm, W, σ, g1⟩
theorem c_isiO (g : Good T Y W C CX lv inB N sc X) {c : Nat} (hc : T.cok c = true) {x y : Str} {py : Pos} (e1 : x = "isinstance") (e2 : glB sc x = true) (e3 : y = T.cname c) (e4 : glB sc y = true) (e5 : (y == ("__debug__" : Str)) = false) (ha : PE X a (rdE Y W ma)) (hs : isStar a = false) :
    PE X (.Call (.Name x p) [a, .Name y py] [] pos) (rdE Y W fun σ h => (ma σ h).bind fun x h1 => bR (isiM T.P x (.own c) h1) h1) := by
  subst e1 e3
  obtain ⟨hm, _⟩ := g.fc.mkc c hc
  have py' : PE X (.Name (T.cname c) py) (tC (.ref (Y.Z.ca c))) := pe_glob (g.gl e4) hm rfl e5
  have pa : PA X [a, .Name (T.cname c) py] (tCons (rdE Y W ma) (tCons (tC (.ref (Y.Z.ca c))) tNil)) := pa_cons ha (pa_cons py' pa_nil) (star_cons hs)
  refine (pe_callB (call_isiM (t := .own c) g.K g.fc.isf) (g.gl e2) (g.bt (by decide)) boot_isi pa (by decide) (by decide) (star_cons hs) rfl).conv fun σ H Q q => ?_
  refine (rd_seq q).mono fun x H1 ⟨f1, h1, m, r, rm, g1⟩ => ?_
  exact ⟨f1, h1, m, x, rfl, r, rm, W, σ, g1⟩

/-! ### methods of built-in classes -/
theorem noSup_base {o : Expr} {x : Str} {env : Env} {t : Sem Value} (h : noSup o = true) : attributeBase o x env t = t := by
  unfold attributeBase
  split
  · rename_i id _ _
    unfold noSup at h
    simp only [Bool.not_eq_true'] at h
    have : (id != "super") = true := by rw [bne, h]; rfl
    rw [this]
    rfl
  · rfl
theorem m_facts {m : Nat} {y : Str} (e : mName m = some y) : PlainAttrs (mTy m) ∧ Slot (mTy m) y (mId m) ∧ typeOf (.builtin (mId m)) = pure (.type "method_descriptor") := by
  match m, e with
  | 0, e => cases e; exact ⟨F.plainAttrs_list, F.slot_list_append, F.type_list_append⟩
  | 1, e => cases e; exact ⟨F.plainAttrs_str, F.slot_str_join, F.type_str_join⟩
theorem metK_ty {P : Prog} {m : Nat} {y : Str} {v : MV} {x : V} {k : MK} {h' : MH} (e : mName m = some y) (r : Rl Y.K Y.Z f h H) (rv : VR Y.K f h.size H v x) (ek : metK P m v h = .ok k h') : tyV Y.K (mTy m) x H ∧ k = .bt ∧ h' = h := by
  have hlt : m < 100 := by
    match m, e with
    | 0, _ => decide
    | 1, _ => decide
  unfold metK at ek
  split at ek
  · rename_i n
    obtain ⟨hn, rfl⟩ := rv.ref_inv
    split at ek
    · rw [if_pos hlt] at ek
      cases ek
    · rename_i l en
      obtain ⟨vs, e1, t⟩ := r.ob _ _ en
      split at ek
      · rename_i hm
        cases ek
        subst hm
        exact ⟨.inl ⟨rfl, vs, SqL.of e1⟩, rfl, rfl⟩
      · cases ek
    · cases ek
  · obtain ⟨rfl, _⟩ := rv.str_inv
    split at ek
    · rename_i hm
      cases ek
      subst hm
      exact ⟨rfl, rfl, rfl⟩
    · cases ek
  · cases ek
theorem few_ok {env : Env} {pos : Pos} : ∀ {es : List Expr}, noStars es = true → (backTo pos (starEach es env)).all (fun x => !x.1) = true
  | [], _ => rfl
  | e :: es, h => by
    obtain ⟨a, b⟩ := hd_star h
    rw [star_cons a]
    show (true && (backTo pos (starEach es env)).all (fun x => !x.1)) = true
    rw [few_ok b]
    rfl
theorem c_bm (g : Good T Y W C CX lv inB N sc X) {m : Nat} {y : Str} {ap : Pos} {sh : List Src} (e1 : mName m = some y) (ho : PE X a (rdE Y W ma)) (ha : PA X (e :: es) (rdA Y W me)) (hb : noSup a = true) (hs : noStars (e :: es) = true)
    (hl : (ap.endLine == p.line) = true) (hf : (e :: es).length < 20) : PE X (.Call (.Attribute a y ap) (e :: es) [] p)
    (rdE Y W fun σ h => (ma σ h).bind fun x h1 => (metK T.P m x h1).bind fun k h2 => (me σ h2).bind fun vs h3 => metC C k m sh x vs [] h3) := by
  obtain ⟨pa, sl, ty⟩ := m_facts e1
  obtain ⟨h1, h2⟩ := hd_star hs
  refine (pe_bm pa sl ty (mt_met g.K m) ho ha (noSup_base hb) ?_ hl (star_cons h1) (star_any h2)).conv fun σ H Q q => ?_
  · rw [few_ok hs]
    show (true && true && decide ((e :: es).length + 0 + 0 < 30)) = true
    rw [decide_eq_true (by omega)]
    rfl
  obtain ⟨f, ms, h, r, sr, q⟩ := q
  refine ⟨f, ms, h, r, sr, q.bind.mono fun v h1 f1 H1 eq x1 r1 g1 x rx => ?_⟩
  cases ek : metK T.P m v h1 with
  | ex c l h2 =>
    exfalso
    unfold metK at ek
    split at ek
    · split at ek
      · split at ek
        · cases ek
        · split at ek <;> cases ek
      · split at ek <;> cases ek
      · cases ek
    · split at ek <;> cases ek
    · cases ek
  | stk => rw [ek] at g1; exact g1.elim
  | ok k h2 =>
    obtain ⟨t1, rfl, rfl⟩ := metK_ty e1 r1 rx ek
    rw [ek] at g1
    have g2 : G Y W σ f1 h2 H1 ((me ms h2).bind fun vs h3 => metC C .bt m sh v vs [] h3) fun v f' h' H' => ∀ z, VR Y.K f' h'.size H' v z → Q z H' := g1
    refine ⟨g.K ▸ t1, f1, ms, h2, r1, r.sr x1 sr, g2.bind.mono fun l h3 f3 H3 _ x3 r3 g3 xs rl => ?_⟩
    exact ⟨f3, h3, v, l, r3, r1.vr x3 rx, rl, W, σ, g3⟩

/-! ### text[::-1] -/
theorem pick_all {α : Type} : ∀ m : List α, (List.range m.length).filterMap (fun k => m[k]?) = m
  | [] => rfl
  | x :: xs => by
    rw [List.length_cons, List.range_succ_eq_map]
    show x :: ((List.range xs.length).map Nat.succ).filterMap (fun k => (x :: xs)[k]?) = _
    rw [List.filterMap_map]
    exact congrArg (x :: ·) (pick_all xs)
theorem fm_congr {α β : Type} {f g : α → Option β} : ∀ {l : List α}, (∀ x ∈ l, f x = g x) → l.filterMap f = l.filterMap g
  | [], _ => rfl
  | x :: xs, h => by
    rw [List.filterMap_cons, List.filterMap_cons, h x List.mem_cons_self, fm_congr fun y hy => h y (List.mem_cons_of_mem _ hy)]
theorem pick_rev (l : List Nat) : ((List.range l.length).map fun k => l.length - 1 - k).filterMap (fun k => l[k]?) = l.reverse := by
  have e := pick_all l.reverse
  rw [List.length_reverse] at e
  rw [List.filterMap_map, ← e]
  refine fm_congr fun k hk => ?_
  have hk' : k < l.length := List.mem_range.mp hk
  rw [List.getElem?_reverse hk']
  rfl
theorem c_rev (g : Good T Y W C CX lv inB N sc X) (ha : PE X a (rdE Y W ma)) {k : Nat} {p1 p2 p3 : Pos} : PE X (.Subscript a (.Slice none none (some (.UnaryOp .USub (.Constant (.int 1) k p1) p2)) p3) p) (rdE Y W fun σ h => (ma σ h).bind fun x h1 => revM x h1) := by
  refine ⟨fun pins s σ H Q I q => ?_⟩
  refine Subscript_ (thn (ha.run pins s σ H _ I (rd_seq q)) fun v s1 ⟨x, H1, I1, r1, f1, h1, m, rl, rm, g1⟩ => ?_)
  have part : PO X (some (.UnaryOp .USub (.Constant (.int 1) k p1) p2)) (tPart (tUn (rU fun i => .int (-i)) (tC (.int 1)))) := po_some (pe_un un_neg pe_int)
  refine wpAny_Slice (thn (po_none.run pins s1 σ H1 (fun o H2 => o = none ∧ H2 = H1) I1 ⟨rfl, rfl⟩) fun vl s2 ⟨o1, H2, I2, pl, e1, e2⟩ => thn (po_none.run pins s2 σ H2 (fun o H3 => o = none ∧ H3 = H2) I2 ⟨rfl, rfl⟩) fun vu s3 ⟨o2, H3, I3, pu, e3, e4⟩ => ?_)
  refine thn (part.run pins s3 σ H3 (fun o H4 => o = some (-1) ∧ H4 = H3) I3 ⟨1, rfl, -1, rfl, rfl, rfl⟩) fun vs s4 ⟨o3, H4, I4, ps, e5, e6⟩ => ?_
  subst e1 e2 e3 e4 e5 e6
  cases m with
  | str z =>
    obtain ⟨rfl, tz⟩ := rm.str_inv
    obtain ⟨tk, rfl⟩ := r1
    obtain rfl : vl = .none := by
      cases pl
      rfl
    obtain rfl : vu = .none := by
      cases pu
      rfl
    obtain ⟨tk2, rfl⟩ : ∃ t, vs = .int (-1) t := by
      cases ps
      exact ⟨_, rfl⟩
    have I5 : Inv X pins σ H4 { s4 with heap := s4.heap.push { cls := .type "slice", data := .fields #[.none, .none, .int (-1) tk2] } } := I4.kept (t' := s4.toks) fun b ob q => Heap.get?_push_of_some _ q
    show wpAny (model X.prog X.w) X.A (subscriptTail a (.Slice none none (some (.UnaryOp .USub (.Constant (.int 1) k p1) p2)) p3) (.str ⟨z.toArray⟩ tk) (.ref s4.heap.objs.size)) (EP X pins σ Q) X.xe { s4 with heap := s4.heap.push { cls := .type "slice", data := .fields #[.none, .none, .int (-1) tk2] } }
    refine tail_any (ops := [.str ⟨z.toArray⟩ tk, .ref s4.heap.objs.size]) (typeIs_str _ _ _) F.slot_str_getitem.lookup (wpAny_getItem_str_slice (l := none) (u := none) (st := some (-1, tk2)) ⟨_, Heap.get?_push_size _ rfl, rfl, rfl⟩ rfl ?_) (by with_unfolding_all rfl)
    have es : (⟨(((slicePicked ⟨z.toArray⟩ none none (some (-1, tk2))).filterMap ((⟨z.toArray⟩ : Str).cps[·]?)).toArray)⟩ : Str) = ⟨z.reverse.toArray⟩ := by
      have e1 : slicePicked ⟨z.toArray⟩ none none (some (-1, tk2)) = (List.range z.length).map fun k => z.length - 1 - k := by
        have e2 : (⟨z.toArray⟩ : Str).length = z.length := by show z.toArray.size = _; simp
        show Builtin.Str.strSliceIndices none none (-1) (⟨z.toArray⟩ : Str).length = _
        rw [e2]
        exact PySem.W.krv_sliceRange z.length
      rw [e1]
      congr 2
      rw [← pick_rev z]
      exact fm_congr fun k _ => by simp
    have ed : sliceMade ⟨z.toArray⟩ tk none none (some (-1, tk2)) = .str ⟨z.reverse.toArray⟩ := by
      rw [← es]
      rfl
    rw [ed]
    refine ⟨?_, .str ⟨z.reverse.toArray⟩, H4, I5.tok _, ⟨_, rfl⟩, ?_⟩
    · show z.reverse.toArray.size ≤ _
      simpa using tz.1
    · exact G.ok rl g1 _ (.str ⟨by rw [List.length_reverse]; exact tz.1, fun c hc => tz.2 c (List.mem_reverse.mp hc)⟩)
  | _ => exact g1.elim
end
end DM
set_option Elab.async false
set_option linter.all false
set_option maxRecDepth 100000
set_option maxHeartbeats 4000000
/-! S8b: new instances, own methods. -/
namespace DM
open PySem L2 PyProof.Rows PySem.Spec
section
variable {T : Tab} {Y : Ctx} {W : Wish} {C : Nat → List MV → MH → R MV} {CX : CXT} {lv : Nat} {inB : Bool} {N : List Str} {sc : Scope} {X : Cx}
variable {σ : L2.St} {H : Hp} {f : Nat → Addr} {h : MH} {ms : En}
variable {a b c e : Expr} {ma mb mc : En → MH → R MV} {p pos : Pos} {es : List Expr} {me mk : En → MH → R (List MV)}
theorem mk_end (g : Good T Y W C CX lv inB N sc X) {c : Nat} {sh : List Src} {kn : List Nat} {A : Addr} {fd : FuncData} (M : Mk Y.K (Y.Z.ca c) A) (F : FnG X.prog X.w Y.K X.mg X.base CX lv A fd (T.fps (T.P.cls c).ini) (spM Y T C (T.P.cls c).ini))
    {n : Nat} (B : FormS T Y.K (T.P.cls c).ini fd n kn sh)
    {pins : List (Addr × Obj)} {s : Shared} {Q : VK} {us ws : List Value} {vs ys : List V} {ms zs : List MV} (I : Inv X pins σ H s) (r1 : Vals vs us) (r2 : Vals ys ws) (r : Rl Y.K Y.Z f h H)
    (l1 : ms.length = n) (l2 : zs.length = kn.length) (v1 : VRs Y.K f h.size H ms vs) (v2 : VRs Y.K f h.size H zs ys) (q : G Y W σ f h H (mkM T.P C c sh ms zs h) fun v f' h' H' => ∀ z, VR Y.K f' h'.size H' v z → Q z H') :
    wpAny (model X.prog X.w) X.A (call (.ref (Y.Z.ca c)) us ((kn.map T.fnm).zip ws)) (EP X pins σ Q) X.xe s := by
  obtain ⟨bs, hb, hB, hP⟩ := B us ws (by rw [← r1.length, ← v1.length]; exact l1) (by rw [← r2.length, ← v2.length]; exact l2)
  unfold mkM at q
  split at q
  · rename_i l el
    obtain ⟨xs, x1, x2⟩ := hP ms zs vs ys l f h.size H el r1 v1 r2 v2
    refine run_makeG (g.K ▸ M) (g.K ▸ F : FnG X.prog X.w X.K X.mg X.base CX lv A fd (T.fps (T.P.cls c).ini) (spM Y T C (T.P.cls c).ini)) g.room g.gd (g.pass σ) I (fun s' k u => hB s' u (g.In k)) x1 fun x dx hx hdx hne => ?_
    have e1 : Ext f h.size H f h.size (upd H dx (.own x)) := Ext.aside hdx
    have ra := r.aside (u := .own x) hdx
    have hx' : upd H dx (.own x) x = none := by rw [upd_ne (fun z => hne z.symm)]; exact hx
    obtain ⟨e2, rb⟩ := ra.push (o := .ins c []) (u := .ins (Y.Z.ca c) dx []) hx' ⟨dx, [], upd_same, rfl, fun p hp => by cases hp⟩
    have e12 := e1.trans e2
    refine ⟨?_, nxt f h.size x, h.push (.ins c []), .ref h.size :: l, rb, .cons ?_ (r.vrs e12 x2), ?_⟩
    · rw [List.length_cons, x1.length]
      exact hb
    · have := VR.ref (K := Y.K) (f := nxt f h.size x) (H := upd (upd H dx (.own x)) x (.ins (Y.Z.ca c) dx [])) (N := (h.push (.ins c [])).size) (n := h.size) (by rw [MH.size_push]; omega)
      rwa [nxt_at] at this
    · refine ((G.shift e12 q).bind.mono fun v h1 f1 H1 _ x3 r3 g3 z rz => ?_).wish fun c d H' z => z
      cases v with
      | non =>
        refine ⟨rz.non_inv, G.ok r3 g3 (.ref x) ?_⟩
        have hs : h.size < (h.push (.ins c [])).size := by rw [MH.size_push]; omega
        have := VR.ref (K := Y.K) (f := f1) (H := H1) (N := h1.size) (n := h.size) (Nat.lt_of_lt_of_le hs x3.sz)
        rwa [x3.ag _ hs, nxt_at] at this
      | _ => exact g3.elim
  · exact q.elim
theorem c_mk (g : Good T Y W C CX lv inB N sc X) {c : Nat} {x : Str} {kws : List Keyword} {kn : List Nat} {sh : List Src} (e1 : x = T.cname c) (e2 : T.cok c = true) (e3 : glB sc x = true) (e4 : (x == ("__debug__" : Str)) = false)
    (ha : PA X (e :: es) (rdA Y W me)) (hk : PK X kws (rdA Y W mk)) (hs : noStars (e :: es) = true) (hall : (kws.all fun k => k.1.isSome) = true) (hks : kws.filterMap (·.1) = kn.map T.fnm) (hsh : T.shc c (e :: es).length kn sh = true)
    (le : ∀ ms h l h', me ms h = .ok l h' → l.length = (e :: es).length) (lk : ∀ ms h l h', mk ms h = .ok l h' → l.length = kn.length) :
    PE X (.Call (.Name x p) (e :: es) kws pos) (rdE Y W fun σ h => (me σ h).bind fun vs h1 => (mk σ h1).bind fun ws h2 => mkM T.P C c sh vs ws h2) := by
  refine ⟨fun pins s σ H Q I q => ?_⟩
  obtain ⟨h1, A, fd, M, F, B⟩ := g.fc.mkc c e2
  obtain ⟨a1, a2⟩ := kw_some (env := X.env) (pos := pos) hall
  have hst : isStar e = false := (hd_star hs).1
  refine wpAny_Call_Name_kw (ld_glob I (g.gl e3) (e1 ▸ h1) ?_ e4)
  refine PySem.W.callWith_KW (h₀ := X.base) I.ok.mod.kin (g.K ▸ M.kp) a1 ?_ (by rw [star_all hs, a2]; rfl) (star_cons hst)
  obtain ⟨f, ms, h, r, sr, q⟩ := q
  refine thn (ha.run pos pins s σ H (fun xs H1 => ∃ f1 h1 l, Ext f h.size H f1 h1.size H1 ∧ Rl Y.K Y.Z f1 h1 H1 ∧ l.length = (e :: es).length ∧ VRs Y.K f1 h1.size H1 l xs ∧ G Y W σ f1 h1 H1 ((mk ms h1).bind fun ws h2 => mkM T.P C c sh l ws h2) fun v f' h' H' => ∀ z, VR Y.K f' h'.size H' v z → Q z H') I
    ⟨f, ms, h, r, sr, q.bind.mono fun l h1 f1 H1 eq e1 r1 g1 xs rx => ⟨f1, h1, l, e1, r1, le _ _ _ _ eq, rx, g1⟩⟩) fun us s1 ⟨vs, H1, I1, rv, f1, h1, l, x1, r1, l1, v1, q1⟩ => ?_
  refine thn (hk.run pos pins s1 σ H1 (fun xs H2 => ∃ f2 h2 z, Ext f1 h1.size H1 f2 h2.size H2 ∧ Rl Y.K Y.Z f2 h2 H2 ∧ z.length = kn.length ∧ VRs Y.K f2 h2.size H2 z xs ∧ G Y W σ f2 h2 H2 (mkM T.P C c sh l z h2) fun v f' h' H' => ∀ z, VR Y.K f' h'.size H' v z → Q z H') I1
    ⟨f1, ms, h1, r1, r.sr x1 sr, q1.bind.mono fun l h1 f1 H1 eq e1 r1 g1 xs rx => ⟨f1, h1, l, e1, r1, lk _ _ _ _ eq, rx, g1⟩⟩) fun ws s2 ⟨ys, H2, I2, ry, f2, h2', z, x2, r2, l2, v2, q2⟩ => ⟨I2.kIn, ?_⟩
  rw [kw_names, hks]
  exact mk_end g M F (B _ kn sh hsh) I2 rv ry r2 l1 l2 (r1.vrs x2 v1) v2 q2
theorem c_mk0 (g : Good T Y W C CX lv inB N sc X) {c : Nat} {x : Str} {kws : List Keyword} {kn : List Nat} {sh : List Src} (e1 : x = T.cname c) (e2 : T.cok c = true) (e3 : glB sc x = true) (e4 : (x == ("__debug__" : Str)) = false)
    (hk : PK X kws (rdA Y W mk)) (hall : (kws.all fun k => k.1.isSome) = true) (hks : kws.filterMap (·.1) = kn.map T.fnm) (hsh : T.shc c 0 kn sh = true)
    (lk : ∀ ms h l h', mk ms h = .ok l h' → l.length = kn.length) :
    PE X (.Call (.Name x p) [] kws pos) (rdE Y W fun σ h => (mk σ h).bind fun ws h2 => mkM T.P C c sh [] ws h2) := by
  refine ⟨fun pins s σ H Q I q => ?_⟩
  obtain ⟨h1, A, fd, M, F, B⟩ := g.fc.mkc c e2
  obtain ⟨a1, a2⟩ := kw_some (env := X.env) (pos := pos) hall
  refine wpAny_Call_Name_kw (ld_glob I (g.gl e3) (e1 ▸ h1) ?_ e4)
  refine PySem.W.callWith_KW0 (h₀ := X.base) I.ok.mod.kin (g.K ▸ M.kp) a1 ?_ (by rw [a2]; rfl)
  obtain ⟨f, ms, h, r, sr, q⟩ := q
  refine thn (hk.run pos pins s σ H (fun xs H2 => ∃ f2 h2 z, Rl Y.K Y.Z f2 h2 H2 ∧ z.length = kn.length ∧ VRs Y.K f2 h2.size H2 z xs ∧ G Y W σ f2 h2 H2 (mkM T.P C c sh [] z h2) fun v f' h' H' => ∀ z, VR Y.K f' h'.size H' v z → Q z H') I
    ⟨f, ms, h, r, sr, q.bind.mono fun l h1 f1 H1 eq e1 r1 g1 xs rx => ⟨f1, h1, l, r1, lk _ _ _ _ eq, rx, g1⟩⟩) fun ws s2 ⟨ys, H2, I2, ry, f2, h2', z, r2, l2, v2, q2⟩ => ⟨I2.kIn, ?_⟩
  rw [kw_names, hks]
  exact mk_end g M F (B _ kn sh hsh) I2 .nil ry r2 rfl l2 .nil v2 q2

/-! ### own methods -/
theorem kw_form {env : Env} {pos : Pos} : ∀ {kws : List Keyword}, (kws.all fun k => k.1.isSome) = true → (backToKw pos (keywordEach kws env)).all (fun x => x.1.isSome) = true
  | _, h => (kw_some h).1
theorem meth_tree {o : Expr} {m : Str} {apos pos : Pos} {env : Env} {args : List Expr} {kws : List Keyword} (hb : noSup o = true) (hs : noStars args = true) (hall : (kws.all fun k => k.1.isSome) = true) (hl : (apos.endLine == pos.line) = true)
    (h1 : args.length < 12) (h2 : kws.length < 12) : eval (.Call (.Attribute o m apos) args kws pos) env = (do
      let ov ← eval o env
      standAt apos.atName
      let (f, first) ← holding [ov] (getMethod ov m (plainOf o env))
      callWith pos f first (backTo pos (starEach args env)) (backToKw pos (keywordEach kws env))) := by
  have hf : methodCallForm (args.length + kws.length) (backTo pos (starEach args env)) (backToKw pos (keywordEach kws env)) = true := by
    unfold methodCallForm
    rw [few_ok hs, kw_form hall]
    have : args.length + kws.length + (if (backToKw pos (keywordEach kws env)).isEmpty = true then 0 else 1) < 30 := by split <;> omega
    simpa using this
  rw [arm_eval_Call, noSup_base hb]
  congr 1
  funext ov
  congr 1
  funext _
  rw [mcall_line hf hl]
theorem metK_own {P : Prog} {m : Nat} {v : MV} {x : V} {k : MK} {h' : MH} (hm : 100 ≤ m) (r : Rl Y.K Y.Z f h H) (rv : VR Y.K f h.size H v x) (ek : metK P m v h = .ok k h') : h' = h ∧ ∃ n c fs i dx gs, v = .ref n ∧ x = .ref (f n) ∧ H (f n) = some (.ins (Y.Z.ca c) dx gs) ∧ FRs Y.K Y.Z f h.size H fs gs ∧ (∀ p ∈ fs, Y.Z.kn p.1 = true) ∧
    fldN m (P.cls c).met = some i ∧ k = .own i := by
  unfold metK at ek
  split at ek
  · rename_i n
    obtain ⟨hn, rfl⟩ := rv.ref_inv
    split at ek
    · rename_i c fs en
      rw [if_neg (by omega)] at ek
      obtain ⟨dx, gs, e1, e2, e3⟩ := r.ob _ _ en
      split at ek
      · rename_i i ei
        cases ek
        exact ⟨rfl, n, c, fs, i, dx, gs, rfl, rfl, e1, e2, e3, ei, rfl⟩
      · cases ek
    · split at ek
      · omega
      · cases ek
    · cases ek
  · split at ek
    · omega
    · cases ek
  · cases ek
theorem metK_noex {P : Prog} {m : Nat} {v : MV} {c : Nat} {l : List MV} {h' : MH} (ek : metK P m v h = .ex c l h') : False := by
  unfold metK at ek
  split at ek
  · split at ek
    · split at ek
      · cases ek
      · split at ek <;> cases ek
    · split at ek <;> cases ek
    · cases ek
  · split at ek <;> cases ek
  · cases ek
theorem look_none {Z : Env1} {K : KW} {y : Str} (hy : ∀ i, Z.kn i = true → Z.fnm i ≠ y) : ∀ {fs : List (Nat × MV)} {gs : List (Str × V)}, FRs K Z f h.size H fs gs → (∀ p ∈ fs, Z.kn p.1 = true) → gs.lookup y = none
  | [], gs, e, _ => by
    have e : gs = [] := e
    subst e
    rfl
  | (j, m) :: r, gs, ⟨x, ys, e, a, b⟩, hk => by
    subst e
    have hj : Z.kn j = true := hk (j, m) List.mem_cons_self
    rw [List.lookup_cons, show (y == Z.fnm j) = false from beq_eq_false_iff_ne.mpr fun z => hy j hj z.symm]
    exact look_none hy b fun p hp => hk p (List.mem_cons_of_mem _ hp)
theorem own_end (g : Good T Y W C CX lv inB N sc X) {i : Nat} {sh : List Src} {kn : List Nat} {A : Addr} {fd : FuncData} (F : FnG X.prog X.w Y.K X.mg X.base CX lv A fd (T.fps i) (spM Y T C i))
    {n : Nat} (B : FormS T Y.K i fd n kn sh)
    {pins : List (Addr × Obj)} {s : Shared} {Q : VK} {us ws : List Value} {vs ys : List V} {ms zs : List MV} {m0 : MV} {v0 : V} {u0 : Value} (I : Inv X pins σ H s) (r0 : RelV v0 u0) (r1 : Vals vs us) (r2 : Vals ys ws) (r : Rl Y.K Y.Z f h H)
    (l1 : ms.length = n) (l2 : zs.length = kn.length) (v00 : VR Y.K f h.size H m0 v0) (v1 : VRs Y.K f h.size H ms vs) (v2 : VRs Y.K f h.size H zs ys) {m : Nat} (q : G Y W σ f h H (metC C (.own i) m sh m0 ms zs h) fun v f' h' H' => ∀ z, VR Y.K f' h'.size H' v z → Q z H') :
    wpAny (model X.prog X.w) X.A (call (.ref A) (u0 :: us) ((kn.map T.fnm).zip ws)) (EP X pins σ Q) X.xe s := by
  obtain ⟨bs, hb, hB, hP⟩ := B us ws (by rw [← r1.length, ← v1.length]; exact l1) (by rw [← r2.length, ← v2.length]; exact l2)
  unfold metC at q
  simp only at q
  split at q
  · rename_i l el
    obtain ⟨xs, x1, x2⟩ := hP ms zs vs ys l f h.size H el r1 v1 r2 v2
    have F' : FnG X.prog X.w X.K X.mg X.base CX lv A fd (T.fps i) (spM Y T C i) := g.K ▸ F
    exact run_fnG F' (g.room.mono (Nat.le_succ _)) g.gd (g.pass σ) I (hB s u0 (g.In I.kIn)) (.cons r0 x1) ⟨by rw [List.length_cons, x1.length]; exact hb, f, h, m0 :: l, r, .cons v00 x2, q.wish fun c d H' z => z⟩
  · exact q.elim
/-- what is known behind the object and its method -/
theorem own_at (g : Good T Y W C CX lv inB N sc X) {m : Nat} (hm : 100 ≤ m) {k : MK → MH → R MV} {v : MV} {x : V} {Tt : MV → (Nat → Addr) → MH → Hp → Prop} (r : Rl Y.K Y.Z f h H) (rx : VR Y.K f h.size H v x)
    (q : G Y W σ f h H ((metK T.P m v h).bind k) Tt) : ∃ n c dx gs i A fd, x = .ref (f n) ∧ H (f n) = some (.ins (Y.Z.ca c) dx gs) ∧ Cls X.K (Y.Z.ca c) ∧ Meth X.K (Y.Z.ca c) (T.mnm m) A ∧ gs.lookup (T.mnm m) = none ∧
      FnG X.prog X.w Y.K X.mg X.base CX lv A fd (T.fps i) (spM Y T C i) ∧ (∀ n kn sh, T.shm m n kn sh = true → FormS T Y.K i fd n kn sh) ∧ G Y W σ f h H (k (.own i) h) Tt := by
  cases ek : metK T.P m v h with
  | ex c l h2 => exact (metK_noex ek).elim
  | stk => rw [ek] at q; exact q.elim
  | ok k' h2 =>
    obtain ⟨rfl, n, c, fs, i, dx, gs, rfl, rfl, e1, e2, e3, e4, rfl⟩ := metK_own hm r rx ek
    obtain ⟨c1, c2, A, fd, M, F, B⟩ := g.fc.me c m i e4
    rw [ek] at q
    exact ⟨n, c, dx, gs, i, A, fd, rfl, e1, g.K ▸ c1, g.K ▸ M, look_none (by rw [g.fc.Z]; exact c2) e2 e3, F, B, q⟩
theorem c_own (g : Good T Y W C CX lv inB N sc X) {m : Nat} {y : Str} {ap : Pos} {kws : List Keyword} {kn : List Nat} {sh : List Src} (hm : 100 ≤ m) (e1 : y = T.mnm m) (ho : PE X a (rdE Y W ma))
    (ha : PA X (e :: es) (rdA Y W me)) (hk : PK X kws (rdA Y W mk)) (hb : noSup a = true) (hs : noStars (e :: es) = true) (hall : (kws.all fun k => k.1.isSome) = true) (hks : kws.filterMap (·.1) = kn.map T.fnm) (hsh : T.shm m (e :: es).length kn sh = true)
    (hl : (ap.endLine == pos.line) = true) (n1 : (e :: es).length < 12) (n2 : kws.length < 12)
    (le : ∀ ms h l h', me ms h = .ok l h' → l.length = (e :: es).length) (lk : ∀ ms h l h', mk ms h = .ok l h' → l.length = kn.length) :
    PE X (.Call (.Attribute a y ap) (e :: es) kws pos) (rdE Y W fun σ h => (ma σ h).bind fun x h1 => (metK T.P m x h1).bind fun k h2 => (me σ h2).bind fun vs h3 => (mk σ h3).bind fun ws h4 => metC C k m sh x vs ws h4) := by
  subst e1
  refine ⟨fun pins s σ H Q I q => ?_⟩
  obtain ⟨a1, a2⟩ := kw_some (env := X.env) (pos := pos) hall
  have hst : isStar e = false := (hd_star hs).1
  obtain ⟨f, ms, h, r, sr, q⟩ := q
  refine PySem.W.methodCall_KW (pl := plainOf a X.env) (thn (ho.run pins s σ H (fun x H1 => ∃ f1 h1 v, Ext f h.size H f1 h1.size H1 ∧ Rl Y.K Y.Z f1 h1 H1 ∧ VR Y.K f1 h1.size H1 v x ∧ G Y W σ f1 h1 H1 ((metK T.P m v h1).bind fun k h2 => (me ms h2).bind fun vs h3 => (mk ms h3).bind fun ws h4 => metC C k m sh v vs ws h4) fun v f' h' H' => ∀ z, VR Y.K f' h'.size H' v z → Q z H') I
    ⟨f, ms, h, r, sr, q.bind.mono fun v h1 f1 H1 eq x1 r1 g1 x rx => ⟨f1, h1, v, x1, r1, rx, g1⟩⟩) fun u s1 ⟨x, H1, I1, ru, f1, h1, v, x1, r1, rx, q1⟩ => ?_) (meth_tree hb hs hall hl n1 n2)
  obtain ⟨n, c, dx, gs, i, A, fd, rfl, e2, c1, M, lk0, F, B, q2⟩ := own_at g hm r1 rx q1
  obtain rfl : u = Value.ref (f1 n) := ru
  refine getmeth_ok I1 e2 c1 M lk0 ?_
  refine PySem.W.callWith_KW (first := [.ref (f1 n)]) (h₀ := X.base) I.ok.mod.kin M.kp a1 ?_ (by rw [star_all hs, a2]; rfl) (star_cons hst)
  have sr1 := r.sr x1 sr
  refine thn (ha.run pos pins s1 σ H1 (fun xs H2 => ∃ f2 h2 l, Ext f1 h1.size H1 f2 h2.size H2 ∧ Rl Y.K Y.Z f2 h2 H2 ∧ l.length = (e :: es).length ∧ VRs Y.K f2 h2.size H2 l xs ∧ G Y W σ f2 h2 H2 ((mk ms h2).bind fun ws h3 => metC C (.own i) m sh v l ws h3) fun v f' h' H' => ∀ z, VR Y.K f' h'.size H' v z → Q z H') I1
    ⟨f1, ms, h1, r1, sr1, q2.bind.mono fun l h2 f2 H2 eq x2 r2 g2 xs rl => ⟨f2, h2, l, x2, r2, le _ _ _ _ eq, rl, g2⟩⟩) fun us s2 ⟨vs, H2, I2, rv, f2, h2, l, x2, r2, l1, v1, q3⟩ => ?_
  refine thn (hk.run pos pins s2 σ H2 (fun xs H3 => ∃ f3 h3 z, Ext f2 h2.size H2 f3 h3.size H3 ∧ Rl Y.K Y.Z f3 h3 H3 ∧ z.length = kn.length ∧ VRs Y.K f3 h3.size H3 z xs ∧ G Y W σ f3 h3 H3 (metC C (.own i) m sh v l z h3) fun v f' h' H' => ∀ z, VR Y.K f' h'.size H' v z → Q z H') I2
    ⟨f2, ms, h2, r2, r1.sr x2 sr1, q3.bind.mono fun l h3 f3 H3 eq x3 r3 g3 xs rl => ⟨f3, h3, l, x3, r3, lk _ _ _ _ eq, rl, g3⟩⟩) fun ws s3 ⟨ys, H3, I3, ry, f3, h3, z, x3, r3, l2, v2, q4⟩ => ⟨I3.kIn, ?_⟩
  rw [kw_names, hks]
  exact own_end (v0 := V.ref (f1 n)) g F (B _ kn sh hsh) I3 rfl rv ry r3 l1 l2 (r2.vr x3 (r1.vr x2 rx)) (r2.vrs x3 v1) v2 q4
theorem c_own0 (g : Good T Y W C CX lv inB N sc X) {m : Nat} {y : Str} {ap : Pos} {kws : List Keyword} {kn : List Nat} {sh : List Src} (hm : 100 ≤ m) (e1 : y = T.mnm m) (ho : PE X a (rdE Y W ma))
    (hk : PK X kws (rdA Y W mk)) (hb : noSup a = true) (hall : (kws.all fun k => k.1.isSome) = true) (hks : kws.filterMap (·.1) = kn.map T.fnm) (hsh : T.shm m 0 kn sh = true)
    (hl : (ap.endLine == pos.line) = true) (n2 : kws.length < 12) (lk : ∀ ms h l h', mk ms h = .ok l h' → l.length = kn.length) :
    PE X (.Call (.Attribute a y ap) [] kws pos) (rdE Y W fun σ h => (ma σ h).bind fun x h1 => (metK T.P m x h1).bind fun k h2 => (mk σ h2).bind fun ws h4 => metC C k m sh x [] ws h4) := by
  subst e1
  refine ⟨fun pins s σ H Q I q => ?_⟩
  obtain ⟨a1, a2⟩ := kw_some (env := X.env) (pos := pos) hall
  obtain ⟨f, ms, h, r, sr, q⟩ := q
  refine PySem.W.methodCall_KW (pl := plainOf a X.env) (thn (ho.run pins s σ H (fun x H1 => ∃ f1 h1 v, Ext f h.size H f1 h1.size H1 ∧ Rl Y.K Y.Z f1 h1 H1 ∧ VR Y.K f1 h1.size H1 v x ∧ G Y W σ f1 h1 H1 ((metK T.P m v h1).bind fun k h2 => (mk ms h2).bind fun ws h4 => metC C k m sh v [] ws h4) fun v f' h' H' => ∀ z, VR Y.K f' h'.size H' v z → Q z H') I
    ⟨f, ms, h, r, sr, q.bind.mono fun v h1 f1 H1 eq x1 r1 g1 x rx => ⟨f1, h1, v, x1, r1, rx, g1⟩⟩) fun u s1 ⟨x, H1, I1, ru, f1, h1, v, x1, r1, rx, q1⟩ => ?_) (meth_tree hb rfl hall hl (by decide) n2)
  obtain ⟨n, c, dx, gs, i, A, fd, rfl, e2, c1, M, lk0, F, B, q2⟩ := own_at g hm r1 rx q1
  obtain rfl : u = Value.ref (f1 n) := ru
  refine getmeth_ok I1 e2 c1 M lk0 ?_
  refine PySem.W.callWith_KW0 (first := [.ref (f1 n)]) (h₀ := X.base) I.ok.mod.kin M.kp a1 ?_ (by rw [a2]; rfl)
  refine thn (hk.run pos pins s1 σ H1 (fun xs H3 => ∃ f3 h3 z, Ext f1 h1.size H1 f3 h3.size H3 ∧ Rl Y.K Y.Z f3 h3 H3 ∧ z.length = kn.length ∧ VRs Y.K f3 h3.size H3 z xs ∧ G Y W σ f3 h3 H3 (metC C (.own i) m sh v [] z h3) fun v f' h' H' => ∀ z, VR Y.K f' h'.size H' v z → Q z H') I1
    ⟨f1, ms, h1, r1, r.sr x1 sr, q2.bind.mono fun l h3 f3 H3 eq x3 r3 g3 xs rl => ⟨f3, h3, l, x3, r3, lk _ _ _ _ eq, rl, g3⟩⟩) fun ws s3 ⟨ys, H3, I3, ry, f3, h3, z, x3, r3, l2, v2, q4⟩ => ⟨I3.kIn, ?_⟩
  rw [kw_names, hks]
  exact own_end (v0 := V.ref (f1 n)) g F (B _ kn sh hsh) I3 rfl .nil ry r3 rfl l2 (r1.vr x3 rx) .nil v2 q4

/-! ### o.f = v -/
theorem putFld_put {K : KW} {Z : Env1} {N : Nat} (inj : ∀ f g, Z.kn f = true → Z.kn g = true → Z.fnm f = Z.fnm g → f = g) {i : Nat} {v : MV} {x : V} (hi : Z.kn i = true) (rx : VR K f N H v x) :
    ∀ {fs : List (Nat × MV)} {gs : List (Str × V)}, FRs K Z f N H fs gs → (∀ p ∈ fs, Z.kn p.1 = true) → FRs K Z f N H (putFld i v fs) (L2.putF (Z.fnm i) x gs) ∧ (∀ p ∈ putFld i v fs, Z.kn p.1 = true) ∧ gs.length = fs.length
  | [], gs, e, _ => by
    have e : gs = [] := e
    subst e
    refine ⟨⟨x, [], rfl, rx, rfl⟩, fun p hp => ?_, rfl⟩
    rw [List.mem_singleton.mp (show p ∈ [(i, v)] from hp)]
    exact hi
  | (j, m) :: r, gs, ⟨y, ys, e, a, b⟩, hk => by
    subst e
    have hj : Z.kn j = true := hk (j, m) List.mem_cons_self
    obtain ⟨h1, h2, h3⟩ := putFld_put inj hi rx b fun p hp => hk p (List.mem_cons_of_mem _ hp)
    unfold putFld L2.putF
    by_cases hji : j = i
    · subst hji
      rw [if_pos rfl, if_pos rfl]
      refine ⟨⟨x, ys, rfl, rx, b⟩, fun p hp => ?_, by rw [List.length_cons, List.length_cons, h3]⟩
      rcases List.mem_cons.mp hp with rfl | hp
      · exact hj
      · exact hk p (List.mem_cons_of_mem _ hp)
    · rw [if_neg hji, if_neg fun z => hji (inj _ _ hj hi z)]
      refine ⟨⟨y, _, rfl, a, h1⟩, fun p hp => ?_, by rw [List.length_cons, List.length_cons, h3]⟩
      rcases List.mem_cons.mp hp with rfl | hp
      · exact hj
      · exact h2 p hp
theorem fld_len {K : KW} {Z : Env1} {N : Nat} : ∀ {fs : List (Nat × MV)} {gs : List (Str × V)}, FRs K Z f N H fs gs → gs.length = fs.length
  | [], gs, e => by
    have e : gs = [] := e
    subst e
    rfl
  | _ :: r, gs, ⟨y, ys, e, a, b⟩ => by
    subst e
    rw [List.length_cons, List.length_cons, fld_len b]
end
end DM
set_option Elab.async false
set_option linter.all false
set_option maxRecDepth 100000
set_option maxHeartbeats 4000000
/-! S9: targets, what is walked, comprehensions. -/
namespace DM
open PySem L2 PyProof.Rows PySem.Spec
def Same (own : List Nat) (σ σ' : L2.St) : Prop := σ'.length = σ.length ∧ ∀ j, j ∉ own → σ'[j]? = σ[j]?
theorem Same.refl {own : List Nat} {σ : L2.St} : Same own σ σ := ⟨rfl, fun _ _ => rfl⟩
theorem Same.trans {o1 o2 : List Nat} {σ σ1 σ2 : L2.St} (a : Same o1 σ σ1) (b : Same o2 σ1 σ2) : Same (o1 ++ o2) σ σ2 := ⟨b.1.trans a.1, fun j hj => by
  rw [List.mem_append, not_or] at hj
  exact (b.2 j hj.2).trans (a.2 j hj.1)⟩
def rdG (Y : Ctx) (W : Wish) (m : MV → En → MH → R En) (own : List Nat) : TG := fun v σ H Q => ∃ f ms h a, Rl Y.K Y.Z f h H ∧ SR Y.K f h.size H ms σ ∧ VR Y.K f h.size H a v ∧
  G Y W σ f h H (m a ms h) fun ms' f' h' H' => ∀ σ', SR Y.K f' h'.size H' ms' σ' → Same own σ σ' → Q σ' H'
def NoW : Wish := fun _ _ _ _ => False
def rdGs (Y : Ctx) (m : List MV → En → MH → R En) (own : List Nat) : TGs := fun vs σ H Q => ∃ f ms h l, Rl Y.K Y.Z f h H ∧ SR Y.K f h.size H ms σ ∧ VRs Y.K f h.size H l vs ∧
  G Y NoW σ f h H (m l ms h) fun ms' f' h' H' => ∀ σ', SR Y.K f' h'.size H' ms' σ' → Same own σ σ' → Q σ' H'
theorem _root_.L2.PG.conv {X : Cx} {e : Expr} {t t' : TG} (p : PG X e t) (k : ∀ v σ H Q, t' v σ H Q → t v σ H Q) : PG X e t' := ⟨fun pins s σ H v u Q I r q => p.run pins s σ H v u Q I r (k v σ H Q q)⟩
theorem _root_.L2.PGs.conv {X : Cx} {e : List Expr} {t t' : TGs} (p : PGs X e t) (k : ∀ v σ H Q, t' v σ H Q → t v σ H Q) : PGs X e t' := ⟨fun pins s σ H v u Q I r q => p.run pins s σ H v u Q I r (k v σ H Q q)⟩
section
variable {T : Tab} {Y : Ctx} {W : Wish} {C : Nat → List MV → MH → R MV} {CX : CXT} {lv : Nat} {inB : Bool} {N : List Str} {sc : Scope} {X : Cx}
variable {σ : L2.St} {H : Hp} {f f' : Nat → Addr} {h h' : MH} {ms : En}
variable {a b c e : Expr} {ma mb mc : En → MH → R MV} {p pos : Pos} {es : List Expr} {me mk : En → MH → R (List MV)}

theorem g_nm (g : Good T Y W C CX lv inB N sc X) {i : Nat} {x : Str} (e1 : nmB N i x = true) (e2 : locB inB sc x = true) : PG X (.Name x p) (rdG Y W (setM i) [i]) := by
  unfold nmB at e1
  simp only [Bool.and_eq_true, decide_eq_true_eq, Bool.not_eq_true'] at e1
  obtain ⟨l1, l2⟩ := g.loc e2
  refine (pg_name (i := i) (by rw [g.eN]; exact g.nd) (by rw [g.eN]; exact e1.1.1) l1 l2).conv fun v σ H Q q => ?_
  obtain ⟨f, ms, h, a, r, sr, rv, q⟩ := q
  refine G.ok r q _ (sr.set rv i) ⟨by rw [List.length_set], fun j hj => ?_⟩
  exact List.getElem?_set_ne fun z => hj (by rw [z]; exact List.mem_singleton_self _)
theorem gs_nil : PGs X [] (rdGs Y (fun l σ h => match l with
    | [] => .ok σ h
    | _ => .stk) []) := by
  refine pgs_nil.conv fun v σ H Q q => ?_
  obtain ⟨f, ms, h, l, r, sr, rv, q⟩ := q
  cases l with
  | nil => exact ⟨rv.nil_inv, G.ok r q _ sr .refl⟩
  | cons x xs => exact q.elim
theorem asg_cons {e : Expr} {es : List Expr} {env : Env} (h : isStar e = false) : (assignEach (e :: es) env).map (·.2) = assign e env :: (assignEach es env).map (·.2) := by
  cases e <;> first | rfl | cases h
theorem gs_cons {m1 : MV → En → MH → R En} {m2 : List MV → En → MH → R En} {o1 o2 : List Nat} (h1 : PG X e (rdG Y W m1 o1)) (h2 : PGs X es (rdGs Y m2 o2)) (hs : isStar e = false) : PGs X (e :: es) (rdGs Y (fun l σ h => match l with
    | [] => .stk
    | v :: vs => (m1 v σ h).bind fun σ1 h1 => m2 vs σ1 h1) (o1 ++ o2)) := by
  refine (pgs_cons h1 h2 (asg_cons hs)).conv fun v σ H Q q => ?_
  obtain ⟨f, ms, h, l, r, sr, rv, q⟩ := q
  cases l with
  | nil => exact q.elim
  | cons x xs =>
    obtain ⟨y, ys, rfl, r1, r2⟩ := rv.cons_inv
    refine ⟨y, ys, rfl, f, ms, h, x, r, sr, r1, G.wish (q.bind.mono fun ms1 h1 f1 H1 eq x1 rl1 g1 σ1 sr1 sm1 => ?_) fun c d H' z => z.elim⟩
    exact ⟨f1, ms1, h1, xs, rl1, sr1, r.vrs x1 r2, (g1.mono fun ms2 h2 f2 H2 eq2 x2 rl2 g2 σ2 sr2 sm2 => g2 σ2 sr2 (sm1.trans sm2)).wish fun c d H' z => z.elim⟩
theorem asg_len {env : Env} : ∀ {es : List Expr}, (assignEach es env).length = es.length
  | [] => rfl
  | e :: es => by
    have := asg_len (env := env) (es := es)
    cases e <;> exact congrArg Nat.succ this
theorem asg_none {env : Env} : ∀ {es : List Expr}, noStars es = true → (assignEach es env).findIdx? (·.1) = none
  | [], _ => rfl
  | e :: es, h => by
    obtain ⟨a, b⟩ := hd_star h
    have ih := asg_none (env := env) b
    have e1 : assignEach (e :: es) env = (false, assign e env) :: assignEach es env := by cases e <;> first | rfl | cases a
    rw [e1, List.findIdx?_cons, ih]
    rfl
theorem g_tup (g : Good T Y W C CX lv inB N sc X) {m : List MV → En → MH → R En} {own : List Nat} {k : Nat} (h1 : PGs X es (rdGs Y m own)) (hs : noStars es = true) (hl : ∀ l ms h σ' h', m l ms h = .ok σ' h' → l.length = es.length) :
    PG X (.Tuple es k p) (rdG Y W (fun v σ h => match v with
      | .tup vs => (m vs σ h).noEx
      | _ => .stk) own) := by
  refine (pg_tup g.calm h1 asg_len (asg_none hs)).conv fun v σ H Q q => ?_
  obtain ⟨f, ms, h, a, r, sr, rv, q⟩ := q
  cases a with
  | tup vs =>
    obtain ⟨p, xs, rfl, sq, t⟩ := rv.tup_inv
    refine ⟨p, xs, rfl, g.K ▸ sq, ?_, f, ms, h, vs, r, sr, t, ?_⟩
    · rw [← t.length]
      have q : G Y W σ f h H (m vs ms h).noEx _ := q
      cases hm : m vs ms h with
      | ok a h1 => exact hl vs ms h a h1 hm
      | ex c l h1 => rw [hm] at q; exact q.elim
      | stk => rw [hm] at q; exact q.elim
    · have q : G Y W σ f h H (m vs ms h).noEx _ := q
      cases hm : m vs ms h with
      | ok a h1 => rw [hm] at q; exact q
      | ex c l h1 => rw [hm] at q; exact q.elim
      | stk => rw [hm] at q; exact q.elim
  | _ => exact q.elim

/-! ### o[i] = v -/
def rSI (Y : Ctx) : TSet := fun o i v H Q => ∃ f h a b c, Rl Y.K Y.Z f h H ∧ VR Y.K f h.size H a o ∧ VR Y.K f h.size H b i ∧ VR Y.K f h.size H c v ∧ GP Y f h H (setI a b c h) fun _ _ _ H' => Q H'
theorem set_setI (hu : X.A.units + 65 < cLine) : PSet X (rSI Y) := by
  intro pins s σ H o i v ov iv u Q I ro ri rv ⟨f, h, a, b, c, r, ra, rb, rc, g⟩
  unfold setI at g
  split at g
  · rename_i n
    obtain ⟨hn, rfl⟩ := ra.ref_inv
    split at g
    · rename_i l en
      obtain ⟨vs, e1, t⟩ := r.ob _ _ en
      split at g
      · rename_i k
        cases rb.int_inv
        split at g
        · rename_i j ej
          refine set_list pins s σ H _ _ _ ov iv u Q I ro ri rv ⟨f n, vs, k, j, rfl, rfl, e1, by rw [← ixN_eq, ← t.length]; exact ej, ?_⟩
          have hv := (r.vrs (Ext.put (u := .lst (vs.set j v)) hn (r.nofz en rfl)) t).set (r.vr (Ext.put (u := .lst (vs.set j v)) hn (r.nofz en rfl)) rc) j
          obtain ⟨ex', rl'⟩ := r.put (o' := .lst (l.set j c)) (u := .lst (vs.set j v)) en (fun _ q => by cases q) ⟨_, upd_same, hv⟩
          exact g.app ex' rl'
        · exact g.elim
      · exact g.elim
    · rename_i t l en
      obtain ⟨rfl, kvs, e1, e2⟩ := r.ob _ _ en
      have e1 : H (f n) = some (.dK kvs) := e1
      split at g
      · rename_i hk
        obtain ⟨y, c1, rfl⟩ := KR.kOk hk.1 rb
        have ex0 := Ext.put (f := f) (H := H) (u := .dK (L2.putK kvs y v)) hn (r.nofz en rfl)
        obtain ⟨ex', rl'⟩ := r.put (o' := .dct false false (DM.putK b c l)) (u := .dK (L2.putK kvs y v)) en (fun _ q => by cases q) ⟨rfl, _, upd_same, DKr.mono (Nat.le_refl _) (fun _ _ => rfl) (r.text ex0) _ _ (e2.put c1 rc)⟩
        exact set_dict (by omega) pins s σ H _ _ _ ov iv u Q I ro ri rv ⟨f n, _, rfl, DPut.k e1 (by rw [← e2.len, ← LIM_eq]; exact hk.2), g.app ex' rl'⟩
      · exact g.elim
    · exact g.elim
  · exact g.elim
/-! ### o.f = v -/
theorem g_att (g : Good T Y W C CX lv inB N sc X) {i : Nat} {x : Str} (e1 : x = T.fnm i) (ha : PE X a (rdE Y W ma)) :
    PG X (.Attribute a x p) (rdG Y W (fun v σ h => (ma σ h).bind fun o h1 => (setA T.P o i v h1).bind fun _ h2 => .ok σ h2) []) := by
  subst e1
  refine ⟨fun pins s σ H v u Q I ru q => ?_⟩
  obtain ⟨f, ms, h, w, r, sr, rv, q⟩ := q
  rw [arm_assign_Attribute]
  refine wpAny_bind (wpAny_holding (thn (ha.run pins s σ H (fun o H1 => ∃ f1 h1 m, Ext f h.size H f1 h1.size H1 ∧ Rl Y.K Y.Z f1 h1 H1 ∧ VR Y.K f1 h1.size H1 m o ∧ G Y W σ f1 h1 H1 ((setA T.P m i w h1).bind fun _ h2 => .ok ms h2) fun ms' f' h' H' => ∀ σ', SR Y.K f' h'.size H' ms' σ' → Same [] σ σ' → Q σ' H') I
    ⟨f, ms, h, r, sr, q.bind.mono fun m h1 f1 H1 _ x1 r1 g1 o ro => ⟨f1, h1, m, x1, r1, ro, g1⟩⟩) fun ov s1 ⟨o, H1, I1, rov, f1, h1, m, x1, r1, ro, g1⟩ => ?_))
  replace g1 := g1.bind
  unfold setA at g1
  split at g1
  · rename_i n
    obtain ⟨hn, rfl⟩ := ro.ref_inv
    obtain rfl : ov = Value.ref (f1 n) := rov
    split at g1
    · rename_i c fs en
      split at g1
      · rename_i hat
        obtain ⟨dx, gs, e2, fr, kn⟩ := r1.ob _ _ en
        obtain ⟨c1, c2, c3⟩ := g.fc.at_ c i hat.2
        have inj : ∀ f g, Y.Z.kn f = true → Y.Z.kn g = true → Y.Z.fnm f = Y.Z.fnm g → f = g := by rw [g.fc.Z]; exact g.fc.kn
        have ex0 := Ext.put (f := f1) (H := H1) (u := .ins (Y.Z.ca c) dx (L2.putF (Y.Z.fnm i) v gs)) hn (r1.nofz en rfl)
        obtain ⟨p1, p2, p3⟩ := putFld_put (K := Y.K) (f := f1) (N := h1.size) (H := upd H1 (f1 n) (.ins (Y.Z.ca c) dx (L2.putF (Y.Z.fnm i) v gs))) inj c3 (r1.vr ex0 (r.vr x1 rv)) (FRs.mono (Nat.le_refl _) (fun _ _ => rfl) (r1.text ex0) _ _ fr) kn
        obtain ⟨ex', rl'⟩ := r1.put (o' := .ins c (putFld i w fs)) (u := .ins (Y.Z.ca c) dx (L2.putF (Y.Z.fnm i) v gs)) en (fun _ q => by cases q) ⟨dx, _, upd_same, p1, p2⟩
        have g2 := G.ok rl' (g1 _ _ ex' rl')
        refine wpAny_bind (wpAny_standAt (wpAny_bind (wpAny_holding (setattr_ok I1 e2 (g.K ▸ c1) (g.K ▸ c2) (by rw [p3]; exact hat.1) ru fun s3 I3 => wpAny_release ⟨σ, upd H1 (f1 n) (.ins (Y.Z.ca c) dx (L2.putF (Y.Z.fnm i) v gs)), ?_, ?_⟩))))
        · rw [g.fc.Z]
          exact I3
        · exact g2 σ (r1.sr ex' (r.sr x1 sr)) .refl
      · exact g1.elim
    · exact g1.elim
  · exact g1.elim
theorem g_sub (g : Good T Y W C CX lv inB N sc X) (ha : PE X a (rdE Y W ma)) (hb : PE X b (rdE Y W mb)) (hs : isSlice b = false) :
    PG X (.Subscript a b p) (rdG Y W (fun v σ h => (ma σ h).bind fun x h1 => (mb σ h1).bind fun y h2 => (setI x y v h2).bind fun _ h3 => .ok σ h3) []) := by
  refine (pg_sub ha hb (set_setI (Y := Y) g.un) ?_).conv fun v σ H Q q => ?_
  · intro v
    cases b <;> first | rfl | skip
    rename_i l u st pp
    cases st
    · cases hs
    · rfl
  obtain ⟨f, ms, h, w, r, sr, rv, q⟩ := q
  refine ⟨f, ms, h, r, sr, q.bind.mono fun x h1 f1 H1 _ x1 r1 g1 o ro => ?_⟩
  have sr1 := r.sr x1 sr
  refine ⟨f1, ms, h1, r1, sr1, g1.bind.mono fun y h2 f2 H2 _ x2 r2 g2 i ri => ?_⟩
  have sr2 := r1.sr x2 sr1
  refine ⟨f2, h2, x, y, w, r2, r1.vr x2 ro, ri, r2.vr (.refl _ _ _) (r1.vr x2 (r.vr x1 rv)), W, σ, g2.bind.mono fun _ h3 f3 H3 _ x3 r3 g3 => ?_⟩
  exact G.ok r3 g3 σ (r2.sr x3 sr2) .refl

/-! ### what is walked -/
/-- from a state on, whatever is laid: the turns yield what stands for these items; an item may be laid anew -/
def Walk (Y : Ctx) (J : L2.It) (l : List MV) (f : Nat → Addr) (h : MH) (H : Hp) : Prop := ∀ f' h' H', Ext f h.size H f' h'.size H' → Rl Y.K Y.Z f' h' H' → ∀ i, (l.length ≤ i → J.stop i H') ∧
  ∀ m, l[i]? = some m → J.go i H' ∧ ∀ x H2, J.yld i H' x H2 → Ext f' h'.size H' f' h'.size H2 ∧ Rl Y.K Y.Z f' h' H2 ∧ VR Y.K f' h'.size H2 m x
def JR (Y : Ctx) (f : Nat → Addr) (h : MH) (H : Hp) (t : DM.It) (J : L2.It) : Prop := match t with
  | .live n => n < h.size ∧ J = Itl Y.K (f n)
  | .items l => Walk Y J l f h H
  | .zip a b => ∃ p q, J = Itz Y.K p q ∧ VR Y.K f h.size H a (.ref p) ∧ VR Y.K f h.size H b (.ref q)
  | .enum a => ∃ p, J = Ite Y.K p ∧ VR Y.K f h.size H a (.ref p)
theorem Rl.laidT (r : Rl Y.K Y.Z f h H) {T : Addr} {l : List MV} {vs : List V} (hT : H T = none) (t : VRs Y.K f h.size H l vs) : Ext f h.size H f h.size (upd H T (.tup vs)) ∧ Rl Y.K Y.Z f h (upd H T (.tup vs)) ∧ VR Y.K f h.size (upd H T (.tup vs)) (.tup l) (.ref T) := by
  have e : Ext f h.size H f h.size (upd H T (.tup vs)) := Ext.aside hT
  exact ⟨e, r.aside hT, .tup (SqT.of upd_same) (r.vrs e t)⟩
theorem JR.step {t : DM.It} {J : L2.It} {i : Nat} {o : Option MV} {H0 : Hp} {f0 : Nat → Addr} {h0 : MH} (r0 : Rl Y.K Y.Z f0 h0 H0) (j : JR Y f0 h0 H0 t J) (x : Ext f0 h0.size H0 f h.size H) (r : Rl Y.K Y.Z f h H) (e : t.at h i = some o) :
    match o with
      | none => J.stop i H
      | some v => J.go i H ∧ ∀ y H', J.yld i H y H' → Ext f h.size H f h.size H' ∧ Rl Y.K Y.Z f h H' ∧ VR Y.K f h.size H' v y := by
  cases t with
  | live n =>
    obtain ⟨hn, rfl⟩ := j
    have hn' : n < h.size := Nat.lt_of_lt_of_le hn x.sz
    unfold It.at at e
    simp only at e
    cases e1 : listOf h (.ref n) with
    | none => rw [e1] at e; cases e
    | some l =>
      rw [e1] at e
      obtain ⟨p, vs, ep, sq, t⟩ := listOf_sq r (.ref hn') e1
      cases ep
      rw [x.ag n hn] at sq
      have e2 : l[i]? = o := Option.some.inj e
      cases o with
      | none =>
        have : l.length ≤ i := List.getElem?_eq_none_iff.mp e2
        exact ⟨vs, sq, by rw [← t.length]; exact this⟩
      | some v =>
        obtain ⟨y, e3, rv⟩ := t.get e2
        refine ⟨⟨vs, y, sq, e3⟩, fun z H' q => ?_⟩
        obtain ⟨rfl, q2⟩ := q
        have := q2 vs sq
        rw [e3] at this
        cases this
        exact ⟨.refl _ _ _, r, rv⟩
  | items l =>
    have e2 : l[i]? = o := Option.some.inj e
    obtain ⟨w1, w2⟩ := j f h H x r i
    cases o with
    | none =>
      have : l.length ≤ i := List.getElem?_eq_none_iff.mp e2
      exact w1 this
    | some v => exact w2 v e2
  | zip a b =>
    obtain ⟨p, q, rfl, ra, rb⟩ := j
    have ra := r0.vr x ra
    have rb := r0.vr x rb
    unfold It.at at e
    simp only at e
    split at e
    · rename_i l m el em
      obtain ⟨p', xs, ep, sx, tx⟩ := listOf_sq r ra el
      cases ep
      obtain ⟨q', ys, eq, sy, ty⟩ := listOf_sq r rb em
      cases eq
      have e2 : pairAt i l m = o := Option.some.inj e
      unfold pairAt at e2
      split at e2
      · rename_i u w eu ew
        subst e2
        obtain ⟨z1, f1, g1⟩ := tx.get eu
        obtain ⟨z2, f2, g2⟩ := ty.get ew
        refine ⟨⟨xs, ys, z1, z2, sx, sy, f1, f2⟩, ?_⟩
        rintro y H' ⟨T, x1, x2, rfl, hT, rfl, h1, h2⟩
        have := h1 xs sx
        rw [f1] at this
        cases this
        have := h2 ys sy
        rw [f2] at this
        cases this
        exact r.laidT hT (.cons g1 (.cons g2 .nil))
      · rename_i hn
        subst e2
        refine ⟨xs, ys, sx, sy, ?_⟩
        cases eu : l[i]? with
        | none => exact .inl (by rw [← tx.length]; exact List.getElem?_eq_none_iff.mp eu)
        | some u =>
          cases ew : m[i]? with
          | none => exact .inr (by rw [← ty.length]; exact List.getElem?_eq_none_iff.mp ew)
          | some w => exact (hn u w eu ew).elim
    · cases e
  | enum a =>
    obtain ⟨p, rfl, ra⟩ := j
    have ra := r0.vr x ra
    unfold It.at at e
    simp only at e
    obtain ⟨l, el, e2⟩ := Option.map_eq_some_iff.mp e
    obtain ⟨p', xs, ep, sx, tx⟩ := listOf_sq r ra el
    cases ep
    cases eu : l[i]? with
    | none =>
      rw [eu] at e2
      subst e2
      exact ⟨xs, sx, by rw [← tx.length]; exact List.getElem?_eq_none_iff.mp eu⟩
    | some u =>
      rw [eu] at e2
      subst e2
      obtain ⟨z1, f1, g1⟩ := tx.get eu
      refine ⟨⟨xs, z1, sx, f1⟩, ?_⟩
      rintro y H' ⟨T, x1, rfl, hT, rfl, h1⟩
      have := h1 xs sx
      rw [f1] at this
      cases this
      exact r.laidT hT (.cons .int (.cons g1 .nil))
def rdI (Y : Ctx) (W : Wish) (m : En → MH → R DM.It) : TI := fun σ H R => ∃ f ms h, Rl Y.K Y.Z f h H ∧ SR Y.K f h.size H ms σ ∧ G Y W σ f h H (m ms h) fun t f' h' H' => ∀ J, JR Y f' h' H' t J → R J H'
theorem _root_.L2.PI.conv {X : Cx} {tg e : Expr} {t t' : TI} (p : PI X tg e t) (k : ∀ σ H R, t' σ H R → t σ H R) : PI X tg e t' := ⟨fun pins s σ H R I q => p.run pins s σ H R I (k σ H R q)⟩
theorem _root_.L2.PI.or {X : Cx} {tg e : Expr} {t t' : TI} (p : PI X tg e t) (q : PI X tg e t') : PI X tg e fun σ H R => t σ H R ∨ t' σ H R := ⟨fun pins s σ H R I z => by
  rcases z with z | z
  · exact p.run pins s σ H R I z
  · exact q.run pins s σ H R I z⟩
/-- items that stand as they stand -/
theorem walk_of {J : L2.It} {l : List MV} {vs : List V} (r : Rl Y.K Y.Z f h H) (t : VRs Y.K f h.size H l vs) (w : ∀ H', Fx Y.K H H' → ∀ i, (i < vs.length → J.go i H') ∧ (vs.length ≤ i → J.stop i H') ∧ ∀ x H2, i < vs.length → J.yld i H' x H2 → H2 = H' ∧ vs[i]? = some x) : Walk Y J l f h H := by
  intro f' h' H' x r' i
  have t' := r.vrs x t
  obtain ⟨w1, w2, w3⟩ := w H' (r.text x) i
  refine ⟨fun hl => w2 (by rw [← t.length]; exact hl), fun m em => ?_⟩
  have hi : i < vs.length := by rw [← t.length]; exact (List.getElem?_eq_some_iff.mp em).1
  refine ⟨w1 hi, fun y H2 q => ?_⟩
  obtain ⟨rfl, q2⟩ := w3 y H2 hi q
  obtain ⟨z, e3, rv⟩ := t'.get em
  rw [e3] at q2
  cases q2
  exact ⟨.refl _ _ _, r', rv⟩
theorem walk_l {K : KW} {a : Addr} {vs : List V} (s : KLs K H a vs) : ∀ H', Fx K H H' → ∀ i, (i < vs.length → (Itl K a).go i H') ∧ (vs.length ≤ i → (Itl K a).stop i H') ∧ ∀ x H2, i < vs.length → (Itl K a).yld i H' x H2 → H2 = H' ∧ vs[i]? = some x := by
  intro H' fx i
  have s' := (fx.l a vs s).sq
  refine ⟨fun hi => ⟨vs, vs[i], s', List.getElem?_eq_getElem hi⟩, fun hi => ⟨vs, s', hi⟩, fun x H2 hi q => ⟨q.1, q.2 vs s'⟩⟩
theorem walk_t {K : KW} {a : Addr} {vs : List V} (s : SqT K H a vs) : ∀ H', Fx K H H' → ∀ i, (i < vs.length → (Itt K a).go i H') ∧ (vs.length ≤ i → (Itt K a).stop i H') ∧ ∀ x H2, i < vs.length → (Itt K a).yld i H' x H2 → H2 = H' ∧ vs[i]? = some x := by
  intro H' fx i
  have s' := fx.t a vs s
  refine ⟨fun hi => ⟨vs, vs[i], s', List.getElem?_eq_getElem hi⟩, fun hi => ⟨vs, s', hi⟩, fun x H2 hi q => ⟨q.1, q.2 vs s'⟩⟩
theorem relV_str {y : V} {x : Str} {t : Tok} (r : RelV y (Value.str x t)) : y = .str x := by
  cases y <;> first | (obtain ⟨u, e⟩ := r; cases e; done) | (cases r; done) | skip
  obtain ⟨u, e⟩ := r
  cases e
  rfl
theorem kd_len {K : KW} {N : Nat} : ∀ {l : List (MV × MV)} {es : List DictEntry}, KDr K f N H l es → l.length = es.length
  | [], es, e => by unfold KDr at e; rw [e]; rfl
  | (k, m) :: r, es, e => by
    unfold KDr at e
    obtain ⟨_, es', _, _, _, rfl, _, _, _, _, _, h7⟩ := e
    rw [List.length_cons, List.length_cons, kd_len h7]
theorem kd_get {K : KW} {N : Nat} : ∀ {l : List (MV × MV)} {es : List DictEntry} {i : Nat} {p : MV × MV} {en : DictEntry}, KDr K f N H l es → l[i]? = some p → es[i]? = some en → ∃ s t, p.1 = .str s ∧ en.key = .str ⟨s.toArray⟩ t ∧ TxOk s
  | [], es, i, p, en, e, e1, e2 => by simp at e1
  | (k, m) :: r, es, 0, p, en, e, e1, e2 => by
    unfold KDr at e
    obtain ⟨e0, es', s, t, _, rfl, h2, h3, h4, _, _, h7⟩ := e
    cases e1
    cases e2
    exact ⟨s, t, h2, h3, h4⟩
  | (k, m) :: r, es, i + 1, p, en, e, e1, e2 => by
    unfold KDr at e
    obtain ⟨e0, es', s, t, _, rfl, h2, h3, h4, _, _, h7⟩ := e
    exact kd_get (i := i) h7 e1 e2
/-- a written dict by its keys -/
def ItK (es : Array DictEntry) : L2.It := ⟨fun i _ => i < es.size, fun i H x H' => H' = H ∧ ∃ en, es[i]? = some en ∧ RelV x en.key, fun i _ => es.size ≤ i⟩
theorem turn_kd {P : Program} {w : World} {K : PySem.W.Frag} {tg : Expr} {d : Addr} {es : Array DictEntry} {n : Nat} (D : KDict K w d es n) (it : Addr) : Turn P w K tg (ItK es) [it] it (fun i h => h.IsKeyIter it d i es.size n) where
  mem := by simp
  obj := fun i h st b hb => by
    have e : b = it := by simpa using hb
    subst e
    obtain ⟨oi, e, c, dd⟩ := st
    exact ⟨oi, e, fun v z => by rw [dd] at z; cases z⟩
  keep := fun i h h' st k => st.at fun oi e => k it (by simp) oi e
  item := by
    intro X hP hw hK hc i pins s σ H E I hf st hg
    subst hP hw hK
    obtain ⟨f0, f1, f2, f3, f4, f5⟩ := hf it (by simp)
    obtain ⟨en, hen⟩ : ∃ en, es[i]? = some en := ⟨es[i], Array.getElem?_eq_getElem hg⟩
    have ho := I.kIn _ _ D.at_
    refine next_key_item st ho rfl rfl hen fun h' st' sb => ?_
    have I1 : Inv X pins σ H { s with heap := h' } := I.turned (t' := s.toks) (fun b ob hb e => (sb.2 b hb).trans e) f0 f1 f3 f4 f5
    obtain ⟨oi, e, c, dd⟩ := id st'
    have hk : ∃ x t, en.key = .str x t := by
      have hm : en ∈ es.toList := List.mem_of_getElem? (by rw [Array.getElem?_toList]; exact hen)
      obtain ⟨x, t, e1, _⟩ := PySem.W.KeysLit.all D.lit en hm
      exact ⟨x, t, e1⟩
    obtain ⟨x, t, ek⟩ := hk
    exact ⟨en.key, rfl, go_of (s := { s with heap := h' }) e c dd (by decide) ⟨.str x, H, I1, by rw [ek]; exact ⟨t, rfl⟩, ⟨rfl, en, hen, by rw [ek]; exact ⟨t, rfl⟩⟩, st', fun b hb => (hf b hb).1⟩⟩
  done := by
    intro X hP hw hK hc i pins s σ H E I hf st hg
    subst hP hw hK
    obtain ⟨f0, f1, f2, f3, f4, f5⟩ := hf it (by simp)
    have ho := I.kIn _ _ D.at_
    exact next_key_end (I.ok.hd hc) st ho rfl rfl hg fun h' eb => ⟨rfl, I.turned (t' := s.toks) (fun b ob hb e => eb b ob hb e) f0 f1 f3 f4 f5⟩
  self := fun A i s Q E st h => by
    refine wpAny_pyIter_slot st.typeIs F.slot_dict_keyiterator_iter (wpAny_call_entry F.slot_dict_keyiterator_iter st.typeIs F.entry_dict_keyiterator_iter ?_ (F.args_dict_keyiterator_iter_1 _))
    show wpAny _ _ (ret (.ref it)) _ _ s
    exact wpAny_pure ⟨_, rfl, "dict_keyiterator", _, st.typeIs, F.slot_dict_keyiterator_next.lookup, h⟩
def iKd (K : PySem.W.Frag) (w : World) (td : TE) : TI := fun σ H R => td σ H fun x H1 => ∃ d es n, x = .ref d ∧ KDict K w d es n ∧ R (ItK es) H1
theorem pi_kd {tg : Expr} {td : TE} (he : PE X e td) : PI X tg e (iKd X.K X.w td) := by
  refine ⟨fun pins s σ H R I h => ?_⟩
  refine thn (he.run pins s σ H _ I h) fun u s1 ⟨x, H1, I1, rx, d, es, n, ex, D, q⟩ => ?_
  subst ex
  obtain rfl : u = Value.ref d := rx
  exact iter_keys D.low (I1.kIn _ _ D.at_) ⟨rfl, rfl, rfl⟩ rfl (pi_one (tk := s1.toks) I1 _ (turn_kd D _) ⟨_, Heap.get?_push_size _ rfl, rfl, rfl⟩ q)
theorem i_ex (g : Good T Y W C CX lv inB N sc X) {tg : Expr} (ha : PE X a (rdE Y W ma)) : PI X tg a (rdI Y W fun σ h => (ma σ h).bind fun x h1 => itM x h1) := by
  refine ((pi_list ha).or ((pi_tup ha).or ((pi_str ha).or (pi_kd ha)))).conv fun σ H R q => ?_
  obtain ⟨f, ms, h, r, sr, q⟩ := q
  have q1 := q.bind
  cases hm : ma ms h with
  | stk => rw [hm] at q1; exact q1.elim
  | ex c l h1 =>
    rw [hm] at q1
    refine .inl ⟨f, ms, h, r, sr, ?_⟩
    rw [hm]
    exact q1
  | ok v h1 =>
    rw [hm] at q1
    have up : ∀ {Q : VK}, (∀ f1 H1, Ext f h.size H f1 h1.size H1 → Rl Y.K Y.Z f1 h1 H1 → G Y W σ f1 h1 H1 (itM v h1) (fun t f' h' H' => ∀ J, JR Y f' h' H' t J → R J H') → ∀ x, VR Y.K f1 h1.size H1 v x → Q x H1) → rdE Y W ma σ H Q := by
      intro Q k
      refine ⟨f, ms, h, r, sr, ?_⟩
      rw [hm]
      exact fun f1 H1 x1 r1 => k f1 H1 x1 r1 (q1 f1 H1 x1 r1)
    cases v with
    | ref n =>
      refine .inl (up fun f1 H1 x1 r1 g1 x rx => ?_)
      unfold itM itOf at g1
      simp only at g1
      cases e1 : listOf h1 (.ref n) with
      | none => rw [e1] at g1; exact g1.elim
      | some l =>
        rw [e1] at g1
        obtain ⟨p, vs, rfl, sq, t⟩ := listOf_sq r1 rx e1
        obtain ⟨hn, e2⟩ := rx.ref_inv
        cases e2
        exact ⟨_, rfl, ⟨vs, g.K ▸ sq⟩, g.K ▸ G.ok r1 g1 _ ⟨hn, rfl⟩⟩
    | kl l =>
      refine .inl (up fun f1 H1 x1 r1 g1 x rx => ?_)
      obtain ⟨p, vs, rfl, sq, t⟩ := rx.kl_inv
      exact ⟨_, rfl, ⟨vs, g.K ▸ sq.sq⟩, g.K ▸ G.ok r1 g1 _ (walk_of r1 t (walk_l sq))⟩
    | tup l =>
      refine .inr (.inl (up fun f1 H1 x1 r1 g1 x rx => ?_))
      obtain ⟨p, vs, rfl, sq, t⟩ := rx.tup_inv
      exact ⟨_, rfl, ⟨vs, g.K ▸ sq⟩, g.K ▸ G.ok r1 g1 _ (walk_of r1 t (walk_t sq))⟩
    | kd l =>
      refine .inr (.inr (.inr (up fun f1 H1 x1 r1 g1 x rx => ?_)))
      unfold VR at rx
      obtain ⟨d, es, n, rfl, D, kd⟩ := rx
      refine ⟨d, es, n, rfl, by rw [g.K, g.Wo]; exact D, G.ok r1 g1 _ ?_⟩
      intro f' h' H' x' r' i
      have hl : l.length = es.size := by
        have := kd_len kd
        rw [this, Array.length_toList]
      rw [List.length_map]
      refine ⟨fun hi => by show es.size ≤ i; omega, fun m em => ?_⟩
      rw [List.getElem?_map] at em
      obtain ⟨pr, e1, e2⟩ := Option.map_eq_some_iff.mp em
      have hi : i < l.length := (List.getElem?_eq_some_iff.mp e1).1
      refine ⟨by show i < es.size; omega, ?_⟩
      rintro y H2 ⟨rfl, en, e3, ry⟩
      obtain ⟨s, t, e4, e5, ts⟩ := kd_get kd e1 (by rw [Array.getElem?_toList]; exact e3)
      rw [← e2, e4]
      rw [e5] at ry
      obtain rfl : y = .str ⟨s.toArray⟩ := relV_str ry
      exact ⟨.refl _ _ _, r', .str ts⟩
    | str z =>
      refine .inr (.inr (.inl (up fun f1 H1 x1 r1 g1 x rx => ?_)))
      obtain ⟨rfl, t⟩ := rx.str_inv
      refine ⟨_, rfl, G.ok r1 g1 _ (walk_of r1 (VRs.signs t) fun H' fx i => ?_)⟩
      rw [List.length_map]
      have es : (⟨z.toArray⟩ : Str).cps.size = z.length := by simp
      refine ⟨fun hi => by show i < (⟨z.toArray⟩ : Str).cps.size; rw [es]; exact hi, fun hi => by show (⟨z.toArray⟩ : Str).cps.size ≤ i; rw [es]; exact hi, fun x H2 hi q => ⟨q.1, ?_⟩⟩
      obtain ⟨c, e1, rfl⟩ := q.2
      have e2 : z[i]? = some c := by simpa using e1
      rw [List.getElem?_map, e2]
      rfl
    | _ => exact .inl (up fun f1 H1 x1 r1 g1 x rx => g1.elim)
theorem walk_r {K : PySem.W.Frag} {lo : Int} {n : Nat} : ∀ H', Fx K H H' → ∀ i, (i < ((List.range n).map fun k : Nat => V.int (lo + k)).length → (Itr lo n).go i H') ∧ (((List.range n).map fun k : Nat => V.int (lo + k)).length ≤ i → (Itr lo n).stop i H') ∧
    ∀ x H2, i < ((List.range n).map fun k : Nat => V.int (lo + k)).length → (Itr lo n).yld i H' x H2 → H2 = H' ∧ ((List.range n).map fun k : Nat => V.int (lo + k))[i]? = some x := by
  intro H' fx i
  rw [List.length_map, List.length_range]
  refine ⟨fun hi => hi, fun hi => hi, fun x H2 hi q => ⟨q.1, ?_⟩⟩
  rw [List.getElem?_map, List.getElem?_range hi, q.2]
  rfl
theorem VRs.rng {K : KW} {f : Nat → Addr} {N : Nat} {H : Hp} (lo : Int) : ∀ l : List Nat, VRs K f N H (l.map fun k : Nat => MV.int (lo + k)) (l.map fun k : Nat => V.int (lo + k))
  | [] => .nil
  | _ :: r => .cons .int (VRs.rng lo r)
theorem oi_inv {x : MV} {i : Int} (e : oi x = some i) : x = .int i ∧ -4611686018427387904 ≤ i ∧ i < 4611686018427387904 := by
  cases x <;> first | cases e | skip
  rename_i j
  unfold oi at e
  simp only at e
  split at e
  · rename_i h
    cases e
    exact ⟨rfl, h⟩
  · cases e
theorem rngM_inv {x y : MV} {h : MH} {t : DM.It} {h' : MH} (e : rngM x y h = .ok t h') : ∃ m n : Int, x = .int m ∧ y = .int n ∧ (-(2 ^ 62) ≤ m ∧ m < 2 ^ 62 ∧ -(2 ^ 62) ≤ n ∧ n < 2 ^ 62) ∧ t = .items (rngL m n) ∧ h' = h := by
  unfold rngM at e
  split at e
  · rename_i m n e1 e2
    split at e
    · cases e
      obtain ⟨rfl, a1, a2⟩ := oi_inv e1
      obtain ⟨rfl, b1, b2⟩ := oi_inv e2
      exact ⟨_, _, rfl, rfl, by omega, rfl, rfl⟩
    · cases e
  · cases e
theorem rngM_noex {x y : MV} {h : MH} {c : Nat} {l : List MV} {h' : MH} (e : rngM x y h = .ex c l h') : False := by
  unfold rngM at e
  split at e
  · split at e <;> cases e
  · cases e
theorem jr_rng {m n : Int} {f : Nat → Addr} {h : MH} {H : Hp} (r : Rl Y.K Y.Z f h H) : JR Y f h H (.items (rngL m n)) (Itr m (n - m).toNat) := walk_of r (VRs.rng m (List.range (n - m).toNat)) walk_r
theorem i_rng (g : Good T Y W C CX lv inB N sc X) {tg : Expr} {x : Str} (e1 : x = "range") (e2 : glB sc x = true) (ha : PE X a (rdE Y W ma)) (hs : isStar a = false) : PI X tg (.Call (.Name x p) [a] [] pos) (rdI Y W fun σ h => (ma σ h).bind fun x h1 => rngM (.int 0) x h1) := by
  subst e1
  refine (pi_range1 (g.gl e2) (g.bt (by decide)) (pa_cons ha pa_nil (star_cons hs)) (star_cons hs)).conv fun σ H R q => ?_
  obtain ⟨f, ms, h, r, sr, q⟩ := q
  refine ⟨f, ms, h, r, sr, q.bind.mono fun v h1 f1 H1 _ x1 r1 g1 x rx => ?_⟩
  cases hm : rngM (.int 0) v h1 with
  | stk => rw [hm] at g1; exact g1.elim
  | ex c l h2 => exact (rngM_noex hm).elim
  | ok t h2 =>
    rw [hm] at g1
    obtain ⟨m, n, em, rfl, ⟨b1, b2, b3, b4⟩, rfl, rfl⟩ := rngM_inv hm
    cases em
    refine ⟨n, by rw [rx.int_inv], b3, b4, ?_⟩
    have e : n.toNat = (n - 0).toNat := by omega
    rw [e]
    exact G.ok r1 g1 _ (jr_rng r1)
theorem i_rng2 (g : Good T Y W C CX lv inB N sc X) {tg : Expr} {x : Str} (e1 : x = "range") (e2 : glB sc x = true) (ha : PE X a (rdE Y W ma)) (hs : isStar a = false) (hb : PE X b (rdE Y W mb)) (ht : isStar b = false) :
    PI X tg (.Call (.Name x p) [a, b] [] pos) (rdI Y W fun σ h => (ma σ h).bind fun x h1 => (mb σ h1).bind fun y h2 => rngM x y h2) := by
  subst e1
  have sb : starEach [b] X.env = [(false, eval b X.env)] := star_cons ht
  have sa : starEach [a, b] X.env = [(false, eval a X.env), (false, eval b X.env)] := by rw [star_cons hs, sb]
  refine (pi_range2 (g.gl e2) (g.bt (by decide)) (pa_cons ha (pa_cons hb pa_nil (star_cons ht)) (star_cons hs)) sa sb).conv fun σ H R q => ?_
  obtain ⟨f, ms, h, r, sr, q⟩ := q
  refine ⟨f, ms, h, r, sr, q.bind.mono fun v h1 f1 H1 _ x1 r1 g1 x rx => ?_⟩
  refine ⟨f1, ms, h1, r1, r.sr x1 sr, g1.bind.mono fun w h2 f2 H2 _ x2 r2 g2 y ry => ?_⟩
  cases hm : rngM v w h2 with
  | stk => rw [hm] at g2; exact g2.elim
  | ex c l h3 => exact (rngM_noex hm).elim
  | ok t h3 =>
    rw [hm] at g2
    obtain ⟨m, n, rfl, rfl, b, rfl, rfl⟩ := rngM_inv hm
    exact ⟨m, n, by rw [rx.int_inv, ry.int_inv], b, G.ok r2 g2 _ (jr_rng r2)⟩

theorem zipM_inv {x y : MV} {h : MH} {t : DM.It} {h' : MH} (e : zipM x y h = .ok t h') : h' = h ∧ ((∃ l m, x = .tup l ∧ y = .tup m ∧ t = .items (zipT l m)) ∨ ((∃ l, listOf h x = some l) ∧ (∃ l, listOf h y = some l) ∧ t = .zip x y)) := by
  unfold zipM at e
  split at e
  · cases e
    exact ⟨rfl, .inl ⟨_, _, rfl, rfl, rfl⟩⟩
  · split at e
    · rename_i l m e1 e2
      cases e
      exact ⟨rfl, .inr ⟨⟨_, e1⟩, ⟨_, e2⟩, rfl⟩⟩
    · cases e
theorem zipM_noex {x y : MV} {h : MH} {c : Nat} {l : List MV} {h' : MH} (e : zipM x y h = .ex c l h') : False := by
  unfold zipM at e
  split at e
  · cases e
  · split at e <;> cases e
theorem zipT_get : ∀ {l m : List MV} {i : Nat}, (zipT l m)[i]? = pairAt i l m
  | [], m, i => by unfold zipT pairAt; simp
  | x :: r, [], i => by unfold zipT pairAt; cases i <;> simp
  | x :: r, y :: t, 0 => rfl
  | x :: r, y :: t, i + 1 => by
    show (zipT r t)[i]? = _
    rw [zipT_get]
    rfl
theorem zipT_len : ∀ {l m : List MV}, (zipT l m).length = min l.length m.length
  | [], m => by unfold zipT; simp
  | x :: r, [] => by unfold zipT; simp
  | x :: r, y :: t => by
    show (zipT r t).length + 1 = _
    rw [zipT_len, List.length_cons, List.length_cons]
    omega
theorem isTup_ok {t : Expr} (h : isTup t = true) : ∃ a b c, t = .Tuple a b c := by
  cases t <;> first | exact ⟨_, _, _, rfl⟩ | cases h
theorem i_zip (g : Good T Y W C CX lv inB N sc X) {tg : Expr} {x : Str} (ht : isTup tg = true) (e1 : x = "zip") (e2 : glB sc x = true) (ha : PE X a (rdE Y W ma)) (hs : isStar a = false) (hb : PE X b (rdE Y W mb)) (hs2 : isStar b = false) :
    PI X tg (.Call (.Name x p) [a, b] [] pos) (rdI Y W fun σ h => (ma σ h).bind fun x h1 => (mb σ h1).bind fun y h2 => zipM x y h2) := by
  subst e1
  obtain ⟨t1, t2, t3, rfl⟩ := isTup_ok ht
  have sb : starEach [b] X.env = [(false, eval b X.env)] := star_cons hs2
  refine (RZ.pi_zipA (g.gl e2) (g.bt (by decide)) (pa_cons ha (pa_cons hb pa_nil (star_cons hs2)) (star_cons hs)) (star_cons hs) (by rw [sb]; rfl)).conv fun σ H R q => ?_
  obtain ⟨f, ms, h, r, sr, q⟩ := q
  refine ⟨f, ms, h, r, sr, q.bind.mono fun v h1 f1 H1 _ x1 r1 g1 x rx => ?_⟩
  refine ⟨f1, ms, h1, r1, r.sr x1 sr, g1.bind.mono fun w h2 f2 H2 _ x2 r2 g2 y ry => ?_⟩
  have rx := r1.vr x2 rx
  cases hm : zipM v w h2 with
  | stk => rw [hm] at g2; exact g2.elim
  | ex c l h3 => exact (zipM_noex hm).elim
  | ok t h3 =>
    rw [hm] at g2
    obtain ⟨rfl, hz⟩ := zipM_inv hm
    rcases hz with ⟨l, m, rfl, rfl, rfl⟩ | ⟨⟨l, el⟩, ⟨m, em⟩, rfl⟩
    · obtain ⟨pa, xs, rfl, sa, ta⟩ := rx.tup_inv
      obtain ⟨pb, ys, rfl, sb, tb⟩ := ry.tup_inv
      refine ⟨pa, pb, xs, ys, rfl, .inr ⟨g.K ▸ sa, g.K ▸ sb, G.ok r2 g2 _ ?_⟩⟩
      rw [g.K]
      intro f' h' H' x' r' i
      have sa' := (r2.text x').t _ _ sa
      have sb' := (r2.text x').t _ _ sb
      have ta' := r2.vrs x' ta
      have tb' := r2.vrs x' tb
      refine ⟨fun hl => ?_, fun mm em => ?_⟩
      · rw [zipT_len] at hl
        refine ⟨xs, ys, sa', sb', ?_⟩
        rw [← ta.length, ← tb.length]
        omega
      · rw [zipT_get] at em
        unfold pairAt at em
        split at em
        · rename_i u w eu ew
          cases em
          obtain ⟨z1, f1, g1⟩ := ta'.get eu
          obtain ⟨z2, f2, g2⟩ := tb'.get ew
          refine ⟨⟨xs, ys, z1, z2, sa', sb', f1, f2⟩, ?_⟩
          rintro y H' ⟨T, x1, x2, rfl, hT, rfl, h1, h2⟩
          have := h1 xs sa'
          rw [f1] at this
          cases this
          have := h2 ys sb'
          rw [f2] at this
          cases this
          exact r'.laidT hT (.cons g1 (.cons g2 .nil))
        · cases em
    · obtain ⟨pa, xs, rfl, sa, ta⟩ := listOf_sq r2 rx el
      obtain ⟨pb, ys, rfl, sb, tb⟩ := listOf_sq r2 ry em
      refine ⟨pa, pb, xs, ys, rfl, .inl ⟨g.K ▸ sa, g.K ▸ sb, G.ok r2 g2 _ ?_⟩⟩
      rw [g.K]
      exact ⟨pa, pb, rfl, rx, ry⟩
theorem i_enum (g : Good T Y W C CX lv inB N sc X) {tg : Expr} {x : Str} (ht : isTup tg = true) (e1 : x = "enumerate") (e2 : glB sc x = true) (ha : PE X a (rdE Y W ma)) (hs : isStar a = false) :
    PI X tg (.Call (.Name x p) [a] [] pos) (rdI Y W fun σ h => (ma σ h).bind fun x h1 => enumM x h1) := by
  subst e1
  obtain ⟨t1, t2, t3, rfl⟩ := isTup_ok ht
  refine (pi_enum (g.gl e2) (g.bt (by decide)) (pa_cons ha pa_nil (star_cons hs)) (star_cons hs)).conv fun σ H R q => ?_
  obtain ⟨f, ms, h, r, sr, q⟩ := q
  refine ⟨f, ms, h, r, sr, q.bind.mono fun v h1 f1 H1 _ x1 r1 g1 x rx => ?_⟩
  unfold enumM at g1
  split at g1
  · rename_i l el
    obtain ⟨pa, xs, rfl, sa, ta⟩ := listOf_sq r1 rx el
    refine ⟨pa, xs, rfl, g.K ▸ sa, G.ok r1 g1 _ ?_⟩
    rw [g.K]
    exact ⟨pa, rfl, rx⟩
  · exact g1.elim

/-! ### comprehensions -/
theorem Rl.fxD (r : Rl Y.K Y.Z f h H) {D : Addr} {vs : List V} {u : HO} (hD : H D = some (.lst vs)) : Fx Y.K H (upd H D u) := by
  refine ⟨?_, ?_⟩
  · rintro a xs ((q | ⟨o, q⟩) | q)
    · have : a ≠ D := fun z => by rw [z, hD] at q; cases q
      exact .inl (.inl (by rw [upd_ne this]; exact q))
    · have : a ≠ D := fun z => by rw [z, hD] at q; cases q
      exact .inl (.inr ⟨o, by rw [upd_ne this]; exact q⟩)
    · exact .inr q
  · rintro a xs (⟨o, q⟩ | q)
    · have : a ≠ D := fun z => by rw [z, hD] at q; cases q
      exact .inl ⟨o, by rw [upd_ne this]; exact q⟩
    · exact .inr q
theorem Rl.updD (r : Rl Y.K Y.Z f h H) {D : Addr} {vs : List V} {u : HO} (hD : H D = some (.lst vs)) (hn : ∀ n, n < h.size → f n ≠ D) : Rl Y.K Y.Z f h (upd H D u) :=
  ⟨fun n o q => (r.ob n o q).mono (Nat.le_refl _) (fun _ _ => rfl) (r.fxD (u := u) hD) (upd_ne (hn n (MH.get_lt q))), r.inj⟩
/-- the list gets its number -/
theorem Rl.name (r : Rl Y.K Y.Z f h H) {D : Addr} {l : List MV} {vs : List V} (hD : H D = some (.lst vs)) (hn : ∀ n, n < h.size → f n ≠ D) (t : VRs Y.K f h.size H l vs) : Rl Y.K Y.Z (nxt f h.size D) (h.push (.lst l)) H := by
  have up : ∀ {l : List MV} {vs : List V}, VRs Y.K f h.size H l vs → VRs Y.K (nxt f h.size D) (h.size + 1) H l vs := fun {l vs} t => VRs.mono (Nat.le_succ _) (fun n hn => nxt_lt hn) ⟨fun _ _ z => z, fun _ _ z => z⟩ _ _ t
  refine ⟨fun n x q => ?_, fun n m h1 h2 e => ?_⟩
  · have hn' : n < h.size + 1 := by rw [← MH.size_push h (.lst l)]; exact MH.get_lt q
    rw [MH.size_push]
    by_cases z : n = h.size
    · subst z
      rw [MH.get_push_size] at q
      cases q
      rw [nxt_at]
      exact ⟨vs, hD, up t⟩
    · have hn2 : n < h.size := by omega
      rw [MH.get_push_lt hn2] at q
      rw [nxt_lt hn2]
      exact (r.ob n x q).mono (Nat.le_succ _) (fun n hn => nxt_lt hn) ⟨fun _ _ z => z, fun _ _ z => z⟩ rfl
  · rw [MH.size_push] at h1 h2
    by_cases z1 : n = h.size
    · by_cases z2 : m = h.size
      · rw [z1, z2]
      · exfalso
        have hm : m < h.size := by omega
        rw [z1, nxt_at, nxt_lt hm] at e
        exact hn m hm e.symm
    · have hn2 : n < h.size := by omega
      by_cases z2 : m = h.size
      · exfalso
        rw [z2, nxt_at, nxt_lt hn2] at e
        exact hn n hn2 e
      · have hm : m < h.size := by omega
        rw [nxt_lt hn2, nxt_lt hm] at e
        exact r.inj n m hn2 hm e
theorem SR.wipe {K : KW} {N : Nat} (x : SR K f N H ms σ) : ∀ own : List Nat, SR K f N H (DM.wipe ms own) (L2.wipe σ own)
  | [] => x
  | i :: r => (SR.wipe x r).wipe1 i
theorem wipe_get {σ : L2.St} {j : Nat} : ∀ {vs : List Nat}, (L2.wipe σ vs)[j]? = if j ∈ vs then (if j < σ.length then some none else none) else σ[j]?
  | [] => by simp [L2.wipe]
  | v :: vs => by
    have ih := wipe_get (σ := σ) (j := j) (vs := vs)
    unfold L2.wipe
    by_cases hv : v = j
    · subst hv
      rw [if_pos List.mem_cons_self]
      by_cases hl : v < σ.length
      · rw [if_pos hl, List.getElem?_set_self (by rw [wipe_length]; exact hl)]
      · rw [if_neg hl, List.getElem?_eq_none (by rw [List.length_set, wipe_length]; omega)]
    · rw [List.getElem?_set_ne hv, ih]
      have e : (j ∈ v :: vs) ↔ j ∈ vs := by
        rw [List.mem_cons]
        exact ⟨fun q => q.resolve_left fun z => hv z.symm, .inr⟩
      by_cases hj : j ∈ vs
      · rw [if_pos hj, if_pos (e.mpr hj)]
      · rw [if_neg hj, if_neg fun q => hj (e.mp q)]
theorem wipe_same {σ σ' : L2.St} {vs o : List Nat} (s : Same o (L2.wipe σ vs) σ') (ho : ∀ j ∈ o, j ∈ vs) : L2.wipe σ' vs = L2.wipe σ vs := by
  refine List.ext_getElem? fun j => ?_
  have hl : σ'.length = σ.length := by rw [s.1, wipe_length]
  rw [wipe_get, wipe_get, hl]
  by_cases hj : j ∈ vs
  · rw [if_pos hj, if_pos hj]
  · rw [if_neg hj, if_neg hj, s.2 j (fun z => hj (ho j z)), wipe_get, if_neg hj]
end
end DM
set_option Elab.async false
set_option linter.all false
set_option maxRecDepth 100000
set_option maxHeartbeats 4000000
/-! S10: comprehensions, statements. -/
namespace DM
open PySem L2 PyProof.Rows PySem.Spec
section
variable {T : Tab} {Y : Ctx} {W : Wish} {C : Nat → List MV → MH → R MV} {CX : CXT} {lv : Nat} {inB : Bool} {N : List Str} {sc : Scope} {X : Cx}
variable {σ : L2.St} {H H' : Hp} {f f' : Nat → Addr} {h h' : MH} {ms : En}
variable {a b c e : Expr} {ma mb mc : En → MH → R MV} {p pos : Pos} {es : List Expr} {me mk : En → MH → R (List MV)}
theorem noEx_ok {α : Type} {r : R α} {a : α} {h : MH} (e : r.noEx = .ok a h) : r = .ok a h := by
  cases r <;> first | exact e | cases e
theorem noEx_no {α : Type} {r : R α} {c : Nat} {l : List MV} {h : MH} (e : r.noEx = .ex c l h) : False := by
  cases r <;> cases e
theorem lcl_noex {body : MV → MH → R (Option MV)} {t : DM.It} (hb : ∀ v h c l h', body v h ≠ .ex c l h') : ∀ (n i : Nat) (acc : List MV) (h : MH) (c : Nat) (l : List MV) (h' : MH), lcl body t n i acc h ≠ .ex c l h'
  | 0, i, acc, h, c, l, h', e => by
    unfold lcl at e
    split at e <;> cases e
  | n + 1, i, acc, h, c, l, h', e => by
    unfold lcl at e
    split at e
    · cases e
    · rename_i v _
      cases hv : body v h with
      | ex c l h2 => exact hb v h c l h2 hv
      | stk => rw [hv] at e; cases e
      | ok o h2 =>
        rw [hv] at e
        have e : (match o with
          | some x => if acc.length < LIM then lcl body t n (i + 1) (acc ++ [x]) h2 else .stk
          | none => lcl body t n (i + 1) acc h2) = .ex c l h' := e
        split at e
        · split at e
          · exact lcl_noex hb n _ _ _ _ _ _ e
          · cases e
        · exact lcl_noex hb n _ _ _ _ _ _ e
    · cases e
theorem Ext.keepD {N N' : Nat} (x : Ext f N H f' N' H') {D : Addr} {o : HO} (hD : H D = some o) (hn : ∀ n, n < N → f n ≠ D) : H' D = some o ∧ ∀ n, n < N' → f' n ≠ D := by
  refine ⟨x.fr D o hD hn, fun n h2 z => ?_⟩
  by_cases hc : n < N
  · exact hn n hc (by rw [← x.ag n hc]; exact z)
  · have := x.nw n (by omega) h2
    rw [z, hD] at this
    cases this
theorem Ext.updD {N N' : Nat} (x : Ext f N H f' N' H') {D : Addr} {u : HO} (hD : H D = none) : Ext f N H f' N' (upd H' D u) := ⟨x.sz, x.ag, fun a o q hq => by
  rw [upd_ne (ne_of_none q hD)]
  exact x.fr a o q hq, x.nw, fun a q => by
    by_cases z : a = D
    · rw [z]; exact hD
    · rw [upd_ne z] at q; exact x.dm a q, fun a o v q => by
  rw [upd_ne (ne_of_none q hD)]
  exact x.fz a o v q⟩
theorem v_lc {mi : En → MH → R DM.It} {mg : MV → En → MH → R En} {mt : En → MH → R Bool} {mx : En → MH → R MV} {o own : List Nat} (ho : ∀ j ∈ o, j ∈ own) {σ : L2.St} {H : Hp} {Q : VK}
    (q : rdE Y W (lcM mi mg mt mx own) σ H Q) : tLc (rdI Y W mi) (rdG Y NoW mg o) (rdT Y NoW mt) (rdE Y NoW mx) own σ H Q := by
  obtain ⟨f, ms, h, r, sr, q⟩ := q
  unfold lcM at q
  refine ⟨f, ms, h, r, sr, q.bind.mono fun t h1 f1 H1 _ x1 r1 g1 J j D hD => ?_⟩
  have sr1 := r.sr x1 sr
  cases hlen : t.len h1 with
  | none => rw [hlen] at g1; exact g1.elim
  | some n =>
    rw [hlen] at g1
    simp only at g1
    cases e : lcl (lcB mg mt mx own ms) t n 0 [] h1 with
    | stk => rw [e] at g1; exact g1.elim
    | ex c l h2 => exact (lcl_noex (fun v h c l h' e => noEx_no e) _ _ _ _ _ _ _ e).elim
    | ok l h2 =>
      rw [e] at g1
      have g1 : G Y W σ f1 h1 H1 (newList h2 l) _ := g1
      have fin : ∀ (f : Nat → Addr) (H : Hp) (aV : List V), Ext f1 h1.size H1 f h2.size H → Rl Y.K Y.Z f h2 H → (∀ n, n < h2.size → f n ≠ D) → H D = some (.lst aV) → VRs Y.K f h2.size H l aV → Q (.ref D) H := by
        intro f H aV x r hn hd rv
        unfold newList at g1
        split at g1
        · have ex : Ext f1 h1.size H1 (nxt f h2.size D) (h2.push (.lst l)).size H := by
            rw [MH.size_push]
            refine ⟨Nat.le_succ_of_le x.sz, fun n hl => (nxt_lt (Nat.lt_of_lt_of_le hl x.sz)).trans (x.ag n hl), x.fr, fun n l1 l2 => ?_, x.dm, x.fz⟩
            by_cases z : n = h2.size
            · rw [z, nxt_at]; exact hD
            · rw [nxt_lt (by omega)]
              exact x.nw n l1 (by omega)
          refine g1 _ _ ex (r.name hd hn rv) _ ?_
          have e3 : nxt f h2.size D h2.size = D := nxt_at
          have := VR.ref (K := Y.K) (f := nxt f h2.size D) (H := H) (N := (h2.push (.lst l)).size) (n := h2.size) (by rw [MH.size_push]; omega)
          rwa [e3] at this
        · exact g1.elim
      refine ⟨fun i m H' => ∃ f h acc aV, Ext f1 h1.size H1 f h.size H' ∧ Rl Y.K Y.Z f h H' ∧ (∀ n, n < h.size → f n ≠ D) ∧ H' D = some (.lst aV) ∧ VRs Y.K f h.size H' acc aV ∧ lcl (lcB mg mt mx own ms) t m i acc h = .ok l h2,
        ⟨n, f1, h1, [], [], Ext.aside hD, r1.aside hD, fun k hk z => (r1.named hk).2 (z ▸ hD), upd_same, .nil, e⟩, ?_⟩
      rintro i m H' ⟨f, h, acc, aV, x, r, hn, hd, rv, el⟩
      have stop : t.at h i = some none → acc = l → h = h2 → J.stop i H' ∧ Q (.ref D) H' := fun ea e1 e2 => by
        subst e1 e2
        exact ⟨j.step r1 x r ea, fin f H' aV x r hn hd rv⟩
      cases m with
      | zero =>
        unfold lcl at el
        split at el
        · rename_i ea
          cases el
          exact .inl (stop ea rfl rfl)
        · cases el
      | succ m =>
        unfold lcl at el
        split at el
        · rename_i ea
          cases el
          exact .inl (stop ea rfl rfl)
        · rename_i v ea
          obtain ⟨go, yl⟩ := j.step r1 x r ea
          obtain ⟨ov, h5, e5, el⟩ := bind_ok el
          have e5 := noEx_ok e5
          obtain ⟨ms3, h3, ea3, e5⟩ := bind_ok e5
          obtain ⟨bt, h4, eb4, e5⟩ := bind_ok e5
          refine .inr ⟨go, _, fun H'' w => ⟨m, Nat.lt_succ_self m, w⟩, fun y H'' yy => ?_⟩
          obtain ⟨xi, ri, ry⟩ := yl y H'' yy
          obtain ⟨hd, hn⟩ := xi.keepD hd hn
          replace rv := r.vrs xi rv
          replace x := x.trans xi
          clear go yl
          replace r := ri
          refine ⟨f, DM.wipe ms own, h, v, r, SR.wipe (r1.sr x sr1) own, ry, ?_⟩
          rw [ea3]
          intro f3 H3 x3 r3 σ3 sr3 same3
          refine ⟨wipe_same same3 ho, f3, ms3, h3, r3, sr3, ?_⟩
          rw [eb4]
          intro f4 H4 x4 r4
          obtain ⟨d3, n3⟩ := x3.keepD hd hn
          obtain ⟨d4, n4⟩ := x4.keepD d3 n3
          have x34 := x3.trans x4
          cases bt with
          | false =>
            simp only [Bool.false_eq_true, if_false] at e5 ⊢
            cases e5
            exact ⟨f4, _, acc, aV, x.trans x34, r4, n4, d4, r.vrs x34 rv, el⟩
          | true =>
            simp only [if_true] at e5 ⊢
            obtain ⟨xv, h6, ex6, e5⟩ := bind_ok e5
            cases e5
            refine ⟨f4, ms3, h4, r4, r3.sr x4 sr3, ?_⟩
            rw [ex6]
            intro f5 H5 x5 r5 z rz
            obtain ⟨d5, n5⟩ := x5.keepD d4 n4
            simp only at el
            split at el
            · rename_i hl
              have rv5 := r4.vrs x5 (r.vrs x34 rv)
              refine ⟨aV, d5, by rw [← rv.length, ← LIM_eq]; exact hl, f5, _, acc ++ [xv], aV ++ [z], ((x.trans x34).trans x5).updD hD, r5.updD d5 n5, n5, upd_same, ?_, el⟩
              exact VRs.mono (Nat.le_refl _) (fun _ _ => rfl) (r5.fxD d5) _ _ (rv5.append (.cons rz .nil))
            · cases el
        · cases el
theorem Good.blk (g : Good T Y W C CX lv inB N sc X) {s : Shared} {H : Hp} {scope : Scope} {A : Addr} {cl : List (Str × Addr)} {fp : List Addr} : Good T Y NoW C CX lv true N (relS scope sc) (X.blk s H scope (compEnvC scope cl A X.env) fp) where
  eN := g.eN
  nd := g.nd
  eS := by rw [← g.eS]; rfl
  K := g.K
  Wo := g.Wo
  calm := g.calm
  gd := g.gd
  room := g.room
  fn := fun x e => by
    unfold locB at e
    split at e
    · exact .inr (by assumption)
    · cases e
    · cases e
  pass := fun σ pins H s e s' I c => g.fc.cx _ _ _ _ _ c
  tk := fun u s' ⟨_, _, _, _, _, _, _, _, _, _, _, _, _, _, _, _, w⟩ => w.elim
  fc := g.fc
theorem noSet {iter : Expr} {env : Env} {x : Value} (h : isSet iter = false) : foldedSetIterable iter env x = pure x := by
  unfold foldedSetIterable
  cases iter <;> first | rfl | cases h
section
variable {tg iter elt : Expr} {ifs : List Expr} {scope : Scope} {ow : List (Str × Nat)} {mi : En → MH → R DM.It} {mg : MV → En → MH → R En} {mt : En → MH → R Bool} {mx : En → MH → R MV} {o own : List Nat}
theorem _root_.L2.PTs.conv {X : Cx} {e : List Expr} {t t' : TT} (p : PTs X e t) (k : ∀ σ H Q, t' σ H Q → t σ H Q) : PTs X e t' := ⟨fun pins s σ H Q I q => p.run pins s σ H Q I (k σ H Q q)⟩
theorem ts_no : PTs X [] (rdT Y W fun σ h => .ok true h) := by
  refine pts_nil.conv fun σ H Q q => ?_
  obtain ⟨f, ms, h, r, sr, q⟩ := q
  exact G.ok r q
theorem c_lc (g : Good T Y W C CX lv inB N sc X) (hi : PI X tg iter (rdI Y W mi)) (ok : BlkOk N sc scope ow) (hg : ∀ X', Good T Y NoW C CX lv true N (relS scope sc) X' → PG X' tg (rdG Y NoW mg o))
    (ht : ∀ X', Good T Y NoW C CX lv true N (relS scope sc) X' → PTs X' ifs (rdT Y NoW mt)) (he : ∀ X', Good T Y NoW C CX lv true N (relS scope sc) X' → PE X' elt (rdE Y NoW mx)) (ho : ∀ j ∈ o, j ∈ ow.map (·.2)) (hs : isSet iter = false) :
    PE X (.ListComp elt [⟨tg, iter, ifs, 0⟩] scope p) (rdE Y W (lcM mi mg mt mx (ow.map (·.2)))) :=
  (pe_lc g.calm (g.eN ▸ g.nd) hi (by rw [g.eN, g.eS]; exact ok) (fun s H A cl fp => hg _ g.blk) (fun s H A cl fp => ht _ g.blk) (fun s H A cl fp => he _ g.blk) (fun x => noSet hs)).conv fun σ H Q q => v_lc ho q
end

/-! ### statements -/
def GS (Y : Ctx) (W : Wish) (f : Nat → Addr) (h : MH) (H : Hp) (r : RS) (D : Ends) : Prop := match r with
  | .nx ms h' => ∀ f' H' σ', Ext f h.size H f' h'.size H' → Rl Y.K Y.Z f' h' H' → SR Y.K f' h'.size H' ms σ' → D.nx σ' H'
  | .bk ms h' => ∀ f' H' σ', Ext f h.size H f' h'.size H' → Rl Y.K Y.Z f' h' H' → SR Y.K f' h'.size H' ms σ' → D.bk σ' H'
  | .ct ms h' => ∀ f' H' σ', Ext f h.size H f' h'.size H' → Rl Y.K Y.Z f' h' H' → SR Y.K f' h'.size H' ms σ' → D.ct σ' H'
  | .rt v h' => ∀ f' H' x, Ext f h.size H f' h'.size H' → Rl Y.K Y.Z f' h' H' → VR Y.K f' h'.size H' v x → D.rt x H'
  | .ex c l ms h' => ∀ f' H' σ' cls d, Ext f h.size H f' h'.size H' → Rl Y.K Y.Z f' h' H' → SR Y.K f' h'.size H' ms σ' → XR Y.K Y.xc Y.xf f' h'.size H' c l cls d → W cls d σ' H'
  | .stk => False
variable {D D' : Ends} {r : RS}
theorem GS.shift (e : Ext f h.size H f' h'.size H') (g : GS Y W f h H r D) : GS Y W f' h' H' r D := by
  cases r with
  | nx ms h2 => exact fun f2 H2 σ2 e2 => g f2 H2 σ2 (e.trans e2)
  | bk ms h2 => exact fun f2 H2 σ2 e2 => g f2 H2 σ2 (e.trans e2)
  | ct ms h2 => exact fun f2 H2 σ2 e2 => g f2 H2 σ2 (e.trans e2)
  | rt v h2 => exact fun f2 H2 σ2 e2 => g f2 H2 σ2 (e.trans e2)
  | ex c l ms h2 => exact fun f2 H2 σ2 cls d e2 => g f2 H2 σ2 cls d (e.trans e2)
  | stk => exact g
theorem GS.go {α : Type} {m : R α} {k : α → MH → RS} (r : Rl Y.K Y.Z f h H) (sr : SR Y.K f h.size H ms σ) (g : GS Y W f h H (m.go ms k) D) : G Y W σ f h H m fun a f' h' H' => GS Y W f' h' H' (k a h') D := by
  cases m with
  | ok a h1 => exact fun f1 H1 e1 r1 => GS.shift e1 (show GS Y W f h H (k a h1) D from g)
  | ex c l h1 => exact fun f1 H1 cls d e1 r1 x => g f1 H1 σ cls d e1 r1 (r.sr e1 sr) x
  | stk => exact g
def rdS (Y : Ctx) (W : Wish) (m : En → MH → RS) : TS := fun D σ H => ∃ f ms h, Rl Y.K Y.Z f h H ∧ SR Y.K f h.size H ms σ ∧ GS Y W f h H (m ms h) D
variable {mS m1 m2 : En → MH → RS} {st : Stmt} {sts l1 l2 : List Stmt}
theorem s_nil : PSs X [] (rdS Y W fun σ h => .nx σ h) := by
  refine pss_nil.conv fun D σ H q => ?_
  obtain ⟨f, ms, h, r, sr, q⟩ := q
  exact q f H σ (.refl _ _ _) r sr
def seqM (m1 m2 : En → MH → RS) (σ : En) (h : MH) : RS := match m1 σ h with
  | .nx σ1 h1 => m2 σ1 h1
  | x => x
theorem s_cons (h1 : PS X st (rdS Y W m1)) (h2 : PSs X sts (rdS Y W m2)) : PSs X (st :: sts) (rdS Y W (seqM m1 m2)) := by
  refine (pss_cons h1 h2).conv fun D σ H q => ?_
  obtain ⟨f, ms, h, r, sr, q⟩ := q
  refine ⟨f, ms, h, r, sr, ?_⟩
  unfold seqM at q
  cases e : m1 ms h with
  | nx ms1 h1 =>
    rw [e] at q
    exact fun f1 H1 σ1 e1 r1 sr1 => ⟨f1, ms1, h1, r1, sr1, GS.shift e1 q⟩
  | bk ms1 h1 => rw [e] at q; exact q
  | ct ms1 h1 => rw [e] at q; exact q
  | rt v h1 => rw [e] at q; exact q
  | ex c l ms1 h1 => rw [e] at q; exact q
  | stk => rw [e] at q; exact q.elim
theorem s_pass : PS X (.Pass p) (rdS Y W fun σ h => .nx σ h) := by
  refine ps_pass.conv fun D σ H q => ?_
  obtain ⟨f, ms, h, r, sr, q⟩ := q
  exact q f H σ (.refl _ _ _) r sr
theorem s_brk : PS X (.Break p) (rdS Y W fun σ h => .bk σ h) := by
  refine ps_break.conv fun D σ H q => ?_
  obtain ⟨f, ms, h, r, sr, q⟩ := q
  exact q f H σ (.refl _ _ _) r sr
theorem s_cont : PS X (.Continue p) (rdS Y W fun σ h => .ct σ h) := by
  refine ps_continue.conv fun D σ H q => ?_
  obtain ⟨f, ms, h, r, sr, q⟩ := q
  exact q f H σ (.refl _ _ _) r sr
def isComp : Expr → Bool
  | .ListComp _ _ _ _ => true
  | .SetComp _ _ _ _ => true
  | .DictComp _ _ _ _ _ => true
  | _ => false
theorem noComp {e : Expr} {t : Option Expr} {l : Nat} {env : Env} (h : isComp e = false) : swapsWith e t l env = pure false := by
  unfold swapsWith
  cases e <;> first | rfl | cases h
theorem s_exp (ha : PE X a (rdE Y W ma)) (hc : isComp a = false) : PS X (.Expr a p) (rdS Y W fun σ h => (ma σ h).go σ fun _ h1 => .nx σ h1) := by
  refine (ps_expr ha (noComp hc)).conv fun D σ H q => ?_
  obtain ⟨f, ms, h, r, sr, q⟩ := q
  exact ⟨f, ms, h, r, sr, (GS.go r sr q).mono fun v h1 f1 H1 _ x1 r1 g1 x rx => g1 f1 H1 σ (.refl _ _ _) r1 (r.sr x1 sr)⟩
theorem s_ret (ha : PE X a (rdE Y W ma)) : PS X (.Return (some a) p) (rdS Y W fun σ h => (ma σ h).go σ fun v h1 => .rt v h1) := by
  refine (ps_ret ha).conv fun D σ H q => ?_
  obtain ⟨f, ms, h, r, sr, q⟩ := q
  exact ⟨f, ms, h, r, sr, (GS.go r sr q).mono fun v h1 f1 H1 _ x1 r1 g1 x rx => g1 f1 H1 x (.refl _ _ _) r1 rx⟩
theorem s_retN : PS X (.Return none p) (rdS Y W fun σ h => .rt .non h) := by
  refine ps_retN.conv fun D σ H q => ?_
  obtain ⟨f, ms, h, r, sr, q⟩ := q
  exact q f H _ (.refl _ _ _) r .non
theorem s_if {tc : En → MH → R Bool} (hc : PT X c (rdT Y W tc)) (h1 : PSs X l1 (rdS Y W m1)) (h2 : PSs X l2 (rdS Y W m2)) : PS X (.If c l1 l2 p) (rdS Y W fun σ h => (tc σ h).go σ fun d h1 => if d then m1 σ h1 else m2 σ h1) := by
  refine (ps_if hc h1 h2).conv fun D σ H q => ?_
  obtain ⟨f, ms, h, r, sr, q⟩ := q
  refine ⟨f, ms, h, r, sr, (GS.go r sr q).mono fun d h1 f1 H1 _ x1 r1 g1 => ?_⟩
  cases d with
  | true => exact ⟨f1, ms, h1, r1, r.sr x1 sr, g1⟩
  | false => exact ⟨f1, ms, h1, r1, r.sr x1 sr, g1⟩
def setS (ma : En → MH → R MV) (mg : MV → En → MH → R En) (σ : En) (h : MH) : RS := (ma σ h).go σ fun v h1 => (mg v σ h1).go σ fun σ2 h2 => .nx σ2 h2
theorem v_set {mg : MV → En → MH → R En} {o : List Nat} {σ : L2.St} {H : Hp} (q : rdS Y W (setS ma mg) D σ H) : tAsg (rdE Y W ma) (rdG Y W mg o) D σ H := by
  obtain ⟨f, ms, h, r, sr, q⟩ := q
  refine ⟨f, ms, h, r, sr, (GS.go r sr q).mono fun v h1 f1 H1 _ x1 r1 g1 x rx => ?_⟩
  have sr1 := r.sr x1 sr
  refine ⟨f1, ms, h1, v, r1, sr1, rx, (GS.go r1 sr1 g1).mono fun ms2 h2 f2 H2 _ x2 r2 g2 σ2 sr2 _ => ?_⟩
  exact g2 f2 H2 σ2 (.refl _ _ _) r2 sr2
/-- where the pair that is stored is no pair of a display -/
def swB (sc : Scope) : Expr → Expr → Bool
  | .Tuple ts _ _, .Tuple vs _ _ => !(ts.length == 2 || ts.length == 3) || ts.any fun
    | .Name x _ => !(sc.names.lookup x == some .local)
    | _ => true
  | .List _ _, _ => false
  | _, _ => true
theorem filterMap_lt {α β : Type} {f : α → Option β} : ∀ {l : List α}, (∃ x ∈ l, f x = none) → (l.filterMap f).length < l.length
  | [], ⟨x, hx, _⟩ => by cases hx
  | y :: r, ⟨x, hx, e⟩ => by
    have le : (r.filterMap f).length ≤ r.length := List.length_filterMap_le ..
    cases hy : f y with
    | none =>
      rw [List.filterMap_cons_none hy, List.length_cons]
      omega
    | some b =>
      rw [List.filterMap_cons_some hy, List.length_cons, List.length_cons]
      rcases List.mem_cons.mp hx with rfl | hx
      · rw [hy] at e; cases e
      · have := filterMap_lt (l := r) ⟨x, hx, e⟩
        omega
end
end DM
set_option Elab.async false
set_option linter.all false
set_option maxRecDepth 100000
set_option maxHeartbeats 4000000
/-! S11: stores, loops. -/
namespace DM
open PySem L2 PyProof.Rows PySem.Spec
section
variable {T : Tab} {Y : Ctx} {W : Wish} {C : Nat → List MV → MH → R MV} {CX : CXT} {lv : Nat} {inB : Bool} {N : List Str} {sc : Scope} {X : Cx}
variable {σ : L2.St} {H H' : Hp} {f f' : Nat → Addr} {h h' : MH} {ms : En}
variable {a b c e : Expr} {ma mb mc : En → MH → R MV} {p pos : Pos} {es : List Expr} {me mk : En → MH → R (List MV)}
variable {D D' : Ends} {r : RS} {mS m1 m2 : En → MH → RS} {st : Stmt} {sts l1 l2 : List Stmt}
theorem sw_none {sc : Scope} {t v : Expr} {env : Env} (hs : env.scope = sc) (h : swB sc t v = true) : swappedStores [t] v env = pure none := by
  unfold swappedStores
  cases t <;> first | rfl | (cases v <;> first | rfl | (cases h; done) | skip)
  rename_i ts k1 p1 vs k2 p2
  simp only [pure_bind]
  unfold swB at h
  simp only [Bool.or_eq_true] at h
  split
  · rfl
  · rename_i h1
    split
    · rfl
    · rcases h with h | h
      · exfalso
        apply h1
        rw [h]
        rfl
      · have hlt : ∀ (q : Expr → Option Str), (∀ x ∈ ts, (match x with
            | .Name x _ => !(sc.names.lookup x == some .local)
            | _ => true) = true → q x = none) → (ts.filterMap q).length ≠ ts.length := fun q hq => by
          obtain ⟨x, hx, e⟩ := List.any_eq_true.mp h
          exact Nat.ne_of_lt (filterMap_lt ⟨x, hx, hq x hx e⟩)
        rw [if_pos]
        rw [Bool.or_eq_true]
        left
        rw [bne_iff_ne]
        refine hlt _ fun x hx e => ?_
        cases x <;> first | rfl | skip
        rename_i n q
        simp only at e ⊢
        rw [if_neg]
        intro z
        rw [Bool.and_eq_true] at z
        have z1 : (env.scope.names.lookup n == some NameKind.local) = true := z.1
        rw [hs] at z1
        rw [z1] at e
        cases e
theorem s_set {t : Expr} {mg : MV → En → MH → R En} {o : List Nat} (g : Good T Y W C CX lv inB N sc X) (ha : PE X a (rdE Y W ma)) (hg : PG X t (rdG Y W mg o)) (hc : isComp a = false) (hw : swB sc t a = true) (hst : isStar t = false) :
    PS X (.Assign [t] a p) (rdS Y W (setS ma mg)) :=
  (ps_asg ha hg (noComp hc) (sw_none g.eS hw) (asg_cons hst)).conv fun D σ H q => v_set q
/-- a comprehension whose target is read anew -/
def lcSw (sc : Scope) (t v : Expr) : Bool := match t, v with
  | .Name y py, .ListComp _ _ scope pv => (match sc.names.lookup y with
    | some .local => true
    | _ => false) && (py.line == pv.line) && !(scope.names.any fun (n, k) => n == y && (k == .local || k == .cell))
  | _, _ => false
theorem s_setLc {tg iter elt : Expr} {ifs : List Expr} {scope : Scope} {ow : List (Str × Nat)} {mi : En → MH → R DM.It} {mg : MV → En → MH → R En} {mt : En → MH → R Bool} {mx : En → MH → R MV} {o : List Nat} {i : Nat} {y : Str} {py : Pos}
    (g : Good T Y W C CX lv inB N sc X) (e1 : nmB N i y = true) (hsw : lcSw sc (.Name y py) (.ListComp elt [⟨tg, iter, ifs, 0⟩] scope p) = true)
    (hi : PI X tg iter (rdI Y W mi)) (ok : BlkOk N sc scope ow) (hg : ∀ X', Good T Y NoW C CX lv true N (relS scope sc) X' → PG X' tg (rdG Y NoW mg o))
    (ht : ∀ X', Good T Y NoW C CX lv true N (relS scope sc) X' → PTs X' ifs (rdT Y NoW mt)) (he : ∀ X', Good T Y NoW C CX lv true N (relS scope sc) X' → PE X' elt (rdE Y NoW mx)) (ho : ∀ j ∈ o, j ∈ ow.map (·.2)) (hs : isSet iter = false)
    (hk : X.env.scope.kind = .function) : PS X (.Assign [.Name y py] (.ListComp elt [⟨tg, iter, ifs, 0⟩] scope p) pos) (rdS Y W (setS (lcM mi mg mt mx (ow.map (·.2))) (setM i))) := by
  unfold nmB at e1
  simp only [Bool.and_eq_true, decide_eq_true_eq, Bool.not_eq_true'] at e1
  unfold lcSw at hsw
  simp only [Bool.and_eq_true, Bool.not_eq_true'] at hsw
  obtain ⟨⟨h1, h2⟩, h3⟩ := hsw
  have hy : X.env.scope.names.lookup y = some .local := by
    rw [g.eS]
    split at h1
    · assumption
    · cases h1
  refine (ps_setLc (i := i) g.calm (g.eN ▸ g.nd) (by rw [g.eN]; exact e1.1.1) hy (sw_true hk hy h2 h3) hi (by rw [g.eN, g.eS]; exact ok) (fun s H A cl fp => hg _ g.blk) (fun s H A cl fp => ht _ g.blk) (fun s H A cl fp => he _ g.blk) (fun x => noSet hs)).conv fun D σ H q => ?_
  obtain ⟨f, ms, h, r, sr, q⟩ := q
  refine v_lc (W := W) (Y := Y) ho ⟨f, ms, h, r, sr, (GS.go r sr q).mono fun v h1 f1 H1 _ x1 r1 g1 x rx => ?_⟩
  have sr1 := r.sr x1 sr
  exact G.ok r1 (GS.go r1 sr1 g1) f1 H1 _ (.refl _ _ _) r1 (sr1.set rx i)
/-! ### a, b = x, y -/
def parM (is : List Nat) (me : En → MH → R (List MV)) (σ : En) (h : MH) : RS := (me σ h).go σ fun vs h1 => match upds σ is vs with
  | some σ1 => .nx σ1 h1
  | none => .stk
def lcl2 (sc : Scope) (x : Str) : Bool := match sc.names.lookup x with
  | some .local => true
  | _ => false
theorem lcl2_ok {x : Str} (h : lcl2 sc x = true) : sc.names.lookup x = some .local := by
  unfold lcl2 at h
  split at h
  · assumption
  · cases h
def par2B (sc : Scope) (x y : Str) (px py : Pos) (a b : Expr) : Bool := lcl2 sc x && lcl2 sc y && (px.line == py.line) && !(x == y) && !([a, b].all (foldedForSure 8)) && !([a, b].all (constantsAlone 8)) && !isStar a && !isStar b
theorem sw_par {x y : Str} {px py pt pt2 : Pos} {kt k2} {env : Env} (hs : env.scope = sc) (hk : env.scope.kind = .function) (h : par2B sc x y px py a b = true) : swappedStores [.Tuple [.Name x px, .Name y py] kt pt] (.Tuple [a, b] k2 pt2) env = pure (some [x, y]) := by
  unfold par2B at h
  simp only [Bool.and_eq_true, Bool.not_eq_true'] at h
  obtain ⟨⟨⟨⟨⟨⟨⟨h1, h2⟩, h3⟩, h4⟩, h5⟩, h6⟩, h7⟩, h8⟩ := h
  have kx : env.kindOf x = some .local := by show env.scope.names.lookup x = _; rw [hs]; exact lcl2_ok h1
  have ky : env.kindOf y = some .local := by show env.scope.names.lookup y = _; rw [hs]; exact lcl2_ok h2
  have hb : env.blockKind = .function := by unfold Env.blockKind; rw [hk]; rfl
  have l2 : (py.line == px.line) = true := by rw [beq_iff_eq] at h3 ⊢; exact h3.symm
  have hne : x ≠ y := fun z => by rw [z, beq_self_eq_true] at h4; cases h4
  unfold swappedStores
  simp only [pure_bind]
  rw [if_neg (by rw [hb]; simp)]
  rw [if_neg (by
    cases a <;> first | (cases h7; done) | skip
    all_goals (cases b <;> first | (cases h8; done) | simp))]
  generalize hnm : List.filterMap _ [Expr.Name x px, Expr.Name y py] = nm
  have e1 : nm = [x, y] := by
    rw [← hnm]
    have p1 : (px.line == px.line) = true := beq_self_eq_true _
    simp only [List.filterMap_cons, List.filterMap_nil, List.head?_cons, Option.map_some, Option.getD_some, Expr.pos, kx, ky, l2, p1, beq_self_eq_true, Bool.and_self, if_true]
  subst e1
  have dd : [x, y].eraseDups.length = 2 := by
    have e2 : (y == x) = false := by rw [beq_eq_false_iff_ne]; exact fun z => hne z.symm
    simp [List.eraseDups_cons, e2]
  rw [if_neg (by rw [dd]; simp), if_neg (by rw [h5]; simp), if_neg (by rw [h6]; simp)]
theorem s_par {i j : Nat} {x y : Str} {px py pt pt2 : Pos} {kt k2} (g : Good T Y W C CX lv inB N sc X) (e1 : nmB N i x = true) (e2 : nmB N j y = true) (ha : PA X [a, b] (rdA Y W me)) (h : par2B sc x y px py a b = true) (hk : X.env.scope.kind = .function) :
    PS X (.Assign [.Tuple [.Name x px, .Name y py] kt pt] (.Tuple [a, b] k2 pt2) pos) (rdS Y W (parM [i, j] me)) := by
  unfold nmB at e1 e2
  simp only [Bool.and_eq_true, decide_eq_true_eq, Bool.not_eq_true'] at e1 e2
  have h' := h
  unfold par2B at h'
  simp only [Bool.and_eq_true, Bool.not_eq_true'] at h'
  obtain ⟨⟨⟨⟨⟨⟨⟨h1, h2⟩, h3⟩, h4⟩, h5⟩, h6⟩, h7⟩, h8⟩ := h'
  have hij : i ≠ j := fun z => by
    rw [z, e2.1.1] at e1
    have : y = x := Option.some.inj e1.1.1
    rw [this, beq_self_eq_true] at h4
    cases h4
  refine (ps_par (i := i) (j := j) g.calm (g.eN ▸ g.nd) (by rw [g.eN]; exact e1.1.1) (by rw [g.eN]; exact e2.1.1) hij (by rw [g.eS]; exact lcl2_ok h1) (by rw [g.eS]; exact lcl2_ok h2) ha (sw_par g.eS hk h) rfl).conv fun D σ H q => ?_
  obtain ⟨f, ms, h, r, sr, q⟩ := q
  refine ⟨f, ms, h, r, sr, (GS.go r sr q).mono fun l h1 f1 H1 _ x1 r1 g1 xs rl => ?_⟩
  unfold upds at g1
  cases l with
  | nil => exact g1.elim
  | cons u l =>
    obtain ⟨v, vs, rfl, a1, a2⟩ := rl.cons_inv
    simp only at g1
    unfold upds at g1
    cases l with
    | nil => exact g1.elim
    | cons u2 l =>
      obtain ⟨w, ws, rfl, b1, b2⟩ := a2.cons_inv
      simp only at g1
      unfold upds at g1
      cases l with
      | nil =>
        have := b2.nil_inv
        subst this
        exact ⟨v, w, rfl, g1 f1 H1 _ (.refl _ _ _) r1 (((r.sr x1 sr).set a1 i).set b1 j)⟩
      | cons _ _ => exact g1.elim
/-! ### x op= e -/
theorem ip_aug (op : BOp) : PIp X (bo op) (rB Y (augM op)) := by
  intro pins s σ H x y v u Q I rx ry ⟨f, h, a, b, r, ra, rb, g⟩
  unfold augM at g
  split at g
  · cases ra.int_inv; cases rb.int_inv
    exact iop_add pins s σ H _ _ v u Q I rx ry ⟨_, _, rfl, rfl, GP.here r g _ .int⟩
  · cases ra.int_inv; cases rb.int_inv
    exact iop_sub pins s σ H _ _ v u Q I rx ry ⟨_, _, rfl, rfl, GP.here r g _ .int⟩
  · cases ra.int_inv; cases rb.int_inv
    split at g
    · rename_i hl
      refine iop_mul pins s σ H _ _ v u Q I rx ry ⟨_, _, rfl, rfl, ?_, GP.here r g _ .int⟩
      rcases Bool.or_eq_true_iff.mp hl with q | q
      · exact .inl (small_of q)
      · exact .inr (small_of q)
    · exact g.elim
  · cases ra.int_inv; cases rb.int_inv
    split at g
    · rename_i hl
      exact iop_mod pins s σ H _ _ v u Q I rx ry ⟨_, _, rfl, rfl, hl, GP.here r g _ .int⟩
    · exact g.elim
  · cases ra.int_inv; cases rb.int_inv
    split at g
    · rename_i hl
      exact iop_fdiv pins s σ H _ _ v u Q I rx ry ⟨_, _, rfl, rfl, hl, GP.here r g _ .int⟩
    · exact g.elim
  · rename_i a b
    obtain ⟨rfl, ta⟩ := ra.str_inv
    obtain ⟨rfl, tb⟩ := rb.str_inv
    split at g
    · rename_i hl
      refine iop_add_str pins s σ H _ _ v u Q I rx ry ⟨_, _, rfl, rfl, ?_, ?_⟩
      · rw [← LIM_eq]
        show a.toArray.size + b.toArray.size ≤ _
        simpa using hl
      · rw [str_app]
        exact GP.here r g _ (.str (ta.app tb hl))
    · exact g.elim
  · exact g.elim
def augS (op : BOp) (i : Nat) (ma : En → MH → R MV) (σ : En) (h : MH) : RS := match σ[i]? with
  | some (some x) => (ma σ h).go σ fun y h1 => (augM op x y h1).go σ fun z h2 => .nx (σ.set i (some z)) h2
  | _ => .stk
theorem s_aug (g : Good T Y W C CX lv inB N sc X) {i : Nat} {x : Str} {px : Pos} (op : BOp) (e1 : nmB N i x = true) (e2 : locB inB sc x = true) (ha : PE X a (rdE Y W ma)) : PS X (.AugAssign (.Name x px) (bo op) a p) (rdS Y W (augS op i ma)) := by
  unfold nmB at e1
  simp only [Bool.and_eq_true, decide_eq_true_eq, Bool.not_eq_true'] at e1
  obtain ⟨l1, l2⟩ := g.loc e2
  refine (ps_aug (i := i) (g.eN ▸ g.nd) (by rw [g.eN]; exact e1.1.1) l1 ha (ip_aug (Y := Y) op) l2).conv fun D σ H q => ?_
  obtain ⟨f, ms, h, r, sr, q⟩ := q
  unfold augS at q
  split at q
  · rename_i v ev
    obtain ⟨y, ey, ry⟩ := sr.2 i v ev
    refine ⟨y, ey, f, ms, h, r, sr, (GS.go r sr q).mono fun w h1 f1 H1 _ x1 r1 g1 z rz => ?_⟩
    have sr1 := r.sr x1 sr
    exact ⟨f1, h1, v, w, r1, r.vr x1 ry, rz, W, σ, (GS.go r1 sr1 g1).mono fun u h2 f2 H2 _ x2 r2 g2 t rt => g2 f2 H2 _ (.refl _ _ _) r2 ((r1.sr x2 sr1).set rt i)⟩
  · exact q.elim
def augAS (P : Prog) (op : BOp) (i : Nat) (k : Int) (ma : En → MH → R MV) (σ : En) (h : MH) : RS := (ma σ h).go σ fun x h1 => (attM P x i h1).go σ fun y h2 => (augM op y (.int k) h2).go σ fun w h4 => (setA P x i w h4).go σ fun _ h5 => .nx σ h5
theorem augM_int {op : BOp} {y : MV} {k : Int} {h : MH} {w : MV} {h' : MH} (e : augM op y (.int k) h = .ok w h') : h' = h ∧ ∃ j, w = .int j := by
  unfold augM at e
  split at e <;> first | (rename_i hq; cases hq; done) | (cases e; exact ⟨rfl, _, rfl⟩) | (split at e <;> first | (cases e; exact ⟨rfl, _, rfl⟩) | (cases e; done)) | (cases e; done)
theorem augM_noex {op : BOp} {y z : MV} {h : MH} {c : Nat} {l : List MV} {h' : MH} (e : augM op y z h = .ex c l h') : False := by
  unfold augM at e
  split at e <;> first | (cases e; done) | (split at e <;> cases e)
theorem s_augA (g : Good T Y W C CX lv inB N sc X) {i : Nat} {x : Str} {px p2 : Pos} {k : Int} {j : Nat} (op : BOp) (e1 : x = T.fnm i) (ha : PE X a (rdE Y W ma)) : PS X (.AugAssign (.Attribute a x px) (bo op) (.Constant (.int k) j p2) p) (rdS Y W (augAS T.P op i k ma)) := by
  subst e1
  refine (ps_fldaug ha pe_int (ip_aug (Y := Y) op)).conv fun D σ H q => ?_
  obtain ⟨f, ms, h, r, sr, q⟩ := q
  refine ⟨f, ms, h, r, sr, (GS.go r sr q).mono fun o h1 f1 H1 eo x1 r1 g1 x rx => ?_⟩
  have sr1 := r.sr x1 sr
  cases ha1 : attM T.P o i h1 with
  | stk => rw [ha1] at g1; exact g1.elim
  | ex c l h2 =>
    exfalso
    unfold attM at ha1
    split at ha1
    · split at ha1
      · split at ha1
        · split at ha1 <;> cases ha1
        · cases ha1
      · cases ha1
    · cases ha1
  | ok y h2 =>
    rw [ha1] at g1
    unfold attM at ha1
    clear eo
    split at ha1
    · rename_i n
      obtain ⟨hn, rfl⟩ := rx.ref_inv
      split at ha1
      · rename_i c fs en
        split at ha1
        · rename_i v ev1
          split at ha1
          · rename_i hat
            cases ha1
            obtain ⟨dx, gs, e2, fr, kn⟩ := r1.ob _ _ en
            obtain ⟨c1, c2, c3⟩ := g.fc.at_ c i hat
            have inj : ∀ f g, Y.Z.kn f = true → Y.Z.kn g = true → Y.Z.fnm f = Y.Z.fnm g → f = g := by rw [g.fc.Z]; exact g.fc.kn
            obtain ⟨y', l1, l2⟩ := (fld_look inj c3 fr kn).1 y ev1
            rw [g.fc.Z] at l1
            refine ⟨_, _, dx, gs, y', rfl, e2, g.K ▸ c1, g.K ▸ c2, l1, ?_⟩
            have g1 : GS Y W f1 h1 H1 ((augM op y (.int k) h1).go ms fun w h4 => (setA T.P (.ref n) i w h4).go ms fun _ h5 => .nx ms h5) D := g1
            cases eg : augM op y (.int k) h1 with
            | stk => rw [eg] at g1; exact g1.elim
            | ex c l h4 => exact (augM_noex eg).elim
            | ok w h4 =>
              obtain ⟨rfl, jj, rfl⟩ := augM_int eg
              rw [eg] at g1
              refine ⟨f1, h4, y, .int k, r1, l2, .int, W, σ, ?_⟩
              rw [eg]
              intro f5 H5 x5 r5 z rz
              have g2 : GS Y W f1 h4 H1 ((setA T.P (.ref n) i (.int jj) h4).go ms fun _ h5 => .nx ms h5) D := g1
              have ef : f5 n = f1 n := x5.ag n hn
              obtain ⟨dx', gs', e5, fr', kn'⟩ := r5.ob _ _ en
              unfold setA at g2
              simp only [en] at g2
              split at g2
              · rename_i hat5
                have hn5 : n < h4.size := hn
                have ex0 := Ext.put (f := f5) (H := H5) (u := .ins (Y.Z.ca c) dx' (L2.putF (Y.Z.fnm i) z gs')) hn5 (r5.nofz en rfl)
                obtain ⟨p1, p2, p3⟩ := putFld_put (K := Y.K) (f := f5) (N := h4.size) (H := upd H5 (f5 n) (.ins (Y.Z.ca c) dx' (L2.putF (Y.Z.fnm i) z gs'))) inj c3 (r5.vr ex0 rz) (FRs.mono (Nat.le_refl _) (fun _ _ => rfl) (r5.text ex0) _ _ fr') kn'
                obtain ⟨ex', rl'⟩ := r5.put (o' := .ins c (putFld i (.int jj) fs)) (u := .ins (Y.Z.ca c) dx' (L2.putF (Y.Z.fnm i) z gs')) en (fun _ q => by cases q) ⟨dx', _, upd_same, p1, p2⟩
                rw [ef] at e5
                refine ⟨dx', gs', e5, by rw [p3]; exact hat5.1, ?_⟩
                have g3 := g2 f5 _ σ (x5.trans ex') rl' ((r5.sr ex' (r1.sr x5 sr1)))
                rw [ef, g.fc.Z] at g3
                exact g3
              · exact g2.elim
          · cases ha1
        · cases ha1
      · cases ha1
    · cases ha1
/-! ### for -/
def forM (mi : En → MH → R DM.It) (mg : MV → En → MH → R En) (mb : En → MH → RS) (σ : En) (h : MH) : RS := (mi σ h).go σ fun t h1 => match t.len h1 with
  | some n => loop (fun v σ2 h2 => (mg v σ2 h2).go σ2 fun σ3 h3 => mb σ3 h3) t n 0 σ h1
  | none => .stk
theorem s_for (g : Good T Y W C CX lv inB N sc X) {tg iter : Expr} {body : List Stmt} {mi : En → MH → R DM.It} {mg : MV → En → MH → R En} {mb : En → MH → RS} {o : List Nat} (hp : PassesOwn (model X.prog X.w) X.A X.env X.xe)
    (hi : PI X tg iter (rdI Y W mi)) (hg : PG X tg (rdG Y W mg o)) (hb : PSs X body (rdS Y W mb)) (hs : isSet iter = false) : PS X (.For tg iter body [] p) (rdS Y W (forM mi mg mb)) := by
  refine (ps_for hp g.calm hi hg hb (fun x => noSet hs)).conv fun D σ H q => ?_
  obtain ⟨f, ms, h, r, sr, q⟩ := q
  refine ⟨f, ms, h, r, sr, (GS.go r sr q).mono fun t h1 f1 H1 _ x1 r1 g1 J j => ?_⟩
  have sr1 := r.sr x1 sr
  cases hlen : t.len h1 with
  | none => rw [hlen] at g1; exact g1.elim
  | some n =>
    rw [hlen] at g1
    simp only at g1
    generalize hB : (fun (v : MV) (σ2 : En) (h2 : MH) => (mg v σ2 h2).go σ2 fun σ3 h3 => mb σ3 h3) = B at g1
    refine ⟨fun i m σ H => ∃ f ms h, Ext f1 h1.size H1 f h.size H ∧ Rl Y.K Y.Z f h H ∧ SR Y.K f h.size H ms σ ∧ GS Y W f h H (loop B t m i ms h) D, ⟨n, f1, ms, h1, .refl _ _ _, r1, sr1, g1⟩, ?_⟩
    rintro i m σ H ⟨f, ms, h, x, r, sr, gl⟩
    have stop : t.at h i = some none → GS Y W f h H (.nx ms h) D → J.stop i H ∧ D.nx σ H := fun ea g0 => ⟨j.step r1 x r ea, g0 f H σ (.refl _ _ _) r sr⟩
    cases m with
    | zero =>
      unfold loop at gl
      split at gl
      · rename_i ea
        exact .inl (stop ea gl)
      · exact gl.elim
    | succ m =>
      unfold loop at gl
      split at gl
      · rename_i ea
        exact .inl (stop ea gl)
      · rename_i v ea
        obtain ⟨go, yl⟩ := j.step r1 x r ea
        refine .inr ⟨go, _, fun σ' H' w => ⟨m, Nat.lt_succ_self m, w⟩, fun y H'' yy => ?_⟩
        obtain ⟨xi, ri, ry⟩ := yl y H'' yy
        replace sr := r.sr xi sr
        replace gl := GS.shift xi gl
        replace x := x.trans xi
        clear stop
        replace r := ri
        refine ⟨f, ms, h, v, r, sr, ry, ?_⟩
        rw [← hB] at gl
        simp only at gl
        cases eg : mg v ms h with
        | stk => rw [eg] at gl; exact gl.elim
        | ex c l h2 =>
          rw [eg] at gl
          have gl : GS Y W f h H'' (.ex c l ms h2) D := gl
          exact fun f3 H3 cls d e3 r3 x3 => gl f3 H3 σ cls d e3 r3 (r.sr e3 sr) x3
        | ok ms3 h3 =>
          intro f3 H3 x3 r3 σ3 sr3 _
          refine ⟨f3, ms3, h3, r3, sr3, ?_⟩
          rw [eg] at gl
          have gl : GS Y W f h H'' (match mb ms3 h3 with
            | .nx σ' h' => loop _ t m (i + 1) σ' h'
            | .ct σ' h' => loop _ t m (i + 1) σ' h'
            | .bk σ' h' => .nx σ' h'
            | r => r) D := gl
          have x03 := x.trans x3
          cases eb : mb ms3 h3 with
          | nx ms4 h4 =>
            rw [eb] at gl
            exact fun f4 H4 σ4 x4 r4 sr4 => ⟨f4, ms4, h4, x03.trans x4, r4, sr4, by rw [← hB]; exact GS.shift (x3.trans x4) gl⟩
          | ct ms4 h4 =>
            rw [eb] at gl
            exact fun f4 H4 σ4 x4 r4 sr4 => ⟨f4, ms4, h4, x03.trans x4, r4, sr4, by rw [← hB]; exact GS.shift (x3.trans x4) gl⟩
          | bk ms4 h4 =>
            rw [eb] at gl
            exact fun f4 H4 σ4 x4 r4 sr4 => gl f4 H4 σ4 (x3.trans x4) r4 sr4
          | rt v h4 =>
            rw [eb] at gl
            exact fun f4 H4 σ4 x4 r4 sr4 => gl f4 H4 σ4 (x3.trans x4) r4 sr4
          | ex c l ms4 h4 =>
            rw [eb] at gl
            exact fun f4 H4 σ4 cls d x4 r4 sr4 => gl f4 H4 σ4 cls d (x3.trans x4) r4 sr4
          | stk => rw [eb] at gl; exact gl.elim
      · exact gl.elim
end
end DM
set_option Elab.async false
set_option linter.all false
set_option maxRecDepth 100000
set_option maxHeartbeats 4000000
/-! S12: the interpreter is sound for the texts that it matches. -/
namespace DM
open PySem L2 PyProof.Rows PySem.Spec
section
variable (T : Tab) (N : List Str) (sc : Scope)
mutual
def mS : St → Stmt → Bool
  | .pass, e => match e with
    | .Pass _ => true
    | _ => false
  | .exp i, e => match e with
    | .Expr x _ => mE T N sc i x && !isComp x
    | _ => false
  | .ret i, e => match e with
    | .Return (some x) _ => mE T N sc i x
    | _ => false
  | .retN, e => match e with
    | .Return none _ => true
    | _ => false
  | .set tg i, e => match e with
    | .Assign [t] v _ => mE T N sc i v && mG T N false sc tg t && !isStar t && (if isComp v then (match tg, i with
      | .nm _, .lc _ _ _ _ _ => lcSw sc t v
      | _, _ => false) else swB sc t v)
    | _ => false
  | .par is es, e => match e with
    | .Assign [.Tuple [.Name x px, .Name y py] _ _] (.Tuple [a, b] _ _) _ => (match is with
      | [i, j] => nmB N i x && nmB N j y && mEs T N sc es [a, b] && par2B sc x y px py a b
      | _ => false)
    | _ => false
  | .aug i op v, e => match e with
    | .AugAssign (.Name x _) o w _ => nmB N i x && locB false sc x && decide (bo op = o) && mE T N sc v w
    | _ => false
  | .augA o f op k, e => match e with
    | .AugAssign (.Attribute v x _) q (.Constant (.int j) _ _) _ => decide (x = T.fnm f) && decide (bo op = q) && decide (k = j) && mE T N sc o v
    | _ => false
  | .nev, _ => true
  | .ite c a b, e => match e with
    | .If t x y _ => mT T N sc c t && mSs a x && mSs b y
    | _ => false
  | .for_ tg it b, e => match e with
    | .For t i x [] _ => mI T N sc it i t && mG T N false sc tg t && mSs b x && !isSet i
    | _ => false
  | .brk, e => match e with
    | .Break _ => true
    | _ => false
  | .cont, e => match e with
    | .Continue _ => true
    | _ => false
def mSs : Ss → List Stmt → Bool
  | .nil, l => l.isEmpty
  | .cons s r, l => match l with
    | x :: xs => mS s x && mSs r xs
    | [] => false
end
end
def Es.len : Es → Nat
  | .nil => 0
  | .cons _ r => r.len + 1
def Tgs.len : Tgs → Nat
  | .nil => 0
  | .cons _ r => r.len + 1
section
variable {T : Tab} {Y : Ctx} {W : Wish} {C : Nat → List MV → MH → R MV} {CX : CXT} {lv : Nat} {inB : Bool} {N : List Str} {sc : Scope} {X : Cx}
theorem evs_nil {P : Prog} {σ : En} {h : MH} : evs P C .nil σ h = .ok [] h := by
  unfold evs
  rfl
theorem evs_len {P : Prog} : ∀ {es : Es} {σ : En} {h : MH} {l : List MV} {h' : MH}, evs P C es σ h = .ok l h' → l.length = es.len
  | .nil, σ, h, l, h', e => by
    unfold evs at e
    cases e
    rfl
  | .cons x r, σ, h, l, h', e => by
    unfold evs at e
    obtain ⟨v, h1, e1, e⟩ := bind_ok e
    obtain ⟨w, h2, e2, e⟩ := bind_ok e
    cases e
    rw [List.length_cons, evs_len e2]
    rfl
theorem mEs_len : ∀ {es : Es} {xs : List Expr}, mEs T N sc es xs = true → es.len = xs.length ∧ noStars xs = true
  | .nil, xs, h => by
    unfold mEs at h
    cases xs with
    | nil => exact ⟨rfl, rfl⟩
    | cons _ _ => cases h
  | .cons x r, xs, h => by
    cases xs with
    | nil => unfold mEs at h; cases h
    | cons y ys =>
      unfold mEs at h
      simp only [Bool.and_eq_true, Bool.not_eq_true'] at h
      obtain ⟨a, b⟩ := mEs_len h.2
      refine ⟨congrArg Nat.succ a, ?_⟩
      unfold noStars at b ⊢
      rw [List.all_cons, b, h.1.2]
      rfl
theorem mKs_len : ∀ {es : Es} {kn : List Nat} {ks : List Keyword}, mKs T N sc es kn ks = true → es.len = kn.length ∧ (ks.all fun k => k.1.isSome) = true ∧ ks.filterMap (·.1) = kn.map T.fnm
  | .nil, kn, ks, h => by
    unfold mKs at h
    cases kn <;> cases ks <;> first | exact ⟨rfl, rfl, rfl⟩ | cases h
  | .cons x r, kn, ks, h => by
    unfold mKs at h
    cases kn with
    | nil => cases h
    | cons k kr =>
      cases ks with
      | nil => cases h
      | cons q qs =>
        obtain ⟨nm, e, kp⟩ := q
        cases nm with
        | none => cases h
        | some y =>
          simp only [Bool.and_eq_true, decide_eq_true_eq] at h
          obtain ⟨a, b, c⟩ := mKs_len h.2
          refine ⟨congrArg Nat.succ a, b, ?_⟩
          show y :: qs.filterMap (·.1) = _
          rw [c, h.1.1]
          rfl
theorem asgs_len {P : Prog} : ∀ {l : Tgs} {vs : List MV} {σ : En} {h : MH} {σ' : En} {h' : MH}, asgs P C l vs σ h = .ok σ' h' → vs.length = l.len
  | .nil, [], σ, h, _, _, _ => rfl
  | .nil, _ :: _, σ, h, _, _, e => by unfold asgs at e; cases e
  | .cons _ _, [], σ, h, _, _, e => by unfold asgs at e; cases e
  | .cons t r, v :: vs, σ, h, σ', h', e => by
    unfold asgs at e
    obtain ⟨a, h1, e1, e⟩ := bind_ok e
    exact congrArg Nat.succ (asgs_len e)
theorem mGs_len : ∀ {l : Tgs} {xs : List Expr}, mGs T N inB sc l xs = true → l.len = xs.length ∧ noStars xs = true
  | .nil, xs, h => by
    unfold mGs at h
    cases xs with
    | nil => exact ⟨rfl, rfl⟩
    | cons _ _ => cases h
  | .cons x r, xs, h => by
    cases xs with
    | nil => unfold mGs at h; cases h
    | cons y ys =>
      unfold mGs at h
      simp only [Bool.and_eq_true, Bool.not_eq_true'] at h
      obtain ⟨a, b⟩ := mGs_len h.2
      refine ⟨congrArg Nat.succ a, ?_⟩
      unfold noStars at b ⊢
      rw [List.all_cons, b, h.1.2]
      rfl
theorem boolAnd {rest : List Expr} {b : Expr} {p : Pos} {i : Ex} (h : (match rest with
      | [] => mE T N sc i b
      | _ => mE T N sc i (.BoolOp .And (b :: rest) p)) = true) (k : ∀ e, mE T N sc i e = true → PE X e (rdE Y W (ev T.P C i))) : PE X (.BoolOp .And (b :: rest) p) (rdE Y W (ev T.P C i)) := by
  cases rest with
  | nil => exact pe_one (k _ h)
  | cons r rs => exact k _ h
theorem boolOr {rest : List Expr} {b : Expr} {p : Pos} {i : Ex} (h : (match rest with
      | [] => mE T N sc i b
      | _ => mE T N sc i (.BoolOp .Or (b :: rest) p)) = true) (k : ∀ e, mE T N sc i e = true → PE X e (rdE Y W (ev T.P C i))) : PE X (.BoolOp .Or (b :: rest) p) (rdE Y W (ev T.P C i)) := by
  cases rest with
  | nil => exact pe_one (k _ h)
  | cons r rs => exact k _ h
theorem fm_len {α : Type} : ∀ {l : List (Option α)}, l.all (·.isSome) = true → (l.filterMap id).length = l.length
  | [], _ => rfl
  | none :: r, h => by cases h
  | some a :: r, h => by
    have : r.all (·.isSome) = true := by simpa using h
    exact congrArg Nat.succ (fm_len this)
def isBO : Expr → Bool
  | .BoolOp _ _ _ => true
  | _ => false
theorem tAnd' {rest : List Expr} {b : Expr} {p : Pos} {i : Te} (h : (match rest with
      | [] => mT T N sc i b
      | _ => mT T N sc i (.BoolOp .And (b :: rest) p)) = true) (k : ∀ e, mT T N sc i e = true → PT X e (rdT Y W (tv T.P C i)) ∧ (isBO e = true → PW X e (rdT Y W (tv T.P C i)))) : PW X (.BoolOp .And (b :: rest) p) (rdT Y W (tv T.P C i)) := by
  cases rest with
  | nil => exact pw_and1 (k _ h).1
  | cons r rs => exact (k _ h).2 rfl
theorem tOr' {rest : List Expr} {b : Expr} {p : Pos} {i : Te} (h : (match rest with
      | [] => mT T N sc i b
      | _ => mT T N sc i (.BoolOp .Or (b :: rest) p)) = true) (k : ∀ e, mT T N sc i e = true → PT X e (rdT Y W (tv T.P C i)) ∧ (isBO e = true → PW X e (rdT Y W (tv T.P C i)))) : PW X (.BoolOp .Or (b :: rest) p) (rdT Y W (tv T.P C i)) := by
  cases rest with
  | nil => exact pw_or1 (k _ h).1
  | cons r rs => exact (k _ h).2 rfl
end

section
variable {T : Tab} {Y : Ctx} {C : Nat → List MV → MH → R MV} {CX : CXT} {lv : Nat} {N : List Str}
mutual
theorem sE : ∀ (i : Ex) {W : Wish} {inB : Bool} {sc : Scope} {X : Cx} {e : Expr}, Good T Y W C CX lv inB N sc X → mE T N sc i e = true → PE X e (rdE Y W (ev T.P C i))
  | .var i, W, inB, sc, X, e, g, h => by
    unfold mE at h
    split at h
    · rw [Bool.and_eq_true] at h
      exact c_var g h.1 h.2
    · cases h
  | .non, W, inB, sc, X, e, g, h => by
    unfold mE at h
    split at h
    · exact c_const pe_non (fun _ _ => by simp only [ev]) fun _ _ _ => .non
    · cases h
  | .bl b, W, inB, sc, X, e, g, h => by
    unfold mE at h
    split at h
    · rw [beq_iff_eq] at h
      subst h
      exact c_const pe_bl (fun _ _ => by simp only [ev]) fun _ _ _ => .bl
    · cases h
  | .int b, W, inB, sc, X, e, g, h => by
    unfold mE at h
    split at h
    · have h := of_decide_eq_true h
      subst h
      exact c_const pe_int (fun _ _ => by simp only [ev]) fun _ _ _ => .int
    · cases h
  | .str s, W, inB, sc, X, e, g, h => by
    unfold mE at h
    split at h
    · simp only [Bool.and_eq_true, decide_eq_true_eq] at h
      obtain ⟨h1, h2⟩ := h
      subst h1
      exact c_const pe_str (fun _ _ => by simp only [ev]) fun _ _ _ => .str (txB_ok h2)
    · cases h
  | .gl i, W, inB, sc, X, e, g, h => by
    unfold mE at h
    split at h
    · simp only [Bool.and_eq_true, decide_eq_true_eq, Bool.not_eq_true'] at h
      exact c_gl g h.1.1.1 h.1.1.2 h.1.2 h.2
    · cases h
  | .bin op a b, W, inB, sc, X, e, g, h => by
    unfold mE at h
    split at h
    · simp only [Bool.and_eq_true, decide_eq_true_eq] at h
      obtain ⟨⟨h1, h2⟩, h3⟩ := h
      subst h1
      exact c_bin g op (sE a g h2) (sE b g h3)
    · cases h
  | .neg a, W, inB, sc, X, e, g, h => by
    unfold mE at h
    split at h
    · exact c_neg g (sE a g h)
    · cases h
  | .not_ a, W, inB, sc, X, e, g, h => by
    unfold mE at h
    split at h
    · exact c_not g (sE a g h)
    · cases h
  | .cmp op a b, W, inB, sc, X, e, g, h => by
    unfold mE at h
    split at h
    · simp only [Bool.and_eq_true, decide_eq_true_eq, Bool.not_eq_true'] at h
      obtain ⟨⟨⟨h1, h2⟩, h3⟩, h4⟩ := h
      subst h1
      exact c_cmp g op (sE a g h3) (sE b g h4) h2
    · cases h
  | .isN a, W, inB, sc, X, e, g, h => by
    unfold mE at h
    split at h
    · exact c_isN (sE a g h)
    · cases h
  | .isNt a, W, inB, sc, X, e, g, h => by
    unfold mE at h
    split at h
    · exact c_isNt (sE a g h)
    · cases h
  | .ch o1 o2 a b c, W, inB, sc, X, e, g, h => by
    unfold mE at h
    split at h
    · simp only [Bool.and_eq_true, decide_eq_true_eq, Bool.not_eq_true'] at h
      obtain ⟨⟨⟨⟨⟨h1, h2⟩, h3⟩, h4⟩, h5⟩, h6⟩ := h
      subst h1 h2
      exact c_ch g o1 o2 (sE a g h4) (sE b g h5) (sE c g h6) h3
    · cases h
  | .and_ a b, W, inB, sc, X, e, g, h => by
    unfold mE at h
    split at h
    · rw [Bool.and_eq_true] at h
      exact c_and g (sE a g h.1) (boolAnd h.2 fun e h => sE b g h)
    · cases h
  | .or_ a b, W, inB, sc, X, e, g, h => by
    unfold mE at h
    split at h
    · rw [Bool.and_eq_true] at h
      exact c_or g (sE a g h.1) (boolOr h.2 fun e h => sE b g h)
    · cases h
  | .ife c a b, W, inB, sc, X, e, g, h => by
    unfold mE at h
    split at h
    · simp only [Bool.and_eq_true] at h
      exact c_ife (sT c g h.1.1).1 (sE a g h.1.2) (sE b g h.2)
    · cases h
  | .att a f, W, inB, sc, X, e, g, h => by
    unfold mE at h
    split at h
    · simp only [Bool.and_eq_true, decide_eq_true_eq] at h
      exact c_att g h.1.1 (sE a g h.1.2) (noSup_base h.2)
    · cases h
  | .nev, W, inB, sc, X, e, g, h => ⟨fun pins s σ H Q I q => by
    obtain ⟨f, ms, h, r, sr, q⟩ := q
    unfold ev at q
    exact q.elim⟩
  | .sub a i, W, inB, sc, X, e, g, h => by
    unfold mE at h
    split at h
    · simp only [Bool.and_eq_true, Bool.not_eq_true'] at h
      exact c_sub g (sE a g h.1.1) (sE i g h.1.2) h.2
    · cases h
  | .sl a lo hi, W, inB, sc, X, e, g, h => by
    unfold mE at h
    split at h
    · simp only [Bool.and_eq_true] at h
      exact c_sl g (sE a g h.1.1) (sO lo g h.1.2) (sO hi g h.2)
    · cases h
  | .rev a, W, inB, sc, X, e, g, h => by
    unfold mE at h
    split at h
    · exact c_rev g (sE a g h)
    · cases h
  | .tup es, W, inB, sc, X, e, g, h => by
    unfold mE at h
    split at h
    · exact c_tup (sA es g h)
    · cases h
  | .lst es, W, inB, sc, X, e, g, h => by
    unfold mE at h
    split at h
    · exact c_lst (sA es g h)
    · cases h
  | .dct es, W, inB, sc, X, e, g, h => by
    unfold mE at h
    split at h
    · rename_i ks vs p
      rw [Bool.and_eq_true, decide_eq_true_eq] at h
      obtain ⟨h1, h2⟩ := h
      cases es with
      | nil =>
        unfold mDs at h1
        rw [Bool.and_eq_true, List.isEmpty_iff, List.isEmpty_iff] at h1
        refine (c_dct0 (C := C) (T := T) (Y := Y) (W := W) h1.1 h1.2).conv fun σ H Q q => ?_
        unfold ev at q
        exact q
      | cons k r =>
        obtain ⟨q1, q2, q3, q4⟩ := sD (p := p) (.cons k r) g h1
        exact c_dct g q1 q2 q3 q4 (fun z => by subst z; unfold mDs at h1; cases r <;> cases h1) h2
    · cases h
  | .call f es ks kn sh, W, inB, sc, X, e, g, h => by
    unfold mE at h
    split at h
    · rename_i x px args kws pp
      simp only [Bool.and_eq_true, decide_eq_true_eq, Bool.not_eq_true'] at h
      obtain ⟨⟨⟨⟨⟨⟨h1, h2⟩, h3⟩, h4⟩, h5⟩, h6⟩, h7⟩ := h
      obtain ⟨l1, l2⟩ := mEs_len h5
      obtain ⟨k1, k2, k3⟩ := mKs_len h6
      cases args with
      | nil =>
        cases es with
        | nil =>
          refine (c_call0 g h1 h2 h3 h4 (sK ks g h6) k2 k3 h7 (fun ms h l h' e => by rw [evs_len e, k1])).conv fun σ H Q q => ?_
          unfold evs at q
          exact q
        | cons _ _ => unfold mEs at h5; cases h5
      | cons a as => exact c_call g h1 h2 h3 h4 (sA es g h5) (sK ks g h6) l2 k2 k3 h7 (fun ms h l h' e => by rw [evs_len e, l1]) (fun ms h l h' e => by rw [evs_len e, k1])
    · cases h
  | .bif b es, W, inB, sc, X, e, g, h => by
    unfold mE at h
    split at h
    · simp only [Bool.and_eq_true, decide_eq_true_eq] at h
      exact c_bif g b h.1.1 h.1.2 (sA es g h.2) (mEs_len h.2).2
    · cases h
  | .isi a t, W, inB, sc, X, e, g, h => by
    unfold mE at h
    split at h
    · simp only [Bool.and_eq_true, decide_eq_true_eq, Bool.not_eq_true'] at h
      obtain ⟨⟨⟨⟨⟨h1, h2⟩, h3⟩, h4⟩, h6⟩, h5⟩ := h
      split at h5
      · simp only [Bool.and_eq_true, decide_eq_true_eq, Bool.not_eq_true'] at h5
        exact c_isiO g h5.1.2 h1 h2 h5.1.1 h6 h5.2 (sE a g h3) h4
      · rw [Bool.and_eq_true, decide_eq_true_eq] at h5
        obtain ⟨S, et⟩ := Option.isSome_iff_exists.mp h5.2
        exact c_isi g et h1 h2 h5.1 h6 (sE a g h3) h4
    · cases h
  | .met m o es ks kn sh, W, inB, sc, X, e, g, h => by
    unfold mE at h
    split at h
    · rename_i v0 x0 ap0 args kws p0
      split at h
      · simp only [Bool.and_eq_true, decide_eq_true_eq] at h
        obtain ⟨⟨⟨⟨⟨⟨h1, h2⟩, h3⟩, h4⟩, h5⟩, h6⟩, h7⟩ := h
        rename_i e1
        subst h1
        cases ks with
        | nil =>
          refine (c_bm (sh := sh) g e1 (sE o g h2) (sA es g h4) h3 (mEs_len h4).2 (beq_iff_eq.mpr h5) h6).conv fun σ H Q q => ?_
          unfold ev at q
          exact q
        | cons _ _ => cases h7
      · cases h
      · simp only [Bool.and_eq_true, decide_eq_true_eq] at h
        rename_i kws args _ _ _ _
        obtain ⟨⟨⟨⟨⟨⟨⟨⟨⟨h1, h2⟩, h3⟩, h4⟩, h5⟩, h6⟩, h7⟩, h8⟩, h9⟩, h10⟩ := h
        obtain ⟨l1, l2⟩ := mEs_len h5
        obtain ⟨k1, k2, k3⟩ := mKs_len h6
        cases args with
        | nil =>
          cases es with
          | nil =>
            refine (c_own0 (sh := sh) g h1 h2 (sE o g h3) (sK ks g h6) h4 k2 k3 h7 (beq_iff_eq.mpr h8) h10 (fun ms h l h' e => by rw [evs_len e, k1])).conv fun σ H Q q => ?_
            obtain ⟨f, ms, h, r, sr, q⟩ := q
            unfold ev at q
            simp only [evs_nil] at q
            exact ⟨f, ms, h, r, sr, q⟩
          | cons _ _ => unfold mEs at h5; cases h5
        | cons a as =>
          refine (c_own (sh := sh) g h1 h2 (sE o g h3) (sA es g h5) (sK ks g h6) h4 l2 k2 k3 h7 (beq_iff_eq.mpr h8) h9 h10 (fun ms h l h' e => by rw [evs_len e, l1]) (fun ms h l h' e => by rw [evs_len e, k1])).conv fun σ H Q q => ?_
          unfold ev at q
          exact q
    · cases h
  | .mk c es ks kn sh, W, inB, sc, X, e, g, h => by
    unfold mE at h
    split at h
    · rename_i x px args kws pp
      simp only [Bool.and_eq_true, decide_eq_true_eq, Bool.not_eq_true'] at h
      obtain ⟨⟨⟨⟨⟨⟨h1, h2⟩, h3⟩, h4⟩, h5⟩, h6⟩, h7⟩ := h
      obtain ⟨l1, l2⟩ := mEs_len h5
      obtain ⟨k1, k2, k3⟩ := mKs_len h6
      cases args with
      | nil =>
        cases es with
        | nil =>
          refine (c_mk0 g h1 h2 h3 h4 (sK ks g h6) k2 k3 h7 (fun ms h l h' e => by rw [evs_len e, k1])).conv fun σ H Q q => ?_
          obtain ⟨f, ms, h, r, sr, q⟩ := q
          unfold ev at q
          simp only [evs_nil] at q
          exact ⟨f, ms, h, r, sr, q⟩
        | cons _ _ => unfold mEs at h5; cases h5
      | cons a as =>
        refine (c_mk g h1 h2 h3 h4 (sA es g h5) (sK ks g h6) l2 k2 k3 h7 (fun ms h l h' e => by rw [evs_len e, l1]) (fun ms h l h' e => by rw [evs_len e, k1])).conv fun σ H Q q => ?_
        unfold ev at q
        exact q
    · cases h
  | .lc elt own tg it c, W, inB, sc, X, e, g, h => by
    unfold mE at h
    split at h
    · rename_i x t i ifs scope pp
      simp only [Bool.and_eq_true, Bool.not_eq_true'] at h
      obtain ⟨⟨⟨⟨⟨⟨⟨h0, h1⟩, h2⟩, h3⟩, h4⟩, h5⟩, h6⟩, h7⟩ := h
      have how : (((own.map fun k => N[k]?).filterMap id).zip own).map (·.2) = own := by
        refine List.map_snd_zip ?_
        rw [fm_len h0, List.length_map]
        exact Nat.le_refl _
      have hl := c_lc (p := pp) (o := tgS tg) g (sI it g h2) (blkOk_by h1) (fun X' g' => sG tg g' h3) (fun X' g' => sC c g' h6) (fun X' g' => sE elt g' h5) (fun j hj => by
        rw [how]
        have := List.all_eq_true.mp h4 j hj
        exact List.contains_iff_mem.mp this) h7
      rw [how] at hl
      exact hl
    · cases h
  | .fst _, W, inB, sc, X, e, g, h => by
    unfold mE at h
    cases h
theorem sT : ∀ (i : Te) {W : Wish} {inB : Bool} {sc : Scope} {X : Cx} {e : Expr}, Good T Y W C CX lv inB N sc X → mT T N sc i e = true → PT X e (rdT Y W (tv T.P C i)) ∧ (isBO e = true → PW X e (rdT Y W (tv T.P C i)))
  | .vl i, W, inB, sc, X, e, g, h => by
    unfold mT at h
    rw [Bool.and_eq_true, Bool.or_eq_true] at h
    obtain ⟨h1, h2⟩ := h
    have nb : isBO e = true → False := fun z => by
      cases e <;> first | (cases z; done) | skip
      rcases h2 with h2 | h2 <;> cases h2
    refine ⟨?_, fun z => (nb z).elim⟩
    rcases h2 with h2 | h2
    · exact t_val g (sE i g h1) h2
    · cases e <;> first | (cases h2; done) | skip
      cases i with
      | cmp op a b =>
        unfold mE at h1
        split at h1
        · rename_i _ l o r p e0
          cases e0
          simp only [Bool.and_eq_true, decide_eq_true_eq, Bool.not_eq_true'] at h1
          obtain ⟨⟨⟨q1, q2⟩, q3⟩, q4⟩ := h1
          subst q1
          exact t_cmp g op (sE a g q3) (sE b g q4) q2
        · cases h1
      | isN a =>
        unfold mE at h1
        split at h1
        · rename_i _ l _ _ _ e0
          cases e0
          exact t_isN (sE a g h1)
        · cases h1
      | isNt a =>
        unfold mE at h1
        split at h1
        · rename_i _ l _ _ _ e0
          cases e0
          exact t_isNt (sE a g h1)
        · cases h1
      | ch o1 o2 a b c =>
        unfold mE at h1
        split at h1
        · rename_i _ l p1 p2 m r p e0
          cases e0
          simp only [Bool.and_eq_true, decide_eq_true_eq, Bool.not_eq_true'] at h1
          obtain ⟨⟨⟨⟨⟨q1, q2⟩, q3⟩, q4⟩, q5⟩, q6⟩ := h1
          subst q1 q2
          exact t_ch g o1 o2 (sE a g q4) (sE b g q5) (sE c g q6) q3
        · cases h1
      | nev => exact ⟨fun pins s σ H Q I q => by
          obtain ⟨f, ms, h, r, sr, q⟩ := q
          unfold tv ev at q
          exact q.elim⟩
      | _ => unfold mE at h1; cases h1
  | .not_ t, W, inB, sc, X, e, g, h => by
    unfold mT at h
    split at h
    · exact ⟨t_not (sT t g h).1, fun z => by cases z⟩
    · cases h
  | .and_ t u, W, inB, sc, X, e, g, h => by
    unfold mT at h
    split at h
    · rw [Bool.and_eq_true] at h
      have := t_and (sT t g h.1).1 (tAnd' h.2 fun e h => sT u g h)
      exact ⟨this.pt, fun _ => this⟩
    · cases h
  | .or_ t u, W, inB, sc, X, e, g, h => by
    unfold mT at h
    split at h
    · rw [Bool.and_eq_true] at h
      have := t_or (sT t g h.1).1 (tOr' h.2 fun e h => sT u g h)
      exact ⟨this.pt, fun _ => this⟩
    · cases h
theorem sA : ∀ (i : Es) {W : Wish} {inB : Bool} {sc : Scope} {X : Cx} {e : List Expr}, Good T Y W C CX lv inB N sc X → mEs T N sc i e = true → PA X e (rdA Y W (evs T.P C i))
  | .nil, W, inB, sc, X, e, g, h => by
    unfold mEs at h
    cases e with
    | nil => exact a_nil
    | cons _ _ => cases h
  | .cons i r, W, inB, sc, X, e, g, h => by
    cases e with
    | nil => unfold mEs at h; cases h
    | cons x xs =>
      unfold mEs at h
      simp only [Bool.and_eq_true, Bool.not_eq_true'] at h
      exact a_cons (sE i g h.1.1) (sA r g h.2) h.1.2
theorem sD : ∀ (i : Es) {W : Wish} {inB : Bool} {sc : Scope} {X : Cx} {ks : List (Option Expr)} {vs : List Expr} {p : Pos}, Good T Y W C CX lv inB N sc X → mDs T N sc i ks vs = true → i.even = true ∧ PPs X p ks vs (trsOf T.P C Y W i) ∧ ks.all (·.isSome) = true ∧ ks.length = vs.length
  | .nil, W, inB, sc, X, ks, vs, p, g, h => by
    unfold mDs at h
    rw [Bool.and_eq_true, List.isEmpty_iff, List.isEmpty_iff] at h
    obtain ⟨rfl, rfl⟩ := h
    exact ⟨rfl, pps_nil, rfl, rfl⟩
  | .cons k .nil, W, inB, sc, X, ks, vs, p, g, h => by
    unfold mDs at h
    split at h
    · rename_i e; cases e
    · cases h
  | .cons k (.cons v r), W, inB, sc, X, ks, vs, p, g, h => by
    unfold mDs at h
    split at h
    · rename_i x kr v' t e
      cases e
      split at h
      · rename_i y vr
        simp only [Bool.and_eq_true] at h
        obtain ⟨q1, q2, q3, q4⟩ := sD (p := p) r g h.2
        refine ⟨q1, pps_cons (sE k g h.1.1) (sE v g h.1.2) q2, ?_, by rw [List.length_cons, List.length_cons, q4]⟩
        rw [List.all_cons, q3]
        rfl
      · cases h
    · cases h
theorem sK : ∀ (i : Es) {W : Wish} {inB : Bool} {sc : Scope} {X : Cx} {kn : List Nat} {e : List Keyword}, Good T Y W C CX lv inB N sc X → mKs T N sc i kn e = true → PK X e (rdA Y W (evs T.P C i))
  | .nil, W, inB, sc, X, kn, e, g, h => by
    unfold mKs at h
    cases e with
    | nil => exact k_nil
    | cons _ _ => simp at h
  | .cons i r, W, inB, sc, X, kn, e, g, h => by
    unfold mKs at h
    cases kn with
    | nil => cases h
    | cons k kr =>
      cases e with
      | nil => cases h
      | cons q qs =>
        obtain ⟨nm, x, kp⟩ := q
        cases nm with
        | none => cases h
        | some y =>
          simp only [Bool.and_eq_true, decide_eq_true_eq] at h
          exact k_cons (sE i g h.1.2) (sK r g h.2)
theorem sO : ∀ (i : Eo) {W : Wish} {inB : Bool} {sc : Scope} {X : Cx} {e : Option Expr}, Good T Y W C CX lv inB N sc X → mO T N sc i e = true → PO X e (rdO Y W (eo T.P C i))
  | .no, W, inB, sc, X, e, g, h => by
    unfold mO at h
    cases e with
    | none => exact o_no
    | some _ => cases h
  | .so i, W, inB, sc, X, e, g, h => by
    unfold mO at h
    cases e with
    | none => cases h
    | some x => exact o_so (sE i g h)
theorem sC : ∀ (i : Tc) {W : Wish} {inB : Bool} {sc : Scope} {X : Cx} {e : List Expr}, Good T Y W C CX lv inB N sc X → mC T N sc i e = true → PTs X e (rdT Y W (ct T.P C i))
  | .no, W, inB, sc, X, e, g, h => by
    unfold mC at h
    cases e with
    | nil => exact ts_no
    | cons _ _ => cases h
  | .so i, W, inB, sc, X, e, g, h => by
    unfold mC at h
    split at h
    · exact pts_one (sT i g h).1
    · cases h
theorem sG : ∀ (i : Tg) {W : Wish} {inB : Bool} {sc : Scope} {X : Cx} {e : Expr}, Good T Y W C CX lv inB N sc X → mG T N inB sc i e = true → PG X e (rdG Y W (asg T.P C i) (tgS i))
  | .nm i, W, inB, sc, X, e, g, h => by
    unfold mG at h
    split at h
    · rw [Bool.and_eq_true] at h
      exact g_nm g h.1 h.2
    · cases h
  | .tup l, W, inB, sc, X, e, g, h => by
    unfold mG at h
    split at h
    · have := mGs_len h
      exact g_tup g (sGs l g h) this.2 fun l' ms h σ' h' e => by rw [asgs_len e, this.1]
    · cases h
  | .att o f, W, inB, sc, X, e, g, h => by
    unfold mG at h
    split at h
    · simp only [Bool.and_eq_true, decide_eq_true_eq] at h
      exact g_att g h.1.1 (sE o g h.1.2)
    · cases h
  | .sub o i, W, inB, sc, X, e, g, h => by
    unfold mG at h
    split at h
    · simp only [Bool.and_eq_true, Bool.not_eq_true'] at h
      exact g_sub g (sE o g h.1.1) (sE i g h.1.2) h.2
    · cases h
theorem sGs : ∀ (i : Tgs) {W : Wish} {inB : Bool} {sc : Scope} {X : Cx} {e : List Expr}, Good T Y W C CX lv inB N sc X → mGs T N inB sc i e = true → PGs X e (rdGs Y (asgs T.P C i) (tgSs i))
  | .nil, W, inB, sc, X, e, g, h => by
    unfold mGs at h
    cases e with
    | nil =>
      refine (gs_nil (Y := Y)).conv fun v σ H Q q => ?_
      obtain ⟨f, ms, h, l, r, sr, rv, q⟩ := q
      refine ⟨f, ms, h, l, r, sr, rv, ?_⟩
      unfold asgs at q
      cases l <;> exact q
    | cons _ _ => cases h
  | .cons i r, W, inB, sc, X, e, g, h => by
    cases e with
    | nil => unfold mGs at h; cases h
    | cons x xs =>
      unfold mGs at h
      simp only [Bool.and_eq_true, Bool.not_eq_true'] at h
      refine (gs_cons (sG i g h.1.1) (sGs r g h.2) h.1.2).conv fun v σ H Q q => ?_
      obtain ⟨f, ms, h, l, r, sr, rv, q⟩ := q
      refine ⟨f, ms, h, l, r, sr, rv, ?_⟩
      unfold asgs at q
      cases l <;> exact q
theorem sI : ∀ (i : Itx) {W : Wish} {inB : Bool} {sc : Scope} {X : Cx} {e t : Expr}, Good T Y W C CX lv inB N sc X → mI T N sc i e t = true → PI X t e (rdI Y W (itv T.P C i))
  | .ex i, W, inB, sc, X, e, t, g, h => by
    unfold mI at h
    exact i_ex g (sE i g h)
  | .rng i, W, inB, sc, X, e, t, g, h => by
    unfold mI at h
    split at h
    · simp only [Bool.and_eq_true, decide_eq_true_eq, Bool.not_eq_true'] at h
      exact i_rng g h.1.1.1 h.1.1.2 (sE i g h.1.2) h.2
    · cases h
  | .rng2 i j, W, inB, sc, X, e, t, g, h => by
    unfold mI at h
    split at h
    · simp only [Bool.and_eq_true, decide_eq_true_eq, Bool.not_eq_true'] at h
      obtain ⟨⟨⟨⟨⟨h1, h2⟩, h3⟩, h4⟩, h5⟩, h6⟩ := h
      exact i_rng2 g h1 h2 (sE i g h3) h4 (sE j g h5) h6
    · cases h
  | .zip i j, W, inB, sc, X, e, t, g, h => by
    unfold mI at h
    split at h
    · simp only [Bool.and_eq_true, decide_eq_true_eq, Bool.not_eq_true'] at h
      obtain ⟨⟨⟨⟨⟨⟨h1, h2⟩, h3⟩, h4⟩, h5⟩, h6⟩, h7⟩ := h
      exact i_zip g h7 h1 h2 (sE i g h3) h4 (sE j g h5) h6
    · cases h
  | .enum i, W, inB, sc, X, e, t, g, h => by
    unfold mI at h
    split at h
    · simp only [Bool.and_eq_true, decide_eq_true_eq, Bool.not_eq_true'] at h
      exact i_enum g h.2 h.1.1.1.1 h.1.1.1.2 (sE i g h.1.1.2) h.1.2
    · cases h
  | .keys _, W, inB, sc, X, e, t, g, h => by unfold mI at h; cases h
  | .vals _, W, inB, sc, X, e, t, g, h => by unfold mI at h; cases h
  | .items _, W, inB, sc, X, e, t, g, h => by unfold mI at h; cases h
end
end
end DM
set_option Elab.async false
set_option linter.all false
set_option maxRecDepth 100000
set_option maxHeartbeats 4000000
/-! S13: statements, functions, the module. -/
namespace DM
open PySem L2 PyProof.Rows PySem.Spec
section
variable {T : Tab} {Y : Ctx} {W : Wish} {C : Nat → List MV → MH → R MV} {CX : CXT} {lv : Nat} {N : List Str} {sc : Scope} {X : Cx}
mutual
theorem sS : ∀ (i : St) {e : Stmt}, Good T Y W C CX lv false N sc X → PassesOwn (model X.prog X.w) X.A X.env X.xe → X.env.scope.kind = .function → mS T N sc i e = true → PS X e (rdS Y W (exec T.P C i))
  | .pass, e, g, hp, hk, h => by
    unfold mS at h
    split at h
    · exact s_pass
    · cases h
  | .exp i, e, g, hp, hk, h => by
    unfold mS at h
    split at h
    · simp only [Bool.and_eq_true, Bool.not_eq_true'] at h
      exact s_exp (sE i g h.1) h.2
    · cases h
  | .ret i, e, g, hp, hk, h => by
    unfold mS at h
    split at h
    · exact s_ret (sE i g h)
    · cases h
  | .retN, e, g, hp, hk, h => by
    unfold mS at h
    split at h
    · exact s_retN
    · cases h
  | .set tg i, e, g, hp, hk, h => by
    unfold mS at h
    split at h
    · rename_i t v p
      simp only [Bool.and_eq_true, Bool.not_eq_true'] at h
      obtain ⟨⟨⟨h1, h2⟩, h3⟩, h4⟩ := h
      cases hc : isComp v with
      | false =>
        rw [hc] at h4
        exact s_set g (sE i g h1) (sG tg g h2) hc h4 h3
      | true =>
        rw [hc] at h4
        simp only [if_true] at h4
        split at h4
        · rename_i k elt own tg it c
          unfold mE at h1
          split at h1
          · rename_i x t2 i2 ifs scope pp
            unfold mG at h2
            split at h2
            · rename_i y py
              rw [Bool.and_eq_true] at h2
              simp only [Bool.and_eq_true, Bool.not_eq_true'] at h1
              obtain ⟨⟨⟨⟨⟨⟨⟨q0, q1⟩, q2⟩, q3⟩, q4⟩, q5⟩, q6⟩, q7⟩ := h1
              have how : (((own.map fun k => N[k]?).filterMap id).zip own).map (·.2) = own := by
                refine List.map_snd_zip ?_
                rw [fm_len q0, List.length_map]
                exact Nat.le_refl _
              have hl := s_setLc (p := pp) (pos := p) (o := tgS tg) (i := k) g h2.1 h4 (sI it g q2) (blkOk_by q1) (fun X' g' => sG tg g' q3) (fun X' g' => sC c g' q6) (fun X' g' => sE elt g' q5) (fun j hj => by
                rw [how]
                have := List.all_eq_true.mp q4 j hj
                exact List.contains_iff_mem.mp this) q7 hk
              rw [how] at hl
              exact hl
            · cases h2
          · cases h1
        · cases h4
    · cases h
  | .par is es, e, g, hp, hk, h => by
    unfold mS at h
    split at h
    · split at h
      · simp only [Bool.and_eq_true] at h
        exact s_par g h.1.1.1 h.1.1.2 (sA es g h.1.2) h.2 hk
      · cases h
    · cases h
  | .aug i op v, e, g, hp, hk, h => by
    unfold mS at h
    split at h
    · simp only [Bool.and_eq_true, decide_eq_true_eq] at h
      obtain ⟨⟨⟨h1, h2⟩, h3⟩, h4⟩ := h
      subst h3
      exact s_aug g op h1 h2 (sE v g h4)
    · cases h
  | .augA o f op k, e, g, hp, hk, h => by
    unfold mS at h
    split at h
    · simp only [Bool.and_eq_true, decide_eq_true_eq] at h
      obtain ⟨⟨⟨h1, h2⟩, h3⟩, h4⟩ := h
      subst h2 h3
      exact s_augA g op h1 (sE o g h4)
    · cases h
  | .nev, e, g, hp, hk, h => ⟨fun pins s σ H D I q => by
    obtain ⟨f, ms, h, r, sr, q⟩ := q
    unfold exec at q
    exact q.elim⟩
  | .ite c a b, e, g, hp, hk, h => by
    unfold mS at h
    split at h
    · simp only [Bool.and_eq_true] at h
      exact s_if (sT c g h.1.1).1 (sSs a g hp hk h.1.2) (sSs b g hp hk h.2)
    · cases h
  | .for_ tg it b, e, g, hp, hk, h => by
    unfold mS at h
    split at h
    · simp only [Bool.and_eq_true, Bool.not_eq_true'] at h
      exact s_for g hp (sI it g h.1.1.1) (sG tg g h.1.1.2) (sSs b g hp hk h.1.2) h.2
    · cases h
  | .brk, e, g, hp, hk, h => by
    unfold mS at h
    split at h
    · exact s_brk
    · cases h
  | .cont, e, g, hp, hk, h => by
    unfold mS at h
    split at h
    · exact s_cont
    · cases h
theorem sSs : ∀ (i : Ss) {e : List Stmt}, Good T Y W C CX lv false N sc X → PassesOwn (model X.prog X.w) X.A X.env X.xe → X.env.scope.kind = .function → mSs T N sc i e = true → PSs X e (rdS Y W (execs T.P C i))
  | .nil, e, g, hp, hk, h => by
    unfold mSs at h
    cases e with
    | nil => exact s_nil
    | cons _ _ => cases h
  | .cons s r, e, g, hp, hk, h => by
    unfold mSs at h
    cases e with
    | nil => cases h
    | cons x xs =>
      simp only [Bool.and_eq_true] at h
      exact s_cons (sS s g hp hk h.1) (sSs r g hp hk h.2)
end
end
/-! ### functions -/
theorem SR.start {K : KW} {f : Nat → Addr} {n : Nat} {H : Hp} {N : List Str} {ms : List MV} {vs : List V} {k : Nat} (r : VRs K f n H ms vs) (hk : k = N.length - ms.length) : SR K f n H (ms.map some ++ List.replicate k none) (L2.start N vs) := by
  have hl := r.length
  unfold L2.start
  subst hk
  refine ⟨by simp [hl], fun i v e => ?_⟩
  by_cases hi : i < ms.length
  · rw [List.getElem?_append_left (by simpa using hi), List.getElem?_map] at e
    obtain ⟨m, e1, e2⟩ := Option.map_eq_some_iff.mp e
    cases e2
    obtain ⟨y, e3, r3⟩ := r.get e1
    refine ⟨y, ?_, r3⟩
    rw [List.getElem?_append_left (by rw [List.length_map, ← hl]; exact hi), List.getElem?_map, e3]
    rfl
  · exfalso
    rw [List.getElem?_append_right (by simp; omega)] at e
    obtain ⟨_, e⟩ := List.getElem?_eq_some_iff.mp e
    rw [List.getElem_replicate] at e
    cases e
/-- the i-th def stands at a -/
structure DefAt (T : Tab) (Y : Ctx) (i : Nat) (a : Addr) (fd : FuncData) : Prop where
  ex : ∃ x qual params body scope dvs kws N, FunD Y.K x qual params body scope dvs kws a fd ∧ FnScope N (T.fps i) scope ∧ (T.P.fn i).np = (T.fps i).length ∧ (T.P.fn i).ns = N.length ∧ mSs T N scope (T.P.fn i).body body = true
/-- the module's facts, of no depth -/
structure Stat (T : Tab) (Y : Ctx) (P0 : Program) (w : World) (mg : Str → Option Value) : Prop where
  shw : T.P.shw = shwOf
  Z : Y.Z.fnm = T.fnm
  wo : Y.K.w = w
  kn : ∀ f g, Y.Z.kn f = true → Y.Z.kn g = true → T.fnm f = T.fnm g → f = g
  gl : ∀ g, T.gok g = true → ∃ u v, mg (T.gn g) = some u ∧ RelV v u ∧ ∀ f N H, VR Y.K f N H (T.P.glob g) v
  fd : ∀ i, T.fok i = true → ∃ a fd, mg (T.fname i) = some (.ref a) ∧ DefAt T Y i a fd ∧
    ∀ n kn sh, T.sh i n kn sh = true → ∀ (s : Shared) (us ws : List Value), Y.K.In s.heap → us.length = n → ws.length = kn.length →
      ∃ bs, bs.length = (T.fps i).length ∧ BindsTo s fd ⟨us, (kn.map T.fnm).zip ws⟩ ((T.fps i).zip bs) ∧
        ∀ ms zs vs ys l f N H, pick ms zs sh = some l → Vals vs us → VRs Y.K f N H ms vs → Vals ys ws → VRs Y.K f N H zs ys → ∃ xs, Vals xs bs ∧ VRs Y.K f N H l xs
  at_ : ∀ c f, (T.P.cls c).att f = true → Cls Y.K (Y.Z.ca c) ∧ NoAttr Y.K (Y.Z.ca c) (T.fnm f) ∧ Y.Z.kn f = true
  me : ∀ c m i, fldN m (T.P.cls c).met = some i → Cls Y.K (Y.Z.ca c) ∧ (∀ f, Y.Z.kn f = true → T.fnm f ≠ T.mnm m) ∧ ∃ a fd, Meth Y.K (Y.Z.ca c) (T.mnm m) a ∧ DefAt T Y i a fd ∧
    ∀ n kn sh, T.shm m n kn sh = true → FormS T Y.K i fd n kn sh
  mkc : ∀ c, T.cok c = true → mg (T.cname c) = some (.ref (Y.Z.ca c)) ∧ ∃ a fd, Mk Y.K (Y.Z.ca c) a ∧ DefAt T Y (T.P.cls c).ini a fd ∧
    ∀ n kn sh, T.shc c n kn sh = true → FormS T Y.K (T.P.cls c).ini fd n kn sh
  isf : IsF T.P Y.K Y.Z
  bt : ∀ x ∈ btNames, mg x = none
section
variable {T : Tab} {Y : Ctx} {P0 : Program} {w : World} {mg : Str → Option Value} {base : Heap}
theorem fn_run {k i : Nat} {a : Addr} {fd : FuncData} (Df : DefAt T Y i a fd) (hw : Y.K.w = w) (fc : Fcts T Y (callM T.P k) (L2N.CX P0 w) (2 * k) P0 w mg base) :
    FnG P0 w Y.K mg base (L2N.CX P0 w) (2 * k + 2) a fd (T.fps i) (spM Y T (callM T.P (k + 1)) i) := by
  obtain ⟨x, qual, params, body, scope, dvs, kws, N, F, S, h1, h2, hm⟩ := Df.ex
  refine fnG_of F S (fun vs H Q E h => h.1) fun cdv A outer s H vs Q E hr hG hsp => ?_
  have tk : L2N.Takes (cxOf (L2N.CX P0 w) P0 w Y.K mg base N qual scope a cdv A outer s H E) fun cls d _ H => E cls d H := L2N.takes_of rfl rfl rfl rfl
  refine ⟨_, sSs (T := T) (Y := Y) (W := fun c d _ H => E c d H) (C := callM T.P k) (CX := L2N.CX P0 w) (lv := 2 * k) (N := N) (sc := scope) (T.P.fn i).body
    ⟨rfl, S.nd, rfl, rfl, hw.symm, rfl, hG, hr, fun _ _ => .inl rfl, fun σ => L2N.passAt tk σ, tk, fc⟩ (passes_of rfl) S.kind hm, ?_⟩
  obtain ⟨hl, f, h, ms, r, rv, q⟩ := hsp
  have hml : ms.length = (T.P.fn i).np := by rw [rv.length, hl, h1]
  refine ⟨f, _, h, r, SR.start (ms := ms) (k := (T.P.fn i).ns - (T.P.fn i).np) rv (by rw [h2, hml]), ?_⟩
  have q : G Y (fun c d _ H => E c d H) [] f h H (runFn T.P (callM T.P k) (T.P.fn i) ms h) fun v f' h' H' => ∀ z, VR Y.K f' h'.size H' v z → Q z H' := q
  unfold runFn at q
  rw [if_pos hml] at q
  cases e : execs T.P (callM T.P k) (T.P.fn i).body (ms.map some ++ List.replicate ((T.P.fn i).ns - (T.P.fn i).np) none) h with
  | nx ms1 h1 => rw [e] at q; exact fun f1 H1 σ1 e1 r1 _ => q f1 H1 e1 r1 _ .non
  | rt v h1 => rw [e] at q; exact fun f1 H1 x e1 r1 rx => q f1 H1 e1 r1 x rx
  | ex c l ms1 h1 => rw [e] at q; exact fun f1 H1 σ1 cls d e1 r1 _ x => q f1 H1 cls d e1 r1 x
  | bk ms1 h1 => rw [e] at q; exact q.elim
  | ct ms1 h1 => rw [e] at q; exact q.elim
  | stk => rw [e] at q; exact q.elim
theorem fn_zero {i k : Nat} {a : Addr} {fd : FuncData} : FnG P0 w Y.K mg base (L2N.CX P0 w) k a fd (T.fps i) (spM Y T (callM T.P 0) i) := ⟨fun vs H Q E h => h.1, fun A outer s H args us vs Q E _ _ _ _ _ h => by
  obtain ⟨_, f, h, ms, r, rv, q⟩ := h
  exact q.elim⟩
theorem facts_of {k lv : Nat} (st : Stat T Y P0 w mg) (fn : ∀ i a fd, DefAt T Y i a fd → FnG P0 w Y.K mg base (L2N.CX P0 w) lv a fd (T.fps i) (spM Y T (callM T.P k) i)) : Fcts T Y (callM T.P k) (L2N.CX P0 w) lv P0 w mg base where
  shw := st.shw
  Z := st.Z
  kn := st.kn
  gl := st.gl
  fd := fun i hi => by
    obtain ⟨a, fd, m, D, B⟩ := st.fd i hi
    obtain ⟨x, qual, params, body, scope, dvs, kws, N, F, S, h1, h2, hm⟩ := D.ex
    exact ⟨a, fd, m, F.kp, fn i a fd D, B⟩
  at_ := st.at_
  me := fun c m i e => by
    obtain ⟨c1, c2, a, fd, M, D, B⟩ := st.me c m i e
    exact ⟨c1, c2, a, fd, M, fn i a fd D, B⟩
  mkc := fun c hc => by
    obtain ⟨c1, a, fd, M, D, B⟩ := st.mkc c hc
    exact ⟨c1, a, fd, M, fn _ a fd D, B⟩
  isf := st.isf
  bt := st.bt
  cx := fun outer H s e s' ⟨_, _, _, _, _, _, _, _, _, _, _, _, z⟩ => z.elim
theorem facts_all (st : Stat T Y P0 w mg) : ∀ k, Fcts T Y (callM T.P k) (L2N.CX P0 w) (2 * k) P0 w mg base
  | 0 => facts_of st fun i a fd _ => fn_zero
  | k + 1 => facts_of st fun i a fd D => fn_run D st.wo (facts_all st k)
end
end DM
set_option Elab.async false
set_option linter.all false
set_option maxRecDepth 100000
set_option maxHeartbeats 4000000
/-! S14: a law's end. -/
namespace DM
open PySem L2 PyProof.Rows PySem.Spec
/-! ### forms of calls -/
def mvB : MV → MV → Bool
  | .non, .non => true
  | .bl a, .bl b => a == b
  | .int a, .int b => decide (a = b)
  | .str a, .str b => decide (a = b)
  | _, _ => false
theorem mvB_eq {a b : MV} (h : mvB a b = true) : a = b := by
  cases a <;> cases b <;> first | rfl | (cases h; done) | skip
  · exact congrArg MV.bl (beq_iff_eq.mp h)
  · exact congrArg MV.int (of_decide_eq_true h)
  · exact congrArg MV.str (of_decide_eq_true h)
def srcB : Src → Src → Bool
  | .pos i, .pos j => i == j
  | .kw i, .kw j => i == j
  | .dfl a, .dfl b => mvB a b
  | _, _ => false
theorem srcB_eq {a b : Src} (h : srcB a b = true) : a = b := by
  cases a <;> cases b <;> first | (cases h; done) | skip
  · exact congrArg Src.pos (beq_iff_eq.mp h)
  · exact congrArg Src.kw (beq_iff_eq.mp h)
  · exact congrArg Src.dfl (mvB_eq h)
def shB : List Src → List Src → Bool
  | [], [] => true
  | a :: r, b :: t => srcB a b && shB r t
  | _, _ => false
theorem shB_eq : ∀ {l t : List Src}, shB l t = true → l = t
  | [], [], _ => rfl
  | [], _ :: _, h => by cases h
  | _ :: _, [], h => by cases h
  | a :: r, b :: t, h => by
    unfold shB at h
    rw [Bool.and_eq_true] at h
    rw [srcB_eq h.1, shB_eq h.2]
abbrev Form : Type := Nat × List Nat × List Src
def formB (fs : List Form) (n : Nat) (kn : List Nat) (sh : List Src) : Bool := fs.any fun q => (q.1 == n) && (q.2.1 == kn) && shB q.2.2 sh
theorem formB_in {fs : List Form} {n : Nat} {kn : List Nat} {sh : List Src} (h : formB fs n kn sh = true) : (n, kn, sh) ∈ fs := by
  obtain ⟨⟨a, b, c⟩, hq, e⟩ := List.any_eq_true.mp h
  simp only [Bool.and_eq_true, beq_iff_eq] at e
  obtain ⟨⟨rfl, rfl⟩, e⟩ := e
  rw [← shB_eq e]
  exact hq
/-- by place, by name alone -/
def plainSh (n m : Nat) (sh : List Src) : Bool := sh.all fun
  | .pos i => decide (i < n)
  | .kw i => decide (i < m)
  | .dfl _ => false
def pickU (us ws : List Value) (sh : List Src) : List Value := sh.map fun
  | .pos i => us.getD i .none
  | .kw i => ws.getD i .none
  | .dfl _ => .none
theorem pick_ok {K : KW} {us ws : List Value} {ms zs : List MV} {vs ys : List V} {f : Nat → Addr} {N : Nat} {H : Hp} (r1 : Vals vs us) (v1 : VRs K f N H ms vs) (r2 : Vals ys ws) (v2 : VRs K f N H zs ys) :
    ∀ {sh : List Src} {n m : Nat} {l : List MV}, plainSh n m sh = true → pick ms zs sh = some l → ∃ xs, Vals xs (pickU us ws sh) ∧ VRs K f N H l xs
  | [], n, m, l, _, e => by
    cases e
    exact ⟨[], .nil, .nil⟩
  | .pos i :: r, n, m, l, h, e => by
    unfold plainSh at h
    rw [List.all_cons, Bool.and_eq_true] at h
    unfold pick at e
    cases e1 : ms[i]? with
    | none => rw [e1] at e; cases e
    | some v =>
      rw [e1] at e
      cases e2 : pick ms zs r with
      | none => rw [e2] at e; cases e
      | some t =>
        rw [e2] at e
        cases e
        obtain ⟨xs, x1, x2⟩ := pick_ok r1 v1 r2 v2 (n := n) (m := m) h.2 e2
        obtain ⟨y, e3, ry⟩ := v1.get e1
        obtain ⟨u, e4, ru⟩ := r1.get e3
        refine ⟨y :: xs, .cons ?_ x1, .cons ry x2⟩
        show RelV y (us.getD i .none)
        rw [List.getD_eq_getElem?_getD, e4]
        exact ru
  | .kw i :: r, n, m, l, h, e => by
    unfold plainSh at h
    rw [List.all_cons, Bool.and_eq_true] at h
    unfold pick at e
    cases e1 : zs[i]? with
    | none => rw [e1] at e; cases e
    | some v =>
      rw [e1] at e
      cases e2 : pick ms zs r with
      | none => rw [e2] at e; cases e
      | some t =>
        rw [e2] at e
        cases e
        obtain ⟨xs, x1, x2⟩ := pick_ok r1 v1 r2 v2 (n := n) (m := m) h.2 e2
        obtain ⟨y, e3, ry⟩ := v2.get e1
        obtain ⟨u, e4, ru⟩ := r2.get e3
        refine ⟨y :: xs, .cons ?_ x1, .cons ry x2⟩
        show RelV y (ws.getD i .none)
        rw [List.getD_eq_getElem?_getD, e4]
        exact ru
  | .dfl _ :: r, n, m, l, h, e => by
    unfold plainSh at h
    rw [List.all_cons, Bool.and_eq_true] at h
    cases h.1
/-- what is wanted of a form -/
def FormOk (T : Tab) (K : KW) (i : Nat) (fd : FuncData) (q : Form) : Prop := ∀ (s : Shared) (us ws : List Value), K.In s.heap → us.length = q.1 → ws.length = q.2.1.length →
      ∃ bs, bs.length = (T.fps i).length ∧ BindsTo s fd ⟨us, (q.2.1.map T.fnm).zip ws⟩ ((T.fps i).zip bs) ∧
        ∀ ms zs vs ys l f N H, pick ms zs q.2.2 = some l → Vals vs us → VRs K f N H ms vs → Vals ys ws → VRs K f N H zs ys → ∃ xs, Vals xs bs ∧ VRs K f N H l xs
theorem FormOk.plain {T : Tab} {K : KW} {i : Nat} {fd : FuncData} {q : Form} (h : plainSh q.1 q.2.1.length q.2.2 = true) (hl : q.2.2.length = (T.fps i).length)
    (hb : ∀ (us ws : List Value), us.length = q.1 → ws.length = q.2.1.length → bindArgs fd ⟨us, (q.2.1.map T.fnm).zip ws⟩ = pure ((T.fps i).zip (pickU us ws q.2.2))) : FormOk T K i fd q :=
  fun s us ws _ l1 l2 => ⟨pickU us ws q.2.2, by unfold pickU; rw [List.length_map]; exact hl, .of_eq (hb us ws l1 l2), fun ms zs vs ys l f N H e r1 v1 r2 v2 => pick_ok r1 v1 r2 v2 h e⟩
theorem FormS.plain {T : Tab} {K : KW} {i n : Nat} {kn : List Nat} {sh : List Src} {fd : FuncData} (h : plainSh n kn.length sh = true) (hl : sh.length + 1 = (T.fps i).length)
    (hb : ∀ (u : Value) (us ws : List Value), us.length = n → ws.length = kn.length → bindArgs fd ⟨u :: us, (kn.map T.fnm).zip ws⟩ = pure ((T.fps i).zip (u :: pickU us ws sh))) : FormS T K i fd n kn sh :=
  fun us ws l1 l2 => ⟨pickU us ws sh, by unfold pickU; rw [List.length_map]; exact hl, fun s u _ => .of_eq (hb u us ws l1 l2), fun ms zs vs ys l f N H e r1 v1 r2 v2 => pick_ok r1 v1 r2 v2 h e⟩
/-! forms with defaults -/
def selG {α : Type} (us mz ws : List α) : Nat → List Src → List α
  | _, [] => []
  | j, .pos i :: r => us[i]?.toList ++ selG us mz ws j r
  | j, .kw i :: r => ws[i]?.toList ++ selG us mz ws j r
  | j, .dfl _ :: r => mz[j]?.toList ++ selG us mz ws (j + 1) r
theorem vals_opt {vs : List V} {us : List Value} (r : Vals vs us) (i : Nat) : Vals vs[i]?.toList us[i]?.toList := by
  cases e : vs[i]? with
  | some v =>
    obtain ⟨u, e2, ru⟩ := r.get e
    rw [e2]
    exact .cons ru .nil
  | none =>
    rw [Vals.none_of r e]
    exact .nil
theorem selG_vals {vs mz zs : List V} {us mv ws : List Value} (r1 : Vals vs us) (r2 : Vals mz mv) (r3 : Vals zs ws) : ∀ (sh : List Src) (j : Nat), Vals (selG vs mz zs j sh) (selG us mv ws j sh)
  | [], _ => .nil
  | .pos i :: r, j => .append (vals_opt r1 i) (selG_vals r1 r2 r3 r j)
  | .kw i :: r, j => .append (vals_opt r3 i) (selG_vals r1 r2 r3 r j)
  | .dfl _ :: r, j => .append (vals_opt r2 j) (selG_vals r1 r2 r3 r (j + 1))
/-- the defaults of a form, in order -/
def dfls : List Src → List MV
  | [] => []
  | .dfl v :: r => v :: dfls r
  | _ :: r => dfls r
theorem vrs_opt {K : KW} {f : Nat → Addr} {N : Nat} {H : Hp} {ms : List MV} {vs : List V} (r : VRs K f N H ms vs) {i : Nat} {v : MV} {l : List MV} {xs : List V} (e : ms[i]? = some v) (t : VRs K f N H l xs) : VRs K f N H (v :: l) (vs[i]?.toList ++ xs) := by
  obtain ⟨y, e2, ry⟩ := r.get e
  rw [e2]
  exact .cons ry t
theorem selG_vrs {K : KW} {f : Nat → Addr} {N : Nat} {H : Hp} {ms zs : List MV} {vs ys mz : List V} (v1 : VRs K f N H ms vs) (v2 : VRs K f N H zs ys) :
    ∀ (sh : List Src) (j : Nat) (l : List MV), (∀ k, VRs K f N H (dfls sh)[k]?.toList mz[j + k]?.toList) → pick ms zs sh = some l → VRs K f N H l (selG vs mz ys j sh)
  | [], j, l, _, e => by cases e; exact .nil
  | .pos i :: r, j, l, hd, e => by
    unfold pick at e
    cases e1 : ms[i]? with
    | none => rw [e1] at e; cases e
    | some v =>
      rw [e1] at e
      cases e2 : pick ms zs r with
      | none => rw [e2] at e; cases e
      | some t =>
        rw [e2] at e
        cases e
        exact vrs_opt v1 e1 (selG_vrs v1 v2 r j t hd e2)
  | .kw i :: r, j, l, hd, e => by
    unfold pick at e
    cases e1 : zs[i]? with
    | none => rw [e1] at e; cases e
    | some v =>
      rw [e1] at e
      cases e2 : pick ms zs r with
      | none => rw [e2] at e; cases e
      | some t =>
        rw [e2] at e
        cases e
        exact vrs_opt v2 e1 (selG_vrs v1 v2 r j t hd e2)
  | .dfl d :: r, j, l, hd, e => by
    unfold pick at e
    obtain ⟨t, e1, e2⟩ := Option.map_eq_some_iff.mp e
    subst e2
    have h0 := hd 0
    have ih := selG_vrs v1 v2 r (j + 1) t (fun k => by
      have := hd (k + 1)
      rwa [show j + (k + 1) = j + 1 + k from by omega] at this) e1
    unfold selG
    have h1 : VRs K f N H [d] mz[j]?.toList := h0
    exact h1.append ih
theorem selG_len {α β : Type} {us mz ws : List α} {us' mz' ws' : List β} (h1 : us.length = us'.length) (h2 : mz.length = mz'.length) (h3 : ws.length = ws'.length) : ∀ (sh : List Src) (j : Nat), (selG us mz ws j sh).length = (selG us' mz' ws' j sh).length
  | [], _ => rfl
  | .pos i :: r, j => by
    unfold selG
    rw [List.length_append, List.length_append, selG_len h1 h2 h3 r j]
    congr 1
    by_cases hi : i < us.length
    · rw [List.getElem?_eq_getElem hi, List.getElem?_eq_getElem (h1 ▸ hi)]; rfl
    · rw [List.getElem?_eq_none (by omega), List.getElem?_eq_none (by omega)]; rfl
  | .kw i :: r, j => by
    unfold selG
    rw [List.length_append, List.length_append, selG_len h1 h2 h3 r j]
    congr 1
    by_cases hi : i < ws.length
    · rw [List.getElem?_eq_getElem hi, List.getElem?_eq_getElem (h3 ▸ hi)]; rfl
    · rw [List.getElem?_eq_none (by omega), List.getElem?_eq_none (by omega)]; rfl
  | .dfl _ :: r, j => by
    unfold selG
    rw [List.length_append, List.length_append, selG_len h1 h2 h3 r (j + 1)]
    congr 1
    by_cases hi : j < mz.length
    · rw [List.getElem?_eq_getElem hi, List.getElem?_eq_getElem (h2 ▸ hi)]; rfl
    · rw [List.getElem?_eq_none (by omega), List.getElem?_eq_none (by omega)]; rfl
def selM {α : Type} (sh : List Src) (us mz ws : List α) : List α := match us with
  | u :: us => u :: selG us mz ws 0 sh
  | [] => []
theorem selM_vals {sh : List Src} {vs mz zs : List V} {us mv ws : List Value} (r1 : Vals vs us) (r2 : Vals mz mv) (r3 : Vals zs ws) : Vals (selM sh vs mz zs) (selM sh us mv ws) := by
  cases r1 with
  | nil => exact .nil
  | cons a r1 => exact .cons a (selG_vals r1 r2 r3 _ 0)
theorem vals_non : ∀ n : Nat, Vals (List.replicate n V.non) (List.replicate n Value.none)
  | 0 => .nil
  | n + 1 => .cons rfl (vals_non n)
theorem FormS.of_kb {T : Tab} {K : KW} {i n : Nat} {kn : List Nat} {sh : List Src} {fd : FuncData} {mv : List Value} {mz : List V} (hl : sh.length + 1 = (T.fps i).length) (hp : (selG (List.replicate n V.non) mz (List.replicate kn.length V.non) 0 sh).length = sh.length)
    (kb : KBn K fd (T.fps i) (n + 1) (kn.map T.fnm) (fun us ws => selM sh us mv ws) (fun vs zs => selM sh vs mz zs)) (hv : ∀ f N H k, VRs K f N H (dfls sh)[k]?.toList mz[0 + k]?.toList) : FormS T K i fd n kn sh := fun us ws l1 l2 => by
  have hlen : (selG us mv ws 0 sh).length = sh.length := by
    have := (kb.rel (vals_non (n + 1)) (vals_non kn.length)).length
    have e1 : (selG (List.replicate n Value.none) mv (List.replicate kn.length Value.none) 0 sh).length = sh.length := by
      rw [← hp]
      exact Nat.succ.inj this.symm
    rw [← e1]
    exact selG_len (by rw [l1, List.length_replicate]) rfl (by rw [l2, List.length_replicate]) sh 0
  refine ⟨selG us mv ws 0 sh, by rw [hlen]; exact hl, fun s u hK => kb.to s (u :: us) ws hK (by rw [List.length_cons, l1]) (by rw [List.length_map]; exact l2), fun ms zs vs ys l f N H e r1 v1 r2 v2 => ?_⟩
  have := kb.rel (vs := .non :: vs) (us := .none :: us) (zs := ys) (ws := ws) (.cons rfl r1) r2
  cases this with
  | cons _ t => exact ⟨_, t, selG_vrs v1 v2 sh 0 l (hv f N H) e⟩
theorem FormOk.of_kb {T : Tab} {K : KW} {i : Nat} {q : Form} {fd : FuncData} {mv : List Value} {mz : List V} (hl : q.2.2.length = (T.fps i).length) (hp : (selG (List.replicate q.1 V.non) mz (List.replicate q.2.1.length V.non) 0 q.2.2).length = q.2.2.length)
    (kb : KBn K fd (T.fps i) q.1 (q.2.1.map T.fnm) (fun us ws => selG us mv ws 0 q.2.2) (fun vs zs => selG vs mz zs 0 q.2.2)) (hv : ∀ f N H k, VRs K f N H (dfls q.2.2)[k]?.toList mz[0 + k]?.toList) : FormOk T K i fd q := fun s us ws hK l1 l2 => by
  have hlen : (selG us mv ws 0 q.2.2).length = q.2.2.length := by
    have := (kb.rel (vals_non q.1) (vals_non q.2.1.length)).length
    rw [← hp, this]
    exact selG_len (by rw [l1, List.length_replicate]) rfl (by rw [l2, List.length_replicate]) q.2.2 0
  exact ⟨selG us mv ws 0 q.2.2, by rw [hlen]; exact hl, kb.to s us ws hK l1 (by rw [List.length_map]; exact l2), fun ms zs vs ys l f N H e r1 v1 r2 v2 => ⟨_, kb.rel r1 r2, selG_vrs v1 v2 q.2.2 0 l (hv f N H) e⟩⟩
/-! ### constants of the top -/
def dvM : He.Dv → Option MV
  | .non => some .non
  | .bl b => some (.bl b)
  | .int i => some (.int i)
  | .str x => some (.str x.cps.toList)
  | _ => none
def dvOk : He.Dv → MV → Bool
  | .non, .non => true
  | .bl b, .bl c => b == c
  | .int i, .int j => decide (i = j)
  | .str x, .str s => decide (x = ⟨s.toArray⟩) && txB s
  | _, _ => false
theorem dvOk_vr {K : KW} {f : Nat → Addr} {N : Nat} {H : Hp} {d : He.Dv} {m : MV} (h : dvOk d m = true) : VR K f N H m (d.v K) := by
  cases d <;> cases m <;> first | (cases h; done) | skip
  · exact .non
  · rw [show _ = _ from beq_iff_eq.mp h]; exact .bl
  · rw [show _ = _ from of_decide_eq_true h]; exact .int
  · unfold dvOk at h
    simp only [Bool.and_eq_true, decide_eq_true_eq] at h
    rw [h.1]
    exact .str (txB_ok h.2)
def dvsOk : List He.Dv → List MV → Bool
  | [], [] => true
  | d :: r, m :: t => dvOk d m && dvsOk r t
  | _, _ => false
theorem dvsOk_vr {K : KW} {f : Nat → Addr} {N : Nat} {H : Hp} : ∀ {ds : List He.Dv} {ms : List MV}, dvsOk ds ms = true → VRs K f N H ms (ds.map (He.Dv.v K))
  | [], [], _ => .nil
  | [], _ :: _, h => by cases h
  | _ :: _, [], h => by cases h
  | d :: r, m :: t, h => by
    unfold dvsOk at h
    rw [Bool.and_eq_true] at h
    exact .cons (dvOk_vr h.1) (dvsOk_vr h.2)
theorem gl_lst {K : KW} {f : Nat → Addr} {N : Nat} {H : Hp} {x : Str} {ds : List He.Dv} {ms : List MV} (h : He.lstB K x ds = true) (hd : dvsOk ds ms = true) : VR K f N H (.kl ms) (.ref (He.ga K x)) := by
  have q := He.lstB_ok h fun _ => none
  unfold VR
  refine ⟨_, _, rfl, .inr ?_, dvsOk_vr hd⟩
  rcases q with (q | ⟨o, q⟩) | q
  · cases q
  · cases q
  · exact q
theorem gl_tup {K : KW} {f : Nat → Addr} {N : Nat} {H : Hp} {x : Str} {ds : List He.Dv} {ms : List MV} (h : He.tupB K x ds = true) (hd : dvsOk ds ms = true) : VR K f N H (.tup ms) (.ref (He.ga K x)) :=
  .tup (He.tupB_ok h H) (dvsOk_vr hd)
theorem gl_str {K : KW} {f : Nat → Addr} {N : Nat} {H : Hp} {x : Str} {s : Tx} (h : x = ⟨s.toArray⟩) (ht : txB s = true) : VR K f N H (.str s) (.str x) := by
  rw [h]
  exact .str (txB_ok ht)
theorem fun_one {K : PySem.W.Frag} {x1 x2 q1 q2 : Str} {p1 p2 : Arguments} {b1 b2 : List Stmt} {s1 s2 : Scope} {d1 d2 : List V} {k1 k2 : List (Str × V)} {f : Addr} {fd1 fd2 : FuncData} (F1 : FunD K x1 q1 p1 b1 s1 d1 k1 f fd1) (F2 : FunD K x2 q2 p2 b2 s2 d2 k2 f fd2) : fd1 = fd2 := by
  obtain ⟨_, _, _, _, _, _, _, _, _, _, _, lk1, _⟩ := F1.ex
  obtain ⟨_, _, _, _, _, _, _, _, _, _, _, lk2, _⟩ := F2.ex
  rw [lk1] at lk2
  cases lk2
  rfl
/-! ### classes -/
def inCls (s : Stmt) (j : Nat) : Stmt := match s with
  | .ClassDef _ _ _ b _ _ _ _ _ _ _ => b.getD j (.Pass ⟨0, 0, 0, 0⟩)
  | _ => .Pass ⟨0, 0, 0, 0⟩
theorem fldN_mem {m i : Nat} : ∀ {l : List (Nat × Nat)}, fldN m l = some i → (m, i) ∈ l
  | [], h => by cases h
  | (k, f) :: r, h => by
    unfold fldN at h
    by_cases e : k = m
    · rw [if_pos e] at h
      cases h
      rw [e]
      exact List.mem_cons_self
    · rw [if_neg e] at h
      exact List.mem_cons_of_mem _ (fldN_mem h)
theorem names_inj {l : List Nat} {fnm : Nat → Str} (h : (l.all fun f => l.all fun g => !decide (fnm f = fnm g) || (f == g)) = true) : ∀ f g, l.contains f = true → l.contains g = true → fnm f = fnm g → f = g := by
  intro f g hf hg e
  have h1 := List.all_eq_true.mp h f (List.contains_iff_mem.mp hf)
  have h2 := List.all_eq_true.mp h1 g (List.contains_iff_mem.mp hg)
  rw [e, decide_eq_true rfl] at h2
  exact beq_iff_eq.mp (by simpa using h2)
theorem names_ne {l : List Nat} {fnm : Nat → Str} {y : Str} (h : (l.all fun f => !decide (fnm f = y)) = true) : ∀ f, l.contains f = true → fnm f ≠ y := by
  intro f hf e
  have h1 := List.all_eq_true.mp h f (List.contains_iff_mem.mp hf)
  rw [e, decide_eq_true rfl] at h1
  cases h1
def ttBs : List String := ["NoneType", "bool", "int", "str", "tuple", "list"]
def tyBs : List String := ["int", "bool", "str", "list", "tuple", "dict"]
/-- what isinstance asks of own classes -/
def isfB (K : PySem.W.Frag) (l : List (Nat × Str)) : Bool := l.all fun p => He.Fa.ok K (.cls p.2) && (decide (PySem.W.findIn K (.ref (He.ga K p.2)) "__class__" = some (some (.builtin "object.__class__"))) &&
  (decide (PySem.W.specialIn K (.builtin "object.__class__") "__get__" = some (some (.builtin "getset_descriptor.__get__"))) && (decide (PySem.W.takesIn K (.builtin "object.__class__") = some true) && (decide (PySem.W.mroIn K (He.ga K p.2) (.type "object") = some true) &&
  ((ttBs.all fun S => decide (PySem.W.kitOne K (.type S) (.ref (He.ga K p.2)) = some false)) && ((tyBs.all fun S => decide (PySem.W.kitOne K (.ref (He.ga K p.2)) (.type S) = some false)) &&
  l.all fun q => decide (PySem.W.kitOne K (.ref (He.ga K p.2)) (.ref (He.ga K q.2)) = some (decide (p.1 = q.1)))))))))
theorem isf_of {P : Prog} {K : PySem.W.Frag} {Z : Env1} {l : List (Nat × Str)} (h : isfB K l = true) (_hd : l.all (fun p => l.all fun q => (p.1 == q.1) == decide (p.2 = q.2)) = true) (hx : ∀ {c}, (P.cls c).isx = true → ∃ x, (c, x) ∈ l) (hz : ∀ p ∈ l, Z.ca p.1 = He.ga K p.2) : IsF P K Z := by
  have at_ : ∀ c, (P.cls c).isx = true → ∃ x, (c, x) ∈ l ∧ Z.ca c = He.ga K x := fun c hc => by
    obtain ⟨x, hm⟩ := hx hc
    exact ⟨x, hm, hz _ hm⟩
  have get : ∀ p ∈ l, _ := fun p hp => List.all_eq_true.mp h p hp
  simp only [Bool.and_eq_true, decide_eq_true_eq] at get
  refine ⟨fun c hc => ?_, fun a t ha ht ho b e => ?_⟩
  · obtain ⟨x, hm, ez⟩ := at_ c hc
    obtain ⟨g1, g2, g3, g4, g5, _⟩ := get _ hm
    rw [ez]
    exact ⟨He.cls_ok g1, g2, g3, g4, g5⟩
  · cases a with
    | own a =>
      obtain ⟨x, hm, ez⟩ := at_ a ha
      obtain ⟨_, _, _, _, _, _, g7, g8⟩ := get _ hm
      cases t with
      | own c =>
        obtain ⟨y, hm2, ez2⟩ := at_ c ht
        have := of_decide_eq_true (List.all_eq_true.mp g8 _ hm2)
        cases e
        show PySem.W.kitOne K (.ref (Z.ca a)) (.ref (Z.ca c)) = _
        rw [ez, ez2]
        exact this
      | lookup => cases e
      | value => cases e
      | int => cases e; show PySem.W.kitOne K (.ref (Z.ca a)) _ = _; rw [ez]; exact of_decide_eq_true (List.all_eq_true.mp g7 "int" (by decide))
      | bool => cases e; show PySem.W.kitOne K (.ref (Z.ca a)) _ = _; rw [ez]; exact of_decide_eq_true (List.all_eq_true.mp g7 "bool" (by decide))
      | str => cases e; show PySem.W.kitOne K (.ref (Z.ca a)) _ = _; rw [ez]; exact of_decide_eq_true (List.all_eq_true.mp g7 "str" (by decide))
      | list => cases e; show PySem.W.kitOne K (.ref (Z.ca a)) _ = _; rw [ez]; exact of_decide_eq_true (List.all_eq_true.mp g7 "list" (by decide))
      | tuple => cases e; show PySem.W.kitOne K (.ref (Z.ca a)) _ = _; rw [ez]; exact of_decide_eq_true (List.all_eq_true.mp g7 "tuple" (by decide))
      | dict => cases e; show PySem.W.kitOne K (.ref (Z.ca a)) _ = _; rw [ez]; exact of_decide_eq_true (List.all_eq_true.mp g7 "dict" (by decide))
    | _ =>
      rcases ho with ⟨c, z⟩ | ⟨c, rfl⟩
      · cases z
      · obtain ⟨y, hm2, ez2⟩ := at_ c ht
        obtain ⟨_, _, _, _, _, g6, _⟩ := get _ hm2
        cases e
        show PySem.W.kitOne K _ (.ref (Z.ca c)) = _
        rw [ez2]
        exact of_decide_eq_true (List.all_eq_true.mp g6 _ (by decide))
/-! ### dicts of the top -/
def kdEs (K : PySem.W.Frag) : List (Tx × He.Dv) → List DictEntry → Bool
  | [], [] => true
  | p :: r, e :: t => (match e.key with
    | .str x _ => decide (x = ⟨p.1.toArray⟩)
    | _ => false) && (txB p.1 && (He.relB (p.2.v K) e.val && kdEs K r t))
  | _, _ => false
def kdB (K : PySem.W.Frag) (a : Addr) (l : List (Tx × He.Dv)) : Bool := match K.lookup a with
  | some ⟨_, _, .dict es _, _⟩ => kdEs K l es.toList
  | _ => false
def kdOk : List (Tx × He.Dv) → List (MV × MV) → Bool
  | [], [] => true
  | p :: r, q :: t => mvB q.1 (.str p.1) && dvOk p.2 q.2 && kdOk r t
  | _, _ => false
theorem kdEs_ok {K : KW} {f : Nat → Addr} {N : Nat} {H : Hp} : ∀ {l : List (Tx × He.Dv)} {ms : List (MV × MV)} {es : List DictEntry}, kdEs K l es = true → kdOk l ms = true → KDr K f N H ms es
  | [], ms, es, h, k => by
    cases ms <;> cases es <;> first | (cases h; done) | (cases k; done) | skip
    unfold KDr
    rfl
  | p :: r, ms, es, h, k => by
    cases ms <;> cases es <;> first | (cases h; done) | (cases k; done) | skip
    rename_i q t e es
    unfold kdEs at h
    unfold kdOk at k
    simp only [Bool.and_eq_true] at h k
    obtain ⟨h1, h2, h3, h4⟩ := h
    obtain ⟨⟨k1, k2⟩, k3⟩ := k
    unfold KDr
    split at h1
    · rename_i x tk ek
      have ex := of_decide_eq_true h1
      subst ex
      exact ⟨e, es, p.1, tk, p.2.v K, rfl, mvB_eq k1, ek, txB_ok h2, He.relB_ok h3, dvOk_vr k2, kdEs_ok h4 k3⟩
    · cases h1
theorem gl_kd {K : KW} {f : Nat → Addr} {N : Nat} {H : Hp} {a : Addr} {es : Array DictEntry} {n : Nat} {l : List (Tx × He.Dv)} {ms : List (MV × MV)} (D : KDict K.K K.w a es n) (h : kdB K.K a l = true) (k : kdOk l ms = true) : VR K f N H (.kd ms) (.ref a) := by
  unfold kdB at h
  rw [D.at_] at h
  unfold VR
  exact ⟨a, es, n, rfl, D, kdEs_ok h k⟩
/-! ### the head: what a world may choose -/
def ftx (b : Bool) (f : String → Bool) : String → Bool := fun row => if row = "special-get-raises" then b else f row
def setFT (w : World) (f : String → Bool) : World := { w with params := { w.params with followText := f } }
theorem world_ft (w : World) : setFT w (ftx (w.params.followText "special-get-raises") w.params.followText) = w := by
  have e : ftx (w.params.followText "special-get-raises") w.params.followText = w.params.followText := by
    funext row
    unfold ftx
    split
    · rename_i h; rw [h]
    · rfl
  rw [e]
  rfl
theorem run_of {Pr : World → Prop} (h : ∀ (w : World) (b : Bool), Pr (setFT w (ftx b w.params.followText))) (w : World) : Pr w := by
  have := h w (w.params.followText "special-get-raises")
  rwa [world_ft w] at this
/-! ### the law -/
theorem vrs_ints {K : KW} {f : Nat → Addr} {N : Nat} {H : Hp} : ∀ ns : List Int, VRs K f N H (ns.map MV.int) (ns.map V.int)
  | [] => .nil
  | _ :: r => .cons .int (vrs_ints r)
open PySem.W in
theorem walk_D {l : PySem.W.OpenLaw} {n k : Nat} {q : Program} {loose : List Str} {XP : (Str → Option Value) → Heap → Prop} {YP : World → Heap → Prop} {d : DefRec} {x : Str} {law : Nat} {P : Prog}
    (hn : l.most = some n) (hn2 : n ≤ sizeLine) (hdf : d.params.defaults = []) (hr : Room (2 * k + 2) callerA)
    (pure_ : ∀ ns : List Int, ns.length ≤ n → ∃ h', callM P (k + 1) law [.kl (ns.map MV.int)] ⟨[]⟩ = .ok (.bl true) h')
    (F : ∀ (w : World) (mg : Str → Option Value) (fa : Addr) (h : Heap), YP w h → h.Ns mainGlobals mg → mg d.name = some (.ref fa) →
      ∃ (K : PySem.W.Frag) (T : Tab) (Y : Ctx), K.In h ∧ Y.K.K = K ∧ T.P = P ∧ Stat T Y l.prog w mg ∧ T.fok law = true ∧ T.fname law = d.name ∧ T.fps law = [x] ∧
        ∀ (fd : FuncData), (∃ x' qual params body scope dvs kws, FunD K x' qual params body scope dvs kws fa fd) → ∀ (s : Shared) (u : Value), BindsTo s fd ⟨[u], []⟩ [(x, u)]) :
    PySem.W.WalkO q loose XP YP l.row.toRowW d [] (fun f vs => PySem.call f vs) := by
  refine Att.attach_call hn hdf ?_
  intro w s₀ s₁ mg mb fa o pm cd doc a vs ns G Yh ho hd hcd hmg hobj hints hlen hg
  obtain ⟨K, T, Y, KX, eK, eP, st, ok, en, ep, hb⟩ := F w mg fa _ Yh G.T.g hmg
  subst eK
  have hst := st.fd law ok
  obtain ⟨a', fd, m, D, B⟩ := hst
  obtain ⟨x', qual, params, body, scope, dvs, kws, N, FD, S, n1, n2, hm⟩ := D.ex
  rw [en] at m
  have em : fa = a' := Value.ref.inj (Option.some.inj (hmg.symm.trans m))
  subst em
  refine law_callG (CX := L2N.CX l.prog w) (sp := spM Y T (callM T.P (k + 1)) law) KX G.T.g G.T.b G.T.builtins G.T.nolimit hg hobj hints (Nat.le_trans hlen hn2) hr
    (fun base _ _ => by rw [← ep]; exact fn_run D st.wo (facts_all st k)) (hb fd ⟨_, _, _, _, _, _, _, FD⟩) (fun H hS => ?_) (fun H e s' ⟨_, _, _, _, _, _, _, _, _, _, _, _, z⟩ => z)
  obtain ⟨h', e⟩ := pure_ ns hlen
  refine ⟨by rw [ep]; rfl, fun _ => 0, ⟨[]⟩, [.kl (ns.map MV.int)], ⟨fun n o q => (by cases q), fun n m h1 => absurd h1 (Nat.not_lt_zero _)⟩, .cons ?_ .nil, ?_⟩
  · unfold VR
    exact ⟨a, _, rfl, hS, vrs_ints ns⟩
  · rw [eP, e]
    exact fun f' H' _ _ z rz => rz.bl_inv
end DM
set_option Elab.async false
set_option linter.all false
set_option maxRecDepth 100000
set_option maxHeartbeats 0
/-! printed by gen.py: the head of law k09_whole_enough_by_the_least -/
namespace K09
open PySem PySem.Spec PyProof.Rows L2 DM
abbrev rw_ : PySem.W.OpenLaw := PySem.Challenge.rw_wirenames_k09_whole_enough_by_the_least
def top (i : Nat) : Stmt := rw_.prog.main.body.getD i (.Pass ⟨0, 0, 0, 0⟩)
def N18 : List Str := ["thing"]
def N19 : List Str := ["thing", "least", "most"]
def N20 : List Str := ["self", "lost", "late"]
def N21 : List Str := ["self", "probes", "gap", "wait", "repeats", "period", "life", "parts", "word"]
def N46 : List Str := ["bounds"]
def N33 : List Str := ["thing"]
def N34 : List Str := ["thing"]
def N35 : List Str := ["bounds", "rule"]
def N22 : List Str := ["probes", "gap", "wait"]
def N36 : List Str := ["late", "repeats", "gap"]
def N37 : List Str := ["rule"]
def N38 : List Str := ["bounds", "rule"]
def N39 : List Str := ["bounds", "rule"]
def N49 : List Str := ["bounds", "rule", "long"]
def N50 : List Str := ["bounds", "rule", "is_asked", "lost", "late"]
def N153 : List Str := ["bounds", "gap", "wait", "period", "life", "lost", "late", "probes", "repeats"]
def N2 : List Str := ["script", "at", "cell", "great", "primes", "mixed"]
def N3 : List Str := ["bag", "many", "digit"]
def N23 : List Str := ["thing"]
def N154 : List Str := ["few", "old", "g", "claiming"]
def N40 : List Str := ["ru"]
def N25 : List Str := ["bag", "ends", "found", "claiming", "low", "high"]
def N41 : List Str := ["bag", "found"]
def N26 : List Str := ["parts", "ends", "one", "low", "high"]
def N27 : List Str := ["parts"]
def N157 : List Str := ["bag", "few", "old", "found", "turn", "spot"]
def N158 : List Str := ["held", "parts", "made", "spot", "more", "greater"]
def N159 : List Str := ["script", "at", "bag", "held", "lesser", "turn", "few", "old", "parts", "made", "low", "due"]
def fname : Nat → Str
  | 18 => "is_whole"
  | 19 => "is_within"
  | 46 => "bounds_tuple"
  | 33 => "look_bounds"
  | 34 => "look_rule"
  | 35 => "look_both"
  | 22 => "claiming_of"
  | 36 => "asking_of_repeats"
  | 37 => "claiming_time"
  | 38 => "asking_time"
  | 39 => "mending_time"
  | 49 => "fits"
  | 50 => "is_enough"
  | 153 => "least_rule"
  | 2 => "_law_bag"
  | 3 => "_law_take"
  | 23 => "_law_is_whole"
  | 154 => "_law_least"
  | 40 => "_law_claiming"
  | 25 => "_law_parts"
  | 41 => "_law_good_parts"
  | 26 => "_law_is_rule"
  | 27 => "_law_made_rule"
  | 157 => "_law_near_parts"
  | 158 => "_law_more_right"
  | 159 => "law"
  | _ => ""
def fps : Nat → List Str
  | 18 => ["thing"]
  | 19 => ["thing", "least", "most"]
  | 20 => ["self", "lost", "late"]
  | 21 => ["self", "probes", "gap", "wait", "repeats", "period", "life"]
  | 46 => ["bounds"]
  | 33 => ["thing"]
  | 34 => ["thing"]
  | 35 => ["bounds", "rule"]
  | 22 => ["probes", "gap", "wait"]
  | 36 => ["late", "repeats", "gap"]
  | 37 => ["rule"]
  | 38 => ["bounds", "rule"]
  | 39 => ["bounds", "rule"]
  | 49 => ["bounds", "rule"]
  | 50 => ["bounds", "rule"]
  | 153 => ["bounds", "gap"]
  | 2 => ["script", "at"]
  | 3 => ["bag", "many"]
  | 23 => ["thing"]
  | 154 => ["few", "old", "g"]
  | 40 => ["ru"]
  | 25 => ["bag"]
  | 41 => ["bag"]
  | 26 => ["parts"]
  | 27 => ["parts"]
  | 157 => ["bag", "few", "old"]
  | 158 => ["held", "parts"]
  | 159 => ["script"]
  | _ => []
def fnm : Nat → Str
  | 104 => "lost"
  | 105 => "late"
  | 106 => "probes"
  | 107 => "gap"
  | 108 => "wait"
  | 109 => "repeats"
  | 110 => "period"
  | 111 => "life"
  | _ => ""
def mnm : Nat → Str
  | _ => ""
def gn : Nat → Str
  | 5 => "MOST_LATE"
  | 6 => "MOST_LOST"
  | 7 => "LEAST"
  | 8 => "MOST"
  | _ => ""
def cname : Nat → Str
  | 1 => "Rule"
  | 2 => "Bounds"
  | _ => ""
def fo18 : List Form := [(1, [], [.pos 0])]
def fo19 : List Form := [(3, [], [.pos 0, .pos 1, .pos 2])]
def fo46 : List Form := [(1, [], [.pos 0])]
def fo33 : List Form := [(1, [], [.pos 0])]
def fo34 : List Form := [(1, [], [.pos 0])]
def fo35 : List Form := [(2, [], [.pos 0, .pos 1])]
def fo22 : List Form := [(3, [], [.pos 0, .pos 1, .pos 2])]
def fo36 : List Form := [(3, [], [.pos 0, .pos 1, .pos 2])]
def fo37 : List Form := [(1, [], [.pos 0])]
def fo38 : List Form := [(2, [], [.pos 0, .pos 1])]
def fo39 : List Form := [(2, [], [.pos 0, .pos 1])]
def fo49 : List Form := [(2, [], [.pos 0, .pos 1])]
def fo50 : List Form := [(2, [], [.pos 0, .pos 1])]
def fo153 : List Form := [(1, [107], [.pos 0, .kw 0])]
def fo2 : List Form := [(2, [], [.pos 0, .pos 1])]
def fo3 : List Form := [(2, [], [.pos 0, .pos 1])]
def fo23 : List Form := [(1, [], [.pos 0])]
def fo154 : List Form := [(3, [], [.pos 0, .pos 1, .pos 2])]
def fo40 : List Form := [(1, [], [.pos 0])]
def fo25 : List Form := [(1, [], [.pos 0])]
def fo41 : List Form := [(1, [], [.pos 0])]
def fo26 : List Form := [(1, [], [.pos 0])]
def fo27 : List Form := [(1, [], [.pos 0])]
def fo157 : List Form := [(3, [], [.pos 0, .pos 1, .pos 2])]
def fo158 : List Form := [(2, [], [.pos 0, .pos 1])]
def fo159 : List Form := []
def sh : Nat → Nat → List Nat → List Src → Bool
  | 18 => formB fo18
  | 19 => formB fo19
  | 46 => formB fo46
  | 33 => formB fo33
  | 34 => formB fo34
  | 35 => formB fo35
  | 22 => formB fo22
  | 36 => formB fo36
  | 37 => formB fo37
  | 38 => formB fo38
  | 39 => formB fo39
  | 49 => formB fo49
  | 50 => formB fo50
  | 153 => formB fo153
  | 2 => formB fo2
  | 3 => formB fo3
  | 23 => formB fo23
  | 154 => formB fo154
  | 40 => formB fo40
  | 25 => formB fo25
  | 41 => formB fo41
  | 26 => formB fo26
  | 27 => formB fo27
  | 157 => formB fo157
  | 158 => formB fo158
  | 159 => formB fo159
  | _ => fun _ _ _ => false
def fc1 : List Form := [(0, [106, 107, 108, 109, 110, 111], [.kw 0, .kw 1, .kw 2, .kw 3, .kw 4, .kw 5]), (0, [111, 107, 106, 110, 108, 109], [.kw 2, .kw 1, .kw 4, .kw 5, .kw 3, .kw 0])]
def fc2 : List Form := [(0, [104, 105], [.kw 0, .kw 1])]
def shc : Nat → Nat → List Nat → List Src → Bool
  | 1 => formB fc1
  | 2 => formB fc2
  | _ => fun _ _ _ => false
def shm : Nat → Nat → List Nat → List Src → Bool
  | _ => fun _ _ _ => false
def fnos : List Nat := [18, 19, 46, 33, 34, 35, 22, 36, 37, 38, 39, 49, 50, 153, 2, 3, 23, 154, 40, 25, 41, 26, 27, 157, 158, 159]
def gnos : List Nat := [5, 6, 7, 8]
def cnos : List Nat := [1, 2]
def T : Tab := { P := P shwOf, fnm := fnm, gn := gn, gok := fun i => gnos.contains i, fname := fname, fok := fun i => fnos.contains i, fps := fps, cname := cname, cok := fun i => cnos.contains i, shc := shc, shm := shm, mnm := mnm, sh := sh }
abbrev st18 : Stmt := top 5
theorem m18 : mSs T N18 (defScope st18) (fns 18).body (defBody st18) = true := by decide +kernel
theorem sc18 : FnScope N18 (fps 18) (defScope st18) := ⟨rfl, rfl, rfl, by decide +kernel, rfl, by decide +kernel, by decide +kernel⟩
def d18 : He.DefD := ⟨("is_whole", none), "is_whole", "is_whole", defArgs st18, defBody st18, defScope st18, [], []⟩
abbrev st19 : Stmt := top 11
theorem m19 : mSs T N19 (defScope st19) (fns 19).body (defBody st19) = true := by decide +kernel
theorem sc19 : FnScope N19 (fps 19) (defScope st19) := ⟨rfl, rfl, rfl, by decide +kernel, rfl, by decide +kernel, by decide +kernel⟩
def d19 : He.DefD := ⟨("is_within", none), "is_within", "is_within", defArgs st19, defBody st19, defScope st19, [], []⟩
abbrev st20 : Stmt := inCls (top 12) 0
theorem m20 : mSs T N20 (defScope st20) (fns 20).body (defBody st20) = true := by decide +kernel
theorem sc20 : FnScope N20 (fps 20) (defScope st20) := ⟨rfl, rfl, rfl, by decide +kernel, rfl, by decide +kernel, by decide +kernel⟩
def d20 : He.DefD := ⟨("Bounds", some "__init__"), "__init__", "Bounds.__init__", defArgs st20, defBody st20, defScope st20, [], [("lost", .int 1), ("late", .int 2)]⟩
abbrev st21 : Stmt := inCls (top 13) 0
theorem m21 : mSs T N21 (defScope st21) (fns 21).body (defBody st21) = true := by decide +kernel
theorem sc21 : FnScope N21 (fps 21) (defScope st21) := ⟨rfl, rfl, rfl, by decide +kernel, rfl, by decide +kernel, by decide +kernel⟩
def d21 : He.DefD := ⟨("Rule", some "__init__"), "__init__", "Rule.__init__", defArgs st21, defBody st21, defScope st21, [], [("gap", .int 1)]⟩
abbrev st46 : Stmt := top 14
theorem m46 : mSs T N46 (defScope st46) (fns 46).body (defBody st46) = true := by decide +kernel
theorem sc46 : FnScope N46 (fps 46) (defScope st46) := ⟨rfl, rfl, rfl, by decide +kernel, rfl, by decide +kernel, by decide +kernel⟩
def d46 : He.DefD := ⟨("bounds_tuple", none), "bounds_tuple", "bounds_tuple", defArgs st46, defBody st46, defScope st46, [], []⟩
abbrev st33 : Stmt := top 16
theorem m33 : mSs T N33 (defScope st33) (fns 33).body (defBody st33) = true := by decide +kernel
theorem sc33 : FnScope N33 (fps 33) (defScope st33) := ⟨rfl, rfl, rfl, by decide +kernel, rfl, by decide +kernel, by decide +kernel⟩
def d33 : He.DefD := ⟨("look_bounds", none), "look_bounds", "look_bounds", defArgs st33, defBody st33, defScope st33, [], []⟩
abbrev st34 : Stmt := top 17
theorem m34 : mSs T N34 (defScope st34) (fns 34).body (defBody st34) = true := by decide +kernel
theorem sc34 : FnScope N34 (fps 34) (defScope st34) := ⟨rfl, rfl, rfl, by decide +kernel, rfl, by decide +kernel, by decide +kernel⟩
def d34 : He.DefD := ⟨("look_rule", none), "look_rule", "look_rule", defArgs st34, defBody st34, defScope st34, [], []⟩
abbrev st35 : Stmt := top 18
theorem m35 : mSs T N35 (defScope st35) (fns 35).body (defBody st35) = true := by decide +kernel
theorem sc35 : FnScope N35 (fps 35) (defScope st35) := ⟨rfl, rfl, rfl, by decide +kernel, rfl, by decide +kernel, by decide +kernel⟩
def d35 : He.DefD := ⟨("look_both", none), "look_both", "look_both", defArgs st35, defBody st35, defScope st35, [], []⟩
abbrev st22 : Stmt := top 19
theorem m22 : mSs T N22 (defScope st22) (fns 22).body (defBody st22) = true := by decide +kernel
theorem sc22 : FnScope N22 (fps 22) (defScope st22) := ⟨rfl, rfl, rfl, by decide +kernel, rfl, by decide +kernel, by decide +kernel⟩
def d22 : He.DefD := ⟨("claiming_of", none), "claiming_of", "claiming_of", defArgs st22, defBody st22, defScope st22, [], []⟩
abbrev st36 : Stmt := top 20
theorem m36 : mSs T N36 (defScope st36) (fns 36).body (defBody st36) = true := by decide +kernel
theorem sc36 : FnScope N36 (fps 36) (defScope st36) := ⟨rfl, rfl, rfl, by decide +kernel, rfl, by decide +kernel, by decide +kernel⟩
def d36 : He.DefD := ⟨("asking_of_repeats", none), "asking_of_repeats", "asking_of_repeats", defArgs st36, defBody st36, defScope st36, [], []⟩
abbrev st37 : Stmt := top 21
theorem m37 : mSs T N37 (defScope st37) (fns 37).body (defBody st37) = true := by decide +kernel
theorem sc37 : FnScope N37 (fps 37) (defScope st37) := ⟨rfl, rfl, rfl, by decide +kernel, rfl, by decide +kernel, by decide +kernel⟩
def d37 : He.DefD := ⟨("claiming_time", none), "claiming_time", "claiming_time", defArgs st37, defBody st37, defScope st37, [], []⟩
abbrev st38 : Stmt := top 22
theorem m38 : mSs T N38 (defScope st38) (fns 38).body (defBody st38) = true := by decide +kernel
theorem sc38 : FnScope N38 (fps 38) (defScope st38) := ⟨rfl, rfl, rfl, by decide +kernel, rfl, by decide +kernel, by decide +kernel⟩
def d38 : He.DefD := ⟨("asking_time", none), "asking_time", "asking_time", defArgs st38, defBody st38, defScope st38, [], []⟩
abbrev st39 : Stmt := top 23
theorem m39 : mSs T N39 (defScope st39) (fns 39).body (defBody st39) = true := by decide +kernel
theorem sc39 : FnScope N39 (fps 39) (defScope st39) := ⟨rfl, rfl, rfl, by decide +kernel, rfl, by decide +kernel, by decide +kernel⟩
def d39 : He.DefD := ⟨("mending_time", none), "mending_time", "mending_time", defArgs st39, defBody st39, defScope st39, [], []⟩
abbrev st49 : Stmt := top 24
theorem m49 : mSs T N49 (defScope st49) (fns 49).body (defBody st49) = true := by decide +kernel
theorem sc49 : FnScope N49 (fps 49) (defScope st49) := ⟨rfl, rfl, rfl, by decide +kernel, rfl, by decide +kernel, by decide +kernel⟩
def d49 : He.DefD := ⟨("fits", none), "fits", "fits", defArgs st49, defBody st49, defScope st49, [], []⟩
abbrev st50 : Stmt := top 25
theorem m50 : mSs T N50 (defScope st50) (fns 50).body (defBody st50) = true := by decide +kernel
theorem sc50 : FnScope N50 (fps 50) (defScope st50) := ⟨rfl, rfl, rfl, by decide +kernel, rfl, by decide +kernel, by decide +kernel⟩
def d50 : He.DefD := ⟨("is_enough", none), "is_enough", "is_enough", defArgs st50, defBody st50, defScope st50, [], []⟩
abbrev st153 : Stmt := top 26
theorem m153 : mSs T N153 (defScope st153) (fns 153).body (defBody st153) = true := by decide +kernel
theorem sc153 : FnScope N153 (fps 153) (defScope st153) := ⟨rfl, rfl, rfl, by decide +kernel, rfl, by decide +kernel, by decide +kernel⟩
def d153 : He.DefD := ⟨("least_rule", none), "least_rule", "least_rule", defArgs st153, defBody st153, defScope st153, [], [("gap", .int 1)]⟩
abbrev st2 : Stmt := top 28
theorem m2 : mSs T N2 (defScope st2) (fns 2).body (defBody st2) = true := by decide +kernel
theorem sc2 : FnScope N2 (fps 2) (defScope st2) := ⟨rfl, rfl, rfl, by decide +kernel, rfl, by decide +kernel, by decide +kernel⟩
def d2 : He.DefD := ⟨("_law_bag", none), "_law_bag", "_law_bag", defArgs st2, defBody st2, defScope st2, [], []⟩
abbrev st3 : Stmt := top 29
theorem m3 : mSs T N3 (defScope st3) (fns 3).body (defBody st3) = true := by decide +kernel
theorem sc3 : FnScope N3 (fps 3) (defScope st3) := ⟨rfl, rfl, rfl, by decide +kernel, rfl, by decide +kernel, by decide +kernel⟩
def d3 : He.DefD := ⟨("_law_take", none), "_law_take", "_law_take", defArgs st3, defBody st3, defScope st3, [], []⟩
abbrev st23 : Stmt := top 30
theorem m23 : mSs T N23 (defScope st23) (fns 23).body (defBody st23) = true := by decide +kernel
theorem sc23 : FnScope N23 (fps 23) (defScope st23) := ⟨rfl, rfl, rfl, by decide +kernel, rfl, by decide +kernel, by decide +kernel⟩
def d23 : He.DefD := ⟨("_law_is_whole", none), "_law_is_whole", "_law_is_whole", defArgs st23, defBody st23, defScope st23, [], []⟩
abbrev st154 : Stmt := top 31
theorem m154 : mSs T N154 (defScope st154) (fns 154).body (defBody st154) = true := by decide +kernel
theorem sc154 : FnScope N154 (fps 154) (defScope st154) := ⟨rfl, rfl, rfl, by decide +kernel, rfl, by decide +kernel, by decide +kernel⟩
def d154 : He.DefD := ⟨("_law_least", none), "_law_least", "_law_least", defArgs st154, defBody st154, defScope st154, [], []⟩
abbrev st40 : Stmt := top 32
theorem m40 : mSs T N40 (defScope st40) (fns 40).body (defBody st40) = true := by decide +kernel
theorem sc40 : FnScope N40 (fps 40) (defScope st40) := ⟨rfl, rfl, rfl, by decide +kernel, rfl, by decide +kernel, by decide +kernel⟩
def d40 : He.DefD := ⟨("_law_claiming", none), "_law_claiming", "_law_claiming", defArgs st40, defBody st40, defScope st40, [], []⟩
abbrev st25 : Stmt := top 33
theorem m25 : mSs T N25 (defScope st25) (fns 25).body (defBody st25) = true := by decide +kernel
theorem sc25 : FnScope N25 (fps 25) (defScope st25) := ⟨rfl, rfl, rfl, by decide +kernel, rfl, by decide +kernel, by decide +kernel⟩
def d25 : He.DefD := ⟨("_law_parts", none), "_law_parts", "_law_parts", defArgs st25, defBody st25, defScope st25, [], []⟩
abbrev st41 : Stmt := top 34
theorem m41 : mSs T N41 (defScope st41) (fns 41).body (defBody st41) = true := by decide +kernel
theorem sc41 : FnScope N41 (fps 41) (defScope st41) := ⟨rfl, rfl, rfl, by decide +kernel, rfl, by decide +kernel, by decide +kernel⟩
def d41 : He.DefD := ⟨("_law_good_parts", none), "_law_good_parts", "_law_good_parts", defArgs st41, defBody st41, defScope st41, [], []⟩
abbrev st26 : Stmt := top 35
theorem m26 : mSs T N26 (defScope st26) (fns 26).body (defBody st26) = true := by decide +kernel
theorem sc26 : FnScope N26 (fps 26) (defScope st26) := ⟨rfl, rfl, rfl, by decide +kernel, rfl, by decide +kernel, by decide +kernel⟩
def d26 : He.DefD := ⟨("_law_is_rule", none), "_law_is_rule", "_law_is_rule", defArgs st26, defBody st26, defScope st26, [], []⟩
abbrev st27 : Stmt := top 36
theorem m27 : mSs T N27 (defScope st27) (fns 27).body (defBody st27) = true := by decide +kernel
theorem sc27 : FnScope N27 (fps 27) (defScope st27) := ⟨rfl, rfl, rfl, by decide +kernel, rfl, by decide +kernel, by decide +kernel⟩
def d27 : He.DefD := ⟨("_law_made_rule", none), "_law_made_rule", "_law_made_rule", defArgs st27, defBody st27, defScope st27, [], []⟩
abbrev st157 : Stmt := top 37
theorem m157 : mSs T N157 (defScope st157) (fns 157).body (defBody st157) = true := by decide +kernel
theorem sc157 : FnScope N157 (fps 157) (defScope st157) := ⟨rfl, rfl, rfl, by decide +kernel, rfl, by decide +kernel, by decide +kernel⟩
def d157 : He.DefD := ⟨("_law_near_parts", none), "_law_near_parts", "_law_near_parts", defArgs st157, defBody st157, defScope st157, [], []⟩
abbrev st158 : Stmt := top 38
theorem m158 : mSs T N158 (defScope st158) (fns 158).body (defBody st158) = true := by decide +kernel
theorem sc158 : FnScope N158 (fps 158) (defScope st158) := ⟨rfl, rfl, rfl, by decide +kernel, rfl, by decide +kernel, by decide +kernel⟩
def d158 : He.DefD := ⟨("_law_more_right", none), "_law_more_right", "_law_more_right", defArgs st158, defBody st158, defScope st158, [], []⟩
abbrev st159 : Stmt := top 39
theorem m159 : mSs T N159 (defScope st159) (fns 159).body (defBody st159) = true := by decide +kernel
theorem sc159 : FnScope N159 (fps 159) (defScope st159) := ⟨rfl, rfl, rfl, by decide +kernel, rfl, by decide +kernel, by decide +kernel⟩
def d159 : He.DefD := ⟨("law", none), "law", "law", defArgs st159, defBody st159, defScope st159, [], []⟩
def dfn : List He.DefD := [d18, d19, d20, d21, d46, d33, d34, d35, d22, d36, d37, d38, d39, d49, d50, d153, d2, d3, d23, d154, d40, d25, d41, d26, d27, d157, d158, d159]
def dfa : List He.Fa := [.glo "is_whole", .glo "is_within", .glo "bounds_tuple", .glo "look_bounds", .glo "look_rule", .glo "look_both", .glo "claiming_of", .glo "asking_of_repeats", .glo "claiming_time", .glo "asking_time", .glo "mending_time", .glo "fits", .glo "is_enough", .glo "least_rule", .glo "_law_bag", .glo "_law_take", .glo "_law_is_whole", .glo "_law_least", .glo "_law_claiming", .glo "_law_parts", .glo "_law_good_parts", .glo "_law_is_rule", .glo "_law_made_rule", .glo "_law_near_parts", .glo "_law_more_right", .glo "law", .free "len", .free "abs", .free "max", .free "min", .free "repr", .free "list", .free "tuple", .free "set", .free "sorted", .free "int", .free "str", .free "all", .free "any", .free "isinstance", .free "range", .free "bool", .free "dict", .free "zip", .free "enumerate", .free "LookupError", .free "ValueError", .glo "Rule", .cls "Rule", .mkr "Rule", .noat "Rule" "lost", .noat "Rule" "late", .noat "Rule" "probes", .noat "Rule" "gap", .noat "Rule" "wait", .noat "Rule" "repeats", .noat "Rule" "period", .noat "Rule" "life", .glo "Bounds", .cls "Bounds", .mkr "Bounds", .noat "Bounds" "lost", .noat "Bounds" "late", .noat "Bounds" "probes", .noat "Bounds" "gap", .noat "Bounds" "wait", .noat "Bounds" "repeats", .noat "Bounds" "period", .noat "Bounds" "life"]
def isn : List (Nat × Str) := [(1, "Rule"), (2, "Bounds")]
def ex5 (K : PySem.W.Frag) : Bool := He.Fa.ok K (.int "MOST_LATE" 5)
def ex6 (K : PySem.W.Frag) : Bool := He.Fa.ok K (.int "MOST_LOST" 3)
def ex7 (K : PySem.W.Frag) : Bool := kdB K (He.ga K "LEAST") [([112, 114, 111, 98, 101, 115], .int 0), ([103, 97, 112], .int 1), ([119, 97, 105, 116], .int 0), ([114, 101, 112, 101, 97, 116, 115], .int 0), ([112, 101, 114, 105, 111, 100], .int 1), ([108, 105, 102, 101], .int 1)] && He.Fa.ok K (.glo "LEAST")
def ex8 (K : PySem.W.Frag) : Bool := kdB K (He.ga K "MOST") [([112, 114, 111, 98, 101, 115], .int 9), ([103, 97, 112], .int 5), ([119, 97, 105, 116], .int 99), ([114, 101, 112, 101, 97, 116, 115], .int 9), ([112, 101, 114, 105, 111, 100], .int 400), ([108, 105, 102, 101], .int 400)] && He.Fa.ok K (.glo "MOST")
def dex (K : PySem.W.Frag) : Bool := isfB K isn && ex5 K && ex6 K && ex7 K && ex8 K
theorem dex_all {K : PySem.W.Frag} (h : dex K = true) : isfB K isn = true ∧ ex5 K = true ∧ ex6 K = true ∧ ex7 K = true ∧ ex8 K = true := by
  unfold dex at h
  simpa only [Bool.and_eq_true, and_assoc] using h
def dtab : List He.Tab := [(fun K => He.ga K "LEAST", (["probes", "gap", "wait", "repeats", "period", "life"] : List Str)), (fun K => He.ga K "MOST", (["probes", "gap", "wait", "repeats", "period", "life"] : List Str))]
theorem fo18_18_ok {K : KW} {x qual : Str} {body : List Stmt} {scope : Scope} {f : Addr} {fd : FuncData} (F : FunD K x qual (defArgs st18) body scope [] [] f fd) : ∀ q ∈ fo18, FormOk T K 18 fd q := by
  intro q hq
  simp only [fo18, List.mem_cons, List.not_mem_nil, or_false] at hq
  rcases hq with rfl
  · obtain ⟨oc, od, dV, kV, doc, pm, an, cdv, ct, osl, rfl, lk, hcd, hD, hK⟩ := F.ex
    have eD : dV = .none := by
      rcases hD with ⟨_, e⟩ | ⟨e, _⟩
      · exact e
      · exact absurd rfl e
    subst eD
    exact FormOk.plain (by decide) (by decide) fun us ws hu hw => match us, ws, hu, hw with | [_], [], _, _ => rfl
theorem fo19_19_ok {K : KW} {x qual : Str} {body : List Stmt} {scope : Scope} {f : Addr} {fd : FuncData} (F : FunD K x qual (defArgs st19) body scope [] [] f fd) : ∀ q ∈ fo19, FormOk T K 19 fd q := by
  intro q hq
  simp only [fo19, List.mem_cons, List.not_mem_nil, or_false] at hq
  rcases hq with rfl
  · obtain ⟨oc, od, dV, kV, doc, pm, an, cdv, ct, osl, rfl, lk, hcd, hD, hK⟩ := F.ex
    have eD : dV = .none := by
      rcases hD with ⟨_, e⟩ | ⟨e, _⟩
      · exact e
      · exact absurd rfl e
    subst eD
    exact FormOk.plain (by decide) (by decide) fun us ws hu hw => match us, ws, hu, hw with | [_, _, _], [], _, _ => rfl
theorem fo46_46_ok {K : KW} {x qual : Str} {body : List Stmt} {scope : Scope} {f : Addr} {fd : FuncData} (F : FunD K x qual (defArgs st46) body scope [] [] f fd) : ∀ q ∈ fo46, FormOk T K 46 fd q := by
  intro q hq
  simp only [fo46, List.mem_cons, List.not_mem_nil, or_false] at hq
  rcases hq with rfl
  · obtain ⟨oc, od, dV, kV, doc, pm, an, cdv, ct, osl, rfl, lk, hcd, hD, hK⟩ := F.ex
    have eD : dV = .none := by
      rcases hD with ⟨_, e⟩ | ⟨e, _⟩
      · exact e
      · exact absurd rfl e
    subst eD
    exact FormOk.plain (by decide) (by decide) fun us ws hu hw => match us, ws, hu, hw with | [_], [], _, _ => rfl
theorem fo33_33_ok {K : KW} {x qual : Str} {body : List Stmt} {scope : Scope} {f : Addr} {fd : FuncData} (F : FunD K x qual (defArgs st33) body scope [] [] f fd) : ∀ q ∈ fo33, FormOk T K 33 fd q := by
  intro q hq
  simp only [fo33, List.mem_cons, List.not_mem_nil, or_false] at hq
  rcases hq with rfl
  · obtain ⟨oc, od, dV, kV, doc, pm, an, cdv, ct, osl, rfl, lk, hcd, hD, hK⟩ := F.ex
    have eD : dV = .none := by
      rcases hD with ⟨_, e⟩ | ⟨e, _⟩
      · exact e
      · exact absurd rfl e
    subst eD
    exact FormOk.plain (by decide) (by decide) fun us ws hu hw => match us, ws, hu, hw with | [_], [], _, _ => rfl
theorem fo34_34_ok {K : KW} {x qual : Str} {body : List Stmt} {scope : Scope} {f : Addr} {fd : FuncData} (F : FunD K x qual (defArgs st34) body scope [] [] f fd) : ∀ q ∈ fo34, FormOk T K 34 fd q := by
  intro q hq
  simp only [fo34, List.mem_cons, List.not_mem_nil, or_false] at hq
  rcases hq with rfl
  · obtain ⟨oc, od, dV, kV, doc, pm, an, cdv, ct, osl, rfl, lk, hcd, hD, hK⟩ := F.ex
    have eD : dV = .none := by
      rcases hD with ⟨_, e⟩ | ⟨e, _⟩
      · exact e
      · exact absurd rfl e
    subst eD
    exact FormOk.plain (by decide) (by decide) fun us ws hu hw => match us, ws, hu, hw with | [_], [], _, _ => rfl
theorem fo35_35_ok {K : KW} {x qual : Str} {body : List Stmt} {scope : Scope} {f : Addr} {fd : FuncData} (F : FunD K x qual (defArgs st35) body scope [] [] f fd) : ∀ q ∈ fo35, FormOk T K 35 fd q := by
  intro q hq
  simp only [fo35, List.mem_cons, List.not_mem_nil, or_false] at hq
  rcases hq with rfl
  · obtain ⟨oc, od, dV, kV, doc, pm, an, cdv, ct, osl, rfl, lk, hcd, hD, hK⟩ := F.ex
    have eD : dV = .none := by
      rcases hD with ⟨_, e⟩ | ⟨e, _⟩
      · exact e
      · exact absurd rfl e
    subst eD
    exact FormOk.plain (by decide) (by decide) fun us ws hu hw => match us, ws, hu, hw with | [_, _], [], _, _ => rfl
theorem fo22_22_ok {K : KW} {x qual : Str} {body : List Stmt} {scope : Scope} {f : Addr} {fd : FuncData} (F : FunD K x qual (defArgs st22) body scope [] [] f fd) : ∀ q ∈ fo22, FormOk T K 22 fd q := by
  intro q hq
  simp only [fo22, List.mem_cons, List.not_mem_nil, or_false] at hq
  rcases hq with rfl
  · obtain ⟨oc, od, dV, kV, doc, pm, an, cdv, ct, osl, rfl, lk, hcd, hD, hK⟩ := F.ex
    have eD : dV = .none := by
      rcases hD with ⟨_, e⟩ | ⟨e, _⟩
      · exact e
      · exact absurd rfl e
    subst eD
    exact FormOk.plain (by decide) (by decide) fun us ws hu hw => match us, ws, hu, hw with | [_, _, _], [], _, _ => rfl
theorem fo36_36_ok {K : KW} {x qual : Str} {body : List Stmt} {scope : Scope} {f : Addr} {fd : FuncData} (F : FunD K x qual (defArgs st36) body scope [] [] f fd) : ∀ q ∈ fo36, FormOk T K 36 fd q := by
  intro q hq
  simp only [fo36, List.mem_cons, List.not_mem_nil, or_false] at hq
  rcases hq with rfl
  · obtain ⟨oc, od, dV, kV, doc, pm, an, cdv, ct, osl, rfl, lk, hcd, hD, hK⟩ := F.ex
    have eD : dV = .none := by
      rcases hD with ⟨_, e⟩ | ⟨e, _⟩
      · exact e
      · exact absurd rfl e
    subst eD
    exact FormOk.plain (by decide) (by decide) fun us ws hu hw => match us, ws, hu, hw with | [_, _, _], [], _, _ => rfl
theorem fo37_37_ok {K : KW} {x qual : Str} {body : List Stmt} {scope : Scope} {f : Addr} {fd : FuncData} (F : FunD K x qual (defArgs st37) body scope [] [] f fd) : ∀ q ∈ fo37, FormOk T K 37 fd q := by
  intro q hq
  simp only [fo37, List.mem_cons, List.not_mem_nil, or_false] at hq
  rcases hq with rfl
  · obtain ⟨oc, od, dV, kV, doc, pm, an, cdv, ct, osl, rfl, lk, hcd, hD, hK⟩ := F.ex
    have eD : dV = .none := by
      rcases hD with ⟨_, e⟩ | ⟨e, _⟩
      · exact e
      · exact absurd rfl e
    subst eD
    exact FormOk.plain (by decide) (by decide) fun us ws hu hw => match us, ws, hu, hw with | [_], [], _, _ => rfl
theorem fo38_38_ok {K : KW} {x qual : Str} {body : List Stmt} {scope : Scope} {f : Addr} {fd : FuncData} (F : FunD K x qual (defArgs st38) body scope [] [] f fd) : ∀ q ∈ fo38, FormOk T K 38 fd q := by
  intro q hq
  simp only [fo38, List.mem_cons, List.not_mem_nil, or_false] at hq
  rcases hq with rfl
  · obtain ⟨oc, od, dV, kV, doc, pm, an, cdv, ct, osl, rfl, lk, hcd, hD, hK⟩ := F.ex
    have eD : dV = .none := by
      rcases hD with ⟨_, e⟩ | ⟨e, _⟩
      · exact e
      · exact absurd rfl e
    subst eD
    exact FormOk.plain (by decide) (by decide) fun us ws hu hw => match us, ws, hu, hw with | [_, _], [], _, _ => rfl
theorem fo39_39_ok {K : KW} {x qual : Str} {body : List Stmt} {scope : Scope} {f : Addr} {fd : FuncData} (F : FunD K x qual (defArgs st39) body scope [] [] f fd) : ∀ q ∈ fo39, FormOk T K 39 fd q := by
  intro q hq
  simp only [fo39, List.mem_cons, List.not_mem_nil, or_false] at hq
  rcases hq with rfl
  · obtain ⟨oc, od, dV, kV, doc, pm, an, cdv, ct, osl, rfl, lk, hcd, hD, hK⟩ := F.ex
    have eD : dV = .none := by
      rcases hD with ⟨_, e⟩ | ⟨e, _⟩
      · exact e
      · exact absurd rfl e
    subst eD
    exact FormOk.plain (by decide) (by decide) fun us ws hu hw => match us, ws, hu, hw with | [_, _], [], _, _ => rfl
theorem fo49_49_ok {K : KW} {x qual : Str} {body : List Stmt} {scope : Scope} {f : Addr} {fd : FuncData} (F : FunD K x qual (defArgs st49) body scope [] [] f fd) : ∀ q ∈ fo49, FormOk T K 49 fd q := by
  intro q hq
  simp only [fo49, List.mem_cons, List.not_mem_nil, or_false] at hq
  rcases hq with rfl
  · obtain ⟨oc, od, dV, kV, doc, pm, an, cdv, ct, osl, rfl, lk, hcd, hD, hK⟩ := F.ex
    have eD : dV = .none := by
      rcases hD with ⟨_, e⟩ | ⟨e, _⟩
      · exact e
      · exact absurd rfl e
    subst eD
    exact FormOk.plain (by decide) (by decide) fun us ws hu hw => match us, ws, hu, hw with | [_, _], [], _, _ => rfl
theorem fo50_50_ok {K : KW} {x qual : Str} {body : List Stmt} {scope : Scope} {f : Addr} {fd : FuncData} (F : FunD K x qual (defArgs st50) body scope [] [] f fd) : ∀ q ∈ fo50, FormOk T K 50 fd q := by
  intro q hq
  simp only [fo50, List.mem_cons, List.not_mem_nil, or_false] at hq
  rcases hq with rfl
  · obtain ⟨oc, od, dV, kV, doc, pm, an, cdv, ct, osl, rfl, lk, hcd, hD, hK⟩ := F.ex
    have eD : dV = .none := by
      rcases hD with ⟨_, e⟩ | ⟨e, _⟩
      · exact e
      · exact absurd rfl e
    subst eD
    exact FormOk.plain (by decide) (by decide) fun us ws hu hw => match us, ws, hu, hw with | [_, _], [], _, _ => rfl
theorem fo153_153_ok {K : KW} {x qual : Str} {body : List Stmt} {scope : Scope} {f : Addr} {fd : FuncData} (F : FunD K x qual (defArgs st153) body scope [] [("gap", V.int 1)] f fd) : ∀ q ∈ fo153, FormOk T K 153 fd q := by
  intro q hq
  simp only [fo153, List.mem_cons, List.not_mem_nil, or_false] at hq
  rcases hq with rfl
  · obtain ⟨oc, od, dV, kV, doc, pm, an, cdv, ct, osl, rfl, lk, hcd, hD, hK⟩ := F.ex
    have eD : dV = .none := by
      rcases hD with ⟨_, e⟩ | ⟨e, _⟩
      · exact e
      · exact absurd rfl e
    subst eD
    exact FormOk.plain (by decide) (by decide) fun us ws hu hw => match us, ws, hu, hw with | [_], [_], _, _ => rfl
theorem fo2_2_ok {K : KW} {x qual : Str} {body : List Stmt} {scope : Scope} {f : Addr} {fd : FuncData} (F : FunD K x qual (defArgs st2) body scope [] [] f fd) : ∀ q ∈ fo2, FormOk T K 2 fd q := by
  intro q hq
  simp only [fo2, List.mem_cons, List.not_mem_nil, or_false] at hq
  rcases hq with rfl
  · obtain ⟨oc, od, dV, kV, doc, pm, an, cdv, ct, osl, rfl, lk, hcd, hD, hK⟩ := F.ex
    have eD : dV = .none := by
      rcases hD with ⟨_, e⟩ | ⟨e, _⟩
      · exact e
      · exact absurd rfl e
    subst eD
    exact FormOk.plain (by decide) (by decide) fun us ws hu hw => match us, ws, hu, hw with | [_, _], [], _, _ => rfl
theorem fo3_3_ok {K : KW} {x qual : Str} {body : List Stmt} {scope : Scope} {f : Addr} {fd : FuncData} (F : FunD K x qual (defArgs st3) body scope [] [] f fd) : ∀ q ∈ fo3, FormOk T K 3 fd q := by
  intro q hq
  simp only [fo3, List.mem_cons, List.not_mem_nil, or_false] at hq
  rcases hq with rfl
  · obtain ⟨oc, od, dV, kV, doc, pm, an, cdv, ct, osl, rfl, lk, hcd, hD, hK⟩ := F.ex
    have eD : dV = .none := by
      rcases hD with ⟨_, e⟩ | ⟨e, _⟩
      · exact e
      · exact absurd rfl e
    subst eD
    exact FormOk.plain (by decide) (by decide) fun us ws hu hw => match us, ws, hu, hw with | [_, _], [], _, _ => rfl
theorem fo23_23_ok {K : KW} {x qual : Str} {body : List Stmt} {scope : Scope} {f : Addr} {fd : FuncData} (F : FunD K x qual (defArgs st23) body scope [] [] f fd) : ∀ q ∈ fo23, FormOk T K 23 fd q := by
  intro q hq
  simp only [fo23, List.mem_cons, List.not_mem_nil, or_false] at hq
  rcases hq with rfl
  · obtain ⟨oc, od, dV, kV, doc, pm, an, cdv, ct, osl, rfl, lk, hcd, hD, hK⟩ := F.ex
    have eD : dV = .none := by
      rcases hD with ⟨_, e⟩ | ⟨e, _⟩
      · exact e
      · exact absurd rfl e
    subst eD
    exact FormOk.plain (by decide) (by decide) fun us ws hu hw => match us, ws, hu, hw with | [_], [], _, _ => rfl
theorem fo154_154_ok {K : KW} {x qual : Str} {body : List Stmt} {scope : Scope} {f : Addr} {fd : FuncData} (F : FunD K x qual (defArgs st154) body scope [] [] f fd) : ∀ q ∈ fo154, FormOk T K 154 fd q := by
  intro q hq
  simp only [fo154, List.mem_cons, List.not_mem_nil, or_false] at hq
  rcases hq with rfl
  · obtain ⟨oc, od, dV, kV, doc, pm, an, cdv, ct, osl, rfl, lk, hcd, hD, hK⟩ := F.ex
    have eD : dV = .none := by
      rcases hD with ⟨_, e⟩ | ⟨e, _⟩
      · exact e
      · exact absurd rfl e
    subst eD
    exact FormOk.plain (by decide) (by decide) fun us ws hu hw => match us, ws, hu, hw with | [_, _, _], [], _, _ => rfl
theorem fo40_40_ok {K : KW} {x qual : Str} {body : List Stmt} {scope : Scope} {f : Addr} {fd : FuncData} (F : FunD K x qual (defArgs st40) body scope [] [] f fd) : ∀ q ∈ fo40, FormOk T K 40 fd q := by
  intro q hq
  simp only [fo40, List.mem_cons, List.not_mem_nil, or_false] at hq
  rcases hq with rfl
  · obtain ⟨oc, od, dV, kV, doc, pm, an, cdv, ct, osl, rfl, lk, hcd, hD, hK⟩ := F.ex
    have eD : dV = .none := by
      rcases hD with ⟨_, e⟩ | ⟨e, _⟩
      · exact e
      · exact absurd rfl e
    subst eD
    exact FormOk.plain (by decide) (by decide) fun us ws hu hw => match us, ws, hu, hw with | [_], [], _, _ => rfl
theorem fo25_25_ok {K : KW} {x qual : Str} {body : List Stmt} {scope : Scope} {f : Addr} {fd : FuncData} (F : FunD K x qual (defArgs st25) body scope [] [] f fd) : ∀ q ∈ fo25, FormOk T K 25 fd q := by
  intro q hq
  simp only [fo25, List.mem_cons, List.not_mem_nil, or_false] at hq
  rcases hq with rfl
  · obtain ⟨oc, od, dV, kV, doc, pm, an, cdv, ct, osl, rfl, lk, hcd, hD, hK⟩ := F.ex
    have eD : dV = .none := by
      rcases hD with ⟨_, e⟩ | ⟨e, _⟩
      · exact e
      · exact absurd rfl e
    subst eD
    exact FormOk.plain (by decide) (by decide) fun us ws hu hw => match us, ws, hu, hw with | [_], [], _, _ => rfl
theorem fo41_41_ok {K : KW} {x qual : Str} {body : List Stmt} {scope : Scope} {f : Addr} {fd : FuncData} (F : FunD K x qual (defArgs st41) body scope [] [] f fd) : ∀ q ∈ fo41, FormOk T K 41 fd q := by
  intro q hq
  simp only [fo41, List.mem_cons, List.not_mem_nil, or_false] at hq
  rcases hq with rfl
  · obtain ⟨oc, od, dV, kV, doc, pm, an, cdv, ct, osl, rfl, lk, hcd, hD, hK⟩ := F.ex
    have eD : dV = .none := by
      rcases hD with ⟨_, e⟩ | ⟨e, _⟩
      · exact e
      · exact absurd rfl e
    subst eD
    exact FormOk.plain (by decide) (by decide) fun us ws hu hw => match us, ws, hu, hw with | [_], [], _, _ => rfl
theorem fo26_26_ok {K : KW} {x qual : Str} {body : List Stmt} {scope : Scope} {f : Addr} {fd : FuncData} (F : FunD K x qual (defArgs st26) body scope [] [] f fd) : ∀ q ∈ fo26, FormOk T K 26 fd q := by
  intro q hq
  simp only [fo26, List.mem_cons, List.not_mem_nil, or_false] at hq
  rcases hq with rfl
  · obtain ⟨oc, od, dV, kV, doc, pm, an, cdv, ct, osl, rfl, lk, hcd, hD, hK⟩ := F.ex
    have eD : dV = .none := by
      rcases hD with ⟨_, e⟩ | ⟨e, _⟩
      · exact e
      · exact absurd rfl e
    subst eD
    exact FormOk.plain (by decide) (by decide) fun us ws hu hw => match us, ws, hu, hw with | [_], [], _, _ => rfl
theorem fo27_27_ok {K : KW} {x qual : Str} {body : List Stmt} {scope : Scope} {f : Addr} {fd : FuncData} (F : FunD K x qual (defArgs st27) body scope [] [] f fd) : ∀ q ∈ fo27, FormOk T K 27 fd q := by
  intro q hq
  simp only [fo27, List.mem_cons, List.not_mem_nil, or_false] at hq
  rcases hq with rfl
  · obtain ⟨oc, od, dV, kV, doc, pm, an, cdv, ct, osl, rfl, lk, hcd, hD, hK⟩ := F.ex
    have eD : dV = .none := by
      rcases hD with ⟨_, e⟩ | ⟨e, _⟩
      · exact e
      · exact absurd rfl e
    subst eD
    exact FormOk.plain (by decide) (by decide) fun us ws hu hw => match us, ws, hu, hw with | [_], [], _, _ => rfl
theorem fo157_157_ok {K : KW} {x qual : Str} {body : List Stmt} {scope : Scope} {f : Addr} {fd : FuncData} (F : FunD K x qual (defArgs st157) body scope [] [] f fd) : ∀ q ∈ fo157, FormOk T K 157 fd q := by
  intro q hq
  simp only [fo157, List.mem_cons, List.not_mem_nil, or_false] at hq
  rcases hq with rfl
  · obtain ⟨oc, od, dV, kV, doc, pm, an, cdv, ct, osl, rfl, lk, hcd, hD, hK⟩ := F.ex
    have eD : dV = .none := by
      rcases hD with ⟨_, e⟩ | ⟨e, _⟩
      · exact e
      · exact absurd rfl e
    subst eD
    exact FormOk.plain (by decide) (by decide) fun us ws hu hw => match us, ws, hu, hw with | [_, _, _], [], _, _ => rfl
theorem fo158_158_ok {K : KW} {x qual : Str} {body : List Stmt} {scope : Scope} {f : Addr} {fd : FuncData} (F : FunD K x qual (defArgs st158) body scope [] [] f fd) : ∀ q ∈ fo158, FormOk T K 158 fd q := by
  intro q hq
  simp only [fo158, List.mem_cons, List.not_mem_nil, or_false] at hq
  rcases hq with rfl
  · obtain ⟨oc, od, dV, kV, doc, pm, an, cdv, ct, osl, rfl, lk, hcd, hD, hK⟩ := F.ex
    have eD : dV = .none := by
      rcases hD with ⟨_, e⟩ | ⟨e, _⟩
      · exact e
      · exact absurd rfl e
    subst eD
    exact FormOk.plain (by decide) (by decide) fun us ws hu hw => match us, ws, hu, hw with | [_, _], [], _, _ => rfl
theorem fo159_159_ok {K : KW} {x qual : Str} {body : List Stmt} {scope : Scope} {f : Addr} {fd : FuncData} (F : FunD K x qual (defArgs st159) body scope [] [] f fd) : ∀ q ∈ fo159, FormOk T K 159 fd q := by
  intro q hq
  cases hq
theorem fc1_21_ok {K : KW} {x qual : Str} {body : List Stmt} {scope : Scope} {f : Addr} {fd : FuncData} (F : FunD K x qual (defArgs st21) body scope [] [("gap", V.int 1)] f fd) : ∀ q ∈ fc1, FormS T K 21 fd q.1 q.2.1 q.2.2 := by
  intro q hq
  simp only [fc1, List.mem_cons, List.not_mem_nil, or_false] at hq
  rcases hq with rfl | rfl
  · obtain ⟨oc, od, dV, kV, doc, pm, an, cdv, ct, osl, rfl, lk, hcd, hD, hK⟩ := F.ex
    have eD : dV = .none := by
      rcases hD with ⟨_, e⟩ | ⟨e, _⟩
      · exact e
      · exact absurd rfl e
    subst eD
    exact FormS.plain (by decide) (by decide) fun u us ws hu hw => match us, ws, hu, hw with | [], [_, _, _, _, _, _], _, _ => rfl
  · obtain ⟨oc, od, dV, kV, doc, pm, an, cdv, ct, osl, rfl, lk, hcd, hD, hK⟩ := F.ex
    have eD : dV = .none := by
      rcases hD with ⟨_, e⟩ | ⟨e, _⟩
      · exact e
      · exact absurd rfl e
    subst eD
    exact FormS.plain (by decide) (by decide) fun u us ws hu hw => match us, ws, hu, hw with | [], [_, _, _, _, _, _], _, _ => rfl
theorem fc2_20_ok {K : KW} {x qual : Str} {body : List Stmt} {scope : Scope} {f : Addr} {fd : FuncData} (F : FunD K x qual (defArgs st20) body scope [] [("lost", V.int 1), ("late", V.int 2)] f fd) : ∀ q ∈ fc2, FormS T K 20 fd q.1 q.2.1 q.2.2 := by
  intro q hq
  simp only [fc2, List.mem_cons, List.not_mem_nil, or_false] at hq
  rcases hq with rfl
  · obtain ⟨oc, od, dV, kV, doc, pm, an, cdv, ct, osl, rfl, lk, hcd, hD, hK⟩ := F.ex
    have eD : dV = .none := by
      rcases hD with ⟨_, e⟩ | ⟨e, _⟩
      · exact e
      · exact absurd rfl e
    subst eD
    exact FormS.plain (by decide) (by decide) fun u us ws hu hw => match us, ws, hu, hw with | [], [_, _], _, _ => rfl
def ca (K : PySem.W.Frag) : Nat → Addr
  | 1 => He.ga K "Rule"
  | 2 => He.ga K "Bounds"
  | _ => 0
def Y (K : PySem.W.Frag) (w : World) : DM.Ctx := ⟨⟨K, w, fun i => He.ga K (fname i)⟩, ⟨ca K, fnm, fun _ => 0, fun f => atts.contains f⟩, fun _ => .none, fun _ => ""⟩
theorem cls_none {c : Nat} (h : c ∉ cnos) : cls c = ⟨0, [], fun _ => false, false⟩ := by
  unfold cls
  split <;> first | rfl | exact absurd (by decide) h
theorem isx_only {c : Nat} (h : ((P shwOf).cls c).isx = true) : ∃ x, (c, x) ∈ isn := by
  change (cls c).isx = true at h
  unfold cls at h
  split at h <;> first | exact absurd h Bool.false_ne_true | exact ⟨_, by decide⟩ | (cases h; done) | exact ⟨_, List.mem_cons_self⟩ | exact ⟨_, List.mem_cons_of_mem _ List.mem_cons_self⟩
theorem stat {w : World} {K : PySem.W.Frag} {h : Heap} {mg : Str → Option Value} (X : K.In h) (G : h.Ns mainGlobals mg) (c : He.SaysX dfa dfn dtab [] dex w h K) : Stat T (Y K w) rw_.prog w mg := by
  have cd := c.t.d
  obtain ⟨hisf, h5, h6, h7, h8⟩ := dex_all c.more
  refine ⟨rfl, rfl, rfl, ?_, ?_, ?_, ?_, ?_, ?_, ?_, ?_⟩
  · exact names_inj (by decide +kernel)
  · intro g hg
    have hg : g ∈ gnos := List.contains_iff_mem.mp hg
    simp only [gnos, List.mem_cons, List.not_mem_nil, or_false] at hg
    rcases hg with rfl | rfl | rfl | rfl
    · obtain ⟨t, e⟩ := He.int_ok X G h5
      exact ⟨_, .int 5, e, ⟨t, rfl⟩, fun f N H => .int⟩
    · obtain ⟨t, e⟩ := He.int_ok X G h6
      exact ⟨_, .int 3, e, ⟨t, rfl⟩, fun f N H => .int⟩
    · obtain ⟨a, b⟩ := Bool.and_eq_true_iff.mp h7
      obtain ⟨es, n, D⟩ := c.t.tab 0 (t := (fun K => He.ga K "LEAST", (["probes", "gap", "wait", "repeats", "period", "life"] : List Str))) rfl
      exact ⟨_, .ref (He.ga K "LEAST"), He.glo_ok X G b, rfl, fun f N H => gl_kd (K := (Y K w).K) D a (by decide +kernel)⟩
    · obtain ⟨a, b⟩ := Bool.and_eq_true_iff.mp h8
      obtain ⟨es, n, D⟩ := c.t.tab 1 (t := (fun K => He.ga K "MOST", (["probes", "gap", "wait", "repeats", "period", "life"] : List Str))) rfl
      exact ⟨_, .ref (He.ga K "MOST"), He.glo_ok X G b, rfl, fun f N H => gl_kd (K := (Y K w).K) D a (by decide +kernel)⟩
  · intro i hi
    have hi : i ∈ fnos := List.contains_iff_mem.mp hi
    simp only [fnos, List.mem_cons, List.not_mem_nil, or_false] at hi
    rcases hi with rfl | rfl | rfl | rfl | rfl | rfl | rfl | rfl | rfl | rfl | rfl | rfl | rfl | rfl | rfl | rfl | rfl | rfl | rfl | rfl | rfl | rfl | rfl | rfl | rfl | rfl
    · obtain ⟨fd, F⟩ := cd.def_ 0 (d := d18) rfl
      exact ⟨_, fd, He.glo_ok X G (cd.fact 0 (f := .glo "is_whole") rfl), ⟨_, _, _, _, _, _, _, N18, F, sc18, rfl, rfl, m18⟩, fun n kn s hs => fo18_18_ok (K := (Y K w).K) F _ (formB_in hs)⟩
    · obtain ⟨fd, F⟩ := cd.def_ 1 (d := d19) rfl
      exact ⟨_, fd, He.glo_ok X G (cd.fact 1 (f := .glo "is_within") rfl), ⟨_, _, _, _, _, _, _, N19, F, sc19, rfl, rfl, m19⟩, fun n kn s hs => fo19_19_ok (K := (Y K w).K) F _ (formB_in hs)⟩
    · obtain ⟨fd, F⟩ := cd.def_ 4 (d := d46) rfl
      exact ⟨_, fd, He.glo_ok X G (cd.fact 2 (f := .glo "bounds_tuple") rfl), ⟨_, _, _, _, _, _, _, N46, F, sc46, rfl, rfl, m46⟩, fun n kn s hs => fo46_46_ok (K := (Y K w).K) F _ (formB_in hs)⟩
    · obtain ⟨fd, F⟩ := cd.def_ 5 (d := d33) rfl
      exact ⟨_, fd, He.glo_ok X G (cd.fact 3 (f := .glo "look_bounds") rfl), ⟨_, _, _, _, _, _, _, N33, F, sc33, rfl, rfl, m33⟩, fun n kn s hs => fo33_33_ok (K := (Y K w).K) F _ (formB_in hs)⟩
    · obtain ⟨fd, F⟩ := cd.def_ 6 (d := d34) rfl
      exact ⟨_, fd, He.glo_ok X G (cd.fact 4 (f := .glo "look_rule") rfl), ⟨_, _, _, _, _, _, _, N34, F, sc34, rfl, rfl, m34⟩, fun n kn s hs => fo34_34_ok (K := (Y K w).K) F _ (formB_in hs)⟩
    · obtain ⟨fd, F⟩ := cd.def_ 7 (d := d35) rfl
      exact ⟨_, fd, He.glo_ok X G (cd.fact 5 (f := .glo "look_both") rfl), ⟨_, _, _, _, _, _, _, N35, F, sc35, rfl, rfl, m35⟩, fun n kn s hs => fo35_35_ok (K := (Y K w).K) F _ (formB_in hs)⟩
    · obtain ⟨fd, F⟩ := cd.def_ 8 (d := d22) rfl
      exact ⟨_, fd, He.glo_ok X G (cd.fact 6 (f := .glo "claiming_of") rfl), ⟨_, _, _, _, _, _, _, N22, F, sc22, rfl, rfl, m22⟩, fun n kn s hs => fo22_22_ok (K := (Y K w).K) F _ (formB_in hs)⟩
    · obtain ⟨fd, F⟩ := cd.def_ 9 (d := d36) rfl
      exact ⟨_, fd, He.glo_ok X G (cd.fact 7 (f := .glo "asking_of_repeats") rfl), ⟨_, _, _, _, _, _, _, N36, F, sc36, rfl, rfl, m36⟩, fun n kn s hs => fo36_36_ok (K := (Y K w).K) F _ (formB_in hs)⟩
    · obtain ⟨fd, F⟩ := cd.def_ 10 (d := d37) rfl
      exact ⟨_, fd, He.glo_ok X G (cd.fact 8 (f := .glo "claiming_time") rfl), ⟨_, _, _, _, _, _, _, N37, F, sc37, rfl, rfl, m37⟩, fun n kn s hs => fo37_37_ok (K := (Y K w).K) F _ (formB_in hs)⟩
    · obtain ⟨fd, F⟩ := cd.def_ 11 (d := d38) rfl
      exact ⟨_, fd, He.glo_ok X G (cd.fact 9 (f := .glo "asking_time") rfl), ⟨_, _, _, _, _, _, _, N38, F, sc38, rfl, rfl, m38⟩, fun n kn s hs => fo38_38_ok (K := (Y K w).K) F _ (formB_in hs)⟩
    · obtain ⟨fd, F⟩ := cd.def_ 12 (d := d39) rfl
      exact ⟨_, fd, He.glo_ok X G (cd.fact 10 (f := .glo "mending_time") rfl), ⟨_, _, _, _, _, _, _, N39, F, sc39, rfl, rfl, m39⟩, fun n kn s hs => fo39_39_ok (K := (Y K w).K) F _ (formB_in hs)⟩
    · obtain ⟨fd, F⟩ := cd.def_ 13 (d := d49) rfl
      exact ⟨_, fd, He.glo_ok X G (cd.fact 11 (f := .glo "fits") rfl), ⟨_, _, _, _, _, _, _, N49, F, sc49, rfl, rfl, m49⟩, fun n kn s hs => fo49_49_ok (K := (Y K w).K) F _ (formB_in hs)⟩
    · obtain ⟨fd, F⟩ := cd.def_ 14 (d := d50) rfl
      exact ⟨_, fd, He.glo_ok X G (cd.fact 12 (f := .glo "is_enough") rfl), ⟨_, _, _, _, _, _, _, N50, F, sc50, rfl, rfl, m50⟩, fun n kn s hs => fo50_50_ok (K := (Y K w).K) F _ (formB_in hs)⟩
    · obtain ⟨fd, F⟩ := cd.def_ 15 (d := d153) rfl
      exact ⟨_, fd, He.glo_ok X G (cd.fact 13 (f := .glo "least_rule") rfl), ⟨_, _, _, _, _, _, _, N153, F, sc153, rfl, rfl, m153⟩, fun n kn s hs => fo153_153_ok (K := (Y K w).K) F _ (formB_in hs)⟩
    · obtain ⟨fd, F⟩ := cd.def_ 16 (d := d2) rfl
      exact ⟨_, fd, He.glo_ok X G (cd.fact 14 (f := .glo "_law_bag") rfl), ⟨_, _, _, _, _, _, _, N2, F, sc2, rfl, rfl, m2⟩, fun n kn s hs => fo2_2_ok (K := (Y K w).K) F _ (formB_in hs)⟩
    · obtain ⟨fd, F⟩ := cd.def_ 17 (d := d3) rfl
      exact ⟨_, fd, He.glo_ok X G (cd.fact 15 (f := .glo "_law_take") rfl), ⟨_, _, _, _, _, _, _, N3, F, sc3, rfl, rfl, m3⟩, fun n kn s hs => fo3_3_ok (K := (Y K w).K) F _ (formB_in hs)⟩
    · obtain ⟨fd, F⟩ := cd.def_ 18 (d := d23) rfl
      exact ⟨_, fd, He.glo_ok X G (cd.fact 16 (f := .glo "_law_is_whole") rfl), ⟨_, _, _, _, _, _, _, N23, F, sc23, rfl, rfl, m23⟩, fun n kn s hs => fo23_23_ok (K := (Y K w).K) F _ (formB_in hs)⟩
    · obtain ⟨fd, F⟩ := cd.def_ 19 (d := d154) rfl
      exact ⟨_, fd, He.glo_ok X G (cd.fact 17 (f := .glo "_law_least") rfl), ⟨_, _, _, _, _, _, _, N154, F, sc154, rfl, rfl, m154⟩, fun n kn s hs => fo154_154_ok (K := (Y K w).K) F _ (formB_in hs)⟩
    · obtain ⟨fd, F⟩ := cd.def_ 20 (d := d40) rfl
      exact ⟨_, fd, He.glo_ok X G (cd.fact 18 (f := .glo "_law_claiming") rfl), ⟨_, _, _, _, _, _, _, N40, F, sc40, rfl, rfl, m40⟩, fun n kn s hs => fo40_40_ok (K := (Y K w).K) F _ (formB_in hs)⟩
    · obtain ⟨fd, F⟩ := cd.def_ 21 (d := d25) rfl
      exact ⟨_, fd, He.glo_ok X G (cd.fact 19 (f := .glo "_law_parts") rfl), ⟨_, _, _, _, _, _, _, N25, F, sc25, rfl, rfl, m25⟩, fun n kn s hs => fo25_25_ok (K := (Y K w).K) F _ (formB_in hs)⟩
    · obtain ⟨fd, F⟩ := cd.def_ 22 (d := d41) rfl
      exact ⟨_, fd, He.glo_ok X G (cd.fact 20 (f := .glo "_law_good_parts") rfl), ⟨_, _, _, _, _, _, _, N41, F, sc41, rfl, rfl, m41⟩, fun n kn s hs => fo41_41_ok (K := (Y K w).K) F _ (formB_in hs)⟩
    · obtain ⟨fd, F⟩ := cd.def_ 23 (d := d26) rfl
      exact ⟨_, fd, He.glo_ok X G (cd.fact 21 (f := .glo "_law_is_rule") rfl), ⟨_, _, _, _, _, _, _, N26, F, sc26, rfl, rfl, m26⟩, fun n kn s hs => fo26_26_ok (K := (Y K w).K) F _ (formB_in hs)⟩
    · obtain ⟨fd, F⟩ := cd.def_ 24 (d := d27) rfl
      exact ⟨_, fd, He.glo_ok X G (cd.fact 22 (f := .glo "_law_made_rule") rfl), ⟨_, _, _, _, _, _, _, N27, F, sc27, rfl, rfl, m27⟩, fun n kn s hs => fo27_27_ok (K := (Y K w).K) F _ (formB_in hs)⟩
    · obtain ⟨fd, F⟩ := cd.def_ 25 (d := d157) rfl
      exact ⟨_, fd, He.glo_ok X G (cd.fact 23 (f := .glo "_law_near_parts") rfl), ⟨_, _, _, _, _, _, _, N157, F, sc157, rfl, rfl, m157⟩, fun n kn s hs => fo157_157_ok (K := (Y K w).K) F _ (formB_in hs)⟩
    · obtain ⟨fd, F⟩ := cd.def_ 26 (d := d158) rfl
      exact ⟨_, fd, He.glo_ok X G (cd.fact 24 (f := .glo "_law_more_right") rfl), ⟨_, _, _, _, _, _, _, N158, F, sc158, rfl, rfl, m158⟩, fun n kn s hs => fo158_158_ok (K := (Y K w).K) F _ (formB_in hs)⟩
    · obtain ⟨fd, F⟩ := cd.def_ 27 (d := d159) rfl
      exact ⟨_, fd, He.glo_ok X G (cd.fact 25 (f := .glo "law") rfl), ⟨_, _, _, _, _, _, _, N159, F, sc159, rfl, rfl, m159⟩, fun n kn s hs => fo159_159_ok (K := (Y K w).K) F _ (formB_in hs)⟩
  · intro c f hf
    have hc : c ∈ cnos := by
      refine Classical.byContradiction fun z => ?_
      have e : T.P.cls c = _ := cls_none z
      rw [e] at hf
      cases hf
    simp only [cnos, List.mem_cons, List.not_mem_nil, or_false] at hc
    rcases hc with rfl | rfl
    · have hm : f ∈ atts := List.contains_iff_mem.mp hf
      refine ⟨He.cls_ok (cd.fact 48 (f := .cls "Rule") rfl), ?_, hf⟩
      simp only [atts, List.mem_cons, List.not_mem_nil, or_false] at hm
      rcases hm with rfl | rfl | rfl | rfl | rfl | rfl | rfl | rfl
      · exact He.noat_ok (cd.fact 50 (f := .noat "Rule" "lost") rfl)
      · exact He.noat_ok (cd.fact 51 (f := .noat "Rule" "late") rfl)
      · exact He.noat_ok (cd.fact 52 (f := .noat "Rule" "probes") rfl)
      · exact He.noat_ok (cd.fact 53 (f := .noat "Rule" "gap") rfl)
      · exact He.noat_ok (cd.fact 54 (f := .noat "Rule" "wait") rfl)
      · exact He.noat_ok (cd.fact 55 (f := .noat "Rule" "repeats") rfl)
      · exact He.noat_ok (cd.fact 56 (f := .noat "Rule" "period") rfl)
      · exact He.noat_ok (cd.fact 57 (f := .noat "Rule" "life") rfl)
    · have hm : f ∈ atts := List.contains_iff_mem.mp hf
      refine ⟨He.cls_ok (cd.fact 59 (f := .cls "Bounds") rfl), ?_, hf⟩
      simp only [atts, List.mem_cons, List.not_mem_nil, or_false] at hm
      rcases hm with rfl | rfl | rfl | rfl | rfl | rfl | rfl | rfl
      · exact He.noat_ok (cd.fact 61 (f := .noat "Bounds" "lost") rfl)
      · exact He.noat_ok (cd.fact 62 (f := .noat "Bounds" "late") rfl)
      · exact He.noat_ok (cd.fact 63 (f := .noat "Bounds" "probes") rfl)
      · exact He.noat_ok (cd.fact 64 (f := .noat "Bounds" "gap") rfl)
      · exact He.noat_ok (cd.fact 65 (f := .noat "Bounds" "wait") rfl)
      · exact He.noat_ok (cd.fact 66 (f := .noat "Bounds" "repeats") rfl)
      · exact He.noat_ok (cd.fact 67 (f := .noat "Bounds" "period") rfl)
      · exact He.noat_ok (cd.fact 68 (f := .noat "Bounds" "life") rfl)
  · intro c m i hm
    have hc : c ∈ cnos := by
      refine Classical.byContradiction fun z => ?_
      have e : T.P.cls c = _ := cls_none z
      rw [e] at hm
      cases hm
    simp only [cnos, List.mem_cons, List.not_mem_nil, or_false] at hc
    rcases hc with rfl | rfl
    · have hm := fldN_mem hm
      change (m, i) ∈ ([] : List (Nat × Nat)) at hm
      simp only [List.mem_cons, List.not_mem_nil, or_false, Prod.mk.injEq] at hm
      try cases hm
    · have hm := fldN_mem hm
      change (m, i) ∈ ([] : List (Nat × Nat)) at hm
      simp only [List.mem_cons, List.not_mem_nil, or_false, Prod.mk.injEq] at hm
      try cases hm
  · intro c hc
    have hc : c ∈ cnos := List.contains_iff_mem.mp hc
    simp only [cnos, List.mem_cons, List.not_mem_nil, or_false] at hc
    rcases hc with rfl | rfl
    · obtain ⟨fd, F⟩ := cd.def_ 3 (d := d21) rfl
      exact ⟨He.glo_ok X G (cd.fact 47 (f := .glo "Rule") rfl), _, fd, He.mkr_ok (cd.fact 49 (f := .mkr "Rule") rfl), ⟨_, _, _, _, _, _, _, N21, F, sc21, rfl, rfl, m21⟩, fun n kn s hs => fc1_21_ok (K := (Y K w).K) F _ (formB_in hs)⟩
    · obtain ⟨fd, F⟩ := cd.def_ 2 (d := d20) rfl
      exact ⟨He.glo_ok X G (cd.fact 58 (f := .glo "Bounds") rfl), _, fd, He.mkr_ok (cd.fact 60 (f := .mkr "Bounds") rfl), ⟨_, _, _, _, _, _, _, N20, F, sc20, rfl, rfl, m20⟩, fun n kn s hs => fc2_20_ok (K := (Y K w).K) F _ (formB_in hs)⟩
  · exact isf_of (l := isn) (P := P shwOf) (Z := (Y K w).Z) hisf (by decide +kernel) isx_only (fun p hp => by
      simp only [isn, List.mem_cons, List.not_mem_nil, or_false] at hp
      rcases hp with rfl | rfl <;> rfl)
  · intro x hx
    simp only [btNames, List.mem_cons, List.not_mem_nil, or_false] at hx
    rcases hx with rfl | rfl | rfl | rfl | rfl | rfl | rfl | rfl | rfl | rfl | rfl | rfl | rfl | rfl | rfl | rfl | rfl | rfl | rfl | rfl | rfl
    · exact He.free_ok X G (cd.fact 26 (f := .free "len") rfl)
    · exact He.free_ok X G (cd.fact 27 (f := .free "abs") rfl)
    · exact He.free_ok X G (cd.fact 28 (f := .free "max") rfl)
    · exact He.free_ok X G (cd.fact 29 (f := .free "min") rfl)
    · exact He.free_ok X G (cd.fact 30 (f := .free "repr") rfl)
    · exact He.free_ok X G (cd.fact 31 (f := .free "list") rfl)
    · exact He.free_ok X G (cd.fact 32 (f := .free "tuple") rfl)
    · exact He.free_ok X G (cd.fact 33 (f := .free "set") rfl)
    · exact He.free_ok X G (cd.fact 34 (f := .free "sorted") rfl)
    · exact He.free_ok X G (cd.fact 35 (f := .free "int") rfl)
    · exact He.free_ok X G (cd.fact 36 (f := .free "str") rfl)
    · exact He.free_ok X G (cd.fact 37 (f := .free "all") rfl)
    · exact He.free_ok X G (cd.fact 38 (f := .free "any") rfl)
    · exact He.free_ok X G (cd.fact 39 (f := .free "isinstance") rfl)
    · exact He.free_ok X G (cd.fact 40 (f := .free "range") rfl)
    · exact He.free_ok X G (cd.fact 41 (f := .free "bool") rfl)
    · exact He.free_ok X G (cd.fact 42 (f := .free "dict") rfl)
    · exact He.free_ok X G (cd.fact 43 (f := .free "zip") rfl)
    · exact He.free_ok X G (cd.fact 44 (f := .free "enumerate") rfl)
    · exact He.free_ok X G (cd.fact 45 (f := .free "LookupError") rfl)
    · exact He.free_ok X G (cd.fact 46 (f := .free "ValueError") rfl)
abbrev R : PySem.W.OpenRow := PySem.W.OpenLaw.row rw_
abbrev hk (nn : Nat) : PySem.W.Hook := He.hookX nn dfa dfn dtab [] dex
def ob (s : PySem.W.SharedT) : He.AlX := He.obsX 5 dfa dfn dtab [] dex (HandSHeadRun.getT s)
theorem ob_eq (s : PySem.W.SharedT) : ob s = (hk 5).obs s.abs := He.obsX_eq (HandSHeadRun.getT_eq s)
def loose : List Str := (["is_whole", "is_within", "bounds_tuple", "rule_tuple", "look_bounds", "look_rule", "look_both", "claiming_of", "asking_of_repeats", "claiming_time", "asking_time", "mending_time", "fits", "is_enough", "least_rule"] : List Str) ++ (["_law_bag", "_law_take", "_law_is_whole", "_law_least", "_law_claiming", "_law_parts", "_law_good_parts", "_law_is_rule", "_law_made_rule", "_law_near_parts", "_law_more_right", "MOST_LOST", "MOST_LATE", "LEAST", "MOST"] : List Str) ++ (["WireError", "NoBounds", "NoRule", "Bounds", "Rule"] : List Str)
theorem run (w : World) : HandSHeadRun.RunEq R (PySem.W.view R.prog [39]) (hk 5) ob 4000 loose w := by
  refine run_of (Pr := HandSHeadRun.RunEq R (PySem.W.view R.prog [39]) (hk 5) ob 4000 loose) (fun w b => ?_) w
  cases b <;> (intro os; kernel_rfl)
end K09
open PySem PySem.W PySem.Calls PyProof.Rows
theorem PySem.Challenge.cw_wirenames_k09_whole_enough_by_the_least_holds : PySem.Challenge.rw_wirenames_k09_whole_enough_by_the_least.Holds := by
  w_on; o_law
  refine HandSHeadRun.head_any (r := K09.R) (q := view K09.R.prog [39]) (H := K09.hk 5) (ob := K09.ob) (M := 4000) (loose := K09.loose) (d := HandSHeadRun.topDef K09.R.prog 39) (kwd := []) K09.ob_eq
    (by kernel_rfl) (fun s => by kernel_rfl) K09.run (by kernel_rfl) (by kernel_rfl) (by kernel_rfl) (by rfl) (by first | assumption | decide +kernel) (by decide +kernel) ⟨rfl, rfl, rfl, rfl, rfl, by decide +kernel⟩ ?hw ?hc
  case hw => w_witness2
  case hc =>
    refine DM.walk_D (l := K09.rw_) (n := 63) (k := 9) (x := "script") (law := K09.nlaw) (P := K09.P DM.shwOf) rfl (by decide) (by kernel_rfl) ⟨rfl, by decide, by decide⟩ (K09.pure_law DM.shwOf) ?F
    intro w mg fa h Yh G hmg0
    obtain ⟨K, KX, c⟩ := Yh
    refine ⟨K, K09.T, K09.Y K w, KX, rfl, rfl, K09.stat KX G c, rfl, by kernel_rfl, rfl, ?_⟩
    rintro fd0 ⟨_, _, _, _, _, _, _, F0⟩ s u
    obtain ⟨fd, F⟩ := c.t.d.def_ 27 (d := K09.d159) rfl
    have ea := He.glo_ok KX G (c.t.d.fact 25 (f := .glo "law") rfl)
    have eb : (HandSHeadRun.topDef K09.R.prog 39).name = K09.fname 159 := by kernel_rfl
    rw [eb, show K09.fname 159 = "law" from rfl, ea] at hmg0
    cases hmg0
    have ef := DM.fun_one F0 F
    subst ef
    exact L2.FunD.bindsA (ps := ["script"]) F (fun _ _ _ _ _ _ us hl => match us, hl with | [_], _ => rfl) s [u] rfl
