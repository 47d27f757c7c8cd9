import PyProof.Rows.All
import Wide.All
import OpenK.AllK
import Wide.FinOn
import PySem.Challenge.RW_wirenames_k02_next_names
import HandS.ForMost
import HandS.ForExc
import HandS.Flow
import HandS.Defaults
import HandS.Conv
import HandS.RaiseMore
import HandS.More
import KE.KDictCopyH
import HandS.TupAny
import HandS.Deep
import HandS.IsInst
import HandS.HotCalls
import HandS.SortInts
import HandS.DictTup
import HandS.SetKeys
import KE.KDictSum
import HandS.Strs
import PyProof.ReprLen
import PyProof.ListStr
import HandS.Text
import HandS.ExcIs
import HandS.HeadWalk
import KE.KExcIs
import HandS.ExcField
import HandS.Small
import HandS.Zip
import HandS.DictComp
import HandS.SetBool
import HandS.Style
import HandS.ExcOwn
import HandS.Head0
import HandS.Head1
import HandS.Head2
import HandS.HeadEnd
import HandS.HeadHook1
import HandS.HeadHook2
import HandS.HeadHook3
import HandS.HeadHook4
import HandS.MakeKw
/-! DM: a plain interpreter of the part of Python that these laws use, over values and a heap of numbered objects. -/
namespace DM

abbrev Tx := List Nat

/-- a value: texts by their signs, tuples by their items, all that changes by its number -/
inductive MV where
  | non | bl (b : Bool) | int (i : Int) | str (s : Tx)
  | tup (l : List MV)
  | ref (n : Nat)
  | kl (l : List MV)                 -- a list that is never written: of the text's top, the script
  | kd (l : List (MV × MV))          -- a dict of the text's top, never written
  | fn (i : Nat)
  | exc (c : Nat) (l : List MV)
  deriving Repr, Inhabited

/-- an object -/
inductive MO where
  | lst (l : List MV)
  | dct (t lk : Bool) (l : List (MV × MV))   -- keys: intL and texts; t: tuples of such; lk: it is walked
  | ins (c : Nat) (fs : List (Nat × MV))
  | set (l : List MV)
  deriving Repr, Inhabited

structure MH where
  objs : List MO
  deriving Repr, Inhabited

namespace MH
def get (h : MH) (n : Nat) : Option MO := h.objs[n]?
def put (h : MH) (n : Nat) (o : MO) : MH := ⟨h.objs.set n o⟩
def push (h : MH) (o : MO) : MH := ⟨h.objs ++ [o]⟩
def size (h : MH) : Nat := h.objs.length
end MH

inductive R (α : Type) where
  | ok (a : α) (h : MH)
  | ex (c : Nat) (l : List MV) (h : MH)
  | stk
  deriving Repr, Inhabited

def R.bind {α β : Type} (r : R α) (f : α → MH → R β) : R β := match r with
  | .ok a h => f a h
  | .ex c l h => .ex c l h
  | .stk => .stk

/-- where nothing may be raised -/
def R.noEx {α : Type} (r : R α) : R α := match r with
  | .ex _ _ _ => .stk
  | r => r
/-- the greatest length -/
def LIM : Nat := 16777216

/-! ### data: values with all that they hold -/
inductive PD where
  | non | bl (b : Bool) | int (i : Int) | str (s : Tx)
  | tup (l : List PD) | lst (l : List PD) | dct (l : List (PD × PD))
  deriving Repr, Inhabited

def dat : Nat → MH → MV → Option PD
  | _, _, .non => some .non
  | _, _, .bl b => some (.bl b)
  | _, _, .int i => some (.int i)
  | _, _, .str s => some (.str s)
  | n + 1, h, .tup l => (l.mapM (dat n h)).map .tup
  | n + 1, h, .kl l => (l.mapM (dat n h)).map .lst
  | n + 1, h, .ref r => match h.get r with
    | some (.lst l) => (l.mapM (dat n h)).map .lst
    | _ => none
  | _, _, _ => none

mutual
/-- == of data -/
def eqP : PD → PD → Bool
  | .non, .non => true
  | .bl a, .bl b => a == b
  | .bl a, .int j => (if a then 1 else 0) == j
  | .int i, .bl b => i == (if b then 1 else 0)
  | .int i, .int j => i == j
  | .str a, .str b => a == b
  | .tup a, .tup b => eqPs a b
  | .lst a, .lst b => eqPs a b
  | _, _ => false
def eqPs : List PD → List PD → Bool
  | [], [] => true
  | x :: xs, y :: ys => eqP x y && eqPs xs ys
  | _, _ => false
end
/-- < of data of one kind: intL, texts, tuples of such -/
def ltT : Tx → Tx → Bool
  | [], [] => false
  | [], _ :: _ => true
  | _ :: _, [] => false
  | a :: r, b :: t => if a == b then ltT r t else decide (a < b)
mutual
def ltP : PD → PD → Option Bool
  | .int i, .int j => some (decide (i < j))
  | .str a, .str b => some (ltT a b)
  | .tup a, .tup b => ltPs a b
  | _, _ => none
def ltPs : List PD → List PD → Option Bool
  | [], [] => some false
  | [], _ :: _ => some true
  | _ :: _, [] => some false
  | x :: xs, y :: ys => if eqP x y then ltPs xs ys else ltP x y
end
mutual
/-- how long the text of a datum is at most -/
def msz : PD → Nat
  | .non => 4
  | .bl _ => 5
  | .int i => i.natAbs.log2 + 3
  | .str s => 10 * s.length + 2
  | .tup l => mszs l + 3
  | .lst l => mszs l + 3
  | .dct l => mszd l + 3
def mszs : List PD → Nat
  | [] => 0
  | x :: xs => msz x + 2 + mszs xs
def mszd : List (PD × PD) → Nat
  | [] => 0
  | (a, b) :: r => msz a + msz b + 4 + mszd r
end
mutual
/-- intL of fewer than 1920 bits, signs below 16 ^ 8 -/
def shwOk : PD → Bool
  | .int i => decide (i.natAbs.log2 < 1920)
  | .str s => s.all fun c => decide (c < 4294967296)
  | .tup l => shwOks l
  | .lst l => shwOks l
  | .dct l => shwOkd l
  | _ => true
def shwOks : List PD → Bool
  | [] => true
  | x :: xs => shwOk x && shwOks xs
def shwOkd : List (PD × PD) → Bool
  | [] => true
  | (a, b) :: r => shwOk a && shwOk b && shwOkd r
end
/-- the digits of a whole number -/
def itx (i : Int) : Tx := (toString i).toList.map Char.toNat
/-- depth of what is shown, compared -/
def DEP : Nat := 40

/-! ### the text -/
inductive BOp where | add | sub | mul | mod | fdiv | pow deriving Repr, DecidableEq
inductive COp where | lt | le | gt | ge | eq | ne | isin | notin deriving Repr, DecidableEq
inductive Ty where | int | bool | str | list | tuple | dict | lookup | value | own (c : Nat) deriving Repr, DecidableEq
inductive Bif where | len | abs | max | min | repr | list | tuple | set | sorted | int | str | all | any deriving Repr, DecidableEq
/-- where a parameter's value comes from -/
inductive Src where | pos (i : Nat) | kw (i : Nat) | dfl (v : MV) deriving Repr

mutual
inductive Ex where
  | var (i : Nat) | non | bl (b : Bool) | int (i : Int) | str (s : Tx)
  | gl (g : Nat)
  | bin (op : BOp) (a b : Ex) | neg (a : Ex) | not_ (a : Ex)
  | cmp (op : COp) (a b : Ex) | isN (a : Ex) | isNt (a : Ex)
  | ch (o1 o2 : COp) (a b c : Ex)
  | and_ (a b : Ex) | or_ (a b : Ex) | ife (c : Te) (a b : Ex)
  | att (e : Ex) (f : Nat)
  | sub (e i : Ex)
  | sl (e : Ex) (lo hi : Eo) | rev (e : Ex)
  | tup (es : Es) | lst (es : Es) | dct (es : Es)
  | call (f : Nat) (es ks : Es) (kn : List Nat) (sh : List Src)
  | bif (b : Bif) (es : Es)
  | isi (e : Ex) (t : Ty)
  | met (m : Nat) (o : Ex) (es ks : Es) (kn : List Nat) (sh : List Src)
  | mk (c : Nat) (es ks : Es) (kn : List Nat) (sh : List Src)
  | lc (elt : Ex) (own : List Nat) (tg : Tg) (it : Itx) (c : Tc)
  | dm1 (k : Nat) (o a : Ex)              -- d.get(a), d.pop(a)
  | dm2 (k : Nat) (o a b : Ex)            -- d.get(a, b), d.pop(a, b), d.setdefault(a, b)
  | dsT (o a b : Ex)                      -- d.setdefault(a, b), a a tuple
  | sortk (o : Ex)                        -- sorted(o.keys())
  | lenO (m : Nat) (o : Ex)               -- len(o) by an own __len__
  | lci (elt : Ex) (own : List Nat) (tg : Tg) (p : Ex) (c : Tc)          -- [elt for tg in p.items() if c]
  | sci (elt : Ex) (own : List Nat) (tg : Tg) (p : Ex) (c : Tc)          -- sorted({elt for tg in p.items() if c})
  | dci (kx vx : Ex) (own : List Nat) (tg : Tg) (p : Ex) (c : Tc)   -- {kx: vx for tg in p.items() if c}
  | dcT (kx vx : Ex) (own : List Nat) (tg : Tg) (p : Ex) (c : Tc)   -- .. whose keys are tuples
  | fst (ps : Es)
  | isX (i d : Nat)                      -- isinstance(e, C), e the exception that the slot holds
  | attX (i f : Nat)                     -- e.f
  | callX (f i : Nat)                    -- f(e)
  | nev                                  -- what is never come to
inductive Es where
  | nil | cons (e : Ex) (r : Es)
inductive Eo where
  | no | so (e : Ex)
/-- a test -/
inductive Te where
  | vl (e : Ex) | not_ (t : Te) | and_ (t u : Te) | or_ (t u : Te)
inductive Tc where
  | no | so (t : Te)
/-- a target -/
inductive Tg where
  | nm (i : Nat) | tup (l : Tgs) | att (o : Ex) (f : Nat) | sub (o i : Ex)
  | stB (i j : Nat)      -- *i, j = a text
inductive Tgs where
  | nil | cons (t : Tg) (r : Tgs)
/-- what is walked -/
inductive Itx where
  | ex (e : Ex) | exL (e : Ex) | rng (b : Ex) | rng2 (a b : Ex) | zip (a b : Ex) | enum (a : Ex) | keys (e : Ex) | vals (e : Ex) | items (e : Ex)
end

mutual
inductive St where
  | pass | exp (e : Ex) | ret (e : Ex) | retN
  | set (tg : Tg) (e : Ex)
  | set2 (t1 t2 : Tg) (e : Ex) | set3 (t1 t2 t3 : Tg) (e : Ex)
  | del_ (o i : Ex)
  | par (is : List Nat) (es : Es)        -- a, b = x, y of plain names
  | aug (i : Nat) (op : BOp) (e : Ex)
  | augA (o : Ex) (f : Nat) (op : BOp) (k : Int)
  | ite (c : Te) (a b : Ss)
  | for_ (tg : Tg) (it : Itx) (b : Ss)
  | rse (c : Nat) (es : Es)              -- raise C(..)
  | try_ (b : Ss) (d i : Nat) (s : Ss)   -- try: b; except D as e: s
  | tryN (b : Ss) (ds : List Nat) (s : Ss)   -- try: b; except (D, ..): s
  | brk | cont | nev
inductive Ss where
  | nil | cons (s : St) (r : Ss)
end

structure FnD where
  np : Nat
  ns : Nat
  body : Ss
/-- a class: its __init__, its methods, whether a name is a plain attribute -/
structure ClD where
  ini : Nat
  met : List (Nat × Nat)
  att : Nat → Bool
  isx : Bool                  -- isinstance is known of it
structure Prog where
  glob : Nat → MV
  fn : Nat → FnD
  cls : Nat → ClD
  shw : PD → Tx
  xsub : Nat → Nat → Bool     -- exceptions' classes: the one under the other
  xat : Nat → Nat             -- their attribute

/-! ### operations on values -/
def listOf (h : MH) : MV → Option (List MV)
  | .ref n => match h.get n with
    | some (.lst l) => some l
    | _ => none
  | .kl l => some l
  | _ => none
def seqOf (h : MH) : MV → Option (List MV)
  | .tup l => some l
  | v => listOf h v
def new (h : MH) (o : MO) : R MV := .ok (.ref h.size) (h.push o)
def newList (h : MH) (l : List MV) : R MV := if l.length ≤ LIM then new h (.lst l) else .stk

def small (i : Int) : Bool := decide (-18446744073709551616 < i ∧ i < 18446744073709551616)
def binM (op : BOp) (x y : MV) (h : MH) : R MV := match op, x, y with
  | .add, .int i, .int j => .ok (.int (i + j)) h
  | .add, .str a, .str b => if a.length + b.length ≤ LIM then .ok (.str (a ++ b)) h else .stk
  | .add, .tup a, .tup b => if a.length + b.length ≤ LIM then .ok (.tup (a ++ b)) h else .stk
  | .add, .ref m, .ref n => match h.get m, h.get n with
    | some (.lst a), some (.lst b) => newList h (a ++ b)
    | _, _ => .stk
  | .sub, .int i, .int j => .ok (.int (i - j)) h
  | .mul, .int i, .int j => if small i || small j then .ok (.int (i * j)) h else .stk
  | .mul, .ref m, .int k => match h.get m with
    | some (.lst l) => if 0 ≤ k ∧ k ≤ 1000 ∧ l.length ≤ 1000 then newList h (List.replicate k.toNat l).flatten else .stk
    | _ => .stk
  | .mod, .int i, .int j => if 0 < j then .ok (.int (i % j)) h else .stk
  | .fdiv, .int i, .int j => if 0 < j ∧ j < 1073741824 then .ok (.int (i / j)) h else .stk
  | .pow, .int i, .int j => if 0 ≤ j ∧ j ≤ 1000000 ∧ small i then .ok (.int (i ^ j.toNat)) h else .stk
  | _, _, _ => .stk
/-- x op= y -/
def augM (op : BOp) (x y : MV) (h : MH) : R MV := match op, x, y with
  | .add, .int i, .int j => .ok (.int (i + j)) h
  | .sub, .int i, .int j => .ok (.int (i - j)) h
  | .mul, .int i, .int j => if small i || small j then .ok (.int (i * j)) h else .stk
  | .mod, .int i, .int j => if 0 < j then .ok (.int (i % j)) h else .stk
  | .fdiv, .int i, .int j => if 0 < j ∧ j < 1073741824 then .ok (.int (i / j)) h else .stk
  | .add, .str a, .str b => if a.length + b.length ≤ LIM then .ok (.str (a ++ b)) h else .stk
  | _, _, _ => .stk
def eqM (h : MH) (x y : MV) : Option Bool := match dat DEP h x, dat DEP h y with
  | some a, some b => some (eqP a b)
  | _, _ => none
def ltM (_h : MH) (x y : MV) : Option Bool := match x, y with
  | .int i, .int j => some (decide (i < j))
  | _, _ => none
/-! dicts -/
def aOk : MV → Bool
  | .int _ => true
  | .str _ => true
  | .bl _ => true
  | _ => false
def eqA : MV → MV → Bool
  | .int i, .int j => decide (i = j)
  | .int i, .bl b => decide (i = if b then 1 else 0)
  | .bl b, .int i => decide (i = if b then 1 else 0)
  | .bl b, .bl c => b == c
  | .str a, .str b => decide (a = b)
  | _, _ => false
def eqAs : List MV → List MV → Bool
  | [], [] => true
  | a :: r, b :: s => eqA a b && eqAs r s
  | _, _ => false
def kOk (t : Bool) : MV → Bool
  | .int _ => !t
  | .str _ => !t
  | .tup l => t && l.all aOk
  | _ => false
def eqK : MV → MV → Bool
  | .int i, .int j => decide (i = j)
  | .str a, .str b => decide (a = b)
  | .tup a, .tup b => eqAs a b
  | _, _ => false
def lookK (k : MV) : List (MV × MV) → Option MV
  | [] => none
  | (a, v) :: r => if eqK a k then some v else lookK k r
def hasK (k : MV) : List (MV × MV) → Bool
  | [] => false
  | (a, _) :: r => eqK a k || hasK k r
def putK (k v : MV) (l : List (MV × MV)) : List (MV × MV) := if hasK k l then l.map fun p => if eqK p.1 k then (p.1, v) else p else l ++ [(k, v)]
def dropK (k : MV) (l : List (MV × MV)) : List (MV × MV) := l.filter fun p => !eqK p.1 k
/-- what a dict of the text's top, or one of the heap, holds at a key -/
def dget (h : MH) (x k : MV) : Option (Option MV) := match x with
  | .kd l => match k with
    | .str _ => some (lookK k l)
    | _ => none
  | .ref n => match h.get n with
    | some (.dct false _ l) => if kOk false k then some (lookK k l) else none
    | _ => none
  | _ => none
def isD (h : MH) : MV → Bool
  | .kd _ => true
  | .ref n => match h.get n with
    | some (.dct _ _ _) => true
    | _ => false
  | _ => false
/-- x in y: a sign of a text, an item of a list or a tuple of data, a key -/
def inM (h : MH) (x y : MV) : Option Bool := if isD h y then (dget h y x).map (·.isSome) else match y with
  | .str t => match x with
    | .str [c] => some (decide (c ∈ t))
    | _ => none
  | y => match dat DEP h x, dat DEP h y with
    | some d, some (.lst l) => some (l.any fun z => eqP z d)
    | some d, some (.tup l) => some (l.any fun z => eqP z d)
    | _, _ => none
def bR (o : Option Bool) (h : MH) : R MV := match o with
  | some b => .ok (.bl b) h
  | none => .stk
def cmpM (op : COp) (x y : MV) (h : MH) : R MV := match op with
  | .eq => bR (eqM h x y) h
  | .ne => bR ((eqM h x y).map not) h
  | .lt => bR (ltM h x y) h
  | .gt => bR (ltM h y x) h
  | .le => bR ((ltM h y x).map not) h
  | .ge => bR ((ltM h x y).map not) h
  | .isin => bR (inM h x y) h
  | .notin => bR ((inM h x y).map not) h
def truM (x : MV) (h : MH) : R Bool := match x with
  | .non => .ok false h
  | .bl b => .ok b h
  | .int i => .ok (i != 0) h
  | .str s => .ok (!s.isEmpty) h
  | .tup l => .ok (!l.isEmpty) h
  | .kl l => .ok (!l.isEmpty) h
  | .ref n => match h.get n with
    | some (.lst l) => .ok (!l.isEmpty) h
    | _ => .stk
  | _ => .stk
def fld (f : Nat) : List (Nat × MV) → Option MV
  | [] => none
  | (g, v) :: r => if g = f then some v else fld f r
def putFld (f : Nat) (v : MV) : List (Nat × MV) → List (Nat × MV)
  | [] => [(f, v)]
  | (g, x) :: r => if g = f then (g, v) :: r else (g, x) :: putFld f v r
def attM (P : Prog) (x : MV) (f : Nat) (h : MH) : R MV := match x with
  | .ref n => match h.get n with
    | some (.ins c fs) => match fld f fs with
      | some v => if (P.cls c).att f then .ok v h else .stk
      | none => .stk
    | _ => .stk
  | _ => .stk
/-- a place counted from the end, if it lies below 0 -/
def ixN (i : Int) (n : Nat) : Option Nat := if 0 ≤ i then (if i < n then some i.toNat else none) else (if 0 ≤ i + n then some (i + n).toNat else none)
def atL (l : List MV) (i : Int) : Option MV := match ixN i l.length with
  | some k => l[k]?
  | none => none
def subM (x i : MV) (h : MH) : R MV := match x, i with
  | .str s, .int k => match ixN k s.length with
    | some j => match s[j]? with
      | some c => .ok (.str [c]) h
      | none => .stk
    | none => .stk
  | .tup l, .int k => match atL l k with
    | some v => .ok v h
    | none => .stk
  | .kl l, .int k => match atL l k with
    | some v => .ok v h
    | none => .stk
  | .kd l, k => match dget h (.kd l) k with
    | some (some v) => .ok v h
    | _ => .stk
  | .ref n, k => match h.get n with
    | some (.dct _ _ _) => (match dget h (.ref n) k with
      | some (some v) => .ok v h
      | _ => .stk)
    | some (.lst l) => (match k with
      | .int j => (match atL l j with
        | some v => .ok v h
        | none => .stk)
      | _ => .stk)
    | _ => .stk
  | _, _ => .stk
/-- an end of a slice, within 0 .. n -/
def clip (d : Nat) (n : Nat) : Option Int → Nat
  | none => d
  | some i => if i < 0 then (i + n).toNat else min i.toNat n
def cut {α : Type} (l : List α) (lo hi : Option Int) : List α := (l.drop (clip 0 l.length lo)).take (clip l.length l.length hi - clip 0 l.length lo)
def oi : MV → Option Int
  | .int i => if -4611686018427387904 ≤ i ∧ i < 4611686018427387904 then some i else none
  | _ => none
def slM (x : MV) (lo hi : Option Int) (h : MH) : R MV := match x with
  | .str s => .ok (.str (cut s lo hi)) h
  | .tup l => .ok (.tup (cut l lo hi)) h
  | .kl l => new h (.lst (cut l lo hi))
  | .ref n => match listOf h (.ref n) with
    | some l => new h (.lst (cut l lo hi))
    | none => .stk
  | _ => .stk
/-- o[i] = v -/
def setI (x i v : MV) (h : MH) : R Unit := match x with
  | .ref n => match h.get n with
    | some (.lst l) => (match i with
      | .int k => (match ixN k l.length with
        | some j => .ok () (h.put n (.lst (l.set j v)))
        | none => .stk)
      | _ => .stk)
    | some (.dct false false l) => if kOk false i = true ∧ l.length < LIM then .ok () (h.put n (.dct false false (putK i v l))) else .stk
    | _ => .stk
  | _ => .stk
def setA (P : Prog) (x : MV) (f : Nat) (v : MV) (h : MH) : R Unit := match x with
  | .ref n => match h.get n with
    | some (.ins c fs) => if fs.length < 1000 ∧ (P.cls c).att f then .ok () (h.put n (.ins c (putFld f v fs))) else .stk
    | _ => .stk
  | _ => .stk
/-- a value's class -/
inductive Tt where | nn | bl | int | str | tup | lst | own (c : Nat) deriving Repr, DecidableEq
def tyM (h : MH) : MV → Option Tt
  | .non => some .nn
  | .bl _ => some .bl
  | .int _ => some .int
  | .str _ => some .str
  | .tup _ => some .tup
  | .kl _ => some .lst
  | .ref n => match h.get n with
    | some (.lst _) => some .lst
    | some (.ins c _) => some (.own c)
    | _ => none
  | _ => none
def subT : Tt → Ty → Option Bool
  | .int, .int => some true
  | .bl, .int => some true
  | .bl, .bool => some true
  | .str, .str => some true
  | .tup, .tuple => some true
  | .lst, .list => some true
  | _, .lookup => none
  | _, .value => none
  | .own a, .own c => some (decide (a = c))
  | _, _ => some false
def Tt.ok (P : Prog) : Tt → Bool
  | .own a => (P.cls a).isx
  | _ => true
def Ty.ok (P : Prog) : Ty → Bool
  | .own a => (P.cls a).isx
  | _ => true
def isiM (P : Prog) (x : MV) (t : Ty) (h : MH) : Option Bool := match tyM h x with
  | some a => if a.ok P && t.ok P then subT a t else none
  | none => none
/-- the items of a join -/
def txs : List MV → Option (List Tx)
  | [] => some []
  | .str s :: r => (txs r).map (s :: ·)
  | _ :: _ => none
def joinT (sep : Tx) : List Tx → Tx
  | [] => []
  | [a] => a
  | a :: b :: r => a ++ sep ++ joinT sep (b :: r)
def allT : List MV → Option Bool
  | [] => some true
  | .bl b :: r => (allT r).map (b && ·)
  | _ :: _ => none
def anyT : List MV → Option Bool
  | [] => some false
  | .bl b :: r => (anyT r).map (b || ·)
  | _ :: _ => none
def shM (P : Prog) (x : MV) (h : MH) : Option Tx := match dat DEP h x with
  | some d => if shwOk d = true ∧ msz d ≤ LIM then some (P.shw d) else none
  | none => none
def tR (o : Option Tx) (h : MH) : R MV := match o with
  | some s => .ok (.str s) h
  | none => .stk
/-! sorting -/
def insI (x : Int) : List Int → List Int
  | [] => [x]
  | y :: r => if x ≤ y then x :: y :: r else y :: insI x r
def srtI : List Int → List Int
  | [] => []
  | x :: r => insI x (srtI r)
def insS (x : Tx) : List Tx → List Tx
  | [] => [x]
  | y :: r => if ltT y x then y :: insS x r else x :: y :: r
def srtS : List Tx → List Tx
  | [] => []
  | x :: r => insS x (srtS r)
def intL : List MV → Option (List Int)
  | [] => some []
  | .int i :: r => (intL r).map (i :: ·)
  | _ :: _ => none
def sortL (l : List MV) (h : MH) : R MV := match intL l with
  | some ns => newList h ((srtI ns).map .int)
  | none => match txs l with
    | some ts => if ts.length < 64 then newList h ((srtS ts).map .str) else .stk
    | none => .stk
def sortM (x : MV) (h : MH) : R MV := match x with
  | .ref n => match h.get n with
    | some (.lst l) => sortL l h
    | some (.dct false _ l) => sortL (l.map (·.1)) h
    | _ => .stk
  | _ => .stk
/-- the members, rising -/
def uniS (a : List Int) (x : Int) : List Int := if x ∈ a then a else a ++ [x]
def uniI (l : List Int) : List Int := l.foldl uniS []
def mkSet (l : List MV) (h : MH) : R MV := match intL l with
  | some ns => if (uniI ns).length < 64 then newList h ((srtI (uniI ns)).map .int) else .stk
  | none => .stk
/-- methods of dicts -/
def isDM (x : MV) (h : MH) : R Unit := match x with
  | .ref n => match h.get n with
    | some (.dct false _ _) => .ok () h
    | _ => .stk
  | _ => .stk
def isDU (x : MV) (h : MH) : R Unit := match x with
  | .ref n => match h.get n with
    | some (.dct false false _) => .ok () h
    | _ => .stk
  | _ => .stk
def dm1M (k : Nat) (x y : MV) (h : MH) : R MV := match k with
  | 0 => match dget h x y with
    | some o => .ok (o.getD .non) h
    | none => .stk
  | 1 => match x with
    | .ref n => match h.get n with
      | some (.dct false false l) => if kOk false y = true then match lookK y l with
        | some v => .ok v (h.put n (.dct false false (dropK y l)))
        | none => .stk
        else .stk
      | _ => .stk
    | _ => .stk
  | _ => .stk
def dm2M (k : Nat) (x y z : MV) (h : MH) : R MV := match k with
  | 0 => match dget h x y with
    | some o => .ok (o.getD z) h
    | none => .stk
  | 1 => match x with
    | .ref n => match h.get n with
      | some (.dct false false l) => if kOk false y = true then match lookK y l with
        | some v => .ok v (h.put n (.dct false false (dropK y l)))
        | none => .ok z h
        else .stk
      | _ => .stk
    | _ => .stk
  | 2 => match x with
    | .ref n => match h.get n with
      | some (.dct false false l) => if kOk false y = true ∧ l.length < LIM then match lookK y l with
        | some v => .ok v h
        | none => .ok z (h.put n (.dct false false (putK y z l)))
        else .stk
      | _ => .stk
    | _ => .stk
  | _ => .stk
/-- setdefault at a tuple -/
def isDT (x : MV) (h : MH) : R Unit := match x with
  | .ref n => match h.get n with
    | some (.dct _ false _) => .ok () h
    | _ => .stk
  | _ => .stk
def dsTM (x y z : MV) (h : MH) : R MV := match x with
  | .ref n => match h.get n with
    | some (.dct t false l) => if (t = true ∨ l = []) ∧ kOk true y = true ∧ l.length < LIM then match lookK y l with
      | some v => .ok v h
      | none => .ok z (h.put n (.dct true false (putK y z l)))
      else .stk
    | _ => .stk
  | _ => .stk
def delM (x y : MV) (h : MH) : R Unit := match x with
  | .ref n => match h.get n with
    | some (.dct false false l) => if kOk false y = true ∧ hasK y l = true then .ok () (h.put n (.dct false false (dropK y l))) else .stk
    | _ => .stk
  | _ => .stk
def bifM (P : Prog) (b : Bif) (vs : List MV) (h : MH) : R MV := match b, vs with
  | .len, [.str s] => if s.length ≤ LIM then .ok (.int s.length) h else .stk
  | .len, [x] => match seqOf h x with
    | some l => .ok (.int l.length) h
    | none => match x with
      | .ref n => match h.get n with
        | some (.dct false _ l) => .ok (.int l.length) h
        | _ => .stk
      | _ => .stk
  | .abs, [.int i] => .ok (.int (if i < 0 then -i else i)) h
  | .max, [.int i, .int j] => .ok (.int (if j > i then j else i)) h
  | .min, [.int i, .int j] => .ok (.int (if j < i then j else i)) h
  | .int, [.int i] => .ok (.int i) h
  | .int, [.bl b] => .ok (.int (if b then 1 else 0)) h
  | .int, [.str [c]] => if 48 ≤ c ∧ c ≤ 57 then .ok (.int (c - 48 : Nat)) h else .stk
  | .str, [.int i] => if i.natAbs.log2 < 1920 then .ok (.str (itx i)) h else .stk
  | .str, [.str s] => .ok (.str s) h
  | .repr, [x] => tR (shM P x h) h
  | .list, [.str s] => newList h (s.map fun c => .str [c])
  | .list, [x] => match seqOf h x with
    | some l => newList h l
    | none => .stk
  | .tuple, [x] => match seqOf h x with
    | some l => .ok (.tup l) h
    | none => .stk
  | .sorted, [x] => sortM x h
  | .all, [x] => match listOf h x with
    | some l => bR (allT l) h
    | none => .stk
  | .any, [x] => match listOf h x with
    | some l => bR (anyT l) h
    | none => .stk
  | _, _ => .stk
/-- methods of built-in types, by their numbers in every table: 0 append, 1 join, 2 index -/
def metM (m : Nat) (x : MV) (vs : List MV) (h : MH) : R MV := match m, x, vs with
  | 0, .ref n, [v] => match h.get n with
    | some (.lst l) => if l.length < LIM then .ok .non (h.put n (.lst (l ++ [v]))) else .stk
    | _ => .stk
  | 6, .ref n, [.int i] => match h.get n with
    | some (.lst l) => match ixN i l.length with
      | some k => match l[k]? with
        | some v => .ok v (h.put n (.lst (l.eraseIdx k)))
        | none => .stk
      | none => .stk
    | _ => .stk
  | 7, .ref n, [] => match h.get n with
    | some (.lst l) => .ok .non (h.put n (.lst l.reverse))
    | _ => .stk
  | 1, .str s, [v] => match listOf h v with
    | some l => match txs l with
      | some ts => if (ts.map (·.length)).sum + ts.length * s.length ≤ LIM then .ok (.str (joinT s ts)) h else .stk
      | none => .stk
    | none => .stk
  | 2, x, [.str s] => match listOf h x with
    | some l => match txs l with
      | some ts => match ts.findIdx? (· == s) with
        | some k => .ok (.int k) h
        | none => .stk
      | none => .stk
    | none => .stk
  | _, _, _ => .stk
def pick (vs ks : List MV) : List Src → Option (List MV)
  | [] => some []
  | .pos i :: r => match vs[i]?, pick vs ks r with
    | some v, some l => some (v :: l)
    | _, _ => none
  | .kw i :: r => match ks[i]?, pick vs ks r with
    | some v, some l => some (v :: l)
    | _, _ => none
  | .dfl v :: r => (pick vs ks r).map (v :: ·)

/-- the method's def -/
def fldN (m : Nat) : List (Nat × Nat) → Option Nat
  | [] => none
  | (k, f) :: r => if k = m then some f else fldN m r
abbrev En := List (Option MV)
/-- what is walked: the live list of an object, or items that stay -/
inductive It where
  | live (n : Nat) | items (l : List MV) | zip (a b : MV) | enum (a : MV)
def It.len (h : MH) : It → Option Nat
  | .live n => (listOf h (.ref n)).map (·.length)
  | .items l => some l.length
  | .zip a b => match listOf h a, listOf h b with
    | some l, some m => some (min l.length m.length)
    | _, _ => none
  | .enum a => (listOf h a).map (·.length)
def pairAt (i : Nat) (l m : List MV) : Option MV := match l[i]?, m[i]? with
  | some x, some y => some (.tup [x, y])
  | _, _ => none
/-- the item at turn i: none: no such thing; some none: the end -/
def It.at (h : MH) (i : Nat) : It → Option (Option MV)
  | .live n => (listOf h (.ref n)).map (·[i]?)
  | .items l => some l[i]?
  | .zip a b => match listOf h a, listOf h b with
    | some l, some m => some (pairAt i l m)
    | _, _ => none
  | .enum a => (listOf h a).map fun l => (l[i]?).map fun x => .tup [.int i, x]
def rngL (a b : Int) : List MV := (List.range (b - a).toNat).map fun k : Nat => .int (a + k)
def itOf (h : MH) : MV → Option It
  | .ref n => match listOf h (.ref n) with
    | some _ => some (.live n)
    | none => none
  | .kl l => some (.items l)
  | .tup l => some (.items l)
  | .str s => some (.items (s.map fun c => .str [c]))
  | .kd l => some (.items (l.map (·.1)))
  | _ => none
def zipT : List MV → List MV → List MV
  | x :: r, y :: t => .tup [x, y] :: zipT r t
  | _, _ => []
def zipM (x y : MV) (h : MH) : R It := match x, y with
  | .tup l, .tup m => .ok (.items (zipT l m)) h
  | x, y => match listOf h x, listOf h y with
    | some _, some _ => .ok (.zip x y) h
    | _, _ => .stk
def enumM (x : MV) (h : MH) : R It := match listOf h x with
  | some _ => .ok (.enum x) h
  | none => .stk
def wipe (σ : En) : List Nat → En
  | [] => σ
  | i :: r => (wipe σ r).set i none

def itM (x : MV) (h : MH) : R It := match itOf h x with
  | some t => .ok t h
  | none => .stk
def itLM (x : MV) (h : MH) : R It := match listOf h x with
  | some _ => itM x h
  | none => .stk
def rngM (x y : MV) (h : MH) : R It := match oi x, oi y with
  | some m, some n => if n - m ≤ 16777216 then .ok (.items (rngL m n)) h else .stk
  | _, _ => .stk
/-- how a statement ends -/
inductive RS where
  | nx (σ : En) (h : MH) | rt (v : MV) (h : MH) | bk (σ : En) (h : MH) | ct (σ : En) (h : MH)
  | ex (c : Nat) (l : List MV) (σ : En) (h : MH) | stk
  deriving Repr, Inhabited
/-- an expression's value, then the rest of a statement at σ -/
def R.go {α : Type} (r : R α) (σ : En) (f : α → MH → RS) : RS := match r with
  | .ok a h => f a h
  | .ex c l h => .ex c l σ h
  | .stk => .stk

def isNM (b : Bool) (x : MV) (h : MH) : R MV := match x with
  | .non => .ok (.bl b) h
  | _ => .ok (.bl (!b)) h
def negM (x : MV) (h : MH) : R MV := match x with
  | .int i => .ok (.int (-i)) h
  | _ => .stk
def revM (x : MV) (h : MH) : R MV := match x with
  | .str s => .ok (.str s.reverse) h
  | _ => .stk
def oiM (x : MV) (h : MH) : R (Option Int) := match oi x with
  | some i => .ok (some i) h
  | none => .stk
def chM (c : MH → R MV) (o1 o2 : COp) (x y : MV) (h : MH) : R MV := (cmpM o1 x y h).bind fun z h3 => match z with
  | .bl true => (c h3).bind fun w h4 => cmpM o2 y w h4
  | .bl false => .ok (.bl false) h3
  | _ => .stk
def litM (l : List MV) (h : MH) : R MV := if l.length ≤ LIM then .ok (.tup l) h else .stk
def callP (C : Nat → List MV → MH → R MV) (f : Nat) (sh : List Src) (vs ws : List MV) (h : MH) : R MV := match pick vs ws sh with
  | some l => C f l h
  | none => .stk
/-- o.m: an own class's method, or a built-in one's -/
inductive MK where | own (f : Nat) | bt
def metK (P : Prog) (m : Nat) (x : MV) (h : MH) : R MK := match x with
  | .ref n => match h.get n with
    | some (.ins c _) => if m < 100 then .stk else match fldN m (P.cls c).met with
      | some f => .ok (.own f) h
      | none => .stk
    | some (.lst _) => if m = 0 ∨ m = 6 ∨ m = 7 ∨ m = 2 then .ok .bt h else .stk
    | _ => .stk
  | .str _ => if m = 1 then .ok .bt h else .stk
  | .kl _ => if m = 2 then .ok .bt h else .stk
  | _ => .stk
def metC (C : Nat → List MV → MH → R MV) (k : MK) (m : Nat) (sh : List Src) (x : MV) (vs ws : List MV) (h : MH) : R MV := match k with
  | .own f => match pick vs ws sh with
    | some l => C f (x :: l) h
    | none => .stk
  | .bt => metM m x vs h

/-- C(..): a new instance, its __init__ -/
def mkM (P : Prog) (C : Nat → List MV → MH → R MV) (c : Nat) (sh : List Src) (vs ws : List MV) (h : MH) : R MV := match pick vs ws sh with
  | some l => (C (P.cls c).ini (.ref h.size :: l) (h.push (.ins c []))).bind fun v h1 => match v with
    | .non => .ok (.ref h.size) h1
    | _ => .stk
  | none => .stk
/-- a loop's turns: body's end by the item -/
def loop (body : MV → En → MH → RS) (it : It) : Nat → Nat → En → MH → RS
  | 0, i, σ, h => match it.at h i with
    | some none => .nx σ h
    | _ => .stk
  | n + 1, i, σ, h => match it.at h i with
    | some none => .nx σ h
    | some (some v) => match body v σ h with
      | .nx σ' h' => loop body it n (i + 1) σ' h'
      | .ct σ' h' => loop body it n (i + 1) σ' h'
      | .bk σ' h' => .nx σ' h'
      | r => r
    | none => .stk
/-- a comprehension's turns: the items so far -/
def lcl (body : MV → MH → R (Option MV)) (it : It) : Nat → Nat → List MV → MH → R (List MV)
  | 0, i, acc, h => match it.at h i with
    | some none => .ok acc h
    | _ => .stk
  | n + 1, i, acc, h => match it.at h i with
    | some none => .ok acc h
    | some (some v) => (body v h).bind fun o h' => match o with
      | some x => if acc.length < LIM then lcl body it n (i + 1) (acc ++ [x]) h' else .stk
      | none => lcl body it n (i + 1) acc h'
    | none => .stk

/-- the pairs of a display are put into the new dict -/
def pairs : List MV → Option (List (MV × MV))
  | [] => some []
  | [_] => none
  | k :: v :: r => (pairs r).map ((k, v) :: ·)
def dispM (n : Nat) (vs : List MV) (h : MH) : R MV := match pairs vs with
  | none => .stk
  | some l => if l.length ≤ 15 ∧ (l.all fun p => kOk false p.1) = true then match h.get n with
    | some (.dct false false []) => .ok (.ref n) (h.put n (.dct false false (l.foldl (fun a p => putK p.1 p.2 a) [])))
    | _ => .stk
    else .stk
def setM (i : Nat) (v : MV) (σ : En) (h : MH) : R En := .ok (σ.set i (some v)) h
def lcB (ma : MV → En → MH → R En) (mt : En → MH → R Bool) (mx : En → MH → R MV) (own : List Nat) (σ : En) (v : MV) (h : MH) : R (Option MV) :=
  ((ma v (wipe σ own) h).bind fun σ3 h3 => (mt σ3 h3).bind fun b h4 => if b then (mx σ3 h4).bind fun x h5 => .ok (some x) h5 else .ok none h4).noEx
def lcM (mi : En → MH → R It) (ma : MV → En → MH → R En) (mt : En → MH → R Bool) (mx : En → MH → R MV) (own : List Nat) (σ : En) (h : MH) : R MV := (mi σ h).bind fun t h1 => match t.len h1 with
  | some n => (lcl (lcB ma mt mx own σ) t n 0 [] h1).bind fun l h2 => newList h2 l
  | none => .stk
/-- a path: read, nothing changed -/
def attV (P : Prog) (x : MV) (f : Nat) (h : MH) : Option MV := match attM P x f h with
  | .ok v _ => some v
  | _ => none
def subV (x y : MV) (h : MH) : Option MV := match subM x y h with
  | .ok v _ => some v
  | _ => none
def pthV (P : Prog) : Ex → En → MH → Option MV
  | .var i, σ, _ => match σ[i]? with
    | some (some v) => some v
    | _ => none
  | .att e f, σ, h => (pthV P e σ h).bind fun x => attV P x f h
  | .sub e i, σ, h => match i with
    | .str s => (pthV P e σ h).bind fun x => subV x (.str s) h
    | .var j => (pthV P e σ h).bind fun x => match σ[j]? with
      | some (some v) => subV x v h
      | _ => none
    | _ => none
  | _, _, _ => none
def pairT (p : MV × MV) : MV := .tup [p.1, p.2]
/-- the dict at the path is locked while its items are walked -/
def walkD (bd : Nat) (mp : En → MH → Option MV) (body : En → MV → MH → R (Option MV)) (σ : En) (h : MH) : R (List MV) := match mp σ h with
  | some (.ref n) => match h.get n with
    | some (.dct false false l) => if l.length < bd then (lcl (body σ) (.items (l.map pairT)) l.length 0 [] (h.put n (.dct false true l))).bind fun acc h2 => match h2.get n with
      | some (.dct false true l2) => .ok acc (h2.put n (.dct false false l2))
      | _ => .stk
      else .stk
    | _ => .stk
  | _ => .stk
/-- an int -/
def intM (m : En → MH → R MV) (σ : En) (h : MH) : R MV := (m σ h).bind fun x h1 => match x with
  | .int i => .ok (.int i) h1
  | _ => .stk
/-- .. whose keys are tuples, or any -/
def walkT (bd : Nat) (mp : En → MH → Option MV) (body : En → MV → MH → R (Option MV)) (σ : En) (h : MH) : R (List MV) := match mp σ h with
  | some (.ref n) => match h.get n with
    | some (.dct true false l) => if l.length < bd then (lcl (body σ) (.items (l.map pairT)) l.length 0 [] (h.put n (.dct true true l))).bind fun acc h2 => match h2.get n with
      | some (.dct true true l2) => .ok acc (h2.put n (.dct true false l2))
      | _ => .stk
      else .stk
    | _ => walkD bd mp body σ h
  | _ => .stk
def kvM (t : Bool) (mk mv : En → MH → R MV) (σ : En) (h : MH) : R MV := (mk σ h).bind fun x h1 => (mv σ h1).bind fun y h2 => if kOk t x then .ok (.tup [x, y]) h2 else .stk
def foldK : List MV → List (MV × MV) → Option (List (MV × MV))
  | [], l => some l
  | .tup [k, v] :: r, l => foldK r (putK k v l)
  | _ :: _, _ => none
def mkDct (t : Bool) (l : List MV) (h : MH) : R MV := match foldK l [] with
  | some r => new h (.dct t false r)
  | none => .stk
/-- what a slot holds of an exception -/
def excAt (σ : En) (i : Nat) : Option (Nat × List MV) := match σ[i]? with
  | some (some (.exc c l)) => some (c, l)
  | _ => none
def isXM (P : Prog) (i d : Nat) (σ : En) (h : MH) : R MV := match excAt σ i with
  | some (c, _) => .ok (.bl (P.xsub c d)) h
  | none => .stk
def attXM (P : Prog) (i f : Nat) (σ : En) (h : MH) : R MV := match excAt σ i with
  | some (c, [v]) => if P.xat c = f then .ok v h else .stk
  | _ => .stk
def callXM (C : Nat → List MV → MH → R MV) (f i : Nat) (σ : En) (h : MH) : R MV := match excAt σ i with
  | some (c, l) => (C f [.exc c l] h).noEx
  | none => .stk
def lenV (v : MV) (h : MH) : R MV := match v with
  | .int i => if 0 ≤ i ∧ i ≤ 16777216 then .ok (.int i) h else .stk
  | _ => .stk
section
variable (P : Prog) (C : Nat → List MV → MH → R MV)
mutual
def ev : Ex → En → MH → R MV
  | .var i, σ, h => match σ[i]? with
    | some (some v) => .ok v h
    | _ => .stk
  | .non, _, h => .ok .non h
  | .bl b, _, h => .ok (.bl b) h
  | .int i, _, h => .ok (.int i) h
  | .str s, _, h => .ok (.str s) h
  | .gl g, _, h => .ok (P.glob g) h
  | .bin op a b, σ, h => (ev a σ h).bind fun x h1 => (ev b σ h1).bind fun y h2 => binM op x y h2
  | .neg a, σ, h => (ev a σ h).bind fun x h1 => negM x h1
  | .not_ a, σ, h => (ev a σ h).bind fun x h1 => (truM x h1).bind fun b h2 => .ok (.bl (!b)) h2
  | .cmp op a b, σ, h => (ev a σ h).bind fun x h1 => (ev b σ h1).bind fun y h2 => cmpM op x y h2
  | .isN a, σ, h => (ev a σ h).bind fun x h1 => isNM true x h1
  | .isNt a, σ, h => (ev a σ h).bind fun x h1 => isNM false x h1
  | .ch o1 o2 a b c, σ, h => (ev a σ h).bind fun x h1 => (ev b σ h1).bind fun y h2 => chM (fun h3 => ev c σ h3) o1 o2 x y h2
  | .and_ a b, σ, h => (ev a σ h).bind fun x h1 => (truM x h1).bind fun c h2 => if c then ev b σ h2 else .ok x h2
  | .or_ a b, σ, h => (ev a σ h).bind fun x h1 => (truM x h1).bind fun c h2 => if c then .ok x h2 else ev b σ h2
  | .ife c a b, σ, h => (tv c σ h).bind fun d h1 => if d then ev a σ h1 else ev b σ h1
  | .att e f, σ, h => (ev e σ h).bind fun x h1 => attM P x f h1
  | .sub e i, σ, h => (ev e σ h).bind fun x h1 => (ev i σ h1).bind fun y h2 => subM x y h2
  | .sl e lo hi, σ, h => (ev e σ h).bind fun x h1 => (eo lo σ h1).bind fun a h2 => (eo hi σ h2).bind fun b h3 => slM x a b h3
  | .rev e, σ, h => (ev e σ h).bind fun x h1 => revM x h1
  | .tup es, σ, h => (evs es σ h).bind fun l h1 => litM l h1
  | .lst es, σ, h => (evs es σ h).bind fun l h1 => newList h1 l
  | .dct es, σ, h => (evs es σ (h.push (.dct false false []))).bind fun l h1 => dispM h.size l h1
  | .call f es ks _ sh, σ, h => (evs es σ h).bind fun vs h1 => (evs ks σ h1).bind fun ws h2 => callP C f sh vs ws h2
  | .bif b es, σ, h => (evs es σ h).bind fun vs h1 => bifM P b vs h1
  | .isi e t, σ, h => (ev e σ h).bind fun x h1 => bR (isiM P x t h1) h1
  | .met m o es ks _ sh, σ, h => (ev o σ h).bind fun x h1 => (metK P m x h1).bind fun k h2 => (evs es σ h2).bind fun vs h3 => (evs ks σ h3).bind fun ws h4 => metC C k m sh x vs ws h4
  | .mk c es ks _ sh, σ, h => (evs es σ h).bind fun vs h1 => (evs ks σ h1).bind fun ws h2 => mkM P C c sh vs ws h2
  | .lc elt own tg it c, σ, h => lcM (itv it) (asg tg) (ct c) (ev elt) own σ h
  | .dm1 k o a, σ, h => (ev o σ h).bind fun x h1 => (isDM x h1).bind fun _ h2 => (ev a σ h2).bind fun y h3 => dm1M k x y h3
  | .dm2 k o a b, σ, h => (ev o σ h).bind fun x h1 => (isDM x h1).bind fun _ h2 => (ev a σ h2).bind fun y h3 => (ev b σ h3).bind fun z h4 => dm2M k x y z h4
  | .dsT o a b, σ, h => (ev o σ h).bind fun x h1 => (isDT x h1).bind fun _ h2 => (ev a σ h2).bind fun y h3 => (ev b σ h3).bind fun z h4 => dsTM x y z h4
  | .sortk o, σ, h => (ev o σ h).bind fun x h1 => (isDU x h1).bind fun _ h2 => sortM x h2
  | .lenO m o, σ, h => (ev o σ h).bind fun x h1 => (metK P m x h1).bind fun k h2 => (metC C k m [] x [] [] h2).bind fun v h3 => lenV v h3
  | .lci elt own tg p c, σ, h => (walkD LIM (pthV P p) (lcB (asg tg) (ct c) (ev elt) own) σ h).bind fun l h1 => newList h1 l
  | .sci elt own tg p c, σ, h => (walkD 4000 (pthV P p) (lcB (asg tg) (ct c) (intM (ev elt)) own) σ h).bind fun l h1 => mkSet l h1
  | .dci kx vx own tg p c, σ, h => (walkD LIM (pthV P p) (lcB (asg tg) (ct c) (kvM false (ev kx) (ev vx)) own) σ h).bind fun l h1 => mkDct false l h1
  | .dcT kx vx own tg p c, σ, h => (walkT LIM (pthV P p) (lcB (asg tg) (ct c) (kvM true (ev kx) (ev vx)) own) σ h).bind fun l h1 => mkDct true l h1
  | .fst es, σ, h => (evs es σ h).bind fun _ _ => .stk
  | .isX i d, σ, h => isXM P i d σ h
  | .attX i f, σ, h => attXM P i f σ h
  | .callX f i, σ, h => callXM C f i σ h
  | .nev, _, _ => .stk
/-- a test -/
def tv : Te → En → MH → R Bool
  | .vl e, σ, h => (ev e σ h).bind fun x h1 => truM x h1
  | .not_ a, σ, h => (tv a σ h).bind fun b h1 => .ok (!b) h1
  | .and_ a b, σ, h => (tv a σ h).bind fun c h1 => if c then tv b σ h1 else .ok false h1
  | .or_ a b, σ, h => (tv a σ h).bind fun c h1 => if c then .ok true h1 else tv b σ h1
def evs : Es → En → MH → R (List MV)
  | .nil, _, h => .ok [] h
  | .cons e r, σ, h => (ev e σ h).bind fun x h1 => (evs r σ h1).bind fun l h2 => .ok (x :: l) h2
def eo : Eo → En → MH → R (Option Int)
  | .no, _, h => .ok none h
  | .so e, σ, h => (ev e σ h).bind fun x h1 => oiM x h1
def ct : Tc → En → MH → R Bool
  | .no, _, h => .ok true h
  | .so e, σ, h => tv e σ h
def asg : Tg → MV → En → MH → R En
  | .nm i, v, σ, h => setM i v σ h
  | .tup l, v, σ, h => match v with
    | .tup vs => (asgs l vs σ h).noEx
    | _ => .stk
  | .stB i j, v, σ, h => match v with
    | .str s => if s = [] then .stk else (newList h (s.dropLast.map fun c => .str [c])).bind fun r h1 => .ok ((σ.set i (some r)).set j (some (.str (s.getLast?.toList)))) h1
    | _ => .stk
  | .att o f, v, σ, h => (ev o σ h).bind fun x h1 => (setA P x f v h1).bind fun _ h2 => .ok σ h2
  | .sub o i, v, σ, h => (ev o σ h).bind fun x h1 => (ev i σ h1).bind fun y h2 => (setI x y v h2).bind fun _ h3 => .ok σ h3
def asgs : Tgs → List MV → En → MH → R En
  | .nil, [], σ, h => .ok σ h
  | .cons t r, v :: vs, σ, h => (asg t v σ h).bind fun σ1 h1 => asgs r vs σ1 h1
  | _, _, _, _ => .stk
def itv : Itx → En → MH → R It
  | .ex e, σ, h => (ev e σ h).bind fun x h1 => itM x h1
  | .exL e, σ, h => (ev e σ h).bind fun x h1 => itLM x h1
  | .rng b, σ, h => (ev b σ h).bind fun x h1 => rngM (.int 0) x h1
  | .rng2 a b, σ, h => (ev a σ h).bind fun x h1 => (ev b σ h1).bind fun y h2 => rngM x y h2
  | .zip a b, σ, h => (ev a σ h).bind fun x h1 => (ev b σ h1).bind fun y h2 => zipM x y h2
  | .enum a, σ, h => (ev a σ h).bind fun x h1 => enumM x h1
  | _, _, _ => .stk
end
def upds (σ : En) : List Nat → List MV → Option En
  | [], [] => some σ
  | i :: is, v :: vs => upds (σ.set i (some v)) is vs
  | _, _ => none
/-- an except clause's name is gone behind its suite; nothing is raised there -/
def RS.undo (i : Nat) : RS → RS
  | .nx σ h => .nx (σ.set i none) h
  | .bk σ h => .bk (σ.set i none) h
  | .ct σ h => .ct (σ.set i none) h
  | .rt v h => .rt v h
  | _ => .stk
def RS.calm : RS → RS
  | .ex _ _ _ _ => .stk
  | r => r
/-- what is raised -/
def rseM (P : Prog) (c : Nat) (vs : List MV) (σ : En) (h : MH) : RS := if P.xat c = 0 then match vs with
  | [.str _] => .ex c [] σ h
  | _ => .stk
  else match vs with
  | [v] => .ex c [v] σ h
  | _ => .stk
mutual
def exec : St → En → MH → RS
  | .pass, σ, h => .nx σ h
  | .exp e, σ, h => (ev P C e σ h).go σ fun _ h1 => .nx σ h1
  | .ret e, σ, h => (ev P C e σ h).go σ fun v h1 => .rt v h1
  | .retN, _, h => .rt .non h
  | .set tg e, σ, h => (ev P C e σ h).go σ fun v h1 => (asg P C tg v σ h1).go σ fun σ2 h2 => .nx σ2 h2
  | .set2 t1 t2 e, σ, h => (ev P C e σ h).go σ fun v h1 => (asg P C t1 v σ h1).go σ fun σ2 h2 => (asg P C t2 v σ2 h2).go σ2 fun σ3 h3 => .nx σ3 h3
  | .set3 t1 t2 t3 e, σ, h => (ev P C e σ h).go σ fun v h1 => (asg P C t1 v σ h1).go σ fun σ2 h2 => (asg P C t2 v σ2 h2).go σ2 fun σ3 h3 => (asg P C t3 v σ3 h3).go σ3 fun σ4 h4 => .nx σ4 h4
  | .del_ o i, σ, h => (ev P C o σ h).go σ fun x h1 => (ev P C i σ h1).go σ fun y h2 => (delM x y h2).go σ fun _ h3 => .nx σ h3
  | .par is es, σ, h => (evs P C es σ h).go σ fun vs h1 => match upds σ is vs with
    | some σ1 => .nx σ1 h1
    | none => .stk
  | .aug i op e, σ, h => match σ[i]? with
    | some (some x) => (ev P C e σ h).go σ fun y h1 => (augM op x y h1).go σ fun z h2 => .nx (σ.set i (some z)) h2
    | _ => .stk
  | .augA o f op k, σ, h => (ev P C o σ h).go σ fun x h1 => (attM P x f h1).go σ fun y h2 => (augM op y (.int k) h2).go σ fun w h4 => (setA P x f w h4).go σ fun _ h5 => .nx σ h5
  | .ite c a b, σ, h => (tv P C c σ h).go σ fun d h1 => if d then execs a σ h1 else execs b σ h1
  | .for_ tg it b, σ, h => (itv P C it σ h).go σ fun t h1 => match t.len h1 with
    | some n => loop (fun v σ2 h2 => (asg P C tg v σ2 h2).go σ2 fun σ3 h3 => execs b σ3 h3) t n 0 σ h1
    | none => .stk
  | .rse c es, σ, h => (evs P C es σ h).go σ fun vs h1 => rseM P c vs σ h1
  | .try_ b d i s, σ, h => match execs b σ h with
    | .ex c l σ1 h1 => if P.xsub c d then (execs s (σ1.set i (some (.exc c l))) h1).undo i else .ex c l σ1 h1
    | r => r
  | .tryN b ds s, σ, h => match execs b σ h with
    | .ex c l σ1 h1 => if ds.any (P.xsub c) then (execs s σ1 h1).calm else .ex c l σ1 h1
    | r => r
  | .brk, σ, h => .bk σ h
  | .cont, σ, h => .ct σ h
  | .nev, _, _ => .stk
def execs : Ss → En → MH → RS
  | .nil, σ, h => .nx σ h
  | .cons s r, σ, h => match exec s σ h with
    | .nx σ1 h1 => execs r σ1 h1
    | x => x
end
/-- a def called: its parameters' values in order -/
def runFn (d : FnD) (vs : List MV) (h : MH) : R MV :=
  if vs.length = d.np then
    match execs P C d.body (vs.map some ++ List.replicate (d.ns - d.np) none) h with
    | .nx _ h1 => .ok .non h1
    | .rt v h1 => .ok v h1
    | .ex c l _ h1 => .ex c l h1
    | _ => .stk
  else .stk
end
/-- the f-th def at most k calls deep -/
def callM (P : Prog) : Nat → Nat → List MV → MH → R MV
  | 0, _, _, _ => .stk
  | k + 1, f, vs, h => runFn P (callM P k) (P.fn f) vs h
end DM
set_option linter.all false
set_option maxRecDepth 100000
/-! PL: reckoning with the interpreter. -/
namespace DM
theorem get_push_size {h : MH} {o : MO} : (h.push o).get h.size = some o := List.getElem?_concat_length
theorem get_push_lt {h : MH} {o : MO} {n : Nat} (e : n < h.size) : (h.push o).get n = h.get n := List.getElem?_append_left e
theorem get_lt {h : MH} {n : Nat} {o : MO} (e : h.get n = some o) : n < h.size := (List.getElem?_eq_some_iff.mp e).1
theorem get_push {h : MH} {o u : MO} {n : Nat} (e : h.get n = some u) : (h.push o).get n = some u := by rw [get_push_lt (get_lt e)]; exact e
theorem get_put {h : MH} {n : Nat} {o u : MO} (e : h.get n = some u) : (h.put n o).get n = some o := List.getElem?_set_self (get_lt e)
theorem get_put_ne {h : MH} {n m : Nat} {o : MO} (e : m ≠ n) : (h.put n o).get m = h.get m := List.getElem?_set_ne (fun q => e q.symm)
theorem size_put {h : MH} {n : Nat} {o : MO} : (h.put n o).size = h.size := List.length_set
theorem size_push {h : MH} {o : MO} : (h.push o).size = h.size + 1 := by
  show (h.objs ++ [o]).length = _
  rw [List.length_append]
  rfl
theorem put_put {h : MH} {n : Nat} {o u : MO} : (h.put n o).put n u = h.put n u := by
  show MH.mk ((h.objs.set n o).set n u) = MH.mk (h.objs.set n u)
  rw [List.set_set]
theorem bind_ok' {α β : Type} {a : α} {h : MH} {k : α → MH → R β} : (R.ok a h).bind k = k a h := rfl
theorem noEx_ok' {α : Type} {a : α} {h : MH} : (R.ok a h).noEx = .ok a h := rfl
theorem go_ok {α : Type} {a : α} {h : MH} {σ : En} {k : α → MH → RS} : (R.ok a h).go σ k = k a h := rfl
end DM
namespace DM
section
variable {h : MH} {i j : Int} {P : Prog} {C : Nat → List MV → MH → R MV} {σ : En}
theorem b_add : binM .add (.int i) (.int j) h = .ok (.int (i + j)) h := rfl
theorem b_sub : binM .sub (.int i) (.int j) h = .ok (.int (i - j)) h := rfl
theorem b_mull (e : small i = true) : binM .mul (.int i) (.int j) h = .ok (.int (i * j)) h := by
  show (if small i || small j then R.ok (MV.int (i * j)) h else .stk) = _
  rw [e]
  rfl
theorem b_mulr (e : small j = true) : binM .mul (.int i) (.int j) h = .ok (.int (i * j)) h := by
  show (if small i || small j then R.ok (MV.int (i * j)) h else .stk) = _
  rw [e, Bool.or_true]
  rfl
theorem b_mod (e : 0 < j) : binM .mod (.int i) (.int j) h = .ok (.int (i % j)) h := if_pos e
theorem b_fdiv (e : 0 < j ∧ j < 1073741824) : binM .fdiv (.int i) (.int j) h = .ok (.int (i / j)) h := if_pos e
theorem b_pow {n : Nat} (e : small i = true) (hn : (n : Int) ≤ 1000000) : binM .pow (.int i) (.int n) h = .ok (.int (i ^ n)) h := by
  show (if 0 ≤ (n : Int) ∧ (n : Int) ≤ 1000000 ∧ small i then R.ok (MV.int (i ^ (n : Int).toNat)) h else .stk) = _
  rw [if_pos ⟨Int.natCast_nonneg n, hn, e⟩, Int.toNat_natCast]
theorem b_pow3 (e : small i = true) : binM .pow (.int i) (.int 3) h = .ok (.int (i ^ 3)) h := b_pow (n := 3) e (by decide)
theorem b_pow18 (e : small i = true) : binM .pow (.int i) (.int 18) h = .ok (.int (i ^ 18)) h := b_pow (n := 18) e (by decide)
theorem b_pow30 (e : small i = true) : binM .pow (.int i) (.int 30) h = .ok (.int (i ^ 30)) h := b_pow (n := 30) e (by decide)
theorem b_str {s t : Tx} (e : s.length + t.length ≤ LIM) : binM .add (.str s) (.str t) h = .ok (.str (s ++ t)) h := if_pos e
theorem c_lt : cmpM .lt (.int i) (.int j) h = .ok (.bl (decide (i < j))) h := rfl
theorem c_gt : cmpM .gt (.int i) (.int j) h = .ok (.bl (decide (j < i))) h := rfl
theorem c_le : cmpM .le (.int i) (.int j) h = .ok (.bl (!decide (j < i))) h := rfl
theorem c_ge : cmpM .ge (.int i) (.int j) h = .ok (.bl (!decide (i < j))) h := rfl
theorem c_eqi : cmpM .eq (.int i) (.int j) h = .ok (.bl (i == j)) h := rfl
theorem c_nei : cmpM .ne (.int i) (.int j) h = .ok (.bl (!(i == j))) h := rfl
theorem c_eqs {s t : Tx} : cmpM .eq (.str s) (.str t) h = .ok (.bl (s == t)) h := rfl
theorem c_nes {s t : Tx} : cmpM .ne (.str s) (.str t) h = .ok (.bl (!(s == t))) h := rfl
theorem c_eqb {s t : Bool} : cmpM .eq (.bl s) (.bl t) h = .ok (.bl (s == t)) h := rfl
theorem c_neb {s t : Bool} : cmpM .ne (.bl s) (.bl t) h = .ok (.bl (!(s == t))) h := rfl
theorem t_bl {b : Bool} : truM (.bl b) h = .ok b h := rfl
theorem at_nat {l : List MV} {n : Nat} {v : MV} (e : l[n]? = some v) : atL l (n : Int) = some v := by
  have hl := (List.getElem?_eq_some_iff.mp e).1
  unfold atL DM.ixN
  rw [if_pos (Int.natCast_nonneg n), if_pos (by omega), Int.toNat_natCast]
  exact e
theorem at_0 {l : List MV} {v : MV} (e : l[0]? = some v) : atL l 0 = some v := at_nat (n := 0) e
theorem at_1 {l : List MV} {v : MV} (e : l[1]? = some v) : atL l 1 = some v := at_nat (n := 1) e
theorem at_i {l : List MV} {v : MV} {i : Int} (h0 : 0 ≤ i) (e : l[i.toNat]? = some v) : atL l i = some v := by
  have := at_nat e
  rwa [Int.toNat_of_nonneg h0] at this
theorem s_kl {l : List MV} {v : MV} (e : atL l i = some v) : subM (.kl l) (.int i) h = .ok v h := by
  show (match atL l i with
    | some v => R.ok v h
    | none => .stk) = _
  rw [e]
theorem s_tup {l : List MV} {v : MV} (e : atL l i = some v) : subM (.tup l) (.int i) h = .ok v h := by
  show (match atL l i with
    | some v => R.ok v h
    | none => .stk) = _
  rw [e]
theorem s_ref {n : Nat} {l : List MV} {v : MV} (g : h.get n = some (.lst l)) (e : atL l i = some v) : subM (.ref n) (.int i) h = .ok v h := by
  unfold subM
  simp only [g, e]
theorem w_ref {n : Nat} {l : List MV} {v : MV} {k : Nat} (g : h.get n = some (.lst l)) (hk : k < l.length) : setI (.ref n) (.int k) v h = .ok () (h.put n (.lst (l.set k v))) := by
  unfold setI
  have e : DM.ixN (k : Int) l.length = some k := by
    unfold DM.ixN
    rw [if_pos (Int.natCast_nonneg k), if_pos (by omega), Int.toNat_natCast]
  simp only [g, e]
theorem w_0 {n : Nat} {l : List MV} {v : MV} (g : h.get n = some (.lst l)) (hk : 0 < l.length) : setI (.ref n) (.int 0) v h = .ok () (h.put n (.lst (l.set 0 v))) := w_ref (k := 0) g hk
theorem w_1 {n : Nat} {l : List MV} {v : MV} (g : h.get n = some (.lst l)) (hk : 1 < l.length) : setI (.ref n) (.int 1) v h = .ok () (h.put n (.lst (l.set 1 v))) := w_ref (k := 1) g hk
theorem n_list {l : List MV} (hl : l.length ≤ LIM) : newList h l = .ok (.ref h.size) (h.push (.lst l)) := if_pos hl
theorem l_tup {l : List MV} (hl : l.length ≤ LIM) : litM l h = .ok (.tup l) h := if_pos hl
theorem f_len {l : List MV} : bifM P .len [.kl l] h = .ok (.int l.length) h := rfl
theorem f_lens {l : Tx} (hl : l.length ≤ LIM) : bifM P .len [.str l] h = .ok (.int l.length) h := if_pos hl
theorem f_max : bifM P .max [.int i, .int j] h = .ok (.int (if j > i then j else i)) h := rfl
theorem f_min : bifM P .min [.int i, .int j] h = .ok (.int (if j < i then j else i)) h := rfl
theorem f_abs : bifM P .abs [.int i] h = .ok (.int (if i < 0 then -i else i)) h := rfl
theorem m_app {n : Nat} {l : List MV} {v : MV} (g : h.get n = some (.lst l)) (hl : l.length < LIM) : metM 0 (.ref n) [v] h = .ok .non (h.put n (.lst (l ++ [v]))) := by
  unfold metM
  simp only [g, if_pos hl]
theorem k_app {n : Nat} {l : List MV} (g : h.get n = some (.lst l)) : metK P 0 (.ref n) h = .ok .bt h := by
  unfold metK
  simp only [g, true_or, if_true]
theorem mc_bt {k : Nat} {sh : List Src} {x : MV} {vs ws : List MV} : metC C .bt k sh x vs ws h = metM k x vs h := rfl
/-- statements, one behind the other -/
theorem x_nx {s : St} {r : Ss} {σ1 : En} {h1 : MH} {q : RS} (e : exec P C s σ h = .nx σ1 h1) (k : execs P C r σ1 h1 = q) : execs P C (.cons s r) σ h = q := by
  unfold execs
  rw [e]
  exact k
theorem x_rt {s : St} {r : Ss} {v : MV} {h1 : MH} (e : exec P C s σ h = .rt v h1) : execs P C (.cons s r) σ h = .rt v h1 := by
  unfold execs
  rw [e]
theorem f_rt {d : FnD} {vs : List MV} {v : MV} {h1 : MH} (σ0 : En) (hl : vs.length = d.np) (hσ : vs.map some ++ List.replicate (d.ns - d.np) none = σ0) (e : execs P C d.body σ0 h = .rt v h1) : runFn P C d vs h = .ok v h1 := by
  unfold runFn
  rw [if_pos hl, hσ, e]
end
end DM
namespace DM
/-! loops -/
theorem loop_items {body : MV → En → MH → RS} {l : List MV} (Pv : Nat → En → MH → Prop) (step : ∀ i v σ h, l[i]? = some v → Pv i σ h → ∃ σ' h', body v σ h = .nx σ' h' ∧ Pv (i + 1) σ' h') :
    ∀ (n i : Nat) (σ : En) (h : MH), i + n = l.length → Pv i σ h → ∃ σ' h', loop body (.items l) n i σ h = .nx σ' h' ∧ Pv l.length σ' h'
  | 0, i, σ, h, e, p => by
    have e0 : l[i]? = none := List.getElem?_eq_none (by omega)
    refine ⟨σ, h, ?_, by rw [← e]; exact p⟩
    unfold loop
    simp only [It.at, e0]
  | n + 1, i, σ, h, e, p => by
    have hi : i < l.length := by omega
    have e0 : l[i]? = some l[i] := List.getElem?_eq_getElem hi
    obtain ⟨σ1, h1, e1, p1⟩ := step i _ σ h e0 p
    obtain ⟨σ2, h2, e2, p2⟩ := loop_items Pv step n (i + 1) σ1 h1 (by omega) p1
    refine ⟨σ2, h2, ?_, p2⟩
    unfold loop
    simp only [It.at, e0, e1]
    exact e2
theorem loop_live {body : MV → En → MH → RS} {r : Nat} {l : List MV} (Pv : Nat → En → MH → Prop) (hl : ∀ i σ h, Pv i σ h → h.get r = some (.lst l)) (step : ∀ i v σ h, l[i]? = some v → Pv i σ h → ∃ σ' h', body v σ h = .nx σ' h' ∧ Pv (i + 1) σ' h') :
    ∀ (n i : Nat) (σ : En) (h : MH), i + n = l.length → Pv i σ h → ∃ σ' h', loop body (.live r) n i σ h = .nx σ' h' ∧ Pv l.length σ' h'
  | 0, i, σ, h, e, p => by
    have e0 : l[i]? = none := List.getElem?_eq_none (by omega)
    refine ⟨σ, h, ?_, by rw [← e]; exact p⟩
    unfold loop
    simp only [It.at, listOf, hl i σ h p, Option.map_some, e0]
  | n + 1, i, σ, h, e, p => by
    have hi : i < l.length := by omega
    have e0 : l[i]? = some l[i] := List.getElem?_eq_getElem hi
    obtain ⟨σ1, h1, e1, p1⟩ := step i _ σ h e0 p
    obtain ⟨σ2, h2, e2, p2⟩ := loop_live Pv hl step n (i + 1) σ1 h1 (by omega) p1
    refine ⟨σ2, h2, ?_, p2⟩
    unfold loop
    simp only [It.at, listOf, hl i σ h p, Option.map_some, e0, e1]
    exact e2
section
variable {P : Prog} {C : Nat → List MV → MH → R MV} {σ : En} {h h1 : MH} {j : Nat} {it : Itx} {b : Ss} {l : List MV}
theorem for_items (Pv : Nat → En → MH → Prop) (e : itv P C it σ h = .ok (.items l) h1) (h0 : Pv 0 σ h1) (step : ∀ i v σ h, l[i]? = some v → Pv i σ h → ∃ σ' h', execs P C b (σ.set j (some v)) h = .nx σ' h' ∧ Pv (i + 1) σ' h') :
    ∃ σ' h', exec P C (.for_ (.nm j) it b) σ h = .nx σ' h' ∧ Pv l.length σ' h' := by
  obtain ⟨σ', h', e1, p⟩ := loop_items (body := fun v σ2 h2 => (asg P C (.nm j) v σ2 h2).go σ2 fun σ3 h3 => execs P C b σ3 h3) Pv (fun i v σ h hv p => step i v σ h hv p) l.length 0 σ h1 (by omega) h0
  refine ⟨σ', h', ?_, p⟩
  unfold exec
  rw [e]
  exact e1
theorem for_live {r : Nat} (Pv : Nat → En → MH → Prop) (e : itv P C it σ h = .ok (.live r) h1) (hl : ∀ i σ h, Pv i σ h → h.get r = some (.lst l)) (h0 : Pv 0 σ h1) (step : ∀ i v σ h, l[i]? = some v → Pv i σ h → ∃ σ' h', execs P C b (σ.set j (some v)) h = .nx σ' h' ∧ Pv (i + 1) σ' h') :
    ∃ σ' h', exec P C (.for_ (.nm j) it b) σ h = .nx σ' h' ∧ Pv l.length σ' h' := by
  obtain ⟨σ', h', e1, p⟩ := loop_live (body := fun v σ2 h2 => (asg P C (.nm j) v σ2 h2).go σ2 fun σ3 h3 => execs P C b σ3 h3) Pv hl (fun i v σ h hv p => step i v σ h hv p) l.length 0 σ h1 (by omega) h0
  refine ⟨σ', h', ?_, p⟩
  unfold exec
  rw [e]
  show (match It.len h1 (.live r) with
    | some n => _
    | none => RS.stk) = _
  unfold It.len listOf
  simp only [hl 0 σ h1 h0, Option.map_some]
  exact e1
theorem rng_get {a b : Int} {i : Nat} {v : MV} (e : (rngL a b)[i]? = some v) : v = .int (a + i) ∧ i < (b - a).toNat := by
  unfold rngL at e
  rw [List.getElem?_map] at e
  cases q : (List.range (b - a).toNat)[i]? with
  | none => rw [q] at e; cases e
  | some k =>
    rw [q] at e
    cases e
    obtain ⟨h1, h2⟩ := List.getElem?_eq_some_iff.mp q
    rw [List.getElem_range] at h2
    rw [List.length_range] at h1
    subst h2
    exact ⟨rfl, h1⟩
theorem it_rng {b : Ex} {n : Int} (e : ev P C b σ h = .ok (.int n) h1) (h0 : -4611686018427387904 ≤ n) (hn : n ≤ 16777216) : itv P C (.rng b) σ h = .ok (.items (rngL 0 n)) h1 := by
  unfold itv
  rw [e]
  show rngM (.int 0) (.int n) h1 = _
  have e1 : oi (.int n) = some n := by
    unfold oi
    exact if_pos ⟨h0, by omega⟩
  have e0 : oi (.int 0) = some 0 := by
    unfold oi
    exact if_pos ⟨by omega, by omega⟩
  unfold rngM
  rw [e1, e0]
  exact if_pos (by omega)
theorem it_ref {b : Ex} {r : Nat} (e : ev P C b σ h = .ok (.ref r) h1) (g : h1.get r = some (.lst l)) : itv P C (.ex b) σ h = .ok (.live r) h1 := by
  unfold itv
  rw [e]
  show itM (.ref r) h1 = _
  unfold itM itOf listOf
  simp only [g]
theorem x_for {s : St} {r : Ss} {Q : En → MH → Prop} {q : RS} (e : ∃ σ' h', exec P C s σ h = .nx σ' h' ∧ Q σ' h') (k : ∀ σ' h', Q σ' h' → execs P C r σ' h' = q) : execs P C (.cons s r) σ h = q := by
  obtain ⟨σ', h', e1, e2⟩ := e
  exact x_nx e1 (k _ _ e2)
/-- a block that goes on to its end -/
def Runs (P : Prog) (C : Nat → List MV → MH → R MV) (b : Ss) (σ : En) (h : MH) (Q : En → MH → Prop) : Prop := ∃ σ' h', execs P C b σ h = .nx σ' h' ∧ Q σ' h'
theorem Runs.nil {Q : En → MH → Prop} (q : Q σ h) : Runs P C .nil σ h Q := ⟨σ, h, rfl, q⟩
theorem Runs.cons {s : St} {r : Ss} {Q : En → MH → Prop} {σ1 : En} (e : exec P C s σ h = .nx σ1 h1) (k : Runs P C r σ1 h1 Q) : Runs P C (.cons s r) σ h Q := by
  obtain ⟨σ', h', e1, q⟩ := k
  exact ⟨σ', h', x_nx e e1, q⟩
theorem Runs.conv {s : St} {r : Ss} {Q Q1 : En → MH → Prop} (e : ∃ σ' h', exec P C s σ h = .nx σ' h' ∧ Q1 σ' h') (k : ∀ σ' h', Q1 σ' h' → Runs P C r σ' h' Q) : Runs P C (.cons s r) σ h Q := by
  obtain ⟨σ1, h1, e1, q1⟩ := e
  exact Runs.cons e1 (k _ _ q1)
end
end DM
namespace DM
theorem x_end {P : Prog} {C : Nat → List MV → MH → R MV} {σ σ1 : En} {h h1 : MH} {s : St} (e : exec P C s σ h = .nx σ1 h1) : execs P C (.cons s .nil) σ h = .nx σ1 h1 := x_nx e rfl
end DM
namespace DM
/-! what only grows -/
def Grow (h h' : MH) : Prop := h.size ≤ h'.size ∧ ∀ n o, h.get n = some o → h'.get n = some o
theorem Grow.refl {h : MH} : Grow h h := ⟨Nat.le_refl _, fun _ _ e => e⟩
theorem Grow.trans {a b c : MH} (x : Grow a b) (y : Grow b c) : Grow a c := ⟨Nat.le_trans x.1 y.1, fun n o e => y.2 n o (x.2 n o e)⟩
theorem Grow.push {a b : MH} {o : MO} (x : Grow a b) : Grow a (b.push o) := ⟨by rw [size_push]; exact Nat.le_succ_of_le x.1, fun n u e => get_push (x.2 n u e)⟩
theorem Grow.one {a : MH} {o : MO} : Grow a (a.push o) := Grow.refl.push
/-! comprehensions -/
theorem lcl_items {body : MV → MH → R (Option MV)} {l : List MV} (hl : l.length ≤ LIM) (Pv : Nat → List MV → MH → Prop) (step : ∀ i v acc h, l[i]? = some v → Pv i acc h → ∃ x h', body v h = .ok (some x) h' ∧ Pv (i + 1) (acc ++ [x]) h') :
    ∀ (n i : Nat) (acc : List MV) (h : MH), i + n = l.length → acc.length = i → Pv i acc h → ∃ acc' h', lcl body (.items l) n i acc h = .ok acc' h' ∧ Pv l.length acc' h' ∧ acc'.length = l.length
  | 0, i, acc, h, e, ha, p => by
    have e0 : l[i]? = none := List.getElem?_eq_none (by omega)
    refine ⟨acc, h, ?_, by rw [← e]; exact p, by omega⟩
    unfold lcl
    simp only [It.at, e0]
  | n + 1, i, acc, h, e, ha, p => by
    have hi : i < l.length := by omega
    have e0 : l[i]? = some l[i] := List.getElem?_eq_getElem hi
    obtain ⟨x, h1, e1, p1⟩ := step i _ acc h e0 p
    obtain ⟨acc', h2, e2, p2, a2⟩ := lcl_items hl Pv step n (i + 1) (acc ++ [x]) h1 (by omega) (by rw [List.length_append, ha]; rfl) p1
    refine ⟨acc', h2, ?_, p2, a2⟩
    unfold lcl
    simp only [It.at, e0, e1, bind_ok', if_pos (show acc.length < LIM by omega)]
    exact e2
section
variable {P : Prog} {C : Nat → List MV → MH → R MV} {σ : En} {h h1 : MH} {j : Nat} {it : Itx} {elt : Ex} {own : List Nat} {l : List MV}
theorem lc_gen (e : itv P C it σ h = .ok (.items l) h1) (hl : l.length ≤ LIM) (Pv : Nat → List MV → MH → Prop) (h0 : Pv 0 [] h1)
    (step : ∀ i v acc h, l[i]? = some v → Pv i acc h → ∃ x h', ev P C elt ((wipe σ own).set j (some v)) h = .ok x h' ∧ Pv (i + 1) (acc ++ [x]) h') :
    ∃ acc h', ev P C (.lc elt own (.nm j) it .no) σ h = .ok (.ref h'.size) (h'.push (.lst acc)) ∧ Pv l.length acc h' ∧ acc.length = l.length := by
  obtain ⟨acc, h', e1, p, a⟩ := lcl_items (body := lcB (asg P C (.nm j)) (ct P C .no) (ev P C elt) own σ) hl Pv (fun i v acc h hv p => by
    obtain ⟨x, h', e1, p1⟩ := step i v acc h hv p
    refine ⟨x, h', ?_, p1⟩
    unfold lcB asg setM
    simp only [bind_ok', ct, if_true, e1, noEx_ok']) l.length 0 [] h1 (by omega) rfl h0
  refine ⟨acc, h', ?_, p, a⟩
  unfold ev lcM
  rw [e]
  simp only [bind_ok', It.len]
  rw [e1]
  exact n_list (by omega)
/-- each item by its own -/
theorem lc_map {F : MV → MV} (e : itv P C it σ h = .ok (.items l) h1) (hl : l.length ≤ LIM) (I : MH → Prop) (h0 : I h1)
    (step : ∀ v h, v ∈ l → I h → ∃ h', ev P C elt ((wipe σ own).set j (some v)) h = .ok (F v) h' ∧ I h') :
    ∃ h', ev P C (.lc elt own (.nm j) it .no) σ h = .ok (.ref h'.size) (h'.push (.lst (l.map F))) ∧ I h' := by
  obtain ⟨acc, h', e1, ⟨p1, p2⟩, _⟩ := lc_gen (elt := elt) (own := own) (j := j) e hl (fun i acc h => I h ∧ acc = (l.take i).map F) ⟨h0, rfl⟩ (by
    rintro i v acc h ev ⟨p, rfl⟩
    obtain ⟨h', e1, p1⟩ := step v h (List.mem_of_getElem? ev) p
    refine ⟨F v, h', e1, p1, ?_⟩
    rw [List.take_add_one, ev, List.map_append]
    rfl)
  rw [List.take_length] at p2
  subst p2
  exact ⟨h', e1, p1⟩
theorem lc_all {Q : MV → Prop} (e : itv P C it σ h = .ok (.items l) h1) (hl : l.length ≤ LIM) (I : MH → Prop) (h0 : I h1)
    (step : ∀ v h, v ∈ l → I h → ∃ x h', ev P C elt ((wipe σ own).set j (some v)) h = .ok x h' ∧ Q x ∧ I h') :
    ∃ acc h', ev P C (.lc elt own (.nm j) it .no) σ h = .ok (.ref h'.size) (h'.push (.lst acc)) ∧ I h' ∧ acc.length = l.length ∧ ∀ x ∈ acc, Q x := by
  obtain ⟨acc, h', e1, ⟨p1, p2⟩, a⟩ := lc_gen (elt := elt) (own := own) (j := j) e hl (fun i acc h => I h ∧ ∀ x ∈ acc, Q x) ⟨h0, fun x hx => (by cases hx)⟩ (by
    rintro i v acc h ev ⟨p, q⟩
    obtain ⟨x, h', e1, q1, p1⟩ := step v h (List.mem_of_getElem? ev) p
    exact ⟨x, h', e1, p1, fun z hz => (List.mem_append.mp hz).elim (q z) fun hz => (by rw [List.mem_singleton.mp hz]; exact q1)⟩)
  exact ⟨acc, h', e1, p1, a, p2⟩
theorem it_str {b : Ex} {s : Tx} (e : ev P C b σ h = .ok (.str s) h1) : itv P C (.ex b) σ h = .ok (.items (s.map fun c => .str [c])) h1 := by
  unfold itv
  rw [e]
  rfl
theorem allT_map {α : Type} (F : α → Bool) : ∀ l : List α, allT (l.map fun c => .bl (F c)) = some (l.all F)
  | [] => rfl
  | x :: xs => by
    simp only [List.map_cons, allT, allT_map F xs, Option.map_some, List.all_cons]
theorem f_all {r : Nat} {l : List MV} {b : Bool} (g : h.get r = some (.lst l)) (e : allT l = some b) : bifM P .all [.ref r] h = .ok (.bl b) h := by
  unfold bifM listOf
  simp only [g, e, bR]
theorem f_lists {s : Tx} (hl : s.length ≤ LIM) : bifM P .list [.str s] h = .ok (.ref h.size) (h.push (.lst (s.map fun c => .str [c]))) := by
  unfold bifM
  exact n_list (by rw [List.length_map]; exact hl)
theorem dat_strs {n : Nat} : ∀ l : List Tx, (l.map MV.str).mapM (dat (n + 1) h) = some (l.map PD.str)
  | [] => rfl
  | x :: xs => by
    rw [List.map_cons, List.mapM_cons, dat_strs xs]
    rfl
theorem in_refs {s : Tx} {r : Nat} {l : List Tx} (g : h.get r = some (.lst (l.map MV.str))) : cmpM .isin (.str s) (.ref r) h = .ok (.bl (l.any fun z => z == s)) h := by
  have e1 : dat DEP h (.ref r) = some (.lst (l.map PD.str)) := by
    unfold DEP
    simp only [dat, g, dat_strs, Option.map_some]
  have e2 : dat DEP h (.str s) = some (.str s) := rfl
  have e3 : isD h (.ref r) = false := by
    unfold isD
    simp only [g]
  unfold cmpM inM
  simp only [e1, e2, e3, bR, List.any_map]
  rfl
theorem in_kls {s : Tx} {l : List Tx} : cmpM .isin (.str s) (.kl (l.map MV.str)) h = .ok (.bl (l.any fun z => z == s)) h := by
  have e1 : dat DEP h (.kl (l.map MV.str)) = some (.lst (l.map PD.str)) := by
    unfold DEP
    simp only [dat, dat_strs, Option.map_some]
  have e2 : dat DEP h (.str s) = some (.str s) := rfl
  unfold cmpM inM
  simp only [e1, e2, bR, List.any_map]
  rfl
theorem in_str {c : Nat} {t : Tx} : cmpM .isin (.str [c]) (.str t) h = .ok (.bl (decide (c ∈ t))) h := rfl
end
/-! the ends of a text -/
theorem cut_last {α : Type} {l : List α} {c : α} : cut (l ++ [c]) (some (-1)) none = [c] := by
  unfold cut clip
  have e : ((-1 : Int) + ((l ++ [c]).length : Nat)).toNat = l.length := by
    rw [List.length_append, List.length_singleton]
    omega
  simp only
  rw [if_pos (by omega), e, List.drop_left, List.length_append, List.length_singleton]
  exact List.take_of_length_le (by simp)
theorem cut_init {α : Type} {l : List α} {c : α} : cut (l ++ [c]) none (some (-1)) = l := by
  unfold cut clip
  have e : ((-1 : Int) + ((l ++ [c]).length : Nat)).toNat = l.length := by
    rw [List.length_append, List.length_singleton]
    omega
  simp only
  rw [if_pos (by omega), e, List.drop_zero, Nat.sub_zero, List.take_left]
theorem cut_nil {α : Type} {lo hi : Option Int} : cut ([] : List α) lo hi = [] := by
  unfold cut
  simp
theorem cut_from {α : Type} {l : List α} {n : Nat} : cut l (some (n : Int)) none = l.drop n := by
  unfold cut clip
  simp only
  rw [if_neg (by omega), Int.toNat_natCast]
  rcases Nat.le_total n l.length with hn | hn
  · rw [Nat.min_eq_left hn]
    exact List.take_of_length_le (by rw [List.length_drop]; omega)
  · rw [Nat.min_eq_right hn, List.drop_length, List.drop_eq_nil_of_le hn]
    simp
theorem cut_to {α : Type} {l : List α} {n : Nat} : cut l none (some (n : Int)) = l.take n := by
  unfold cut clip
  simp only
  rw [if_neg (by omega), Int.toNat_natCast, List.drop_zero, Nat.sub_zero]
  rcases Nat.le_total n l.length with hn | hn
  · rw [Nat.min_eq_left hn]
  · rw [Nat.min_eq_right hn, List.take_length, List.take_of_length_le hn]
end DM
namespace DM
section
variable {P : Prog} {C : Nat → List MV → MH → R MV} {σ : En} {h h1 : MH}
theorem sl_txt {s : Tx} {lo hi : Option Int} : slM (.str s) lo hi h = .ok (.str (cut s lo hi)) h := rfl
theorem n_neg {i : Int} : negM (.int i) h = .ok (.int (-i)) h := rfl
theorem o_ok {i : Int} (e : -4611686018427387904 ≤ i ∧ i < 4611686018427387904) : oiM (.int i) h = .ok (some i) h := by
  have e1 : oi (.int i) = some i := by
    unfold oi
    exact if_pos e
  unfold oiM
  rw [e1]
theorem o_m1 : oiM (.int (-1)) h = .ok (some (-1)) h := o_ok ⟨by omega, by omega⟩
theorem s_last {l : Tx} {c : Nat} : subM (.str (l ++ [c])) (.int (-1)) h = .ok (.str [c]) h := by
  have e : DM.ixN (-1) (l ++ [c]).length = some l.length := by
    rw [List.length_append, List.length_singleton]
    unfold DM.ixN
    rw [if_neg (by omega), if_pos (by omega)]
    congr 1
    omega
  unfold subM
  simp only [e, List.getElem?_concat_length]
theorem s_strn {s : Tx} {n c : Nat} (e : s[n]? = some c) : subM (.str s) (.int n) h = .ok (.str [c]) h := by
  have hl := (List.getElem?_eq_some_iff.mp e).1
  have e1 : DM.ixN (n : Int) s.length = some n := by
    unfold DM.ixN
    rw [if_pos (Int.natCast_nonneg n), if_pos (by omega), Int.toNat_natCast]
  unfold subM
  simp only [e1, e]
end
end DM
namespace DM
/-! what only grows, but at b -/
def Gb (b : Nat) (h h' : MH) : Prop := h.size ≤ h'.size ∧ ∀ n o, n ≠ b → h.get n = some o → h'.get n = some o
theorem Gb.refl {b : Nat} {h : MH} : Gb b h h := ⟨Nat.le_refl _, fun _ _ _ e => e⟩
theorem Gb.trans {n : Nat} {a b c : MH} (x : Gb n a b) (y : Gb n b c) : Gb n a c := ⟨Nat.le_trans x.1 y.1, fun m o q e => y.2 m o q (x.2 m o q e)⟩
theorem Grow.gb {n : Nat} {a b : MH} (x : Grow a b) : Gb n a b := ⟨x.1, fun m o _ e => x.2 m o e⟩
theorem Gb.push {n : Nat} {a b : MH} {o : MO} (x : Gb n a b) : Gb n a (b.push o) := x.trans Grow.one.gb
theorem Gb.of {n : Nat} {a b : MH} (s : b.size = a.size) (f : ∀ m, m ≠ n → b.get m = a.get m) : Gb n a b := ⟨Nat.le_of_eq s.symm, fun m o q e => by rw [f m q]; exact e⟩
theorem cut_le {α : Type} {l : List α} {lo hi : Option Int} : (cut l lo hi).length ≤ l.length := by
  unfold cut
  rw [List.length_take, List.length_drop]
  omega
theorem cut_in {α : Type} {l : List α} {lo hi : Option Int} {c : α} (hc : c ∈ cut l lo hi) : c ∈ l := List.mem_of_mem_drop (List.mem_of_mem_take hc)
theorem k_join {P : Prog} {s : Tx} {h : MH} : metK P 1 (.str s) h = .ok .bt h := rfl
theorem txs_map : ∀ l : List Tx, txs (l.map MV.str) = some l
  | [] => rfl
  | x :: xs => by
    rw [List.map_cons]
    unfold txs
    rw [txs_map xs]
    rfl
theorem join_signs : ∀ t : Tx, joinT [] (t.map fun c => [c]) = t
  | [] => rfl
  | [a] => rfl
  | a :: b :: r => by
    have e := join_signs (b :: r)
    show [a] ++ [] ++ joinT [] ((b :: r).map fun c => [c]) = _
    rw [e]
    rfl
theorem sum_ones : ∀ t : Tx, ((t.map fun c => [c]).map (·.length)).sum = t.length
  | [] => rfl
  | a :: r => by
    have e := sum_ones r
    rw [List.map_cons, List.map_cons, List.sum_cons, e]
    show 1 + r.length = r.length + 1
    omega
theorem m_join {t : Tx} {r : Nat} {h : MH} (g : h.get r = some (.lst ((t.map fun c => [c]).map MV.str))) (hl : t.length ≤ LIM) : metM 1 (.str []) [.ref r] h = .ok (.str t) h := by
  unfold metM listOf
  simp only [g, txs_map, sum_ones, join_signs, List.length_nil, Nat.mul_zero, Nat.add_zero, if_pos hl]
theorem b_lst {m n : Nat} {a b : List MV} {h : MH} (g1 : h.get m = some (.lst a)) (g2 : h.get n = some (.lst b)) (hl : a.length + b.length ≤ LIM) : binM .add (.ref m) (.ref n) h = .ok (.ref h.size) (h.push (.lst (a ++ b))) := by
  unfold binM
  simp only [g1, g2]
  exact n_list (by rw [List.length_append]; exact hl)
end DM
namespace DM
section
variable {P : Prog} {C : Nat → List MV → MH → R MV} {σ : En} {h h1 h2 h3 : MH}
theorem ev_met1 {m : Nat} {o e1 : Ex} {kn : List Nat} {sh : List Src} {x v r : MV} (e0 : ev P C o σ h = .ok x h1) (ek : metK P m x h1 = .ok .bt h1) (ea : ev P C e1 σ h1 = .ok v h2) (em : metM m x [v] h2 = .ok r h3) : ev P C (.met m o (.cons e1 .nil) .nil kn sh) σ h = .ok r h3 := by
  rw [ev, e0]
  simp only [bind_ok', ek, evs, ea, mc_bt, em]
theorem x_set {j : Nat} {e : Ex} {v : MV} (e0 : ev P C e σ h = .ok v h1) : exec P C (.set (.nm j) e) σ h = .nx (σ.set j (some v)) h1 := by
  rw [exec, e0]
  rfl
end
end DM
namespace DM
theorem cat_ok {h : MH} {r : Nat} {L l : List MV} (g : h.get r = some (.lst L)) (h1 : L.length ≤ 1000) (h2 : l.length ≤ 1000) : ∃ h', newList h l = .ok (.ref h.size) (h.push (.lst l)) ∧ binM .add (.ref r) (.ref h.size) (h.push (.lst l)) = .ok (.ref (h.size + 1)) h' ∧
    h'.get (h.size + 1) = some (.lst (L ++ l)) ∧ Grow h h' ∧ h'.size = h.size + 2 := by
  refine ⟨(h.push (.lst l)).push (.lst (L ++ l)), n_list (by unfold LIM; omega), ?_, ?_, Grow.one.push, ?_⟩
  · rw [← size_push (h := h) (o := .lst l)]
    exact b_lst (get_push g) get_push_size (by unfold LIM; omega)
  · rw [← size_push (h := h) (o := .lst l)]
    exact get_push_size
  · rw [size_push, size_push]
end DM
namespace DM
section
variable {P : Prog} {C : Nat → List MV → MH → R MV} {σ : En} {h h1 : MH}
theorem f_rtn {d : FnD} {vs : List MV} {σ1 : En} (σ0 : En) (hl : vs.length = d.np) (hσ : vs.map some ++ List.replicate (d.ns - d.np) none = σ0) (e : execs P C d.body σ0 h = .nx σ1 h1) : runFn P C d vs h = .ok .non h1 := by
  unfold runFn
  rw [if_pos hl, hσ, e]
theorem ev_bif1 {b : Bif} {e : Ex} {v : MV} (e0 : ev P C e σ h = .ok v h1) : ev P C (.bif b (.cons e .nil)) σ h = bifM P b [v] h1 := by
  rw [ev]
  simp only [evs, e0, bind_ok']
end
end DM
namespace DM
/-! a comprehension over anything -/
theorem lcl_g {body : MV → MH → R (Option MV)} {it : It} {l : List MV} (hl : l.length ≤ LIM) (Pv : Nat → List MV → MH → Prop) (hat : ∀ i acc h, Pv i acc h → it.at h i = some l[i]?)
    (step : ∀ i v acc h, l[i]? = some v → Pv i acc h → ∃ o h', body v h = .ok o h' ∧ Pv (i + 1) (acc ++ o.toList) h') :
    ∀ (n i : Nat) (acc : List MV) (h : MH), i + n = l.length → acc.length ≤ i → Pv i acc h → ∃ acc' h', lcl body it n i acc h = .ok acc' h' ∧ Pv l.length acc' h' ∧ acc'.length ≤ l.length
  | 0, i, acc, h, e, ha, p => by
    have e0 : l[i]? = none := List.getElem?_eq_none (by omega)
    refine ⟨acc, h, ?_, by rw [← e]; exact p, by omega⟩
    unfold lcl
    simp only [hat i acc h p, e0]
  | n + 1, i, acc, h, e, ha, p => by
    have hi : i < l.length := by omega
    have e0 : l[i]? = some l[i] := List.getElem?_eq_getElem hi
    obtain ⟨o, h1, e1, p1⟩ := step i _ acc h e0 p
    unfold lcl
    simp only [hat i acc h p, e0, e1, bind_ok']
    cases o with
    | none =>
      obtain ⟨acc', h2, e2, p2, a2⟩ := lcl_g hl Pv hat step n (i + 1) acc h1 (by omega) (by omega) (by rw [Option.toList, List.append_nil] at p1; exact p1)
      exact ⟨acc', h2, e2, p2, a2⟩
    | some x =>
      obtain ⟨acc', h2, e2, p2, a2⟩ := lcl_g hl Pv hat step n (i + 1) (acc ++ [x]) h1 (by omega) (by rw [List.length_append]; exact Nat.succ_le_succ ha) p1
      refine ⟨acc', h2, ?_, p2, a2⟩
      simp only [if_pos (show acc.length < LIM by omega)]
      exact e2
section
variable {P : Prog} {C : Nat → List MV → MH → R MV} {σ : En} {h h1 : MH} {tg : Tg} {itx : Itx} {elt : Ex} {own : List Nat} {c : Tc}
theorem lc_g {it : It} {l : List MV} (e : itv P C itx σ h = .ok it h1) (hn : it.len h1 = some l.length) (hl : l.length ≤ LIM) (Pv : Nat → List MV → MH → Prop) (hat : ∀ i acc h, Pv i acc h → it.at h i = some l[i]?) (h0 : Pv 0 [] h1)
    (step : ∀ i v acc h, l[i]? = some v → Pv i acc h → ∃ o h', lcB (asg P C tg) (ct P C c) (ev P C elt) own σ v h = .ok o h' ∧ Pv (i + 1) (acc ++ o.toList) h') :
    ∃ acc h', ev P C (.lc elt own tg itx c) σ h = .ok (.ref h'.size) (h'.push (.lst acc)) ∧ Pv l.length acc h' := by
  obtain ⟨acc, h', e1, p, a⟩ := lcl_g (body := lcB (asg P C tg) (ct P C c) (ev P C elt) own σ) hl Pv hat step l.length 0 [] h1 (by omega) (Nat.le_refl _) h0
  refine ⟨acc, h', ?_, p⟩
  unfold ev lcM
  rw [e]
  simp only [bind_ok', hn]
  rw [e1]
  exact n_list (by omega)
theorem len_live {n : Nat} {l : List MV} (g : h.get n = some (.lst l)) : (It.live n).len h = some l.length := by
  unfold It.len listOf
  simp only [g, Option.map_some]
theorem at_live {n i : Nat} {l : List MV} (g : h.get n = some (.lst l)) : (It.live n).at h i = some l[i]? := by
  unfold It.at listOf
  simp only [g, Option.map_some]
end
end DM
namespace DM
theorem zip_at : ∀ (l m : List MV) (i : Nat), pairAt i l m = (zipT l m)[i]?
  | [], m, i => by
    unfold pairAt zipT
    simp
  | x :: l, [], i => by
    unfold pairAt zipT
    cases (x :: l)[i]? <;> simp
  | x :: l, y :: m, 0 => rfl
  | x :: l, y :: m, i + 1 => zip_at l m i
theorem zip_len : ∀ l m : List MV, (zipT l m).length = min l.length m.length
  | [], m => by
    unfold zipT
    simp
  | x :: l, [] => by
    unfold zipT
    simp
  | x :: l, y :: m => by
    unfold zipT
    rw [List.length_cons, zip_len l m, List.length_cons, List.length_cons]
    omega
section
variable {P : Prog} {C : Nat → List MV → MH → R MV} {σ : En} {h h1 h2 : MH} {m n : Nat} {k l : List MV}
theorem it_zip {a b : Ex} (ea : ev P C a σ h = .ok (.ref m) h1) (eb : ev P C b σ h1 = .ok (.ref n) h2) (ga : h2.get m = some (.lst k)) (gb : h2.get n = some (.lst l)) : itv P C (.zip a b) σ h = .ok (.zip (.ref m) (.ref n)) h2 := by
  unfold itv
  rw [ea, bind_ok', eb, bind_ok']
  unfold zipM listOf
  simp only [ga, gb]
theorem len_zip (ga : h.get m = some (.lst k)) (gb : h.get n = some (.lst l)) : (It.zip (.ref m) (.ref n)).len h = some (zipT k l).length := by
  unfold It.len listOf
  simp only [ga, gb, zip_len]
theorem at_zip {i : Nat} (ga : h.get m = some (.lst k)) (gb : h.get n = some (.lst l)) : (It.zip (.ref m) (.ref n)).at h i = some (zipT k l)[i]? := by
  unfold It.at listOf
  simp only [ga, gb, zip_at]
/-- each item by its own, nothing changed -/
theorem lc_m {tg : Tg} {itx : Itx} {elt : Ex} {own : List Nat} {it : It} (F : MV → MV) (e : itv P C itx σ h = .ok it h1) (hl : l.length ≤ LIM) (hn : it.len h1 = some l.length) (hat : ∀ i, it.at h1 i = some l[i]?)
    (step : ∀ v, v ∈ l → lcB (asg P C tg) (ct P C .no) (ev P C elt) own σ v h1 = .ok (some (F v)) h1) : ev P C (.lc elt own tg itx .no) σ h = .ok (.ref h1.size) (h1.push (.lst (l.map F))) := by
  obtain ⟨acc, h', e1, p1, p2⟩ := lc_g (tg := tg) (elt := elt) (own := own) (c := .no) e hn hl (fun i acc h => h = h1 ∧ acc = (l.take i).map F) (fun i acc h p => by rw [p.1]; exact hat i) ⟨rfl, rfl⟩ (by
    rintro i v acc h ev ⟨rfl, rfl⟩
    refine ⟨_, _, step v (List.mem_of_getElem? ev), rfl, ?_⟩
    rw [List.take_add_one, ev, List.map_append]
    rfl)
  subst p1
  rw [List.take_length] at p2
  subst p2
  exact e1
end
end DM
namespace DM
section
variable {P : Prog} {C : Nat → List MV → MH → R MV} {σ : En} {h h1 h2 : MH} {a b : Ex} {x y : MV} {r : R MV}
theorem ev_var {i : Nat} {v : MV} (e : σ[i]? = some (some v)) : ev P C (.var i) σ h = .ok v h := by
  rw [ev, e]
theorem ev_int {i : Int} : ev P C (.int i) σ h = .ok (.int i) h := by
  rw [ev]
theorem ev_bin {op : BOp} (e0 : ev P C a σ h = .ok x h1) (e1 : ev P C b σ h1 = .ok y h2) (e2 : binM op x y h2 = r) : ev P C (.bin op a b) σ h = r := by
  rw [ev, e0, bind_ok', e1, bind_ok', e2]
theorem ev_slto {i : Int} (e0 : ev P C a σ h = .ok x h1) (e1 : ev P C b σ h1 = .ok (.int i) h2) (hi : -4611686018427387904 ≤ i ∧ i < 4611686018427387904) (e2 : slM x none (some i) h2 = r) : ev P C (.sl a .no (.so b)) σ h = r := by
  rw [ev, e0, bind_ok', eo, bind_ok', eo, e1, bind_ok', o_ok hi, bind_ok', e2]
theorem ev_slfr {i : Int} (e0 : ev P C a σ h = .ok x h1) (e1 : ev P C b σ h1 = .ok (.int i) h2) (hi : -4611686018427387904 ≤ i ∧ i < 4611686018427387904) (e2 : slM x (some i) none h2 = r) : ev P C (.sl a (.so b) .no) σ h = r := by
  rw [ev, e0, bind_ok', eo, e1, bind_ok', o_ok hi, bind_ok', eo, bind_ok', e2]
end
end DM
set_option maxRecDepth 100000
/-! printed by gen.py: what several laws share -/
namespace W
open DM
class Fn (P : Prog) (i : Nat) (d : outParam FnD) : Prop where e : P.fn i = d
class Gl (P : Prog) (i : Nat) (v : outParam MV) : Prop where e : P.glob i = v
class In (P : Prog) (c : Nat) (i : outParam Nat) : Prop where e : (P.cls c).ini = i
class Me (P : Prog) (c m : Nat) (i : outParam Nat) : Prop where e : fldN m (P.cls c).met = some i
class At (P : Prog) (c f : Nat) : Prop where e : (P.cls c).att f = true
class Xs (P : Prog) (c d : Nat) (b : outParam Bool) : Prop where e : P.xsub c d = b
class Ix (P : Prog) (c : Nat) : Prop where e : (P.cls c).isx = true
/-- names.is_name: slots 0 thing 1 letters 2 sign -/
def s1_0 : St := .ite (.not_ (.vl (.isi (.var 0) .str))) (.cons (.ret (.bl false)) .nil) .nil
def s1_1 : St := .set (.nm 1) (.ife (.vl (.cmp .isin (.sl (.var 0) (.so (.neg (.int 1))) .no) (.gl 1))) (.sl (.var 0) .no (.so (.neg (.int 1)))) (.var 0))
def s1_2 : St := .ret (.and_ (.ch .le .le (.int 1) (.bif .len (.cons (.var 1) .nil)) (.gl 3)) (.bif .all (.cons (.lc (.cmp .isin (.var 2) (.gl 2)) [2] (.nm 2) (.ex (.var 1)) .no) .nil)))
def b1 : Ss := .cons s1_0 (.cons s1_1 (.cons s1_2 .nil))
abbrev F1 : FnD := ⟨1, 3, b1⟩
/-- _law_bag: slots 0 script 1 at 2 cell 3 great 4 primes 5 mixed -/
def s2_0 : St := .set (.nm 2) (.int 0)
def s2_1 : St := .ite (.vl (.cmp .lt (.var 1) (.bif .len (.cons (.var 0) .nil)))) (.cons (.set (.nm 2) (.sub (.var 0) (.var 1))) .nil) .nil
def s2_2 : St := .set (.nm 3) (.int 0)
def s2_3 : St := .ite (.vl (.cmp .ge (.bif .abs (.cons (.var 2) .nil)) (.bin .pow (.int 10) (.int 18)))) (.cons (.set (.nm 3) (.bif .abs (.cons (.var 2) .nil))) .nil) .nil
def s2_4 : St := .set (.nm 4) (.lst (.cons (.int 2147483647) (.cons (.int 2147483629) (.cons (.int 2147483587) (.cons (.int 2147483579) (.cons (.int 2147483563) (.cons (.int 2147483549) (.cons (.int 2147483543) (.cons (.int 2147483497) .nil)))))))))
def s2_5 : St := .set (.nm 5) (.bin .add (.bin .add (.bin .add (.bin .mul (.bin .mod (.var 2) (.int 2147483647)) (.int 50021)) (.bin .mul (.bin .mul (.int 70001) (.var 1)) (.var 1))) (.bin .mul (.int 9001) (.var 1))) (.int 7717))
def s2_6 : St := .ret (.lst (.cons (.var 3) (.cons (.bin .mod (.var 5) (.sub (.var 4) (.bin .mod (.var 1) (.int 8)))) .nil)))
def b2 : Ss := .cons s2_0 (.cons s2_1 (.cons s2_2 (.cons s2_3 (.cons s2_4 (.cons s2_5 (.cons s2_6 .nil))))))
abbrev F2 : FnD := ⟨2, 6, b2⟩
/-- _law_take: slots 0 bag 1 many 2 digit -/
def s3_0a_0 : St := .set (.nm 2) (.bin .mod (.sub (.var 0) (.int 0)) (.var 1))
def s3_0a_1 : St := .set (.sub (.var 0) (.int 0)) (.bin .fdiv (.sub (.var 0) (.int 0)) (.var 1))
def s3_0a_2 : St := .ret (.var 2)
def k3_0a : Ss := .cons s3_0a_0 (.cons s3_0a_1 (.cons s3_0a_2 .nil))
def s3_0 : St := .ite (.vl (.cmp .gt (.sub (.var 0) (.int 0)) (.int 0))) k3_0a .nil
def s3_1 : St := .set (.sub (.var 0) (.int 1)) (.bin .mod (.bin .add (.bin .mul (.sub (.var 0) (.int 1)) (.int 69069)) (.int 1327217)) (.int 2147483647))
def s3_2 : St := .ret (.bin .mod (.bin .fdiv (.bin .mod (.bin .pow (.sub (.var 0) (.int 1)) (.int 3)) (.int 2147483629)) (.int 16)) (.var 1))
def b3 : Ss := .cons s3_0 (.cons s3_1 (.cons s3_2 .nil))
abbrev F3 : FnD := ⟨2, 3, b3⟩
/-- _law_drawn_name: slots 0 bag 1 letters 2 found 3 spot -/
def s5_0 : St := .set (.nm 1) (.str [97, 98, 99, 100, 101, 102, 103, 104, 105, 106, 107, 108, 109, 110, 111, 112, 113, 114, 115, 116, 117, 118, 119, 120, 121, 122])
def s5_1 : St := .set (.nm 2) (.met 1 (.str []) (.cons (.lc (.sub (.var 1) (.call 3 (.cons (.var 0) (.cons (.int 26) .nil)) .nil [] [.pos 0, .pos 1])) [3] (.nm 3) (.rng (.bin .add (.int 1) (.call 3 (.cons (.var 0) (.cons (.int 8) .nil)) .nil [] [.pos 0, .pos 1]))) .no) .nil) .nil [] [])
def s5_2 : St := .ret (.bin .add (.var 2) (.sub (.lst (.cons (.str []) (.cons (.sub (.str [50, 51, 52, 53, 54, 55, 56, 57]) (.call 3 (.cons (.var 0) (.cons (.int 8) .nil)) .nil [] [.pos 0, .pos 1])) .nil))) (.call 3 (.cons (.var 0) (.cons (.int 2) .nil)) .nil [] [.pos 0, .pos 1])))
def b5 : Ss := .cons s5_0 (.cons s5_1 (.cons s5_2 .nil))
abbrev F5 : FnD := ⟨1, 4, b5⟩
/-- names.look_name: slots 0 thing -/
def s8_0 : St := .ite (.not_ (.vl (.call 1 (.cons (.var 0) .nil) .nil [] [.pos 0]))) (.cons (.rse 1 (.cons (.str [110, 111, 32, 110, 97, 109, 101]) .nil)) .nil) .nil
def b8 : Ss := .cons s8_0 .nil
abbrev F8 : FnD := ⟨1, 1, b8⟩
/-- names.next_name: slots 0 name 1 last 2 letters -/
def s9_0 : St := .exp (.call 8 (.cons (.var 0) .nil) .nil [] [.pos 0])
def s9_1 : St := .set (.stB 2 1) (.var 0)
def s9_2 : St := .ite (.vl (.cmp .eq (.var 1) (.gl 4))) (.cons (.rse 2 (.cons (.str [110, 111, 110, 101, 32, 99, 111, 109, 101, 115, 32, 98, 101, 104, 105, 110, 100, 32, 105, 116]) .nil)) .nil) .nil
def s9_3 : St := .ite (.vl (.cmp .isin (.var 1) (.gl 1))) (.cons (.ret (.bin .add (.met 1 (.str []) (.cons (.var 2) .nil) .nil [] []) (.sub (.gl 1) (.bin .add (.met 2 (.gl 1) (.cons (.var 1) .nil) .nil [] []) (.int 1))))) .nil) .nil
def s9_4 : St := .ret (.bin .add (.var 0) (.sub (.gl 1) (.int 0)))
def b9 : Ss := .cons s9_0 (.cons s9_1 (.cons s9_2 (.cons s9_3 (.cons s9_4 .nil))))
abbrev F9 : FnD := ⟨1, 3, b9⟩
/-- _law_which: slots 0 e 1 kinds 2 looks 3 some 4 is_look 5 word 6 is_so -/
def s10_0 : St := .set (.nm 1) (.lst (.cons (.tup (.cons (.str [78, 111, 78, 97, 109, 101]) (.cons (.isX 0 1) .nil))) (.cons (.tup (.cons (.str [78, 111, 77, 97, 114, 107]) (.cons (.isX 0 3) .nil))) (.cons (.tup (.cons (.str [78, 111, 84, 114, 105, 101, 115]) (.cons (.isX 0 4) .nil))) .nil))))
def s10_1 : St := .set (.nm 1) (.bin .add (.var 1) (.lst (.cons (.tup (.cons (.str [78, 111, 66, 111, 117, 110, 100, 115]) (.cons (.isX 0 5) .nil))) (.cons (.tup (.cons (.str [78, 111, 82, 117, 108, 101]) (.cons (.isX 0 6) .nil))) .nil))))
def s10_2 : St := .set (.nm 1) (.bin .add (.var 1) (.lst (.cons (.tup (.cons (.str [78, 111, 78, 101, 120, 116]) (.cons (.isX 0 2) .nil))) (.cons (.tup (.cons (.str [78, 111, 83, 99, 114, 105, 112, 116]) (.cons (.isX 0 7) .nil))) .nil))))
def s10_3 : St := .set (.nm 1) (.bin .add (.var 1) (.lst (.cons (.tup (.cons (.str [78, 111, 83, 97, 121, 105, 110, 103]) (.cons (.isX 0 8) .nil))) (.cons (.tup (.cons (.str [78, 111, 72, 97, 110, 100, 115]) (.cons (.isX 0 9) .nil))) .nil))))
def s10_4 : St := .set (.nm 1) (.bin .add (.var 1) (.lst (.cons (.tup (.cons (.str [67, 108, 97, 105, 109, 101, 100]) (.cons (.isX 0 10) .nil))) (.cons (.tup (.cons (.str [78, 111, 67, 108, 97, 105, 109]) (.cons (.isX 0 11) .nil))) .nil))))
def s10_5 : St := .set (.nm 1) (.bin .add (.var 1) (.lst (.cons (.tup (.cons (.str [84, 111, 111, 77, 97, 110, 121]) (.cons (.isX 0 12) .nil))) (.cons (.tup (.cons (.str [83, 97, 109, 101, 87, 105, 114, 101]) (.cons (.isX 0 13) .nil))) .nil))))
def s10_6 : St := .set (.nm 1) (.bin .add (.var 1) (.lst (.cons (.tup (.cons (.str [78, 111, 116, 69, 109, 112, 116, 121]) (.cons (.isX 0 14) .nil))) (.cons (.tup (.cons (.str [69, 97, 114, 108, 121]) (.cons (.isX 0 15) .nil))) .nil))))
def s10_7 : St := .set (.nm 1) (.bin .add (.var 1) (.lst (.cons (.tup (.cons (.str [67, 97, 109, 101]) (.cons (.isX 0 16) .nil))) (.cons (.tup (.cons (.str [79, 119, 101, 100]) (.cons (.isX 0 17) .nil))) (.cons (.tup (.cons (.str [68, 117, 101]) (.cons (.isX 0 18) .nil))) .nil)))))
def s10_8 : St := .set (.nm 1) (.bin .add (.var 1) (.lst (.cons (.tup (.cons (.str [78, 111, 76, 101, 115, 115]) (.cons (.isX 0 19) .nil))) (.cons (.tup (.cons (.str [78, 111, 80, 97, 112, 101, 114]) (.cons (.isX 0 20) .nil))) .nil))))
def s10_9 : St := .set (.nm 2) (.lst (.cons (.tup (.cons (.str [78, 111, 72, 97, 110, 100]) (.cons (.isX 0 21) .nil))) (.cons (.tup (.cons (.str [78, 111, 87, 105, 114, 101]) (.cons (.isX 0 22) .nil))) (.cons (.tup (.cons (.str [78, 111, 116, 79, 110]) (.cons (.isX 0 23) .nil))) .nil))))
def s10_10 : St := .set (.nm 2) (.bin .add (.var 2) (.lst (.cons (.tup (.cons (.str [73, 115, 79, 110]) (.cons (.isX 0 24) .nil))) (.cons (.tup (.cons (.str [78, 111, 76, 101, 116, 116, 101, 114]) (.cons (.isX 0 25) .nil))) .nil))))
def s10_11 : St := .set (.nm 3) (.lc (.var 5) [5, 6] (.tup (.cons (.nm 5) (.cons (.nm 6) .nil))) (.exL (.bin .add (.var 1) (.var 2))) (.so (.vl (.var 6))))
def s10_12 : St := .set (.nm 4) (.bif .any (.cons (.lc (.var 6) [5, 6] (.tup (.cons (.nm 5) (.cons (.nm 6) .nil))) (.exL (.var 2)) .no) .nil))
def s10_13 : St := .ite (.or_ (.vl (.cmp .ne (.bif .len (.cons (.var 3) .nil)) (.int 1))) (.or_ (.vl (.cmp .ne (.isX 0 27) (.var 4))) (.vl (.cmp .eq (.isX 0 26) (.var 4))))) (.cons (.ret (.str [115, 101, 118, 101, 114, 97, 108])) .nil) .nil
def s10_14 : St := .ret (.ife (.vl (.cmp .ne (.isX 0 28) (.var 4))) (.sub (.var 3) (.int 0)) (.str [115, 101, 118, 101, 114, 97, 108]))
def b10 : Ss := .cons s10_0 (.cons s10_1 (.cons s10_2 (.cons s10_3 (.cons s10_4 (.cons s10_5 (.cons s10_6 (.cons s10_7 (.cons s10_8 (.cons s10_9 (.cons s10_10 (.cons s10_11 (.cons s10_12 (.cons s10_13 (.cons s10_14 .nil))))))))))))))
abbrev F10 : FnD := ⟨1, 7, b10⟩
/-- names.is_whole: slots 0 thing -/
def s18_0 : St := .ret (.and_ (.isi (.var 0) .int) (.not_ (.isi (.var 0) .bool)))
def b18 : Ss := .cons s18_0 .nil
abbrev F18 : FnD := ⟨1, 1, b18⟩
/-- rules.is_within: slots 0 thing 1 least 2 most -/
def s19_0 : St := .ret (.and_ (.call 18 (.cons (.var 0) .nil) .nil [] [.pos 0]) (.ch .le .le (.var 1) (.var 0) (.var 2)))
def b19 : Ss := .cons s19_0 .nil
abbrev F19 : FnD := ⟨3, 3, b19⟩
/-- rules.Bounds.__init__: slots 0 self 1 lost 2 late -/
def s20_0 : St := .ite (.or_ (.not_ (.vl (.call 19 (.cons (.var 1) (.cons (.int 0) (.cons (.gl 6) .nil))) .nil [] [.pos 0, .pos 1, .pos 2]))) (.not_ (.vl (.call 19 (.cons (.var 2) (.cons (.int 1) (.cons (.gl 5) .nil))) .nil [] [.pos 0, .pos 1, .pos 2])))) (.cons (.rse 5 (.cons (.str [110, 111, 32, 98, 111, 117, 110, 100, 115]) .nil)) .nil) .nil
def s20_1 : St := .set (.att (.var 0) 104) (.var 1)
def s20_2 : St := .set (.att (.var 0) 105) (.var 2)
def b20 : Ss := .cons s20_0 (.cons s20_1 (.cons s20_2 .nil))
abbrev F20 : FnD := ⟨3, 3, b20⟩
/-- rules.Rule.__init__: slots 0 self 1 probes 2 gap 3 wait 4 repeats 5 period 6 life 7 parts 8 word -/
def s21_0 : St := .set (.nm 7) (.dct (.cons (.str [112, 114, 111, 98, 101, 115]) (.cons (.var 1) (.cons (.str [103, 97, 112]) (.cons (.var 2) (.cons (.str [119, 97, 105, 116]) (.cons (.var 3) (.cons (.str [114, 101, 112, 101, 97, 116, 115]) (.cons (.var 4) (.cons (.str [112, 101, 114, 105, 111, 100]) (.cons (.var 5) (.cons (.str [108, 105, 102, 101]) (.cons (.var 6) .nil)))))))))))))
def s21_1 : St := .ite (.not_ (.vl (.bif .all (.cons (.lc (.call 19 (.cons (.sub (.var 7) (.var 8)) (.cons (.sub (.gl 7) (.var 8)) (.cons (.sub (.gl 8) (.var 8)) .nil))) .nil [] [.pos 0, .pos 1, .pos 2]) [8] (.nm 8) (.ex (.gl 7)) .no) .nil)))) (.cons (.rse 6 (.cons (.str [110, 111, 32, 114, 117, 108, 101]) .nil)) .nil) .nil
def s21_2 : St := .ite (.vl (.cmp .lt (.var 5) (.bin .add (.call 22 (.cons (.var 1) (.cons (.var 2) (.cons (.var 3) .nil))) .nil [] [.pos 0, .pos 1, .pos 2]) (.int 2)))) (.cons (.rse 6 (.cons (.str [116, 111, 111, 32, 115, 104, 111, 114, 116, 32, 97, 32, 112, 101, 114, 105, 111, 100]) .nil)) .nil) .nil
def s21_3 : St := .set (.att (.var 0) 106) (.var 1)
def s21_4 : St := .set (.att (.var 0) 107) (.var 2)
def s21_5 : St := .set (.att (.var 0) 108) (.var 3)
def s21_6 : St := .set (.att (.var 0) 109) (.var 4)
def s21_7 : St := .set (.att (.var 0) 110) (.var 5)
def s21_8 : St := .set (.att (.var 0) 111) (.var 6)
def b21 : Ss := .cons s21_0 (.cons s21_1 (.cons s21_2 (.cons s21_3 (.cons s21_4 (.cons s21_5 (.cons s21_6 (.cons s21_7 (.cons s21_8 .nil))))))))
abbrev F21 : FnD := ⟨7, 9, b21⟩
/-- rules.claiming_of: slots 0 probes 1 gap 2 wait -/
def s22_0 : St := .ret (.bin .add (.bin .mul (.bif .max (.cons (.int 0) (.cons (.bin .sub (.var 0) (.int 1)) .nil))) (.var 1)) (.var 2))
def b22 : Ss := .cons s22_0 .nil
abbrev F22 : FnD := ⟨3, 3, b22⟩
/-- rules.look_bounds: slots 0 thing -/
def s33_0 : St := .ite (.not_ (.vl (.isi (.var 0) (.own 2)))) (.cons (.rse 5 (.cons (.str [98, 111, 117, 110, 100, 115, 32, 97, 114, 101, 32, 119, 97, 110, 116, 101, 100]) .nil)) .nil) .nil
def b33 : Ss := .cons s33_0 .nil
abbrev F33 : FnD := ⟨1, 1, b33⟩
/-- rules.look_rule: slots 0 thing -/
def s34_0 : St := .ite (.not_ (.vl (.isi (.var 0) (.own 1)))) (.cons (.rse 6 (.cons (.str [97, 32, 114, 117, 108, 101, 32, 105, 115, 32, 119, 97, 110, 116, 101, 100]) .nil)) .nil) .nil
def b34 : Ss := .cons s34_0 .nil
abbrev F34 : FnD := ⟨1, 1, b34⟩
/-- rules.look_both: slots 0 bounds 1 rule -/
def s35_0 : St := .exp (.call 33 (.cons (.var 0) .nil) .nil [] [.pos 0])
def s35_1 : St := .exp (.call 34 (.cons (.var 1) .nil) .nil [] [.pos 0])
def b35 : Ss := .cons s35_0 (.cons s35_1 .nil)
abbrev F35 : FnD := ⟨2, 2, b35⟩
/-- rules.asking_of_repeats: slots 0 late 1 repeats 2 gap -/
def s36_0 : St := .ret (.bin .add (.bin .mul (.int 2) (.var 0)) (.bin .mul (.bin .mul (.int 2) (.var 1)) (.var 2)))
def b36 : Ss := .cons s36_0 .nil
abbrev F36 : FnD := ⟨3, 3, b36⟩
/-- rules.claiming_time: slots 0 rule -/
def s37_0 : St := .exp (.call 34 (.cons (.var 0) .nil) .nil [] [.pos 0])
def s37_1 : St := .ret (.call 22 (.cons (.att (.var 0) 106) (.cons (.att (.var 0) 107) (.cons (.att (.var 0) 108) .nil))) .nil [] [.pos 0, .pos 1, .pos 2])
def b37 : Ss := .cons s37_0 (.cons s37_1 .nil)
abbrev F37 : FnD := ⟨1, 1, b37⟩
/-- rules.asking_time: slots 0 bounds 1 rule -/
def s38_0 : St := .exp (.call 35 (.cons (.var 0) (.cons (.var 1) .nil)) .nil [] [.pos 0, .pos 1])
def s38_1 : St := .ret (.call 36 (.cons (.att (.var 0) 105) (.cons (.att (.var 1) 109) (.cons (.att (.var 1) 107) .nil))) .nil [] [.pos 0, .pos 1, .pos 2])
def b38 : Ss := .cons s38_0 (.cons s38_1 .nil)
abbrev F38 : FnD := ⟨2, 2, b38⟩
/-- rules.mending_time: slots 0 bounds 1 rule -/
def s39_0 : St := .exp (.call 35 (.cons (.var 0) (.cons (.var 1) .nil)) .nil [] [.pos 0, .pos 1])
def s39_1 : St := .ret (.bin .add (.bin .add (.call 37 (.cons (.var 1) .nil) .nil [] [.pos 0]) (.bin .mul (.bin .add (.att (.var 0) 104) (.int 1)) (.att (.var 1) 110))) (.att (.var 0) 105))
def b39 : Ss := .cons s39_0 (.cons s39_1 .nil)
abbrev F39 : FnD := ⟨2, 2, b39⟩
/-- _law_claiming: slots 0 ru -/
def s40_0 : St := .ret (.bin .add (.bin .mul (.bif .max (.cons (.int 0) (.cons (.bin .sub (.sub (.var 0) (.int 0)) (.int 1)) .nil))) (.sub (.var 0) (.int 1))) (.sub (.var 0) (.int 2)))
def b40 : Ss := .cons s40_0 .nil
abbrev F40 : FnD := ⟨1, 1, b40⟩
/-- names.look_mark: slots 0 thing -/
def s45_0 : St := .ite (.or_ (.not_ (.vl (.call 18 (.cons (.var 0) .nil) .nil [] [.pos 0]))) (.not_ (.vl (.ch .le .le (.int 0) (.var 0) (.gl 9))))) (.cons (.rse 3 (.cons (.str [110, 111, 32, 109, 97, 114, 107]) .nil)) .nil) .nil
def b45 : Ss := .cons s45_0 .nil
abbrev F45 : FnD := ⟨1, 1, b45⟩
/-- rules.bounds_tuple: slots 0 bounds -/
def s46_0 : St := .ret (.tup (.cons (.att (.var 0) 104) (.cons (.att (.var 0) 105) .nil)))
def b46 : Ss := .cons s46_0 .nil
abbrev F46 : FnD := ⟨1, 1, b46⟩
/-- rules.fits: slots 0 bounds 1 rule 2 long -/
def s49_0 : St := .set (.nm 2) (.call 38 (.cons (.var 0) (.cons (.var 1) .nil)) .nil [] [.pos 0, .pos 1])
def s49_1 : St := .ret (.cmp .ge (.att (.var 1) 111) (.bin .mul (.int 2) (.var 2)))
def b49 : Ss := .cons s49_0 (.cons s49_1 .nil)
abbrev F49 : FnD := ⟨2, 3, b49⟩
/-- rules.is_enough: slots 0 bounds 1 rule 2 is_asked 3 lost 4 late -/
def s50_0 : St := .exp (.call 35 (.cons (.var 0) (.cons (.var 1) .nil)) .nil [] [.pos 0, .pos 1])
def s50_1 : St := .set (.tup (.cons (.nm 3) (.cons (.nm 4) .nil))) (.call 46 (.cons (.var 0) .nil) .nil [] [.pos 0])
def s50_2 : St := .set (.nm 2) (.and_ (.cmp .ge (.att (.var 1) 106) (.bin .add (.var 3) (.int 1))) (.cmp .ge (.att (.var 1) 109) (.var 3)))
def s50_3 : St := .ret (.and_ (.var 2) (.and_ (.cmp .ge (.att (.var 1) 108) (.bin .add (.bin .mul (.int 2) (.var 4)) (.bin .mul (.var 3) (.att (.var 1) 107)))) (.call 49 (.cons (.var 0) (.cons (.var 1) .nil)) .nil [] [.pos 0, .pos 1])))
def b50 : Ss := .cons s50_0 (.cons s50_1 (.cons s50_2 (.cons s50_3 .nil)))
abbrev F50 : FnD := ⟨2, 5, b50⟩
/-- claims.Claim.__init__: slots 0 self 1 name 2 mark 3 tries 4 tick -/
def s51_0 : St := .set (.att (.var 0) 101) (.var 1)
def s51_1 : St := .set (.att (.var 0) 114) (.var 2)
def s51_2 : St := .set (.att (.var 0) 115) (.var 3)
def s51_3 : St := .set2 (.att (.var 0) 117) (.att (.var 0) 119) (.var 4)
def s51_4 : St := .set (.att (.var 0) 116) (.bl false)
def s51_5 : St := .set2 (.att (.var 0) 120) (.att (.var 0) 122) (.int 0)
def s51_6 : St := .set3 (.att (.var 0) 121) (.att (.var 0) 118) (.att (.var 0) 123) (.gl 40)
def b51 : Ss := .cons s51_0 (.cons s51_1 (.cons s51_2 (.cons s51_3 (.cons s51_4 (.cons s51_5 (.cons s51_6 .nil))))))
abbrev F51 : FnD := ⟨5, 5, b51⟩
/-- claims.Claim.stand: slots 0 self -/
def s52_0 : St := .ret (.ife (.vl (.att (.var 0) 116)) (.gl 10) (.gl 11))
def b52 : Ss := .cons s52_0 .nil
abbrev F52 : FnD := ⟨1, 1, b52⟩
/-- claims.Claim.letter_kind: slots 0 self -/
def s53_0 : St := .ret (.ife (.vl (.att (.var 0) 116)) (.gl 12) (.gl 13))
def b53 : Ss := .cons s53_0 .nil
abbrev F53 : FnD := ⟨1, 1, b53⟩
/-- claims.Claim.told: slots 0 self -/
def s54_0 : St := .ret (.tup (.cons (.att (.var 0) 101) (.cons (.att (.var 0) 114) (.cons (.att (.var 0) 115) (.cons (.met 1000 (.var 0) .nil .nil [] []) (.cons (.att (.var 0) 117) .nil))))))
def b54 : Ss := .cons s54_0 .nil
abbrev F54 : FnD := ⟨1, 1, b54⟩
/-- claims.Claim.probe_turn: slots 0 self 1 rule 2 tick -/
def s57_0 : St := .ite (.or_ (.vl (.att (.var 0) 116)) (.or_ (.vl (.cmp .ge (.att (.var 0) 120) (.att (.var 1) 106))) (.vl (.cmp .gt (.att (.var 0) 119) (.var 2))))) (.cons (.ret (.bl false)) .nil) .nil
def s57_1 : St := .augA (.var 0) 120 .add 1
def s57_2 : St := .set (.att (.var 0) 119) (.bin .add (.var 2) (.att (.var 1) 107))
def s57_3 : St := .ret (.bl true)
def b57 : Ss := .cons s57_0 (.cons s57_1 (.cons s57_2 (.cons s57_3 .nil)))
abbrev F57 : FnD := ⟨3, 3, b57⟩
/-- claims.Claim.repeat_turn: slots 0 self 1 rule 2 tick -/
def s58_0 : St := .ite (.or_ (.vl (.cmp .eq (.att (.var 0) 122) (.int 0))) (.vl (.cmp .gt (.att (.var 0) 121) (.var 2)))) (.cons (.ret (.bl false)) .nil) .nil
def s58_1 : St := .augA (.var 0) 122 .sub 1
def s58_2 : St := .set (.att (.var 0) 121) (.bin .add (.var 2) (.att (.var 1) 107))
def s58_3 : St := .ret (.bl true)
def b58 : Ss := .cons s58_0 (.cons s58_1 (.cons s58_2 (.cons s58_3 .nil)))
abbrev F58 : FnD := ⟨3, 3, b58⟩
/-- claims.Claim.period_turn: slots 0 self 1 rule 2 tick -/
def s59_0 : St := .ite (.or_ (.not_ (.vl (.att (.var 0) 116))) (.vl (.cmp .gt (.att (.var 0) 118) (.var 2)))) (.cons (.ret (.bl false)) .nil) .nil
def s59_1 : St := .set (.att (.var 0) 118) (.bin .add (.var 2) (.att (.var 1) 110))
def s59_2 : St := .ret (.bl true)
def b59 : Ss := .cons s59_0 (.cons s59_1 (.cons s59_2 .nil))
abbrev F59 : FnD := ⟨3, 3, b59⟩
/-- claims.Claim.turns: slots 0 self 1 rule 2 tick 3 probe 4 repeat 5 period -/
def s60_0 : St := .set (.nm 3) (.met 1001 (.var 0) (.cons (.var 1) (.cons (.var 2) .nil)) .nil [] [.pos 0, .pos 1])
def s60_1 : St := .set (.nm 4) (.met 1002 (.var 0) (.cons (.var 1) (.cons (.var 2) .nil)) .nil [] [.pos 0, .pos 1])
def s60_2 : St := .set (.nm 5) (.met 1003 (.var 0) (.cons (.var 1) (.cons (.var 2) .nil)) .nil [] [.pos 0, .pos 1])
def s60_3 : St := .ret (.or_ (.var 3) (.or_ (.var 4) (.var 5)))
def b60 : Ss := .cons s60_0 (.cons s60_1 (.cons s60_2 (.cons s60_3 .nil)))
abbrev F60 : FnD := ⟨3, 6, b60⟩
/-- claims.Claim.says: slots 0 self 1 tick -/
def s61_0 : St := .ite (.vl (.cmp .eq (.att (.var 0) 123) (.var 1))) (.cons (.ret (.bl false)) .nil) .nil
def s61_1 : St := .set (.att (.var 0) 123) (.var 1)
def s61_2 : St := .ret (.bl true)
def b61 : Ss := .cons s61_0 (.cons s61_1 (.cons s61_2 .nil))
abbrev F61 : FnD := ⟨2, 2, b61⟩
/-- ears.Ear.__init__: slots 0 self 1 life -/
def s64_0 : St := .set (.att (.var 0) 111) (.var 1)
def s64_1 : St := .set (.att (.var 0) 124) (.dct .nil)
def b64 : Ss := .cons s64_0 (.cons s64_1 .nil)
abbrev F64 : FnD := ⟨2, 2, b64⟩
/-- ears.Ear.entry_of: slots 0 self 1 name 2 tick 3 entry -/
def s67_0 : St := .set (.nm 3) (.dm1 0 (.att (.var 0) 124) (.var 1))
def s67_1 : St := .ret (.ife (.or_ (.vl (.isN (.var 3))) (.vl (.cmp .gt (.bin .sub (.var 2) (.sub (.var 3) (.int 2))) (.att (.var 0) 111)))) .non (.var 3))
def b67 : Ss := .cons s67_0 (.cons s67_1 .nil)
abbrev F67 : FnD := ⟨3, 4, b67⟩
/-- ears.Ear.all_entries: slots 0 self 1 tick 2 name -/
def s68_0 : St := .ret (.lc (.bin .add (.tup (.cons (.var 2) .nil)) (.sub (.att (.var 0) 124) (.var 2))) [2] (.nm 2) (.ex (.bif .sorted (.cons (.att (.var 0) 124) .nil))) (.so (.vl (.isNt (.met 1004 (.var 0) (.cons (.var 2) (.cons (.var 1) .nil)) .nil [] [.pos 0, .pos 1])))))
def b68 : Ss := .cons s68_0 .nil
abbrev F68 : FnD := ⟨2, 3, b68⟩
/-- ears.Ear.young: slots 0 self 1 tick 2 entries 3 name 4 hand 5 mark 6 heard -/
def s69_0 : St := .set (.nm 2) (.met 1005 (.var 0) (.cons (.var 1) .nil) .nil [] [.pos 0])
def s69_1 : St := .ret (.bif .tuple (.cons (.lc (.tup (.cons (.var 3) (.cons (.var 4) .nil))) [3, 4, 5, 6] (.tup (.cons (.nm 3) (.cons (.nm 4) (.cons (.nm 5) (.cons (.nm 6) .nil))))) (.ex (.var 2)) (.so (.vl (.cmp .le (.bin .mul (.int 2) (.bin .sub (.var 1) (.var 6))) (.att (.var 0) 111))))) .nil))
def b69 : Ss := .cons s69_0 (.cons s69_1 .nil)
abbrev F69 : FnD := ⟨2, 7, b69⟩
/-- ears.Asking.__init__: slots 0 self 1 name 2 rule 3 tick -/
def s70_0 : St := .set (.att (.var 0) 101) (.var 1)
def s70_1 : St := .set (.att (.var 0) 117) (.var 3)
def s70_2 : St := .set (.att (.var 0) 125) (.att (.var 2) 109)
def s70_3 : St := .set (.att (.var 0) 126) (.bin .add (.var 3) (.att (.var 2) 107))
def b70 : Ss := .cons s70_0 (.cons s70_1 (.cons s70_2 (.cons s70_3 .nil)))
abbrev F70 : FnD := ⟨4, 4, b70⟩
/-- way.Copy.__init__: slots 0 self 1 number 2 letter 3 receiver 4 row -/
def s72_0 : St := .set (.att (.var 0) 127) (.var 1)
def s72_1 : St := .set (.tup (.cons (.att (.var 0) 131) (.cons (.att (.var 0) 130) (.cons (.att (.var 0) 101) (.cons (.att (.var 0) 114) (.cons (.att (.var 0) 129) (.cons (.att (.var 0) 128) .nil))))))) (.var 2)
def s72_2 : St := .set (.att (.var 0) 132) (.var 3)
def s72_3 : St := .set (.att (.var 0) 133) (.var 4)
def s72_4 : St := .set (.att (.var 0) 134) (.bif .len (.cons (.var 4) .nil))
def s72_5 : St := .exp (.met 0 (.var 4) (.cons (.gl 16) .nil) .nil [] [])
def b72 : Ss := .cons s72_0 (.cons s72_1 (.cons s72_2 (.cons s72_3 (.cons s72_4 (.cons s72_5 .nil)))))
abbrev F72 : FnD := ⟨5, 5, b72⟩
/-- way.Copy.has_come: slots 0 self -/
def s73_0 : St := .ret (.cmp .eq (.sub (.att (.var 0) 133) (.att (.var 0) 134)) (.gl 17))
def b73 : Ss := .cons s73_0 .nil
abbrev F73 : FnD := ⟨1, 1, b73⟩
/-- way.Copy.told: slots 0 self 1 ends -/
def s74_0 : St := .set (.nm 1) (.tup (.cons (.att (.var 0) 127) (.cons (.att (.var 0) 131) (.cons (.att (.var 0) 130) (.cons (.att (.var 0) 132) .nil)))))
def s74_1 : St := .ret (.bin .add (.var 1) (.tup (.cons (.att (.var 0) 101) (.cons (.att (.var 0) 114) (.cons (.att (.var 0) 129) (.cons (.att (.var 0) 128) (.cons (.met 1006 (.var 0) .nil .nil [] []) .nil)))))))
def b74 : Ss := .cons s74_0 (.cons s74_1 .nil)
abbrev F74 : FnD := ⟨1, 2, b74⟩
/-- way.Way.__init__: slots 0 self 1 bounds -/
def s76_0 : St := .set (.att (.var 0) 113) (.var 1)
def s76_1 : St := .set (.att (.var 0) 135) (.dct .nil)
def s76_2 : St := .set (.att (.var 0) 136) (.dct .nil)
def s76_3 : St := .set (.att (.var 0) 137) (.int 0)
def b76 : Ss := .cons s76_0 (.cons s76_1 (.cons s76_2 (.cons s76_3 .nil)))
abbrev F76 : FnD := ⟨2, 2, b76⟩
/-- way.Way.send: slots 0 self 1 kind 2 hand 3 others 4 name 5 mark 6 known 7 tick 8 letter 9 other 10 row -/
def s77_0 : St := .set (.nm 8) (.tup (.cons (.var 1) (.cons (.var 2) (.cons (.var 4) (.cons (.var 5) (.cons (.var 6) (.cons (.var 7) .nil)))))))
def s77_1_0 : St := .set (.nm 10) (.dsT (.att (.var 0) 136) (.tup (.cons (.var 2) (.cons (.var 9) (.cons (.var 4) (.cons (.cmp .eq (.var 1) (.gl 41)) .nil))))) (.lst .nil))
def s77_1_1 : St := .set (.sub (.att (.var 0) 135) (.att (.var 0) 137)) (.mk 3 (.cons (.att (.var 0) 137) (.cons (.var 8) (.cons (.var 9) (.cons (.var 10) .nil)))) .nil [] [.pos 0, .pos 1, .pos 2, .pos 3])
def s77_1_2 : St := .augA (.var 0) 137 .add 1
def k77_1 : Ss := .cons s77_1_0 (.cons s77_1_1 (.cons s77_1_2 .nil))
def s77_1 : St := .for_ (.nm 9) (.ex (.var 3)) k77_1
def b77 : Ss := .cons s77_0 (.cons s77_1 .nil)
abbrev F77 : FnD := ⟨8, 11, b77⟩
/-- way.Way.born: slots 0 self 1 hand 2 key 3 row -/
def s84_0 : St := .set (.att (.var 0) 136) (.dcT (.var 2) (.var 3) [2, 3] (.tup (.cons (.nm 2) (.cons (.nm 3) .nil))) (.att (.var 0) 136) (.so (.vl (.cmp .notin (.var 1) (.sl (.var 2) .no (.so (.int 2)))))))
def b84 : Ss := .cons s84_0 .nil
abbrev F84 : FnD := ⟨2, 4, b84⟩
/-- way.Way.told: slots 0 self 1 number -/
def s86_0 : St := .ret (.lc (.met 1009 (.sub (.att (.var 0) 135) (.var 1)) .nil .nil [] []) [1] (.nm 1) (.ex (.bif .sorted (.cons (.att (.var 0) 135) .nil))) .no)
def b86 : Ss := .cons s86_0 .nil
abbrev F86 : FnD := ⟨1, 2, b86⟩
/-- wires.look_hand: slots 0 hand -/
def s87_0 : St := .ite (.or_ (.not_ (.vl (.call 18 (.cons (.var 0) .nil) .nil [] [.pos 0]))) (.not_ (.vl (.ch .le .lt (.int 0) (.var 0) (.gl 19))))) (.cons .nev .nil) .nil
def b87 : Ss := .cons s87_0 .nil
abbrev F87 : FnD := ⟨1, 1, b87⟩
/-- wires.look_wire: slots 0 wire -/
def s88_0 : St := .ite (.or_ (.not_ (.vl (.call 18 (.cons (.var 0) .nil) .nil [] [.pos 0]))) (.not_ (.vl (.ch .le .lt (.int 0) (.var 0) (.gl 20))))) (.cons .nev .nil) .nil
def b88 : Ss := .cons s88_0 .nil
abbrev F88 : FnD := ⟨1, 1, b88⟩
/-- wires.Stander.__init__: slots 0 self 1 wire 2 life -/
def s89_0 : St := .set (.att (.var 0) 138) (.var 1)
def s89_1 : St := .set (.att (.var 0) 139) (.dct .nil)
def s89_2 : St := .set (.att (.var 0) 140) (.mk 4 (.cons (.var 2) .nil) .nil [] [.pos 0])
def s89_3 : St := .set (.att (.var 0) 141) (.dct .nil)
def s89_4 : St := .set (.att (.var 0) 142) (.dct .nil)
def b89 : Ss := .cons s89_0 (.cons s89_1 (.cons s89_2 (.cons s89_3 (.cons s89_4 .nil))))
abbrev F89 : FnD := ⟨3, 3, b89⟩
/-- wires.Stander.claim_of: slots 0 self 1 name -/
def s90_0 : St := .ret (.dm1 0 (.att (.var 0) 139) (.var 1))
def b90 : Ss := .cons s90_0 .nil
abbrev F90 : FnD := ⟨2, 2, b90⟩
/-- wires.Stander.holds: slots 0 self 1 name -/
def s92_0 : St := .ret (.and_ (.cmp .isin (.var 1) (.att (.var 0) 139)) (.att (.sub (.att (.var 0) 139) (.var 1)) 116))
def b92 : Ss := .cons s92_0 .nil
abbrev F92 : FnD := ⟨2, 2, b92⟩
/-- wires.Wires.__init__: slots 0 self 1 bounds 2 rule -/
def s93_0 : St := .exp (.call 33 (.cons (.var 1) .nil) .nil [] [.pos 0])
def s93_1 : St := .exp (.call 34 (.cons (.var 2) .nil) .nil [] [.pos 0])
def s93_2 : St := .ite (.not_ (.vl (.call 49 (.cons (.var 1) (.cons (.var 2) .nil)) .nil [] [.pos 0, .pos 1]))) (.cons (.rse 6 (.cons (.str [116, 104, 101, 32, 108, 105, 102, 101, 32, 105, 115, 32, 116, 111, 111, 32, 115, 104, 111, 114, 116]) .nil)) .nil) .nil
def s93_3 : St := .set (.att (.var 0) 113) (.var 1)
def s93_4 : St := .set (.att (.var 0) 112) (.var 2)
def s93_5 : St := .set (.att (.var 0) 143) (.int 0)
def s93_6 : St := .set (.att (.var 0) 144) (.dct .nil)
def s93_7 : St := .set (.att (.var 0) 145) (.mk 5 (.cons (.var 1) .nil) .nil [] [.pos 0])
def s93_8 : St := .set (.att (.var 0) 146) (.lst .nil)
def s93_9 : St := .set (.att (.var 0) 147) (.lst .nil)
def s93_10 : St := .set (.att (.var 0) 148) (.int 0)
def b93 : Ss := .cons s93_0 (.cons s93_1 (.cons s93_2 (.cons s93_3 (.cons s93_4 (.cons s93_5 (.cons s93_6 (.cons s93_7 (.cons s93_8 (.cons s93_9 (.cons s93_10 .nil))))))))))
abbrev F93 : FnD := ⟨3, 3, b93⟩
/-- wires.Wires.stander: slots 0 self 1 hand -/
def s94_0 : St := .exp (.call 87 (.cons (.var 1) .nil) .nil [] [.pos 0])
def s94_1 : St := .ite (.vl (.cmp .notin (.var 1) (.att (.var 0) 144))) (.cons .nev .nil) .nil
def s94_2 : St := .ret (.sub (.att (.var 0) 144) (.var 1))
def b94 : Ss := .cons s94_0 (.cons s94_1 (.cons s94_2 .nil))
abbrev F94 : FnD := ⟨2, 2, b94⟩
/-- wires.Wires.send: slots 0 self 1 hand 2 kind 3 name 4 mark 5 known 6 wire 7 others 8 other -/
def s95_0 : St := .set (.nm 6) (.att (.sub (.att (.var 0) 144) (.var 1)) 138)
def s95_1 : St := .set (.nm 7) (.lc (.var 8) [8] (.nm 8) (.ex (.met 1010 (.var 0) (.cons (.var 6) .nil) .nil [] [.pos 0])) (.so (.vl (.cmp .ne (.var 8) (.var 1)))))
def s95_2 : St := .exp (.met 1011 (.att (.var 0) 145) (.cons (.var 2) (.cons (.var 1) (.cons (.var 7) (.cons (.var 3) (.cons (.var 4) (.cons (.var 5) (.cons (.att (.var 0) 143) .nil))))))) .nil [] [.pos 0, .pos 1, .pos 2, .pos 3, .pos 4, .pos 5, .pos 6])
def b95 : Ss := .cons s95_0 (.cons s95_1 (.cons s95_2 .nil))
abbrev F95 : FnD := ⟨6, 9, b95⟩
/-- wires.Wires.on_wire: slots 0 self 1 wire 2 hand 3 stander -/
def s96_0 : St := .ret (.sci (.var 2) [2, 3] (.tup (.cons (.nm 2) (.cons (.nm 3) .nil))) (.att (.var 0) 144) (.so (.vl (.cmp .eq (.att (.var 3) 138) (.var 1)))))
def b96 : Ss := .cons s96_0 .nil
abbrev F96 : FnD := ⟨2, 4, b96⟩
/-- wires.Wires.say: slots 0 self 1 hand 2 claim -/
def s97_0 : St := .ite (.vl (.met 1012 (.var 2) (.cons (.att (.var 0) 143) .nil) .nil [] [.pos 0])) (.cons (.exp (.met 1013 (.var 0) (.cons (.var 1) (.cons (.met 1014 (.var 2) .nil .nil [] []) (.cons (.att (.var 2) 101) (.cons (.att (.var 2) 114) .nil)))) .nil [] [.pos 0, .pos 1, .pos 2, .pos 3, .dfl (.tup [])])) .nil) .nil
def b97 : Ss := .cons s97_0 .nil
abbrev F97 : FnD := ⟨3, 3, b97⟩
/-- wires.Wires.begin: slots 0 self 1 hand 2 name 3 mark 4 tries 5 claim -/
def s99_0 : St := .set (.nm 5) (.mk 6 (.cons (.var 2) (.cons (.var 3) (.cons (.var 4) (.cons (.att (.var 0) 143) .nil)))) .nil [] [.pos 0, .pos 1, .pos 2, .pos 3])
def s99_1 : St := .set (.sub (.att (.sub (.att (.var 0) 144) (.var 1)) 139) (.var 2)) (.var 5)
def s99_2 : St := .ite (.vl (.met 1017 (.var 5) (.cons (.att (.var 0) 112) (.cons (.att (.var 0) 143) .nil)) .nil [] [.pos 0, .pos 1])) (.cons (.exp (.met 1015 (.var 0) (.cons (.var 1) (.cons (.var 5) .nil)) .nil [] [.pos 0, .pos 1])) .nil) .nil
def b99 : Ss := .cons s99_0 (.cons s99_1 (.cons s99_2 .nil))
abbrev F99 : FnD := ⟨5, 6, b99⟩
/-- wires.Wires.come: slots 0 self 1 hand 2 wire -/
def s101_0 : St := .exp (.call 87 (.cons (.var 1) .nil) .nil [] [.pos 0])
def s101_1 : St := .exp (.call 88 (.cons (.var 2) .nil) .nil [] [.pos 0])
def s101_2 : St := .ite (.vl (.cmp .isin (.var 1) (.att (.var 0) 144))) (.cons .nev .nil) .nil
def s101_3 : St := .exp (.met 1019 (.att (.var 0) 145) (.cons (.var 1) .nil) .nil [] [.pos 0])
def s101_4 : St := .set (.sub (.att (.var 0) 144) (.var 1)) (.mk 7 (.cons (.var 2) (.cons (.att (.att (.var 0) 112) 111) .nil)) .nil [] [.pos 0, .pos 1])
def s101_5 : St := .exp (.met 0 (.att (.var 0) 147) (.cons (.tup (.cons (.str [99, 111, 109, 101]) (.cons (.var 1) (.cons (.var 2) .nil)))) .nil) .nil [] [])
def b101 : Ss := .cons s101_0 (.cons s101_1 (.cons s101_2 (.cons s101_3 (.cons s101_4 (.cons s101_5 .nil)))))
abbrev F101 : FnD := ⟨3, 3, b101⟩
/-- wires.Wires.claim: slots 0 self 1 hand 2 name 3 mark 4 tries 5 stander -/
def s103_0 : St := .set (.nm 5) (.met 1020 (.var 0) (.cons (.var 1) .nil) .nil [] [.pos 0])
def s103_1 : St := .exp (.call 8 (.cons (.var 2) .nil) .nil [] [.pos 0])
def s103_2 : St := .exp (.call 45 (.cons (.var 3) .nil) .nil [] [.pos 0])
def s103_3 : St := .ite (.or_ (.not_ (.vl (.call 18 (.cons (.var 4) .nil) .nil [] [.pos 0]))) (.not_ (.vl (.ch .le .le (.int 1) (.var 4) (.gl 21))))) (.cons (.rse 4 (.cons (.str [111, 110, 101, 32, 116, 111, 32, 110, 105, 110, 101, 32, 116, 114, 105, 101, 115, 32, 97, 114, 101, 32, 119, 97, 110, 116, 101, 100]) .nil)) .nil) .nil
def s103_4 : St := .ite (.vl (.isNt (.met 1022 (.var 5) (.cons (.var 2) .nil) .nil [] [.pos 0]))) (.cons (.rse 10 (.cons (.str [116, 104, 101, 32, 104, 97, 110, 100, 32, 104, 97, 115, 32, 97, 32, 99, 108, 97, 105, 109, 32, 111, 102, 32, 116, 104, 101, 32, 110, 97, 109, 101]) .nil)) .nil) .nil
def s103_5 : St := .ite (.vl (.cmp .eq (.bif .len (.cons (.att (.var 5) 139) .nil)) (.gl 22))) (.cons (.rse 12 (.cons (.str [116, 104, 101, 32, 104, 97, 110, 100, 32, 104, 97, 115, 32, 116, 104, 114, 101, 101, 32, 99, 108, 97, 105, 109, 115]) .nil)) .nil) .nil
def s103_6 : St := .exp (.met 1018 (.var 0) (.cons (.var 1) (.cons (.var 2) (.cons (.var 3) (.cons (.var 4) .nil)))) .nil [] [.pos 0, .pos 1, .pos 2, .pos 3])
def s103_7 : St := .exp (.met 0 (.att (.var 0) 147) (.cons (.tup (.cons (.str [99, 108, 97, 105, 109]) (.cons (.var 1) (.cons (.var 2) (.cons (.var 3) (.cons (.var 4) .nil)))))) .nil) .nil [] [])
def b103 : Ss := .cons s103_0 (.cons s103_1 (.cons s103_2 (.cons s103_3 (.cons s103_4 (.cons s103_5 (.cons s103_6 (.cons s103_7 .nil)))))))
abbrev F103 : FnD := ⟨5, 6, b103⟩
/-- wires.Wires.drop: slots 0 self 1 hand 2 name 3 stander -/
def s104_0 : St := .set (.nm 3) (.met 1020 (.var 0) (.cons (.var 1) .nil) .nil [] [.pos 0])
def s104_1 : St := .exp (.call 8 (.cons (.var 2) .nil) .nil [] [.pos 0])
def s104_2 : St := .ite (.vl (.isN (.met 1022 (.var 3) (.cons (.var 2) .nil) .nil [] [.pos 0]))) (.cons (.rse 11 (.cons (.str [116, 104, 101, 32, 104, 97, 110, 100, 32, 104, 97, 115, 32, 110, 111, 32, 99, 108, 97, 105, 109, 32, 111, 102, 32, 116, 104, 101, 32, 110, 97, 109, 101]) .nil)) .nil) .nil
def s104_3 : St := .ite (.vl (.met 1023 (.var 3) (.cons (.var 2) .nil) .nil [] [.pos 0])) (.cons (.exp (.met 1013 (.var 0) (.cons (.var 1) (.cons (.gl 23) (.cons (.var 2) (.cons (.int 0) .nil)))) .nil [] [.pos 0, .pos 1, .pos 2, .pos 3, .dfl (.tup [])])) .nil) .nil
def s104_4 : St := .del_ (.att (.var 3) 139) (.var 2)
def s104_5 : St := .exp (.met 0 (.att (.var 0) 147) (.cons (.tup (.cons (.str [100, 114, 111, 112]) (.cons (.var 1) (.cons (.var 2) .nil)))) .nil) .nil [] [])
def b104 : Ss := .cons s104_0 (.cons s104_1 (.cons s104_2 (.cons s104_3 (.cons s104_4 (.cons s104_5 .nil)))))
abbrev F104 : FnD := ⟨3, 4, b104⟩
/-- wires.Wires.told_known: slots 0 self 1 hand 2 stander 3 name 4 entry 5 other 6 mark 7 tick -/
def s108_0 : St := .ite (.vl (.met 1023 (.var 2) (.cons (.var 3) .nil) .nil [] [.pos 0])) (.cons (.ret (.tup (.cons (.var 1) (.cons (.att (.sub (.att (.var 2) 139) (.var 3)) 114) (.cons (.int 0) .nil))))) .nil) .nil
def s108_1 : St := .set (.nm 4) (.met 1004 (.att (.var 2) 140) (.cons (.var 3) (.cons (.att (.var 0) 143) .nil)) .nil [] [.pos 0, .pos 1])
def s108_2 : St := .ite (.vl (.isN (.var 4))) (.cons (.ret .non) .nil) .nil
def s108_3 : St := .set (.tup (.cons (.nm 5) (.cons (.nm 6) (.cons (.nm 7) .nil)))) (.var 4)
def s108_4 : St := .ret (.tup (.cons (.var 5) (.cons (.var 6) (.cons (.bin .add (.bin .sub (.att (.var 0) 143) (.var 7)) (.att (.att (.var 0) 113) 105)) .nil))))
def b108 : Ss := .cons s108_0 (.cons s108_1 (.cons s108_2 (.cons s108_3 (.cons s108_4 .nil))))
abbrev F108 : FnD := ⟨4, 8, b108⟩
/-- wires.Wires.ask: slots 0 self 1 hand 2 name 3 stander 4 told -/
def s109_0 : St := .set (.nm 3) (.met 1020 (.var 0) (.cons (.var 1) .nil) .nil [] [.pos 0])
def s109_1 : St := .exp (.call 8 (.cons (.var 2) .nil) .nil [] [.pos 0])
def s109_2 : St := .set (.nm 4) (.ife (.vl (.isNt (.met 1024 (.var 0) (.cons (.var 1) (.cons (.var 3) (.cons (.var 2) .nil))) .nil [] [.pos 0, .pos 1, .pos 2]))) (.gl 24) (.gl 25))
def s109_3a_0 : St := .set (.sub (.att (.var 3) 141) (.var 2)) (.mk 8 (.cons (.var 2) (.cons (.att (.var 0) 112) (.cons (.att (.var 0) 143) .nil))) .nil [] [.pos 0, .pos 1, .pos 2])
def s109_3a_1 : St := .exp (.dm2 1 (.att (.var 3) 142) (.var 2) .non)
def s109_3a_2 : St := .exp (.met 1013 (.var 0) (.cons (.var 1) (.cons (.gl 26) (.cons (.var 2) (.cons (.int 0) .nil)))) .nil [] [.pos 0, .pos 1, .pos 2, .pos 3, .dfl (.tup [])])
def k109_3a : Ss := .cons s109_3a_0 (.cons s109_3a_1 (.cons s109_3a_2 .nil))
def s109_3 : St := .ite (.and_ (.vl (.cmp .eq (.var 4) (.gl 25))) (.vl (.cmp .notin (.var 2) (.att (.var 3) 141)))) k109_3a .nil
def s109_4 : St := .exp (.met 0 (.att (.var 0) 147) (.cons (.tup (.cons (.str [97, 115, 107]) (.cons (.var 1) (.cons (.var 2) .nil)))) .nil) .nil [] [])
def s109_5 : St := .ret (.var 4)
def b109 : Ss := .cons s109_0 (.cons s109_1 (.cons s109_2 (.cons s109_3 (.cons s109_4 (.cons s109_5 .nil)))))
abbrev F109 : FnD := ⟨3, 5, b109⟩
/-- wires.Wires.ask_all: slots 0 self 1 hand 2 stander -/
def s110_0 : St := .set (.nm 2) (.met 1020 (.var 0) (.cons (.var 1) .nil) .nil [] [.pos 0])
def s110_1 : St := .set (.sub (.att (.var 2) 141) (.gl 27)) (.mk 8 (.cons (.gl 27) (.cons (.att (.var 0) 112) (.cons (.att (.var 0) 143) .nil))) .nil [] [.pos 0, .pos 1, .pos 2])
def s110_2 : St := .exp (.met 1025 (.var 0) (.cons (.var 1) (.cons (.gl 27) .nil)) .nil [] [.pos 0, .pos 1])
def s110_3 : St := .exp (.met 0 (.att (.var 0) 147) (.cons (.tup (.cons (.str [97, 115, 107, 32, 97, 108, 108]) (.cons (.var 1) .nil))) .nil) .nil [] [])
def b110 : Ss := .cons s110_0 (.cons s110_1 (.cons s110_2 (.cons s110_3 .nil)))
abbrev F110 : FnD := ⟨2, 3, b110⟩
/-- wires.Wires.send_ask: slots 0 self 1 hand 2 name 3 known -/
def s111_0 : St := .set (.nm 3) (.tup .nil)
def s111_1 : St := .ite (.vl (.cmp .eq (.var 2) (.gl 27))) (.cons (.set (.nm 3) (.met 1026 (.att (.sub (.att (.var 0) 144) (.var 1)) 140) (.cons (.att (.var 0) 143) .nil) .nil [] [.pos 0])) .nil) .nil
def s111_2 : St := .exp (.met 1027 (.var 0) (.cons (.var 1) (.cons (.gl 26) (.cons (.var 2) (.cons (.int 0) (.cons (.var 3) .nil))))) .nil [] [.pos 0, .pos 1, .pos 2, .pos 3, .pos 4])
def b111 : Ss := .cons s111_0 (.cons s111_1 (.cons s111_2 .nil))
abbrev F111 : FnD := ⟨3, 4, b111⟩
/-- wires.Wires.way: slots 0 self -/
def s122_0 : St := .ret (.met 1009 (.att (.var 0) 145) .nil .nil [] [])
def b122 : Ss := .cons s122_0 .nil
abbrev F122 : FnD := ⟨1, 1, b122⟩
/-- wires.Wires.now: slots 0 self -/
def s123_0 : St := .ret (.att (.var 0) 143)
def b123 : Ss := .cons s123_0 .nil
abbrev F123 : FnD := ⟨1, 1, b123⟩
/-- _law_asking: slots 0 old 1 ru -/
def s148_0 : St := .ret (.bin .add (.bin .mul (.int 2) (.var 0)) (.bin .mul (.bin .mul (.int 2) (.sub (.var 1) (.int 3))) (.sub (.var 1) (.int 1))))
def b148 : Ss := .cons s148_0 .nil
abbrev F148 : FnD := ⟨2, 2, b148⟩
/-- rules.least_rule: slots 0 bounds 1 gap 2 wait 3 period 4 life 5 lost 6 late 7 probes 8 repeats -/
def s153_0 : St := .exp (.call 33 (.cons (.var 0) .nil) .nil [] [.pos 0])
def s153_1 : St := .ite (.not_ (.vl (.call 19 (.cons (.var 1) (.cons (.sub (.gl 7) (.str [103, 97, 112])) (.cons (.sub (.gl 8) (.str [103, 97, 112])) .nil))) .nil [] [.pos 0, .pos 1, .pos 2]))) (.cons (.rse 6 (.cons (.str [110, 111, 32, 103, 97, 112]) .nil)) .nil) .nil
def s153_2 : St := .set (.tup (.cons (.nm 5) (.cons (.nm 6) .nil))) (.call 46 (.cons (.var 0) .nil) .nil [] [.pos 0])
def s153_3 : St := .par [7, 8] (.cons (.bin .add (.var 5) (.int 1)) (.cons (.var 5) .nil))
def s153_4 : St := .set (.nm 2) (.bin .add (.bin .mul (.int 2) (.var 6)) (.bin .mul (.var 5) (.var 1)))
def s153_5 : St := .set (.nm 3) (.bin .add (.call 22 (.cons (.var 7) (.cons (.var 1) (.cons (.var 2) .nil))) .nil [] [.pos 0, .pos 1, .pos 2]) (.int 2))
def s153_6 : St := .set (.nm 4) (.bin .mul (.int 2) (.call 36 (.cons (.var 6) (.cons (.var 8) (.cons (.var 1) .nil))) .nil [] [.pos 0, .pos 1, .pos 2]))
def s153_7 : St := .ret (.mk 1 .nil (.cons (.var 7) (.cons (.var 1) (.cons (.var 2) (.cons (.var 8) (.cons (.var 3) (.cons (.var 4) .nil)))))) [106, 107, 108, 109, 110, 111] [.kw 0, .kw 1, .kw 2, .kw 3, .kw 4, .kw 5])
def b153 : Ss := .cons s153_0 (.cons s153_1 (.cons s153_2 (.cons s153_3 (.cons s153_4 (.cons s153_5 (.cons s153_6 (.cons s153_7 .nil)))))))
abbrev F153 : FnD := ⟨2, 9, b153⟩
/-- _law_least: slots 0 few 1 old 2 g 3 claiming -/
def s154_0 : St := .set (.nm 3) (.bin .add (.bin .add (.bin .mul (.var 0) (.var 2)) (.bin .mul (.int 2) (.var 1))) (.bin .mul (.var 0) (.var 2)))
def s154_1 : St := .ret (.tup (.cons (.bin .add (.var 0) (.int 1)) (.cons (.var 2) (.cons (.bin .add (.bin .mul (.int 2) (.var 1)) (.bin .mul (.var 0) (.var 2))) (.cons (.var 0) (.cons (.bin .add (.var 3) (.int 2)) (.cons (.bin .mul (.int 2) (.bin .add (.bin .mul (.int 2) (.var 1)) (.bin .mul (.bin .mul (.int 2) (.var 0)) (.var 2)))) .nil)))))))
def b154 : Ss := .cons s154_0 (.cons s154_1 .nil)
abbrev F154 : FnD := ⟨3, 4, b154⟩
/-- _law_rule: slots 0 bag 1 few 2 old 3 g 4 ru 5 p 6 found 7 d 8 f 9 w 10 r -/
def s160_0 : St := .set (.nm 3) (.bin .add (.int 1) (.call 3 (.cons (.var 0) (.cons (.int 3) .nil)) .nil [] [.pos 0, .pos 1]))
def s160_1 : St := .set (.nm 4) (.call 154 (.cons (.var 1) (.cons (.var 2) (.cons (.var 3) .nil))) .nil [] [.pos 0, .pos 1, .pos 2])
def s160_2 : St := .set (.nm 5) (.bif .min (.cons (.int 9) (.cons (.bin .add (.sub (.var 4) (.int 0)) (.sub (.lst (.cons (.int 0) (.cons (.int 0) (.cons (.int 1) (.cons (.int 2) .nil))))) (.call 3 (.cons (.var 0) (.cons (.int 4) .nil)) .nil [] [.pos 0, .pos 1]))) .nil)))
def s160_3 : St := .par [9, 10] (.cons (.bin .add (.sub (.var 4) (.int 2)) (.sub (.lst (.cons (.int 0) (.cons (.int 0) (.cons (.int 1) (.cons (.int 5) .nil))))) (.call 3 (.cons (.var 0) (.cons (.int 4) .nil)) .nil [] [.pos 0, .pos 1]))) (.cons (.bin .add (.sub (.var 4) (.int 3)) (.sub (.lst (.cons (.int 0) (.cons (.int 0) (.cons (.int 1) (.cons (.int 2) .nil))))) (.call 3 (.cons (.var 0) (.cons (.int 4) .nil)) .nil [] [.pos 0, .pos 1]))) .nil))
def s160_4 : St := .set (.nm 6) (.tup (.cons (.var 5) (.cons (.var 3) (.cons (.var 9) (.cons (.var 10) .nil)))))
def s160_5 : St := .set (.nm 7) (.bin .add (.bin .add (.call 40 (.cons (.var 6) .nil) .nil [] [.pos 0]) (.int 2)) (.sub (.lst (.cons (.int 0) (.cons (.int 0) (.cons (.int 1) (.cons (.int 9) .nil))))) (.call 3 (.cons (.var 0) (.cons (.int 4) .nil)) .nil [] [.pos 0, .pos 1])))
def s160_6 : St := .set (.nm 8) (.bin .add (.bin .mul (.int 2) (.call 148 (.cons (.var 2) (.cons (.var 6) .nil)) .nil [] [.pos 0, .pos 1])) (.sub (.lst (.cons (.int 0) (.cons (.int 0) (.cons (.int 1) (.cons (.int 30) .nil))))) (.call 3 (.cons (.var 0) (.cons (.int 4) .nil)) .nil [] [.pos 0, .pos 1])))
def s160_7 : St := .ret (.tup (.cons (.var 5) (.cons (.var 3) (.cons (.var 9) (.cons (.var 10) (.cons (.var 7) (.cons (.var 8) .nil)))))))
def b160 : Ss := .cons s160_0 (.cons s160_1 (.cons s160_2 (.cons s160_3 (.cons s160_4 (.cons s160_5 (.cons s160_6 (.cons s160_7 .nil)))))))
abbrev F160 : FnD := ⟨3, 11, b160⟩
/-- _law_made: slots 0 few 1 old 2 ru 3 made -/
def s161_0 : St := .set (.nm 3) (.mk 1 .nil (.cons (.sub (.var 2) (.int 0)) (.cons (.sub (.var 2) (.int 1)) (.cons (.sub (.var 2) (.int 2)) (.cons (.sub (.var 2) (.int 3)) (.cons (.sub (.var 2) (.int 4)) (.cons (.sub (.var 2) (.int 5)) .nil)))))) [106, 107, 108, 109, 110, 111] [.kw 0, .kw 1, .kw 2, .kw 3, .kw 4, .kw 5])
def s161_1 : St := .ret (.mk 9 (.cons (.mk 2 .nil (.cons (.var 0) (.cons (.var 1) .nil)) [104, 105] [.kw 0, .kw 1]) (.cons (.var 3) .nil)) .nil [] [.pos 0, .pos 1])
def b161 : Ss := .cons s161_0 (.cons s161_1 .nil)
abbrev F161 : FnD := ⟨3, 4, b161⟩
/-- _law_bounds: slots 0 bag -/
def s162_0 : St := .ret (.tup (.cons (.call 3 (.cons (.var 0) (.cons (.int 4) .nil)) .nil [] [.pos 0, .pos 1]) (.cons (.bin .add (.int 1) (.call 3 (.cons (.var 0) (.cons (.int 5) .nil)) .nil [] [.pos 0, .pos 1])) .nil)))
def b162 : Ss := .cons s162_0 .nil
abbrev F162 : FnD := ⟨1, 1, b162⟩
/-- _law_plain_name: slots 0 bag 1 letters 2 found 3 k -/
def s163_0 : St := .set (.nm 1) (.str [97, 98, 99, 100, 101, 102, 103, 104, 105, 106, 107, 108, 109, 110, 111, 112, 113, 114, 115, 116, 117, 118, 119, 120, 121, 122])
def s163_1 : St := .set (.nm 2) (.met 1 (.str []) (.cons (.lc (.sub (.var 1) (.call 3 (.cons (.var 0) (.cons (.int 26) .nil)) .nil [] [.pos 0, .pos 1])) [3] (.nm 3) (.rng (.bin .add (.int 1) (.call 3 (.cons (.var 0) (.cons (.int 8) .nil)) .nil [] [.pos 0, .pos 1]))) .no) .nil) .nil [] [])
def s163_2 : St := .ret (.ife (.vl (.cmp .eq (.call 3 (.cons (.var 0) (.cons (.int 3) .nil)) .nil [] [.pos 0, .pos 1]) (.int 0))) (.bin .add (.var 2) (.sub (.str [50, 51, 52, 53, 54, 55, 56, 57]) (.call 3 (.cons (.var 0) (.cons (.int 8) .nil)) .nil [] [.pos 0, .pos 1]))) (.var 2))
def b163 : Ss := .cons s163_0 (.cons s163_1 (.cons s163_2 .nil))
abbrev F163 : FnD := ⟨1, 4, b163⟩
end W
set_option linter.all false
set_option maxRecDepth 100000
set_option maxHeartbeats 4000000
namespace DM
theorem c_fn {P : Prog} {i k : Nat} {d : FnD} {vs : List MV} {h : MH} [I : W.Fn P i d] : callM P (k + 1) i vs h = runFn P (callM P k) d vs h := by
  unfold callM
  rw [I.e]
end DM
namespace WB
open DM
variable {P : Prog}
section
variable [W.Fn P 2 W.F2] [W.Fn P 3 W.F3]
theorem small_lt {i : Int} (h0 : 0 ≤ i) (h1 : i < 2147483647) : small i = true := by unfold small; exact decide_eq_true (by omega)
theorem take_ok {k b : Nat} {h : MH} {g m many : Int} (hb : h.get b = some (.lst [.int g, .int m])) (hg : 0 ≤ g) (hm : 0 ≤ m) (h1 : 0 < many) (h2 : many < 1073741824) :
    ∃ d g' m', 0 ≤ d ∧ d < many ∧ 0 ≤ g' ∧ 0 ≤ m' ∧ callM P (k + 1) 3 [.ref b, .int many] h = .ok (.int d) (h.put b (.lst [.int g', .int m'])) := by
  have r0 : ∀ {h : MH} {g m : Int}, h.get b = some (.lst [.int g, .int m]) → subM (.ref b) (.int 0) h = .ok (.int g) h := fun hb => s_ref hb (at_0 rfl)
  have r1 : ∀ {h : MH} {g m : Int}, h.get b = some (.lst [.int g, .int m]) → subM (.ref b) (.int 1) h = .ok (.int m) h := fun hb => s_ref hb (at_1 rfl)
  by_cases hz : 0 < g
  · refine ⟨g % many, g / many, m, Int.emod_nonneg _ (by omega), Int.emod_lt_of_pos _ h1, Int.ediv_nonneg hg (by omega), hm, ?_⟩
    rw [c_fn]
    refine f_rt [some (.ref b), some (.int many), none] rfl rfl (x_rt (r := .cons W.s3_1 (.cons W.s3_2 .nil)) ?_)
    have e1 := w_0 (v := .int (g / many)) hb (by simp)
    simp only [exec, execs, tv, ev, evs, eo, ct, asg, asgs, itv, bind_ok', go_ok, noEx_ok', setM, callP, pick, negM, isNM, mc_bt, t_bl, b_add, b_sub, b_mod, b_fdiv, b_pow3, b_pow18, b_pow30, b_str, c_lt, c_gt, c_le, c_ge, c_eqi, c_nei, c_eqs, c_nes, c_eqb, c_neb, f_len, f_max, f_min, f_abs, List.getElem?_cons_zero, List.getElem?_cons_succ, List.set_cons_zero, List.set_cons_succ, List.length_cons, List.length_nil, if_true, if_false, decide_true, decide_false, Bool.not_true, Bool.not_false, Bool.false_eq_true, Bool.or_true, Bool.true_or, Bool.or_false, Bool.false_or, Bool.and_true, Bool.true_and, Bool.and_false, Bool.false_and, beq_self_eq_true, W.s3_0, W.k3_0a, W.s3_0a_0, W.s3_0a_1, W.s3_0a_2, r0 hb, hz, b_mod h1, b_fdiv ⟨h1, h2⟩, e1]
  · have e1 : 0 ≤ (m * 69069 + 1327217) % 2147483647 := Int.emod_nonneg _ (by omega)
    have e2 : (m * 69069 + 1327217) % 2147483647 < 2147483647 := Int.emod_lt_of_pos _ (by omega)
    have sm : small ((m * 69069 + 1327217) % 2147483647) = true := small_lt e1 e2
    have s2 : small 69069 = true := small_lt (by omega) (by omega)
    generalize hM : (m * 69069 + 1327217) % 2147483647 = M at e1 e2 sm
    refine ⟨M ^ 3 % 2147483629 / 16 % many, g, M, Int.emod_nonneg _ (by omega), Int.emod_lt_of_pos _ h1, hg, e1, ?_⟩
    have e3 := w_1 (v := .int M) hb (by simp)
    rw [c_fn]
    refine f_rt [some (.ref b), some (.int many), none] rfl rfl (x_nx (r := .cons W.s3_1 (.cons W.s3_2 .nil)) (σ1 := [some (.ref b), some (.int many), none]) (h1 := h) ?_ (x_nx (σ1 := [some (.ref b), some (.int many), none]) (h1 := h.put b (.lst [.int g, .int M])) ?_ (x_rt ?_)))
    · simp only [exec, execs, tv, ev, evs, eo, ct, asg, asgs, itv, bind_ok', go_ok, noEx_ok', setM, callP, pick, negM, isNM, mc_bt, t_bl, b_add, b_sub, b_mod, b_fdiv, b_pow3, b_pow18, b_pow30, b_str, c_lt, c_gt, c_le, c_ge, c_eqi, c_nei, c_eqs, c_nes, c_eqb, c_neb, f_len, f_max, f_min, f_abs, List.getElem?_cons_zero, List.getElem?_cons_succ, List.set_cons_zero, List.set_cons_succ, List.length_cons, List.length_nil, if_true, if_false, decide_true, decide_false, Bool.not_true, Bool.not_false, Bool.false_eq_true, Bool.or_true, Bool.true_or, Bool.or_false, Bool.false_or, Bool.and_true, Bool.true_and, Bool.and_false, Bool.false_and, beq_self_eq_true, W.s3_0, r0 hb, hz]
    · simp only [exec, execs, tv, ev, evs, eo, ct, asg, asgs, itv, bind_ok', go_ok, noEx_ok', setM, callP, pick, negM, isNM, mc_bt, t_bl, b_add, b_sub, b_mod, b_fdiv, b_pow3, b_pow18, b_pow30, b_str, c_lt, c_gt, c_le, c_ge, c_eqi, c_nei, c_eqs, c_nes, c_eqb, c_neb, f_len, f_max, f_min, f_abs, List.getElem?_cons_zero, List.getElem?_cons_succ, List.set_cons_zero, List.set_cons_succ, List.length_cons, List.length_nil, if_true, if_false, decide_true, decide_false, Bool.not_true, Bool.not_false, Bool.false_eq_true, Bool.or_true, Bool.true_or, Bool.or_false, Bool.false_or, Bool.and_true, Bool.true_and, Bool.and_false, Bool.false_and, beq_self_eq_true, W.s3_1, r1 hb, b_mulr s2, hM, b_mod (show (0:Int) < 2147483647 from by omega), e3]
    · have hb2 := get_put (o := .lst [.int g, .int M]) hb
      simp only [exec, execs, tv, ev, evs, eo, ct, asg, asgs, itv, bind_ok', go_ok, noEx_ok', setM, callP, pick, negM, isNM, mc_bt, t_bl, b_add, b_sub, b_mod, b_fdiv, b_pow3, b_pow18, b_pow30, b_str, c_lt, c_gt, c_le, c_ge, c_eqi, c_nei, c_eqs, c_nes, c_eqb, c_neb, f_len, f_max, f_min, f_abs, List.getElem?_cons_zero, List.getElem?_cons_succ, List.set_cons_zero, List.set_cons_succ, List.length_cons, List.length_nil, if_true, if_false, decide_true, decide_false, Bool.not_true, Bool.not_false, Bool.false_eq_true, Bool.or_true, Bool.true_or, Bool.or_false, Bool.false_or, Bool.and_true, Bool.true_and, Bool.and_false, Bool.false_and, beq_self_eq_true, W.s3_2, r1 hb2, sm, h1, b_mod (show (0:Int) < 2147483629 from by omega), b_fdiv (show (0:Int) < 16 ∧ (16:Int) < 1073741824 from ⟨by omega, by omega⟩)]
theorem at_ints {ns : List Int} {i : Nat} (h : i < ns.length) : ∃ c, (ns.map MV.int)[i]? = some (.int c) := by
  refine ⟨ns[i], ?_⟩
  rw [List.getElem?_map, List.getElem?_eq_getElem h]
  rfl
def primes : List MV := [.int 2147483647, .int 2147483629, .int 2147483587, .int 2147483579, .int 2147483563, .int 2147483549, .int 2147483543, .int 2147483497]
theorem prime_at {i : Nat} (hi : i < 8) : ∃ p : Int, 0 < p ∧ primes[i]? = some (.int p) := by
  match i, hi with
  | 0, _ => exact ⟨_, by omega, rfl⟩
  | 1, _ => exact ⟨_, by omega, rfl⟩
  | 2, _ => exact ⟨_, by omega, rfl⟩
  | 3, _ => exact ⟨_, by omega, rfl⟩
  | 4, _ => exact ⟨_, by omega, rfl⟩
  | 5, _ => exact ⟨_, by omega, rfl⟩
  | 6, _ => exact ⟨_, by omega, rfl⟩
  | 7, _ => exact ⟨_, by omega, rfl⟩
theorem bag_cell {ns : List Int} {i : Nat} {h : MH} : ∃ c : Int, ∀ C, exec P C W.s2_1 [some (.kl (ns.map MV.int)), some (.int i), some (.int 0), none, none, none] h = .nx [some (.kl (ns.map MV.int)), some (.int i), some (.int c), none, none, none] h := by
  by_cases hl : i < ns.length
  · obtain ⟨c, hc⟩ := at_ints hl
    have hl' : (i : Int) < ns.length := by omega
    exact ⟨c, fun C => by simp only [exec, execs, tv, ev, evs, eo, ct, asg, asgs, itv, bind_ok', go_ok, noEx_ok', setM, callP, pick, negM, isNM, mc_bt, t_bl, b_add, b_sub, b_mod, b_fdiv, b_pow3, b_pow18, b_pow30, b_str, c_lt, c_gt, c_le, c_ge, c_eqi, c_nei, c_eqs, c_nes, c_eqb, c_neb, f_len, f_max, f_min, f_abs, List.getElem?_cons_zero, List.getElem?_cons_succ, List.set_cons_zero, List.set_cons_succ, List.length_cons, List.length_nil, if_true, if_false, decide_true, decide_false, Bool.not_true, Bool.not_false, Bool.false_eq_true, Bool.or_true, Bool.true_or, Bool.or_false, Bool.false_or, Bool.and_true, Bool.true_and, Bool.and_false, Bool.false_and, beq_self_eq_true, W.s2_1, List.length_map, hl', s_kl (at_nat hc)]⟩
  · have hl' : ¬ (i : Int) < ns.length := by omega
    exact ⟨0, fun C => by simp only [exec, execs, tv, ev, evs, eo, ct, asg, asgs, itv, bind_ok', go_ok, noEx_ok', setM, callP, pick, negM, isNM, mc_bt, t_bl, b_add, b_sub, b_mod, b_fdiv, b_pow3, b_pow18, b_pow30, b_str, c_lt, c_gt, c_le, c_ge, c_eqi, c_nei, c_eqs, c_nes, c_eqb, c_neb, f_len, f_max, f_min, f_abs, List.getElem?_cons_zero, List.getElem?_cons_succ, List.set_cons_zero, List.set_cons_succ, List.length_cons, List.length_nil, if_true, if_false, decide_true, decide_false, Bool.not_true, Bool.not_false, Bool.false_eq_true, Bool.or_true, Bool.true_or, Bool.or_false, Bool.false_or, Bool.and_true, Bool.true_and, Bool.and_false, Bool.false_and, beq_self_eq_true, W.s2_1, List.length_map, hl']⟩
theorem bag_great {a b : Option MV} {c : Int} {h : MH} : ∃ g : Int, 0 ≤ g ∧ ∀ C, exec P C W.s2_3 [a, b, some (.int c), some (.int 0), none, none] h = .nx [a, b, some (.int c), some (.int g), none, none] h := by
  have s10 : small 10 = true := small_lt (by omega) (by omega)
  have hcc : 0 ≤ (if c < 0 then -c else c) := by split <;> omega
  generalize hd : (if c < 0 then -c else c) = d at hcc
  by_cases hl : d < 10 ^ 18
  · exact ⟨0, by omega, fun C => by simp only [exec, execs, tv, ev, evs, eo, ct, asg, asgs, itv, bind_ok', go_ok, noEx_ok', setM, callP, pick, negM, isNM, mc_bt, t_bl, b_add, b_sub, b_mod, b_fdiv, b_pow3, b_pow18, b_pow30, b_str, c_lt, c_gt, c_le, c_ge, c_eqi, c_nei, c_eqs, c_nes, c_eqb, c_neb, f_len, f_max, f_min, f_abs, List.getElem?_cons_zero, List.getElem?_cons_succ, List.set_cons_zero, List.set_cons_succ, List.length_cons, List.length_nil, if_true, if_false, decide_true, decide_false, Bool.not_true, Bool.not_false, Bool.false_eq_true, Bool.or_true, Bool.true_or, Bool.or_false, Bool.false_or, Bool.and_true, Bool.true_and, Bool.and_false, Bool.false_and, beq_self_eq_true, W.s2_3, hl, s10, hd]⟩
  · exact ⟨d, hcc, fun C => by simp only [exec, execs, tv, ev, evs, eo, ct, asg, asgs, itv, bind_ok', go_ok, noEx_ok', setM, callP, pick, negM, isNM, mc_bt, t_bl, b_add, b_sub, b_mod, b_fdiv, b_pow3, b_pow18, b_pow30, b_str, c_lt, c_gt, c_le, c_ge, c_eqi, c_nei, c_eqs, c_nes, c_eqb, c_neb, f_len, f_max, f_min, f_abs, List.getElem?_cons_zero, List.getElem?_cons_succ, List.set_cons_zero, List.set_cons_succ, List.length_cons, List.length_nil, if_true, if_false, decide_true, decide_false, Bool.not_true, Bool.not_false, Bool.false_eq_true, Bool.or_true, Bool.true_or, Bool.or_false, Bool.false_or, Bool.and_true, Bool.true_and, Bool.and_false, Bool.false_and, beq_self_eq_true, W.s2_3, hl, s10, hd]⟩
theorem bag_primes {h : MH} {C} {σ : En} : exec P C W.s2_4 σ h = .nx (σ.set 4 (some (.ref h.size))) (h.push (.lst primes)) := by
  have e : newList h primes = .ok (.ref h.size) (h.push (.lst primes)) := n_list (by decide)
  unfold primes at e ⊢
  simp only [exec, execs, tv, ev, evs, eo, ct, asg, asgs, itv, bind_ok', go_ok, noEx_ok', setM, callP, pick, negM, isNM, mc_bt, t_bl, b_add, b_sub, b_mod, b_fdiv, b_pow3, b_pow18, b_pow30, b_str, c_lt, c_gt, c_le, c_ge, c_eqi, c_nei, c_eqs, c_nes, c_eqb, c_neb, f_len, f_max, f_min, f_abs, List.getElem?_cons_zero, List.getElem?_cons_succ, List.set_cons_zero, List.set_cons_succ, List.length_cons, List.length_nil, if_true, if_false, decide_true, decide_false, Bool.not_true, Bool.not_false, Bool.false_eq_true, Bool.or_true, Bool.true_or, Bool.or_false, Bool.false_or, Bool.and_true, Bool.true_and, Bool.and_false, Bool.false_and, beq_self_eq_true, W.s2_4, e]
theorem bag_mixed {s : Option MV} {i c : Int} {g q : Option MV} {h : MH} {C} (a1 : small (c % 2147483647) = true) (a3 : small i = true) :
    exec P C W.s2_5 [s, some (.int i), some (.int c), g, q, none] h = .nx [s, some (.int i), some (.int c), g, q, some (.int (c % 2147483647 * 50021 + 70001 * i * i + 9001 * i + 7717))] h := by
  simp only [exec, execs, tv, ev, evs, eo, ct, asg, asgs, itv, bind_ok', go_ok, noEx_ok', setM, callP, pick, negM, isNM, mc_bt, t_bl, b_add, b_sub, b_mod, b_fdiv, b_pow3, b_pow18, b_pow30, b_str, c_lt, c_gt, c_le, c_ge, c_eqi, c_nei, c_eqs, c_nes, c_eqb, c_neb, f_len, f_max, f_min, f_abs, List.getElem?_cons_zero, List.getElem?_cons_succ, List.set_cons_zero, List.set_cons_succ, List.length_cons, List.length_nil, if_true, if_false, decide_true, decide_false, Bool.not_true, Bool.not_false, Bool.false_eq_true, Bool.or_true, Bool.true_or, Bool.or_false, Bool.false_or, Bool.and_true, Bool.true_and, Bool.and_false, Bool.false_and, beq_self_eq_true, W.s2_5, b_mod (show (0:Int) < 2147483647 from by omega), b_mull a1, b_mulr a3]
theorem bag_last {s c : Option MV} {i M p : Int} {j : Nat} {g : Int} {h : MH} {C} (hi : i % 8 = j) (p0 : 0 < p) (pe : primes[j]? = some (.int p)) :
    exec P C W.s2_6 [s, some (.int i), c, some (.int g), some (.ref h.size), some (.int M)] (h.push (.lst primes)) = .rt (.ref (h.size + 1)) ((h.push (.lst primes)).push (.lst [.int g, .int (M % p)])) := by
  have e1 := s_ref (i := (j : Int)) get_push_size (at_nat pe) (h := h.push (.lst primes))
  have e2 : newList (h.push (.lst primes)) [.int g, .int (M % p)] = .ok (.ref (h.push (.lst primes)).size) ((h.push (.lst primes)).push (.lst [.int g, .int (M % p)])) := n_list (by simp [LIM])
  rw [size_push] at e2
  simp only [exec, execs, tv, ev, evs, eo, ct, asg, asgs, itv, bind_ok', go_ok, noEx_ok', setM, callP, pick, negM, isNM, mc_bt, t_bl, b_add, b_sub, b_mod, b_fdiv, b_pow3, b_pow18, b_pow30, b_str, c_lt, c_gt, c_le, c_ge, c_eqi, c_nei, c_eqs, c_nes, c_eqb, c_neb, f_len, f_max, f_min, f_abs, List.getElem?_cons_zero, List.getElem?_cons_succ, List.set_cons_zero, List.set_cons_succ, List.length_cons, List.length_nil, if_true, if_false, decide_true, decide_false, Bool.not_true, Bool.not_false, Bool.false_eq_true, Bool.or_true, Bool.true_or, Bool.or_false, Bool.false_or, Bool.and_true, Bool.true_and, Bool.and_false, Bool.false_and, beq_self_eq_true, W.s2_6, b_mod (show (0:Int) < 8 from by omega), hi, e1, b_mod p0, e2]
theorem small_c {c : Int} : small (c % 2147483647) = true := by
  have m1 := Int.emod_nonneg c (b := 2147483647) (by omega)
  have m2 := Int.emod_lt_of_pos c (b := 2147483647) (by omega)
  exact small_lt m1 m2
theorem bag_ok {k : Nat} {h : MH} {ns : List Int} {i : Nat} (hi : i < 8) : ∃ g m : Int, 0 ≤ g ∧ 0 ≤ m ∧ callM P (k + 1) 2 [.kl (ns.map MV.int), .int i] h = .ok (.ref (h.size + 1)) ((h.push (.lst primes)).push (.lst [.int g, .int m])) := by
  obtain ⟨p, p0, pe⟩ := prime_at hi
  obtain ⟨c, hc⟩ := bag_cell (P := P) (ns := ns) (i := i) (h := h)
  obtain ⟨g, g0, hg⟩ := bag_great (P := P) (a := some (.kl (ns.map MV.int))) (b := some (.int i)) (c := c) (h := h)
  have p8 : ((i : Int) % 8) = (i : Int) := by omega
  have a3 : small (i : Int) = true := small_lt (by omega) (by omega)
  have e5 := fun C => bag_mixed (P := P) (s := some (.kl (ns.map MV.int))) (i := i) (c := c) (g := some (.int g)) (q := some (.ref h.size)) (h := h.push (.lst primes)) (C := C) small_c a3
  generalize (c % 2147483647 * 50021 + 70001 * i * i + 9001 * i + 7717) = M at e5
  refine ⟨g, M % p, g0, Int.emod_nonneg _ (by omega), ?_⟩
  rw [c_fn]
  refine f_rt [some (.kl (ns.map MV.int)), some (.int i), none, none, none, none] rfl rfl (x_nx (r := .cons W.s2_1 (.cons W.s2_2 (.cons W.s2_3 (.cons W.s2_4 (.cons W.s2_5 (.cons W.s2_6 .nil)))))) (σ1 := [some (.kl (ns.map MV.int)), some (.int i), some (.int 0), none, none, none]) (h1 := h) ?_ (x_nx (hc _) (x_nx (σ1 := [some (.kl (ns.map MV.int)), some (.int i), some (.int c), some (.int 0), none, none]) (h1 := h) ?_ (x_nx (hg _) (x_nx (bag_primes (P := P))
    (x_nx (e5 _) (x_rt (bag_last (P := P) p8 p0 pe))))))))
  · simp only [exec, execs, tv, ev, evs, eo, ct, asg, asgs, itv, bind_ok', go_ok, noEx_ok', setM, callP, pick, negM, isNM, mc_bt, t_bl, b_add, b_sub, b_mod, b_fdiv, b_pow3, b_pow18, b_pow30, b_str, c_lt, c_gt, c_le, c_ge, c_eqi, c_nei, c_eqs, c_nes, c_eqb, c_neb, f_len, f_max, f_min, f_abs, List.getElem?_cons_zero, List.getElem?_cons_succ, List.set_cons_zero, List.set_cons_succ, List.length_cons, List.length_nil, if_true, if_false, decide_true, decide_false, Bool.not_true, Bool.not_false, Bool.false_eq_true, Bool.or_true, Bool.true_or, Bool.or_false, Bool.false_or, Bool.and_true, Bool.true_and, Bool.and_false, Bool.false_and, beq_self_eq_true, W.s2_0]
  · simp only [exec, execs, tv, ev, evs, eo, ct, asg, asgs, itv, bind_ok', go_ok, noEx_ok', setM, callP, pick, negM, isNM, mc_bt, t_bl, b_add, b_sub, b_mod, b_fdiv, b_pow3, b_pow18, b_pow30, b_str, c_lt, c_gt, c_le, c_ge, c_eqi, c_nei, c_eqs, c_nes, c_eqb, c_neb, f_len, f_max, f_min, f_abs, List.getElem?_cons_zero, List.getElem?_cons_succ, List.set_cons_zero, List.set_cons_succ, List.length_cons, List.length_nil, if_true, if_false, decide_true, decide_false, Bool.not_true, Bool.not_false, Bool.false_eq_true, Bool.or_true, Bool.true_or, Bool.or_false, Bool.false_or, Bool.and_true, Bool.true_and, Bool.and_false, Bool.false_and, beq_self_eq_true, W.s2_2]

def Bag (h : MH) (b : Nat) : Prop := ∃ g m : Int, h.get b = some (.lst [.int g, .int m]) ∧ 0 ≤ g ∧ 0 ≤ m
theorem Bag.take {k b : Nat} {h : MH} (w : Bag h b) (many : Int) (h1 : 0 < many) (h2 : many < 1073741824) : ∃ d h', 0 ≤ d ∧ d < many ∧ callM P (k + 1) 3 [.ref b, .int many] h = .ok (.int d) h' ∧ Bag h' b ∧ h'.size = h.size ∧ ∀ n, n ≠ b → h'.get n = h.get n := by
  obtain ⟨g, m, hb, hg, hm⟩ := w
  obtain ⟨d, g', m', d0, d1, g0, m0, e⟩ := take_ok (P := P) (k := k) hb hg hm h1 h2
  exact ⟨d, _, d0, d1, e, ⟨g', m', get_put hb, g0, m0⟩, size_put, fun n hn => get_put_ne hn⟩
theorem Bag.push {b : Nat} {h : MH} {o : MO} (w : Bag h b) : Bag (h.push o) b := by
  obtain ⟨g, m, hb, z⟩ := w
  exact ⟨g, m, get_push hb, z⟩
theorem Bag.lt {b : Nat} {h : MH} (w : Bag h b) : b < h.size := by
  obtain ⟨g, m, hb, z⟩ := w
  exact get_lt hb
theorem Bag.put {b n : Nat} {h : MH} {o : MO} (w : Bag h b) (hn : b ≠ n) : Bag (h.put n o) b := by
  obtain ⟨g, m, hb, z⟩ := w
  exact ⟨g, m, by rw [get_put_ne hn]; exact hb, z⟩
theorem pick3 {l : List MV} {d : Int} {n : Nat} {Q : Int → Prop} (hn : l.length = n) (hq : ∀ v ∈ l, ∃ m, v = .int m ∧ Q m) (h0 : 0 ≤ d) (h1 : d < n) : ∃ m, atL l d = some (.int m) ∧ Q m := by
  have hi : d.toNat < l.length := by omega
  obtain ⟨m, e, q⟩ := hq _ (List.getElem_mem hi)
  exact ⟨m, at_i h0 (by rw [List.getElem?_eq_getElem hi, e]), q⟩
theorem rng_len {a b : Int} : (rngL a b).length = (b - a).toNat := by
  unfold rngL
  rw [List.length_map, List.length_range]

theorem Bag.tk {k b : Nat} {h : MH} (w : Bag h b) (many : Int) (h1 : 0 < many) (h2 : many < 1073741824) : ∃ d h', 0 ≤ d ∧ d < many ∧ callM P (k + 1) 3 [.ref b, .int many] h = .ok (.int d) h' ∧ Bag h' b ∧ Gb b h h' ∧ h'.size = h.size := by
  obtain ⟨d, h', d0, d1, e, w', s, f⟩ := w.take (P := P) (k := k) many h1 h2
  exact ⟨d, h', d0, d1, e, w', Gb.of s f, s⟩
theorem bag_new {k : Nat} {h : MH} {ns : List Int} {i : Nat} (hi : i < 8) : ∃ b h', callM P (k + 1) 2 [.kl (ns.map MV.int), .int i] h = .ok (.ref b) h' ∧ Bag h' b ∧ Grow h h' ∧ h.size ≤ b := by
  obtain ⟨g, m, g0, m0, e⟩ := bag_ok (P := P) (k := k) (h := h) (ns := ns) hi
  refine ⟨h.size + 1, _, e, ⟨g, m, ?_, g0, m0⟩, Grow.one.push, Nat.le_succ _⟩
  rw [← size_push (h := h) (o := .lst primes)]
  exact get_push_size
/-- the law's turns, one for each cell -/
theorem cells {C : Nat → List MV → MH → R MV} {ns : List Int} {n j : Nat} {b : Ss} {m : Int} (hm : 1 ≤ m) (hm8 : m ≤ 8) (hj : j = 1) (σ0 : En) (h0 : MH) (hσ : σ0[0]? = some (some (.kl (ns.map MV.int))))
    (step : ∀ (i : Nat) (σ : En) (h : MH), i < 8 → σ.length = n → σ[0]? = some (some (.kl (ns.map MV.int))) → ∃ σ' h', execs P C b (σ.set j (some (.int i))) h = .nx σ' h' ∧ σ'.length = n ∧ σ'[0]? = some (some (.kl (ns.map MV.int)))) (hn : σ0.length = n) :
    ∃ σ' h', exec P C (.for_ (.nm j) (.rng (.bif .max (.cons (.int 1) (.cons (.bif .min (.cons (.int m) (.cons (.bif .len (.cons (.var 0) .nil)) .nil))) .nil)))) b) σ0 h0 = .nx σ' h' := by
  subst hj
  generalize hq : (if (if (ns.length : Int) < m then (ns.length : Int) else m) > 1 then (if (ns.length : Int) < m then (ns.length : Int) else m) else 1) = q
  have q1 : 1 ≤ q ∧ q ≤ 8 := by
    rw [← hq]
    split <;> split at * <;> omega
  obtain ⟨σ', h', e, _⟩ := for_items (P := P) (C := C) (j := 1) (b := b) (fun _ σ h => σ.length = n ∧ σ[0]? = some (some (.kl (ns.map MV.int)))) (l := rngL 0 q)
    (σ := σ0) (h := h0) (it_rng (b := (.bif .max (.cons (.int 1) (.cons (.bif .min (.cons (.int m) (.cons (.bif .len (.cons (.var 0) .nil)) .nil))) .nil)))) (n := q) (h1 := h0) (by simp only [exec, execs, tv, ev, evs, eo, ct, asg, asgs, itv, bind_ok', go_ok, noEx_ok', setM, callP, pick, negM, isNM, mc_bt, t_bl, b_add, b_sub, b_mod, b_fdiv, b_pow3, b_pow18, b_pow30, b_str, c_lt, c_gt, c_le, c_ge, c_eqi, c_nei, c_eqs, c_nes, c_eqb, c_neb, f_len, f_max, f_min, f_abs, List.getElem?_cons_zero, List.getElem?_cons_succ, List.set_cons_zero, List.set_cons_succ, List.length_cons, List.length_nil, if_true, if_false, decide_true, decide_false, Bool.not_true, Bool.not_false, Bool.false_eq_true, Bool.or_true, Bool.true_or, Bool.or_false, Bool.false_or, Bool.and_true, Bool.true_and, Bool.and_false, Bool.false_and, beq_self_eq_true, hσ, List.length_map, hq]) (by omega) (by omega)) ⟨hn, hσ⟩ (by
      rintro i v σ h ev ⟨p1, p2⟩
      obtain ⟨rfl, hi⟩ := rng_get ev
      rw [Int.zero_add]
      obtain ⟨σ', h', e, p⟩ := step i σ h (by omega) p1 p2
      exact ⟨σ', h', e, p⟩)
  exact ⟨σ', h', e⟩
end
end WB
set_option linter.all false
set_option maxRecDepth 100000
set_option maxHeartbeats 4000000
namespace DM
theorem bind_ex {α β : Type} {c : Nat} {l : List MV} {h : MH} {k : α → MH → R β} : (R.ex c l h).bind k = .ex c l h := rfl
theorem go_ex {α : Type} {c : Nat} {l : List MV} {h : MH} {σ : En} {k : α → MH → RS} : (R.ex c l h : R α).go σ k = .ex c l σ h := rfl
section
variable {P : Prog} {C : Nat → List MV → MH → R MV} {σ : En} {h h1 : MH}
theorem x_ex {s : St} {r : Ss} {c : Nat} {l : List MV} {σ1 : En} (e : exec P C s σ h = .ex c l σ1 h1) : execs P C (.cons s r) σ h = .ex c l σ1 h1 := by
  unfold execs
  rw [e]
theorem f_ex {d : FnD} {vs : List MV} {c : Nat} {l : List MV} {σ1 : En} (σ0 : En) (hl : vs.length = d.np) (hσ : vs.map some ++ List.replicate (d.ns - d.np) none = σ0) (e : execs P C d.body σ0 h = .ex c l σ1 h1) : runFn P C d vs h = .ex c l h1 := by
  unfold runFn
  rw [if_pos hl, hσ, e]
theorem x_bk {s : St} {r : Ss} {σ1 : En} (e : exec P C s σ h = .bk σ1 h1) : execs P C (.cons s r) σ h = .bk σ1 h1 := by
  unfold execs
  rw [e]
theorem loop_bk {body : MV → En → MH → RS} {l : List MV} (Pv : Nat → En → MH → Prop) (Q : En → MH → Prop) (step : ∀ i v σ h, l[i]? = some v → Pv i σ h → (∃ σ' h', body v σ h = .nx σ' h' ∧ Pv (i + 1) σ' h') ∨ ∃ σ' h', body v σ h = .bk σ' h' ∧ Q σ' h')
    (fin : ∀ σ h, Pv l.length σ h → Q σ h) :
    ∀ (n i : Nat) (σ : En) (h : MH), i + n = l.length → Pv i σ h → ∃ σ' h', loop body (.items l) n i σ h = .nx σ' h' ∧ Q σ' h'
  | 0, i, σ, h, e, p => by
    have e0 : l[i]? = none := List.getElem?_eq_none (by omega)
    refine ⟨σ, h, ?_, fin σ h (by rw [← e]; exact p)⟩
    unfold loop It.at
    simp only [e0]
  | n + 1, i, σ, h, e, p => by
    have hi : i < l.length := by omega
    have e0 : l[i]? = some l[i] := List.getElem?_eq_getElem hi
    unfold loop It.at
    simp only [e0]
    rcases step i _ σ h e0 p with ⟨σ1, h1, e1, p1⟩ | ⟨σ1, h1, e1, p1⟩
    · simp only [e1]
      exact loop_bk Pv Q step fin n (i + 1) σ1 h1 (by omega) p1
    · simp only [e1]
      exact ⟨σ1, h1, rfl, p1⟩
theorem for_bk {j : Nat} {it : Itx} {b : Ss} {l : List MV} (Pv : Nat → En → MH → Prop) (Q : En → MH → Prop) (e : itv P C it σ h = .ok (.items l) h1) (h0 : Pv 0 σ h1)
    (step : ∀ i v σ h, l[i]? = some v → Pv i σ h → (∃ σ' h', execs P C b (σ.set j (some v)) h = .nx σ' h' ∧ Pv (i + 1) σ' h') ∨ ∃ σ' h', execs P C b (σ.set j (some v)) h = .bk σ' h' ∧ Q σ' h') (fin : ∀ σ h, Pv l.length σ h → Q σ h) :
    ∃ σ' h', exec P C (.for_ (.nm j) it b) σ h = .nx σ' h' ∧ Q σ' h' := by
  obtain ⟨σ', h', e1, q⟩ := loop_bk (body := fun v σ2 h2 => (asg P C (.nm j) v σ2 h2).go σ2 fun σ3 h3 => execs P C b σ3 h3) Pv Q (by
    intro i v σ h ee p
    exact step i v σ h ee p) fin l.length 0 σ h1 (by omega) h0
  refine ⟨σ', h', ?_, q⟩
  unfold exec
  rw [e]
  exact e1
end
end DM
namespace WN
open DM WB
/-! names -/
def LET : Tx := [97, 98, 99, 100, 101, 102, 103, 104, 105, 106, 107, 108, 109, 110, 111, 112, 113, 114, 115, 116, 117, 118, 119, 120, 121, 122]
def FIG : List Tx := [[50], [51], [52], [53], [54], [55], [56], [57]]
def low (c : Nat) : Bool := decide (c ∈ LET)
def fig (s : Tx) : Bool := FIG.any fun z => z == s
def core (s : Tx) : Tx := if fig (cut s (some (-1)) none) then cut s none (some (-1)) else s
def nm (s : Tx) : Bool := (decide (1 ≤ (core s).length) && decide ((core s).length ≤ 8)) && (core s).all low
theorem core_len {s : Tx} : (core s).length ≤ s.length := by
  unfold core
  split
  · unfold cut
    rw [List.length_take, List.length_drop]
    omega
  · exact Nat.le_refl _
theorem in_fig {x : Tx} {h : MH} : cmpM .isin (.str x) (.kl (FIG.map MV.str)) h = .ok (.bl (fig x)) h := in_kls
theorem le_dec {a b : Int} : (!decide (b < a)) = decide (a ≤ b) := by
  rw [Bool.eq_iff_iff]
  simp
theorem core_snoc {l : Tx} {c : Nat} : core (l ++ [c]) = if fig [c] then l else l ++ [c] := by
  unfold core
  rw [cut_last, cut_init]
theorem nm_nil : nm [] = false := by
  have e : core [] = [] := by
    unfold core
    rw [cut_nil, cut_nil]
    split <;> rfl
  unfold nm
  rw [e]
  rfl
theorem fig_low : ∀ c ∈ LET, fig [c] = false := by decide
theorem all_low {t : Tx} (ht : ∀ c ∈ t, c ∈ LET) : t.all low = true := List.all_eq_true.mpr fun c hc => decide_eq_true (ht c hc)
theorem nm_of {t f : Tx} (h1 : 1 ≤ t.length) (h2 : t.length ≤ 8) (ht : ∀ c ∈ t, c ∈ LET) (hf : f = [] ∨ ∃ d, f = [d] ∧ fig [d] = true) : nm (t ++ f) = true := by
  have ec : core (t ++ f) = t := by
    rcases hf with rfl | ⟨d, rfl, hd⟩
    · rw [List.append_nil]
      rcases List.eq_nil_or_concat t with rfl | ⟨l, c, rfl⟩
      · cases h1
      · rw [List.concat_eq_append] at ht ⊢
        rw [core_snoc, fig_low c (ht c (by simp))]
        rfl
    · rw [core_snoc, hd]
      rfl
  unfold nm
  rw [ec, all_low ht, decide_eq_true h1, decide_eq_true h2]
  rfl
/-- a name is letters, and a figure perhaps -/
theorem nm_form {s : Tx} (h : nm s = true) : ∃ t f, s = t ++ f ∧ 1 ≤ t.length ∧ t.length ≤ 8 ∧ (∀ c ∈ t, c ∈ LET) ∧ (f = [] ∨ ∃ d, f = [d] ∧ fig [d] = true) := by
  unfold nm at h
  rw [Bool.and_eq_true, Bool.and_eq_true, decide_eq_true_eq, decide_eq_true_eq, List.all_eq_true] at h
  obtain ⟨⟨h1, h2⟩, h3⟩ := h
  have h3 : ∀ c ∈ core s, c ∈ LET := fun c hc => of_decide_eq_true (h3 c hc)
  rcases List.eq_nil_or_concat s with rfl | ⟨l, c, rfl⟩
  · exfalso
    have e : core [] = [] := by
      unfold core
      rw [cut_nil, cut_nil]
      split <;> rfl
    rw [e] at h1
    cases h1
  · rw [List.concat_eq_append] at h1 h2 h3 ⊢
    rw [core_snoc] at h1 h2 h3
    cases hf : fig [c] with
    | true =>
      rw [hf] at h1 h2 h3
      exact ⟨l, [c], rfl, h1, h2, h3, .inr ⟨c, rfl, hf⟩⟩
    | false =>
      rw [hf] at h1 h2 h3
      exact ⟨l ++ [c], [], (List.append_nil _).symm, h1, h2, h3, .inl rfl⟩
section
variable {P : Prog} [W.Fn P 1 W.F1] [W.Gl P 1 (.kl [.str [50], .str [51], .str [52], .str [53], .str [54], .str [55], .str [56], .str [57]])]
  [W.Gl P 2 (.str [97, 98, 99, 100, 101, 102, 103, 104, 105, 106, 107, 108, 109, 110, 111, 112, 113, 114, 115, 116, 117, 118, 119, 120, 121, 122])] [W.Gl P 3 (.int 8)]
theorem g1 : P.glob 1 = .kl (FIG.map MV.str) := W.Gl.e (v := .kl [.str [50], .str [51], .str [52], .str [53], .str [54], .str [55], .str [56], .str [57]])
theorem g2 : P.glob 2 = .str LET := W.Gl.e (v := .str [97, 98, 99, 100, 101, 102, 103, 104, 105, 106, 107, 108, 109, 110, 111, 112, 113, 114, 115, 116, 117, 118, 119, 120, 121, 122])
theorem g3 : P.glob 3 = .int 8 := W.Gl.e
theorem isi_s {s : Tx} {h : MH} : bR (isiM P (.str s) .str h) h = .ok (.bl true) h := rfl
theorem name_ch {k : Nat} {a c : Option MV} {t : Tx} {h : MH} (ht : t.length ≤ LIM) : ev P (callM P k) (.ch .le .le (.int 1) (.bif .len (.cons (.var 1) .nil)) (.gl 3)) [a, some (.str t), c] h = .ok (.bl (decide (1 ≤ t.length) && decide (t.length ≤ 8))) h := by
  have e1 : decide ((1:Int) ≤ t.length) = decide (1 ≤ t.length) := by rw [decide_eq_decide]; omega
  have e2 : decide ((t.length : Int) ≤ 8) = decide (t.length ≤ 8) := by rw [decide_eq_decide]; omega
  have e3 : P.glob 3 = .int 8 := g3
  cases b1 : decide (1 ≤ t.length) <;> simp only [exec, execs, tv, ev, evs, eo, ct, asg, asgs, itv, bind_ok', go_ok, noEx_ok', setM, callP, pick, negM, isNM, mc_bt, t_bl, b_add, b_sub, b_mod, b_fdiv, b_pow3, b_pow18, b_pow30, b_str, c_lt, c_gt, c_le, c_ge, c_eqi, c_nei, c_eqs, c_nes, c_eqb, c_neb, f_len, f_max, f_min, f_abs, List.getElem?_cons_zero, List.getElem?_cons_succ, List.set_cons_zero, List.set_cons_succ, List.length_cons, List.length_nil, if_true, if_false, decide_true, decide_false, Bool.not_true, Bool.not_false, Bool.false_eq_true, Bool.or_true, Bool.true_or, Bool.or_false, Bool.false_or, Bool.and_true, Bool.true_and, Bool.and_false, Bool.false_and, beq_self_eq_true, chM, f_lens ht, e3, le_dec, e1, e2, b1]
theorem name_all {k : Nat} {a c : Option MV} {t : Tx} {h : MH} (ht : t.length ≤ LIM) : ∃ h', ev P (callM P k) (.bif .all (.cons (.lc (.cmp .isin (.var 2) (.gl 2)) [2] (.nm 2) (.ex (.var 1)) .no) .nil)) [a, some (.str t), c] h = .ok (.bl (t.all low)) h' ∧ Grow h h' := by
  have ei : itv P (callM P k) (.ex (.var 1)) [a, some (.str t), c] h = .ok (.items (t.map fun c => .str [c])) h := it_str rfl
  have e3 : P.glob 2 = .str LET := g2
  obtain ⟨h', e, gr⟩ := lc_map (elt := .cmp .isin (.var 2) (.gl 2)) (own := [2]) (j := 2) (F := fun v => match v with
    | .str [c] => .bl (low c)
    | _ => .non) ei (by rw [List.length_map]; exact ht) (fun h' => Grow h h') .refl (by
      intro v h1 hv gr
      obtain ⟨c, _, rfl⟩ := List.mem_map.mp hv
      refine ⟨h1, ?_, gr⟩
      simp only [exec, execs, tv, ev, evs, eo, ct, asg, asgs, itv, bind_ok', go_ok, noEx_ok', setM, callP, pick, negM, isNM, mc_bt, t_bl, b_add, b_sub, b_mod, b_fdiv, b_pow3, b_pow18, b_pow30, b_str, c_lt, c_gt, c_le, c_ge, c_eqi, c_nei, c_eqs, c_nes, c_eqb, c_neb, f_len, f_max, f_min, f_abs, List.getElem?_cons_zero, List.getElem?_cons_succ, List.set_cons_zero, List.set_cons_succ, List.length_cons, List.length_nil, if_true, if_false, decide_true, decide_false, Bool.not_true, Bool.not_false, Bool.false_eq_true, Bool.or_true, Bool.true_or, Bool.or_false, Bool.false_or, Bool.and_true, Bool.true_and, Bool.and_false, Bool.false_and, beq_self_eq_true, wipe, e3, in_str]
      rfl)
  rw [List.map_map] at e
  refine ⟨h'.push (.lst (t.map fun c => .bl (low c))), ?_, gr.push⟩
  have e2 := f_all (P := P) (h := h'.push (.lst (t.map fun c => MV.bl (low c)))) (r := h'.size) get_push_size (allT_map low t)
  simp only [ev, evs] at e ⊢
  rw [e]
  simp only [bind_ok']
  exact e2
theorem name_ok {k : Nat} {h : MH} {s : Tx} (hs : s.length ≤ LIM) : ∃ h', callM P (k + 1) 1 [.str s] h = .ok (.bl (nm s)) h' ∧ Grow h h' := by
  have hc : (core s).length ≤ LIM := Nat.le_trans core_len hs
  have e1 : exec P (callM P k) W.s1_0 [some (.str s), none, none] h = .nx [some (.str s), none, none] h := by
    simp only [exec, execs, tv, ev, evs, eo, ct, asg, asgs, itv, bind_ok', go_ok, noEx_ok', setM, callP, pick, negM, isNM, mc_bt, t_bl, b_add, b_sub, b_mod, b_fdiv, b_pow3, b_pow18, b_pow30, b_str, c_lt, c_gt, c_le, c_ge, c_eqi, c_nei, c_eqs, c_nes, c_eqb, c_neb, f_len, f_max, f_min, f_abs, List.getElem?_cons_zero, List.getElem?_cons_succ, List.set_cons_zero, List.set_cons_succ, List.length_cons, List.length_nil, if_true, if_false, decide_true, decide_false, Bool.not_true, Bool.not_false, Bool.false_eq_true, Bool.or_true, Bool.true_or, Bool.or_false, Bool.false_or, Bool.and_true, Bool.true_and, Bool.and_false, Bool.false_and, beq_self_eq_true, W.s1_0, isi_s]
  have eg : P.glob 1 = .kl (FIG.map MV.str) := g1
  have e2 : exec P (callM P k) W.s1_1 [some (.str s), none, none] h = .nx [some (.str s), some (.str (core s)), none] h := by
    unfold core
    cases hf : fig (cut s (some (-1)) none) <;> simp only [exec, execs, tv, ev, evs, eo, ct, asg, asgs, itv, bind_ok', go_ok, noEx_ok', setM, callP, pick, negM, isNM, mc_bt, t_bl, b_add, b_sub, b_mod, b_fdiv, b_pow3, b_pow18, b_pow30, b_str, c_lt, c_gt, c_le, c_ge, c_eqi, c_nei, c_eqs, c_nes, c_eqb, c_neb, f_len, f_max, f_min, f_abs, List.getElem?_cons_zero, List.getElem?_cons_succ, List.set_cons_zero, List.set_cons_succ, List.length_cons, List.length_nil, if_true, if_false, decide_true, decide_false, Bool.not_true, Bool.not_false, Bool.false_eq_true, Bool.or_true, Bool.true_or, Bool.or_false, Bool.false_or, Bool.and_true, Bool.true_and, Bool.and_false, Bool.false_and, beq_self_eq_true, W.s1_1, n_neg, o_m1, sl_txt, eg, in_fig, hf]
  obtain ⟨h', e3, gr⟩ := name_all (P := P) (k := k) (a := some (.str s)) (c := none) (h := h) hc
  have e4 := name_ch (P := P) (k := k) (a := some (.str s)) (c := none) (h := h) hc
  rw [c_fn]
  cases hb : (decide (1 ≤ (core s).length) && decide ((core s).length ≤ 8)) with
  | false =>
    refine ⟨h, f_rt [some (.str s), none, none] rfl rfl (x_nx (r := .cons W.s1_1 (.cons W.s1_2 .nil)) e1 (x_nx e2 (x_rt ?_))), .refl⟩
    unfold nm
    rw [hb] at e4 ⊢
    unfold W.s1_2 exec
    rw [ev, e4]
    rfl
  | true =>
    refine ⟨h', f_rt [some (.str s), none, none] rfl rfl (x_nx (r := .cons W.s1_1 (.cons W.s1_2 .nil)) e1 (x_nx e2 (x_rt ?_))), gr⟩
    unfold nm
    rw [hb] at e4 ⊢
    unfold W.s1_2 exec
    rw [ev, e4]
    simp only [bind_ok', t_bl, if_true, Bool.true_and]
    rw [e3]
    rfl
/-- what is no text -/
def Odd (h : MH) (v : MV) : Prop := ∃ a, tyM h v = some a ∧ subT a .str = some false ∧ ∀ P, Tt.ok P a = true
theorem Odd.isi {h : MH} {v : MV} (o : Odd h v) : bR (isiM P v .str h) h = .ok (.bl false) h := by
  obtain ⟨a, e1, e2, e3⟩ := o
  unfold isiM
  simp only [e1, e2, e3 P, Ty.ok, Bool.and_true, if_true, bR]
theorem Odd.name {k : Nat} {h : MH} {v : MV} (o : Odd h v) : callM P (k + 1) 1 [v] h = .ok (.bl false) h := by
  rw [c_fn]
  refine f_rt [some v, none, none] rfl rfl (x_rt (r := .cons W.s1_1 (.cons W.s1_2 .nil)) ?_)
  simp only [exec, execs, tv, ev, evs, eo, ct, asg, asgs, itv, bind_ok', go_ok, noEx_ok', setM, callP, pick, negM, isNM, mc_bt, t_bl, b_add, b_sub, b_mod, b_fdiv, b_pow3, b_pow18, b_pow30, b_str, c_lt, c_gt, c_le, c_ge, c_eqi, c_nei, c_eqs, c_nes, c_eqb, c_neb, f_len, f_max, f_min, f_abs, List.getElem?_cons_zero, List.getElem?_cons_succ, List.set_cons_zero, List.set_cons_succ, List.length_cons, List.length_nil, if_true, if_false, decide_true, decide_false, Bool.not_true, Bool.not_false, Bool.false_eq_true, Bool.or_true, Bool.true_or, Bool.or_false, Bool.false_or, Bool.and_true, Bool.true_and, Bool.and_false, Bool.false_and, beq_self_eq_true, W.s1_0, o.isi]
section
variable [W.Fn P 8 W.F8]
/-- look_name -/
theorem look_ok {k : Nat} {h : MH} {s : Tx} (hs : s.length ≤ LIM) (hn : nm s = true) : ∃ h', callM P (k + 2) 8 [.str s] h = .ok .non h' ∧ Grow h h' := by
  obtain ⟨h', e, gr⟩ := name_ok (P := P) (k := k) (h := h) hs
  rw [hn] at e
  refine ⟨h', ?_, gr⟩
  rw [c_fn]
  refine f_rtn (σ1 := [some (.str s)]) [some (.str s)] rfl rfl (x_end ?_)
  simp only [exec, execs, tv, ev, evs, eo, ct, asg, asgs, itv, bind_ok', go_ok, noEx_ok', setM, callP, pick, negM, isNM, mc_bt, t_bl, b_add, b_sub, b_mod, b_fdiv, b_pow3, b_pow18, b_pow30, b_str, c_lt, c_gt, c_le, c_ge, c_eqi, c_nei, c_eqs, c_nes, c_eqb, c_neb, f_len, f_max, f_min, f_abs, List.getElem?_cons_zero, List.getElem?_cons_succ, List.set_cons_zero, List.set_cons_succ, List.length_cons, List.length_nil, if_true, if_false, decide_true, decide_false, Bool.not_true, Bool.not_false, Bool.false_eq_true, Bool.or_true, Bool.true_or, Bool.or_false, Bool.false_or, Bool.and_true, Bool.true_and, Bool.and_false, Bool.false_and, beq_self_eq_true, W.s8_0, e]
theorem look_no {k : Nat} {h h' : MH} {v : MV} (x1 : P.xat 1 = 0) (e : callM P (k + 1) 1 [v] h = .ok (.bl false) h') : callM P (k + 2) 8 [v] h = .ex 1 [] h' := by
  rw [c_fn]
  refine f_ex (σ1 := [some v]) [some v] rfl rfl (x_ex ?_)
  simp only [exec, execs, tv, ev, evs, eo, ct, asg, asgs, itv, bind_ok', go_ok, noEx_ok', setM, callP, pick, negM, isNM, mc_bt, t_bl, b_add, b_sub, b_mod, b_fdiv, b_pow3, b_pow18, b_pow30, b_str, c_lt, c_gt, c_le, c_ge, c_eqi, c_nei, c_eqs, c_nes, c_eqb, c_neb, f_len, f_max, f_min, f_abs, List.getElem?_cons_zero, List.getElem?_cons_succ, List.set_cons_zero, List.set_cons_succ, List.length_cons, List.length_nil, if_true, if_false, decide_true, decide_false, Bool.not_true, Bool.not_false, Bool.false_eq_true, Bool.or_true, Bool.true_or, Bool.or_false, Bool.false_or, Bool.and_true, Bool.true_and, Bool.and_false, Bool.false_and, beq_self_eq_true, W.s8_0, e, rseM, x1]
/-! the next name -/
def nx (s : Tx) : Tx := match s.getLast? with
  | some c => if fig [c] then s.dropLast ++ [c + 1] else s ++ [50]
  | none => s
def nine (s : Tx) : Bool := s.getLast? == some 57
theorem fig_cs {c : Nat} (h : fig [c] = true) : c = 50 ∨ c = 51 ∨ c = 52 ∨ c = 53 ∨ c = 54 ∨ c = 55 ∨ c = 56 ∨ c = 57 := by
  unfold fig FIG at h
  simp at h
  omega
section
variable [W.Fn P 9 W.F9] [W.Gl P 4 (.str [57])]
theorem g4 : P.glob 4 = .str [57] := W.Gl.e
theorem next_no {k : Nat} {h h' : MH} {v : MV} (x1 : P.xat 1 = 0) (e : callM P (k + 1) 1 [v] h = .ok (.bl false) h') : callM P (k + 3) 9 [v] h = .ex 1 [] h' := by
  have e1 := look_no x1 e
  rw [c_fn]
  refine f_ex (σ1 := [some v, none, none]) [some v, none, none] rfl rfl (x_ex ?_)
  simp only [exec, execs, tv, ev, evs, eo, ct, asg, asgs, itv, bind_ok', go_ok, noEx_ok', setM, callP, pick, negM, isNM, mc_bt, t_bl, b_add, b_sub, b_mod, b_fdiv, b_pow3, b_pow18, b_pow30, b_str, c_lt, c_gt, c_le, c_ge, c_eqi, c_nei, c_eqs, c_nes, c_eqb, c_neb, f_len, f_max, f_min, f_abs, List.getElem?_cons_zero, List.getElem?_cons_succ, List.set_cons_zero, List.set_cons_succ, List.length_cons, List.length_nil, if_true, if_false, decide_true, decide_false, Bool.not_true, Bool.not_false, Bool.false_eq_true, Bool.or_true, Bool.true_or, Bool.or_false, Bool.false_or, Bool.and_true, Bool.true_and, Bool.and_false, Bool.false_and, beq_self_eq_true, W.s9_0, e1, bind_ex, go_ex]
theorem last_sn {l : Tx} {c : Nat} : (l ++ [c]).getLast?.toList = [c] := by rw [List.getLast?_concat]; rfl
theorem next_1 {k : Nat} {h h' : MH} {l : Tx} {c : Nat} (hl : l.length ≤ 1000) (e : callM P (k + 2) 8 [.str (l ++ [c])] h = .ok .non h') : ∃ h2 r, h2.get r = some (.lst (l.map fun c => .str [c])) ∧ Grow h' h2 ∧ ∀ q,
    execs P (callM P (k + 2)) (.cons W.s9_2 (.cons W.s9_3 (.cons W.s9_4 .nil))) [some (.str (l ++ [c])), some (.str [c]), some (.ref r)] h2 = q → execs P (callM P (k + 2)) W.b9 [some (.str (l ++ [c])), none, none] h = q := by
  refine ⟨h'.push (.lst (l.map fun c => .str [c])), h'.size, get_push_size, .one, fun q hq => ?_⟩
  have en : newList h' (l.map fun c => MV.str [c]) = .ok (.ref h'.size) (h'.push (.lst (l.map fun c => MV.str [c]))) := n_list (by rw [List.length_map]; unfold LIM; omega)
  have ne : (l ++ [c] = []) = False := by simp
  refine x_nx (σ1 := [some (.str (l ++ [c])), none, none]) (h1 := h') ?_ (x_nx (σ1 := [some (.str (l ++ [c])), some (.str [c]), some (.ref h'.size)]) (h1 := h'.push (.lst (l.map fun c => .str [c]))) ?_ hq)
  · simp only [exec, execs, tv, ev, evs, eo, ct, asg, asgs, itv, bind_ok', go_ok, noEx_ok', setM, callP, pick, negM, isNM, mc_bt, t_bl, b_add, b_sub, b_mod, b_fdiv, b_pow3, b_pow18, b_pow30, b_str, c_lt, c_gt, c_le, c_ge, c_eqi, c_nei, c_eqs, c_nes, c_eqb, c_neb, f_len, f_max, f_min, f_abs, List.getElem?_cons_zero, List.getElem?_cons_succ, List.set_cons_zero, List.set_cons_succ, List.length_cons, List.length_nil, if_true, if_false, decide_true, decide_false, Bool.not_true, Bool.not_false, Bool.false_eq_true, Bool.or_true, Bool.true_or, Bool.or_false, Bool.false_or, Bool.and_true, Bool.true_and, Bool.and_false, Bool.false_and, beq_self_eq_true, W.s9_0, e]
  · simp only [exec, execs, tv, ev, evs, eo, ct, asg, asgs, itv, bind_ok', go_ok, noEx_ok', setM, callP, pick, negM, isNM, mc_bt, t_bl, b_add, b_sub, b_mod, b_fdiv, b_pow3, b_pow18, b_pow30, b_str, c_lt, c_gt, c_le, c_ge, c_eqi, c_nei, c_eqs, c_nes, c_eqb, c_neb, f_len, f_max, f_min, f_abs, List.getElem?_cons_zero, List.getElem?_cons_succ, List.set_cons_zero, List.set_cons_succ, List.length_cons, List.length_nil, if_true, if_false, decide_true, decide_false, Bool.not_true, Bool.not_false, Bool.false_eq_true, Bool.or_true, Bool.true_or, Bool.or_false, Bool.false_or, Bool.and_true, Bool.true_and, Bool.and_false, Bool.false_and, beq_self_eq_true, W.s9_1, asg, ne, List.dropLast_concat, en, last_sn]
theorem next_9 {k : Nat} {h : MH} {l : Tx} (x2 : P.xat 2 = 0) (hl : l.length ≤ 1000) (hn : nm (l ++ [57]) = true) : ∃ h', callM P (k + 3) 9 [.str (l ++ [57])] h = .ex 2 [] h' ∧ Grow h h' := by
  obtain ⟨h1, e1, q1⟩ := look_ok (P := P) (k := k) (h := h) (s := l ++ [57]) (by rw [List.length_append]; unfold LIM; simp; omega) hn
  obtain ⟨h2, r, gr, q2, k2⟩ := next_1 (P := P) hl e1
  have e4 : P.glob 4 = .str [57] := g4
  refine ⟨h2, ?_, q1.trans q2⟩
  rw [c_fn]
  refine f_ex (σ1 := [some (.str (l ++ [57])), some (.str [57]), some (.ref r)]) [some (.str (l ++ [57])), none, none] rfl rfl (k2 _ (x_ex ?_))
  simp only [exec, execs, tv, ev, evs, eo, ct, asg, asgs, itv, bind_ok', go_ok, noEx_ok', setM, callP, pick, negM, isNM, mc_bt, t_bl, b_add, b_sub, b_mod, b_fdiv, b_pow3, b_pow18, b_pow30, b_str, c_lt, c_gt, c_le, c_ge, c_eqi, c_nei, c_eqs, c_nes, c_eqb, c_neb, f_len, f_max, f_min, f_abs, List.getElem?_cons_zero, List.getElem?_cons_succ, List.set_cons_zero, List.set_cons_succ, List.length_cons, List.length_nil, if_true, if_false, decide_true, decide_false, Bool.not_true, Bool.not_false, Bool.false_eq_true, Bool.or_true, Bool.true_or, Bool.or_false, Bool.false_or, Bool.and_true, Bool.true_and, Bool.and_false, Bool.false_and, beq_self_eq_true, W.s9_2, e4, rseM, x2]
theorem idx_fig {c : Nat} {h : MH} (hf : fig [c] = true) (h9 : c ≠ 57) : ∃ k : Int, metM 2 (.kl (FIG.map MV.str)) [.str [c]] h = .ok (.int k) h ∧ ∀ h, subM (.kl (FIG.map MV.str)) (.int (k + 1)) h = .ok (.str [c + 1]) h := by
  rcases fig_cs hf with rfl | rfl | rfl | rfl | rfl | rfl | rfl | rfl
  · exact ⟨0, rfl, fun h => rfl⟩
  · exact ⟨1, rfl, fun h => rfl⟩
  · exact ⟨2, rfl, fun h => rfl⟩
  · exact ⟨3, rfl, fun h => rfl⟩
  · exact ⟨4, rfl, fun h => rfl⟩
  · exact ⟨5, rfl, fun h => rfl⟩
  · exact ⟨6, rfl, fun h => rfl⟩
  · exact absurd rfl h9
theorem mK2 {h : MH} {l : List MV} : metK P 2 (.kl l) h = .ok .bt h := rfl
theorem next_f {k : Nat} {h : MH} {l : Tx} {c : Nat} (hl : l.length ≤ 1000) (hn : nm (l ++ [c]) = true) (hf : fig [c] = true) (h9 : c ≠ 57) : ∃ h', callM P (k + 3) 9 [.str (l ++ [c])] h = .ok (.str (l ++ [c + 1])) h' ∧ Grow h h' := by
  obtain ⟨h1, e1, q1⟩ := look_ok (P := P) (k := k) (h := h) (s := l ++ [c]) (by rw [List.length_append]; unfold LIM; simp; omega) hn
  obtain ⟨h2, r, gr, q2, k2⟩ := next_1 (P := P) hl e1
  have e4 : P.glob 4 = .str [57] := g4
  have eg : P.glob 1 = .kl (FIG.map MV.str) := g1
  obtain ⟨i, ei, es⟩ := idx_fig (h := h2) hf h9
  have ej := m_join (h := h2) (t := l) (r := r) (by rw [List.map_map]; exact gr) (by unfold LIM; omega)
  have eb := b_str (s := l) (t := [c + 1]) (h := h2) (by unfold LIM; simp; omega)
  have e5 : ([c] == ([57] : Tx)) = false := by
    rw [beq_eq_false_iff_ne]
    intro z
    exact h9 (List.cons.inj z).1
  refine ⟨h2, ?_, q1.trans q2⟩
  rw [c_fn]
  refine f_rt [some (.str (l ++ [c])), none, none] rfl rfl (k2 _ (x_nx (σ1 := [some (.str (l ++ [c])), some (.str [c]), some (.ref r)]) (h1 := h2) ?_ (x_rt ?_)))
  · simp only [exec, execs, tv, ev, evs, eo, ct, asg, asgs, itv, bind_ok', go_ok, noEx_ok', setM, callP, pick, negM, isNM, mc_bt, t_bl, b_add, b_sub, b_mod, b_fdiv, b_pow3, b_pow18, b_pow30, b_str, c_lt, c_gt, c_le, c_ge, c_eqi, c_nei, c_eqs, c_nes, c_eqb, c_neb, f_len, f_max, f_min, f_abs, List.getElem?_cons_zero, List.getElem?_cons_succ, List.set_cons_zero, List.set_cons_succ, List.length_cons, List.length_nil, if_true, if_false, decide_true, decide_false, Bool.not_true, Bool.not_false, Bool.false_eq_true, Bool.or_true, Bool.true_or, Bool.or_false, Bool.false_or, Bool.and_true, Bool.true_and, Bool.and_false, Bool.false_and, beq_self_eq_true, W.s9_2, e4, e5]
  · simp only [exec, execs, tv, ev, evs, eo, ct, asg, asgs, itv, bind_ok', go_ok, noEx_ok', setM, callP, pick, negM, isNM, mc_bt, t_bl, b_add, b_sub, b_mod, b_fdiv, b_pow3, b_pow18, b_pow30, b_str, c_lt, c_gt, c_le, c_ge, c_eqi, c_nei, c_eqs, c_nes, c_eqb, c_neb, f_len, f_max, f_min, f_abs, List.getElem?_cons_zero, List.getElem?_cons_succ, List.set_cons_zero, List.set_cons_succ, List.length_cons, List.length_nil, if_true, if_false, decide_true, decide_false, Bool.not_true, Bool.not_false, Bool.false_eq_true, Bool.or_true, Bool.true_or, Bool.or_false, Bool.false_or, Bool.and_true, Bool.true_and, Bool.and_false, Bool.false_and, beq_self_eq_true, W.s9_3, eg, in_fig, hf, k_join, mK2, ei, es, ej, eb]
theorem next_l {k : Nat} {h : MH} {l : Tx} {c : Nat} (hl : l.length ≤ 1000) (hn : nm (l ++ [c]) = true) (hf : fig [c] = false) : ∃ h', callM P (k + 3) 9 [.str (l ++ [c])] h = .ok (.str (l ++ [c] ++ [50])) h' ∧ Grow h h' := by
  obtain ⟨h1, e1, q1⟩ := look_ok (P := P) (k := k) (h := h) (s := l ++ [c]) (by rw [List.length_append]; unfold LIM; simp; omega) hn
  obtain ⟨h2, r, gr, q2, k2⟩ := next_1 (P := P) hl e1
  have e4 : P.glob 4 = .str [57] := g4
  have eg : P.glob 1 = .kl (FIG.map MV.str) := g1
  have eb := b_str (s := l ++ [c]) (t := [50]) (h := h2) (by rw [List.length_append]; unfold LIM; simp; omega)
  have es : ∀ h, subM (.kl (FIG.map MV.str)) (.int 0) h = .ok (.str [50]) h := fun h => rfl
  have e5 : ([c] == ([57] : Tx)) = false := by
    rw [beq_eq_false_iff_ne]
    intro z
    rw [(List.cons.inj z).1] at hf
    cases hf
  refine ⟨h2, ?_, q1.trans q2⟩
  rw [c_fn]
  refine f_rt [some (.str (l ++ [c])), none, none] rfl rfl (k2 _ (x_nx (σ1 := [some (.str (l ++ [c])), some (.str [c]), some (.ref r)]) (h1 := h2) ?_ (x_nx (σ1 := [some (.str (l ++ [c])), some (.str [c]), some (.ref r)]) (h1 := h2) ?_ (x_rt ?_))))
  · simp only [exec, execs, tv, ev, evs, eo, ct, asg, asgs, itv, bind_ok', go_ok, noEx_ok', setM, callP, pick, negM, isNM, mc_bt, t_bl, b_add, b_sub, b_mod, b_fdiv, b_pow3, b_pow18, b_pow30, b_str, c_lt, c_gt, c_le, c_ge, c_eqi, c_nei, c_eqs, c_nes, c_eqb, c_neb, f_len, f_max, f_min, f_abs, List.getElem?_cons_zero, List.getElem?_cons_succ, List.set_cons_zero, List.set_cons_succ, List.length_cons, List.length_nil, if_true, if_false, decide_true, decide_false, Bool.not_true, Bool.not_false, Bool.false_eq_true, Bool.or_true, Bool.true_or, Bool.or_false, Bool.false_or, Bool.and_true, Bool.true_and, Bool.and_false, Bool.false_and, beq_self_eq_true, W.s9_2, e4, e5]
  · simp only [exec, execs, tv, ev, evs, eo, ct, asg, asgs, itv, bind_ok', go_ok, noEx_ok', setM, callP, pick, negM, isNM, mc_bt, t_bl, b_add, b_sub, b_mod, b_fdiv, b_pow3, b_pow18, b_pow30, b_str, c_lt, c_gt, c_le, c_ge, c_eqi, c_nei, c_eqs, c_nes, c_eqb, c_neb, f_len, f_max, f_min, f_abs, List.getElem?_cons_zero, List.getElem?_cons_succ, List.set_cons_zero, List.set_cons_succ, List.length_cons, List.length_nil, if_true, if_false, decide_true, decide_false, Bool.not_true, Bool.not_false, Bool.false_eq_true, Bool.or_true, Bool.true_or, Bool.or_false, Bool.false_or, Bool.and_true, Bool.true_and, Bool.and_false, Bool.false_and, beq_self_eq_true, W.s9_3, eg, in_fig, hf]
  · simp only [exec, execs, tv, ev, evs, eo, ct, asg, asgs, itv, bind_ok', go_ok, noEx_ok', setM, callP, pick, negM, isNM, mc_bt, t_bl, b_add, b_sub, b_mod, b_fdiv, b_pow3, b_pow18, b_pow30, b_str, c_lt, c_gt, c_le, c_ge, c_eqi, c_nei, c_eqs, c_nes, c_eqb, c_neb, f_len, f_max, f_min, f_abs, List.getElem?_cons_zero, List.getElem?_cons_succ, List.set_cons_zero, List.set_cons_succ, List.length_cons, List.length_nil, if_true, if_false, decide_true, decide_false, Bool.not_true, Bool.not_false, Bool.false_eq_true, Bool.or_true, Bool.true_or, Bool.or_false, Bool.false_or, Bool.and_true, Bool.true_and, Bool.and_false, Bool.false_and, beq_self_eq_true, W.s9_4, eg, es, eb]
end
end
end
end WN
set_option linter.all false
set_option maxRecDepth 100000
set_option maxHeartbeats 4000000
namespace WN
open DM WB
/-! the class's own name -/
def KN : List (Tx × Nat) := [([78, 111, 78, 97, 109, 101], 1), ([78, 111, 77, 97, 114, 107], 3), ([78, 111, 84, 114, 105, 101, 115], 4), ([78, 111, 66, 111, 117, 110, 100, 115], 5), ([78, 111, 82, 117, 108, 101], 6), ([78, 111, 78, 101, 120, 116], 2), ([78, 111, 83, 99, 114, 105, 112, 116], 7), ([78, 111, 83, 97, 121, 105, 110, 103], 8), ([78, 111, 72, 97, 110, 100, 115], 9), ([67, 108, 97, 105, 109, 101, 100], 10), ([78, 111, 67, 108, 97, 105, 109], 11), ([84, 111, 111, 77, 97, 110, 121], 12), ([83, 97, 109, 101, 87, 105, 114, 101], 13), ([78, 111, 116, 69, 109, 112, 116, 121], 14), ([69, 97, 114, 108, 121], 15), ([67, 97, 109, 101], 16), ([79, 119, 101, 100], 17), ([68, 117, 101], 18), ([78, 111, 76, 101, 115, 115], 19), ([78, 111, 80, 97, 112, 101, 114], 20)]
def LN : List (Tx × Nat) := [([78, 111, 72, 97, 110, 100], 21), ([78, 111, 87, 105, 114, 101], 22), ([78, 111, 116, 79, 110], 23), ([73, 115, 79, 110], 24), ([78, 111, 76, 101, 116, 116, 101, 114], 25)]
def row (f : Nat → Bool) (p : Tx × Nat) : MV := .tup [.str p.1, .bl (f p.2)]
section
variable {P : Prog}
/-- a list made longer -/
theorem x_cat {C : Nat → List MV → MH → R MV} {σ : En} {h : MH} {j r : Nat} {es : Es} {L l : List MV} (hσ : σ[j]? = some (some (.ref r))) (g : h.get r = some (.lst L)) (e : evs P C es σ h = .ok l h) (h1 : L.length ≤ 1000) (h2 : l.length ≤ 1000) :
    ∃ h' r', exec P C (.set (.nm j) (.bin .add (.var j) (.lst es))) σ h = .nx (σ.set j (some (.ref r'))) h' ∧ h'.get r' = some (.lst (L ++ l)) ∧ Grow h h' := by
  obtain ⟨h', c1, c2, g', gr, _⟩ := cat_ok g h1 h2
  refine ⟨h', h.size + 1, x_set ?_, g', gr⟩
  unfold ev
  rw [ev_var hσ]
  unfold ev
  simp only [bind_ok', e, c1]
  exact c2
theorem t_tup2 {a b : MV} {h : MH} : litM [a, b] h = .ok (.tup [a, b]) h := l_tup (by show 2 ≤ LIM; unfold LIM; omega)
theorem isX_c {i d c : Nat} {l : List MV} {σ : En} {h : MH} (hσ : σ[i]? = some (some (.exc c l))) : isXM P i d σ h = .ok (.bl (P.xsub c d)) h := by
  unfold isXM excAt
  rw [hσ]
def pickW : MV → Option MV
  | .tup [.str s, .bl true] => some (.str s)
  | _ => none
def pickB : MV → MV
  | .tup [.str s, .bl b] => .bl b
  | _ => .non
theorem it_l {C : Nat → List MV → MH → R MV} {σ : En} {h h1 : MH} {e : Ex} {r : Nat} {l : List MV} (e0 : ev P C e σ h = .ok (.ref r) h1) (g : h1.get r = some (.lst l)) : itv P C (.exL e) σ h = .ok (.live r) h1 := by
  unfold itv
  rw [e0, bind_ok']
  unfold itLM itM itOf listOf
  simp only [g]
/-- the words of the true ones -/
theorem words {C : Nat → List MV → MH → R MV} {h : MH} {f : Nat → Bool} {a b c : Option MV} {r1 r2 : Nat} {x5 x6 : Option MV} {K L : List (Tx × Nat)} (g1 : h.get r1 = some (.lst (K.map (row f)))) (g2 : h.get r2 = some (.lst (L.map (row f)))) (hK : K.length ≤ 100) (hL : L.length ≤ 100) :
    ∃ h' r', exec P C W.s10_11 [a, some (.ref r1), some (.ref r2), c, b, none, none] h = .nx [a, some (.ref r1), some (.ref r2), some (.ref r'), b, none, none] h' ∧ h'.get r' = some (.lst (((K ++ L).map (row f)).filterMap pickW)) ∧ Grow h h' := by
  have eb := b_lst g1 g2 (by rw [List.length_map, List.length_map]; unfold LIM; omega)
  rw [← List.map_append] at eb
  have gS : (h.push (.lst ((K ++ L).map (row f)))).get h.size = some (.lst ((K ++ L).map (row f))) := get_push_size
  have gr1 : Grow h (h.push (.lst ((K ++ L).map (row f)))) := .one
  generalize (h.push (.lst ((K ++ L).map (row f)))) = h1 at eb gS gr1
  generalize h.size = r at eb gS
  have ei : itv P C (.exL (.bin .add (.var 1) (.var 2))) [a, some (.ref r1), some (.ref r2), c, b, none, none] h = .ok (.live r) h1 := it_l (by simp only [exec, execs, tv, ev, evs, eo, ct, asg, asgs, itv, bind_ok', go_ok, noEx_ok', setM, callP, pick, negM, isNM, mc_bt, t_bl, b_add, b_sub, b_mod, b_fdiv, b_pow3, b_pow18, b_pow30, b_str, c_lt, c_gt, c_le, c_ge, c_eqi, c_nei, c_eqs, c_nes, c_eqb, c_neb, f_len, f_max, f_min, f_abs, List.getElem?_cons_zero, List.getElem?_cons_succ, List.set_cons_zero, List.set_cons_succ, List.length_cons, List.length_nil, if_true, if_false, decide_true, decide_false, Bool.not_true, Bool.not_false, Bool.false_eq_true, Bool.or_true, Bool.true_or, Bool.or_false, Bool.false_or, Bool.and_true, Bool.true_and, Bool.and_false, Bool.false_and, beq_self_eq_true, eb]) gS
  obtain ⟨acc, h', e1, p1, p2⟩ := lc_g (tg := .tup (.cons (.nm 5) (.cons (.nm 6) .nil))) (elt := .var 5) (own := [5, 6]) (c := .so (.vl (.var 6))) ei (len_live gS) (by rw [List.length_map, List.length_append]; unfold LIM; omega) (fun i acc h => h = h1 ∧ acc = (((K ++ L).map (row f)).take i).filterMap pickW) (fun i acc h p => by rw [p.1]; exact at_live gS) ⟨rfl, rfl⟩ (by
    rintro i v acc h ee ⟨rfl, rfl⟩
    obtain ⟨p, _, rfl⟩ := List.mem_map.mp (List.mem_of_getElem? ee)
    rw [List.take_add_one, ee, List.filterMap_append]
    unfold row
    cases f p.2
    · exact ⟨none, _, by simp only [exec, execs, tv, ev, evs, eo, ct, asg, asgs, itv, bind_ok', go_ok, noEx_ok', setM, callP, pick, negM, isNM, mc_bt, t_bl, b_add, b_sub, b_mod, b_fdiv, b_pow3, b_pow18, b_pow30, b_str, c_lt, c_gt, c_le, c_ge, c_eqi, c_nei, c_eqs, c_nes, c_eqb, c_neb, f_len, f_max, f_min, f_abs, List.getElem?_cons_zero, List.getElem?_cons_succ, List.set_cons_zero, List.set_cons_succ, List.length_cons, List.length_nil, if_true, if_false, decide_true, decide_false, Bool.not_true, Bool.not_false, Bool.false_eq_true, Bool.or_true, Bool.true_or, Bool.or_false, Bool.false_or, Bool.and_true, Bool.true_and, Bool.and_false, Bool.false_and, beq_self_eq_true, lcB, wipe, asg, asgs], rfl, rfl⟩
    · exact ⟨some _, _, by simp only [exec, execs, tv, ev, evs, eo, ct, asg, asgs, itv, bind_ok', go_ok, noEx_ok', setM, callP, pick, negM, isNM, mc_bt, t_bl, b_add, b_sub, b_mod, b_fdiv, b_pow3, b_pow18, b_pow30, b_str, c_lt, c_gt, c_le, c_ge, c_eqi, c_nei, c_eqs, c_nes, c_eqb, c_neb, f_len, f_max, f_min, f_abs, List.getElem?_cons_zero, List.getElem?_cons_succ, List.set_cons_zero, List.set_cons_succ, List.length_cons, List.length_nil, if_true, if_false, decide_true, decide_false, Bool.not_true, Bool.not_false, Bool.false_eq_true, Bool.or_true, Bool.true_or, Bool.or_false, Bool.false_or, Bool.and_true, Bool.true_and, Bool.and_false, Bool.false_and, beq_self_eq_true, lcB, wipe, asg, asgs], rfl, rfl⟩)
  subst p1
  rw [List.take_length] at p2
  subst p2
  exact ⟨_, _, x_set e1, get_push_size, gr1.push⟩
end
end WN
namespace WN
open DM WB
section
variable {P : Prog}
theorem anyT_map {α : Type} (F : α → Bool) : ∀ l : List α, anyT (l.map fun c => .bl (F c)) = some (l.any F)
  | [] => rfl
  | x :: xs => by
    simp only [List.map_cons, anyT, anyT_map F xs, Option.map_some, List.any_cons]
theorem f_any {r : Nat} {l : List MV} {b : Bool} {h : MH} (g : h.get r = some (.lst l)) (e : anyT l = some b) : bifM P .any [.ref r] h = .ok (.bl b) h := by
  unfold bifM
  simp only [listOf, g, e, bR]
theorem is_look {C : Nat → List MV → MH → R MV} {h : MH} {f : Nat → Bool} {a b c : Option MV} {r2 : Nat} {x3 x4 : Option MV} {L : List (Tx × Nat)} (g2 : h.get r2 = some (.lst (L.map (row f)))) (hL : L.length ≤ 100) :
    ∃ h', exec P C W.s10_12 [a, b, some (.ref r2), c, x4, none, none] h = .nx [a, b, some (.ref r2), c, some (.bl (L.any fun p => f p.2)), none, none] h' ∧ Grow h h' := by
  have ei : itv P C (.exL (.var 2)) [a, b, some (.ref r2), c, x4, none, none] h = .ok (.live r2) h := it_l (by simp only [exec, execs, tv, ev, evs, eo, ct, asg, asgs, itv, bind_ok', go_ok, noEx_ok', setM, callP, pick, negM, isNM, mc_bt, t_bl, b_add, b_sub, b_mod, b_fdiv, b_pow3, b_pow18, b_pow30, b_str, c_lt, c_gt, c_le, c_ge, c_eqi, c_nei, c_eqs, c_nes, c_eqb, c_neb, f_len, f_max, f_min, f_abs, List.getElem?_cons_zero, List.getElem?_cons_succ, List.set_cons_zero, List.set_cons_succ, List.length_cons, List.length_nil, if_true, if_false, decide_true, decide_false, Bool.not_true, Bool.not_false, Bool.false_eq_true, Bool.or_true, Bool.true_or, Bool.or_false, Bool.false_or, Bool.and_true, Bool.true_and, Bool.and_false, Bool.false_and, beq_self_eq_true]) g2
  have e1 := lc_m (tg := .tup (.cons (.nm 5) (.cons (.nm 6) .nil))) (elt := .var 6) (own := [5, 6]) pickB ei (by rw [List.length_map]; unfold LIM; omega) (len_live g2) (fun i => at_live g2) (by
    intro v hv
    obtain ⟨p, _, rfl⟩ := List.mem_map.mp hv
    simp only [exec, execs, tv, ev, evs, eo, ct, asg, asgs, itv, bind_ok', go_ok, noEx_ok', setM, callP, pick, negM, isNM, mc_bt, t_bl, b_add, b_sub, b_mod, b_fdiv, b_pow3, b_pow18, b_pow30, b_str, c_lt, c_gt, c_le, c_ge, c_eqi, c_nei, c_eqs, c_nes, c_eqb, c_neb, f_len, f_max, f_min, f_abs, List.getElem?_cons_zero, List.getElem?_cons_succ, List.set_cons_zero, List.set_cons_succ, List.length_cons, List.length_nil, if_true, if_false, decide_true, decide_false, Bool.not_true, Bool.not_false, Bool.false_eq_true, Bool.or_true, Bool.true_or, Bool.or_false, Bool.false_or, Bool.and_true, Bool.true_and, Bool.and_false, Bool.false_and, beq_self_eq_true, lcB, wipe, asg, asgs, row, pickB])
  rw [List.map_map] at e1
  refine ⟨h.push (.lst (L.map fun p => .bl (f p.2))), x_set ?_, .one⟩
  rw [ev_bif1 e1]
  exact f_any get_push_size (anyT_map (fun p : Tx × Nat => f p.2) L)
variable [W.Fn P 10 W.F10]
theorem which_ok {k c : Nat} {l : List MV} {h : MH} {ds : Nat → Bool} {n : Tx} {b : Bool} (hx : ∀ d, P.xsub c d = ds d) (hk : ((KN ++ LN).map (row ds)).filterMap pickW = [.str n]) (ha : (LN.any fun p => ds p.2) = b) (e27 : ds 27 = b) (e26 : ds 26 = !b) (e28 : ds 28 = !b) :
    ∃ h', callM P (k + 1) 10 [.exc c l] h = .ok (.str n) h' ∧ Grow h h' := by
  have X : ∀ {d : Nat} {σ : En} {h : MH}, isXM P 0 d (some (.exc c l) :: σ) h = .ok (.bl (ds d)) h := fun {d σ h} => by rw [isX_c (c := c) (l := l) rfl, hx]
  have nl : ∀ {h : MH} {l : List MV}, l.length ≤ 100 → newList h l = .ok (.ref h.size) (h.push (.lst l)) := fun hl => n_list (by unfold LIM; omega)
  have z0 : exec P (callM P k) W.s10_0 [some (.exc c l), none, none, none, none, none, none] h = .nx [some (.exc c l), some (.ref h.size), none, none, none, none, none] (h.push (.lst ((KN.take 3).map (row ds)))) := by
    exact x_set (by
      have n3 := nl (h := h) (l := (KN.take 3).map (row ds)) (by show 3 ≤ 100; omega)
      simp only [exec, execs, tv, ev, evs, eo, ct, asg, asgs, itv, bind_ok', go_ok, noEx_ok', setM, callP, pick, negM, isNM, mc_bt, t_bl, b_add, b_sub, b_mod, b_fdiv, b_pow3, b_pow18, b_pow30, b_str, c_lt, c_gt, c_le, c_ge, c_eqi, c_nei, c_eqs, c_nes, c_eqb, c_neb, f_len, f_max, f_min, f_abs, List.getElem?_cons_zero, List.getElem?_cons_succ, List.set_cons_zero, List.set_cons_succ, List.length_cons, List.length_nil, if_true, if_false, decide_true, decide_false, Bool.not_true, Bool.not_false, Bool.false_eq_true, Bool.or_true, Bool.true_or, Bool.or_false, Bool.false_or, Bool.and_true, Bool.true_and, Bool.and_false, Bool.false_and, beq_self_eq_true, X, t_tup2]
      exact n3)
  have g0 : (h.push (.lst ((KN.take 3).map (row ds)))).get h.size = some (.lst ((KN.take 3).map (row ds))) := get_push_size
  have q0 : Grow h (h.push (.lst ((KN.take 3).map (row ds)))) := .one
  generalize (h.push (.lst ((KN.take 3).map (row ds)))) = h0 at z0 g0 q0
  generalize h.size = r0 at z0 g0
  obtain ⟨h1, r1, z1, g1, q1⟩ := x_cat (P := P) (C := callM P k) (σ := [some (.exc c l), some (.ref r0), none, none, none, none, none]) (j := 1) (l := ((KN.drop 3).take 2).map (row ds)) (es := .cons (.tup (.cons (.str [78, 111, 66, 111, 117, 110, 100, 115]) (.cons (.isX 0 5) .nil))) (.cons (.tup (.cons (.str [78, 111, 82, 117, 108, 101]) (.cons (.isX 0 6) .nil))) .nil)) rfl g0 (by simp only [exec, execs, tv, ev, evs, eo, ct, asg, asgs, itv, bind_ok', go_ok, noEx_ok', setM, callP, pick, negM, isNM, mc_bt, t_bl, b_add, b_sub, b_mod, b_fdiv, b_pow3, b_pow18, b_pow30, b_str, c_lt, c_gt, c_le, c_ge, c_eqi, c_nei, c_eqs, c_nes, c_eqb, c_neb, f_len, f_max, f_min, f_abs, List.getElem?_cons_zero, List.getElem?_cons_succ, List.set_cons_zero, List.set_cons_succ, List.length_cons, List.length_nil, if_true, if_false, decide_true, decide_false, Bool.not_true, Bool.not_false, Bool.false_eq_true, Bool.or_true, Bool.true_or, Bool.or_false, Bool.false_or, Bool.and_true, Bool.true_and, Bool.and_false, Bool.false_and, beq_self_eq_true, X, t_tup2]; rfl) (by show 3 ≤ 1000; omega) (by show 2 ≤ 1000; omega)
  obtain ⟨h2, r2, z2, g2, q2⟩ := x_cat (P := P) (C := callM P k) (σ := [some (.exc c l), some (.ref r1), none, none, none, none, none]) (j := 1) (l := ((KN.drop 5).take 2).map (row ds)) (es := (.cons (.tup (.cons (.str [78, 111, 78, 101, 120, 116]) (.cons (.isX 0 2) .nil))) (.cons (.tup (.cons (.str [78, 111, 83, 99, 114, 105, 112, 116]) (.cons (.isX 0 7) .nil))) .nil))) rfl g1 (by simp only [exec, execs, tv, ev, evs, eo, ct, asg, asgs, itv, bind_ok', go_ok, noEx_ok', setM, callP, pick, negM, isNM, mc_bt, t_bl, b_add, b_sub, b_mod, b_fdiv, b_pow3, b_pow18, b_pow30, b_str, c_lt, c_gt, c_le, c_ge, c_eqi, c_nei, c_eqs, c_nes, c_eqb, c_neb, f_len, f_max, f_min, f_abs, List.getElem?_cons_zero, List.getElem?_cons_succ, List.set_cons_zero, List.set_cons_succ, List.length_cons, List.length_nil, if_true, if_false, decide_true, decide_false, Bool.not_true, Bool.not_false, Bool.false_eq_true, Bool.or_true, Bool.true_or, Bool.or_false, Bool.false_or, Bool.and_true, Bool.true_and, Bool.and_false, Bool.false_and, beq_self_eq_true, X, t_tup2]; rfl) (by show 5 ≤ 1000; omega) (by show 2 ≤ 1000; omega)
  obtain ⟨h3, r3, z3, g3, q3⟩ := x_cat (P := P) (C := callM P k) (σ := [some (.exc c l), some (.ref r2), none, none, none, none, none]) (j := 1) (l := ((KN.drop 7).take 2).map (row ds)) (es := (.cons (.tup (.cons (.str [78, 111, 83, 97, 121, 105, 110, 103]) (.cons (.isX 0 8) .nil))) (.cons (.tup (.cons (.str [78, 111, 72, 97, 110, 100, 115]) (.cons (.isX 0 9) .nil))) .nil))) rfl g2 (by simp only [exec, execs, tv, ev, evs, eo, ct, asg, asgs, itv, bind_ok', go_ok, noEx_ok', setM, callP, pick, negM, isNM, mc_bt, t_bl, b_add, b_sub, b_mod, b_fdiv, b_pow3, b_pow18, b_pow30, b_str, c_lt, c_gt, c_le, c_ge, c_eqi, c_nei, c_eqs, c_nes, c_eqb, c_neb, f_len, f_max, f_min, f_abs, List.getElem?_cons_zero, List.getElem?_cons_succ, List.set_cons_zero, List.set_cons_succ, List.length_cons, List.length_nil, if_true, if_false, decide_true, decide_false, Bool.not_true, Bool.not_false, Bool.false_eq_true, Bool.or_true, Bool.true_or, Bool.or_false, Bool.false_or, Bool.and_true, Bool.true_and, Bool.and_false, Bool.false_and, beq_self_eq_true, X, t_tup2]; rfl) (by show 7 ≤ 1000; omega) (by show 2 ≤ 1000; omega)
  obtain ⟨h4, r4, z4, g4, q4⟩ := x_cat (P := P) (C := callM P k) (σ := [some (.exc c l), some (.ref r3), none, none, none, none, none]) (j := 1) (l := ((KN.drop 9).take 2).map (row ds)) (es := (.cons (.tup (.cons (.str [67, 108, 97, 105, 109, 101, 100]) (.cons (.isX 0 10) .nil))) (.cons (.tup (.cons (.str [78, 111, 67, 108, 97, 105, 109]) (.cons (.isX 0 11) .nil))) .nil))) rfl g3 (by simp only [exec, execs, tv, ev, evs, eo, ct, asg, asgs, itv, bind_ok', go_ok, noEx_ok', setM, callP, pick, negM, isNM, mc_bt, t_bl, b_add, b_sub, b_mod, b_fdiv, b_pow3, b_pow18, b_pow30, b_str, c_lt, c_gt, c_le, c_ge, c_eqi, c_nei, c_eqs, c_nes, c_eqb, c_neb, f_len, f_max, f_min, f_abs, List.getElem?_cons_zero, List.getElem?_cons_succ, List.set_cons_zero, List.set_cons_succ, List.length_cons, List.length_nil, if_true, if_false, decide_true, decide_false, Bool.not_true, Bool.not_false, Bool.false_eq_true, Bool.or_true, Bool.true_or, Bool.or_false, Bool.false_or, Bool.and_true, Bool.true_and, Bool.and_false, Bool.false_and, beq_self_eq_true, X, t_tup2]; rfl) (by show 9 ≤ 1000; omega) (by show 2 ≤ 1000; omega)
  obtain ⟨h5, r5, z5, g5, q5⟩ := x_cat (P := P) (C := callM P k) (σ := [some (.exc c l), some (.ref r4), none, none, none, none, none]) (j := 1) (l := ((KN.drop 11).take 2).map (row ds)) (es := (.cons (.tup (.cons (.str [84, 111, 111, 77, 97, 110, 121]) (.cons (.isX 0 12) .nil))) (.cons (.tup (.cons (.str [83, 97, 109, 101, 87, 105, 114, 101]) (.cons (.isX 0 13) .nil))) .nil))) rfl g4 (by simp only [exec, execs, tv, ev, evs, eo, ct, asg, asgs, itv, bind_ok', go_ok, noEx_ok', setM, callP, pick, negM, isNM, mc_bt, t_bl, b_add, b_sub, b_mod, b_fdiv, b_pow3, b_pow18, b_pow30, b_str, c_lt, c_gt, c_le, c_ge, c_eqi, c_nei, c_eqs, c_nes, c_eqb, c_neb, f_len, f_max, f_min, f_abs, List.getElem?_cons_zero, List.getElem?_cons_succ, List.set_cons_zero, List.set_cons_succ, List.length_cons, List.length_nil, if_true, if_false, decide_true, decide_false, Bool.not_true, Bool.not_false, Bool.false_eq_true, Bool.or_true, Bool.true_or, Bool.or_false, Bool.false_or, Bool.and_true, Bool.true_and, Bool.and_false, Bool.false_and, beq_self_eq_true, X, t_tup2]; rfl) (by show 11 ≤ 1000; omega) (by show 2 ≤ 1000; omega)
  obtain ⟨h6, r6, z6, g6, q6⟩ := x_cat (P := P) (C := callM P k) (σ := [some (.exc c l), some (.ref r5), none, none, none, none, none]) (j := 1) (l := ((KN.drop 13).take 2).map (row ds)) (es := (.cons (.tup (.cons (.str [78, 111, 116, 69, 109, 112, 116, 121]) (.cons (.isX 0 14) .nil))) (.cons (.tup (.cons (.str [69, 97, 114, 108, 121]) (.cons (.isX 0 15) .nil))) .nil))) rfl g5 (by simp only [exec, execs, tv, ev, evs, eo, ct, asg, asgs, itv, bind_ok', go_ok, noEx_ok', setM, callP, pick, negM, isNM, mc_bt, t_bl, b_add, b_sub, b_mod, b_fdiv, b_pow3, b_pow18, b_pow30, b_str, c_lt, c_gt, c_le, c_ge, c_eqi, c_nei, c_eqs, c_nes, c_eqb, c_neb, f_len, f_max, f_min, f_abs, List.getElem?_cons_zero, List.getElem?_cons_succ, List.set_cons_zero, List.set_cons_succ, List.length_cons, List.length_nil, if_true, if_false, decide_true, decide_false, Bool.not_true, Bool.not_false, Bool.false_eq_true, Bool.or_true, Bool.true_or, Bool.or_false, Bool.false_or, Bool.and_true, Bool.true_and, Bool.and_false, Bool.false_and, beq_self_eq_true, X, t_tup2]; rfl) (by show 13 ≤ 1000; omega) (by show 2 ≤ 1000; omega)
  obtain ⟨h7, r7, z7, g7, q7⟩ := x_cat (P := P) (C := callM P k) (σ := [some (.exc c l), some (.ref r6), none, none, none, none, none]) (j := 1) (l := ((KN.drop 15).take 3).map (row ds)) (es := (.cons (.tup (.cons (.str [67, 97, 109, 101]) (.cons (.isX 0 16) .nil))) (.cons (.tup (.cons (.str [79, 119, 101, 100]) (.cons (.isX 0 17) .nil))) (.cons (.tup (.cons (.str [68, 117, 101]) (.cons (.isX 0 18) .nil))) .nil)))) rfl g6 (by simp only [exec, execs, tv, ev, evs, eo, ct, asg, asgs, itv, bind_ok', go_ok, noEx_ok', setM, callP, pick, negM, isNM, mc_bt, t_bl, b_add, b_sub, b_mod, b_fdiv, b_pow3, b_pow18, b_pow30, b_str, c_lt, c_gt, c_le, c_ge, c_eqi, c_nei, c_eqs, c_nes, c_eqb, c_neb, f_len, f_max, f_min, f_abs, List.getElem?_cons_zero, List.getElem?_cons_succ, List.set_cons_zero, List.set_cons_succ, List.length_cons, List.length_nil, if_true, if_false, decide_true, decide_false, Bool.not_true, Bool.not_false, Bool.false_eq_true, Bool.or_true, Bool.true_or, Bool.or_false, Bool.false_or, Bool.and_true, Bool.true_and, Bool.and_false, Bool.false_and, beq_self_eq_true, X, t_tup2]; rfl) (by show 15 ≤ 1000; omega) (by show 3 ≤ 1000; omega)
  obtain ⟨h8, r8, z8, g8, q8⟩ := x_cat (P := P) (C := callM P k) (σ := [some (.exc c l), some (.ref r7), none, none, none, none, none]) (j := 1) (l := ((KN.drop 18).take 2).map (row ds)) (es := (.cons (.tup (.cons (.str [78, 111, 76, 101, 115, 115]) (.cons (.isX 0 19) .nil))) (.cons (.tup (.cons (.str [78, 111, 80, 97, 112, 101, 114]) (.cons (.isX 0 20) .nil))) .nil))) rfl g7 (by simp only [exec, execs, tv, ev, evs, eo, ct, asg, asgs, itv, bind_ok', go_ok, noEx_ok', setM, callP, pick, negM, isNM, mc_bt, t_bl, b_add, b_sub, b_mod, b_fdiv, b_pow3, b_pow18, b_pow30, b_str, c_lt, c_gt, c_le, c_ge, c_eqi, c_nei, c_eqs, c_nes, c_eqb, c_neb, f_len, f_max, f_min, f_abs, List.getElem?_cons_zero, List.getElem?_cons_succ, List.set_cons_zero, List.set_cons_succ, List.length_cons, List.length_nil, if_true, if_false, decide_true, decide_false, Bool.not_true, Bool.not_false, Bool.false_eq_true, Bool.or_true, Bool.true_or, Bool.or_false, Bool.false_or, Bool.and_true, Bool.true_and, Bool.and_false, Bool.false_and, beq_self_eq_true, X, t_tup2]; rfl) (by show 18 ≤ 1000; omega) (by show 2 ≤ 1000; omega)
  have z9 : exec P (callM P k) W.s10_9 [some (.exc c l), some (.ref r8), none, none, none, none, none] h8 = .nx [some (.exc c l), some (.ref r8), some (.ref h8.size), none, none, none, none] (h8.push (.lst ((LN.take 3).map (row ds)))) := by
    exact x_set (by
      have n3 := nl (h := h8) (l := (LN.take 3).map (row ds)) (by show 3 ≤ 100; omega)
      simp only [exec, execs, tv, ev, evs, eo, ct, asg, asgs, itv, bind_ok', go_ok, noEx_ok', setM, callP, pick, negM, isNM, mc_bt, t_bl, b_add, b_sub, b_mod, b_fdiv, b_pow3, b_pow18, b_pow30, b_str, c_lt, c_gt, c_le, c_ge, c_eqi, c_nei, c_eqs, c_nes, c_eqb, c_neb, f_len, f_max, f_min, f_abs, List.getElem?_cons_zero, List.getElem?_cons_succ, List.set_cons_zero, List.set_cons_succ, List.length_cons, List.length_nil, if_true, if_false, decide_true, decide_false, Bool.not_true, Bool.not_false, Bool.false_eq_true, Bool.or_true, Bool.true_or, Bool.or_false, Bool.false_or, Bool.and_true, Bool.true_and, Bool.and_false, Bool.false_and, beq_self_eq_true, X, t_tup2]
      exact n3)
  have g9 : (h8.push (.lst ((LN.take 3).map (row ds)))).get h8.size = some (.lst ((LN.take 3).map (row ds))) := get_push_size
  have q9 : Grow h8 (h8.push (.lst ((LN.take 3).map (row ds)))) := .one
  generalize (h8.push (.lst ((LN.take 3).map (row ds)))) = h9 at z9 g9 q9
  generalize h8.size = r9 at z9 g9
  obtain ⟨h10, r10, z10, g10, q10⟩ := x_cat (P := P) (C := callM P k) (σ := [some (.exc c l), some (.ref r8), some (.ref r9), none, none, none, none]) (j := 2) (l := ((LN.drop 3).take 2).map (row ds)) (es := (.cons (.tup (.cons (.str [73, 115, 79, 110]) (.cons (.isX 0 24) .nil))) (.cons (.tup (.cons (.str [78, 111, 76, 101, 116, 116, 101, 114]) (.cons (.isX 0 25) .nil))) .nil))) rfl g9 (by simp only [exec, execs, tv, ev, evs, eo, ct, asg, asgs, itv, bind_ok', go_ok, noEx_ok', setM, callP, pick, negM, isNM, mc_bt, t_bl, b_add, b_sub, b_mod, b_fdiv, b_pow3, b_pow18, b_pow30, b_str, c_lt, c_gt, c_le, c_ge, c_eqi, c_nei, c_eqs, c_nes, c_eqb, c_neb, f_len, f_max, f_min, f_abs, List.getElem?_cons_zero, List.getElem?_cons_succ, List.set_cons_zero, List.set_cons_succ, List.length_cons, List.length_nil, if_true, if_false, decide_true, decide_false, Bool.not_true, Bool.not_false, Bool.false_eq_true, Bool.or_true, Bool.true_or, Bool.or_false, Bool.false_or, Bool.and_true, Bool.true_and, Bool.and_false, Bool.false_and, beq_self_eq_true, X, t_tup2]; rfl) (by show 3 ≤ 1000; omega) (by show 2 ≤ 1000; omega)
  have gK : h10.get r8 = some (.lst (KN.map (row ds))) := q10.2 _ _ (q9.2 _ _ g8)
  have gL : h10.get r10 = some (.lst (LN.map (row ds))) := g10
  obtain ⟨h11, r11, z11, g11, q11⟩ := words (P := P) (C := callM P k) (a := some (.exc c l)) (b := none) (c := none) (x5 := none) (x6 := none) gK gL (by show 20 ≤ 100; omega) (by show 5 ≤ 100; omega)
  obtain ⟨h12, z12, q12⟩ := is_look (P := P) (C := callM P k) (a := some (.exc c l)) (b := some (.ref r8)) (c := some (.ref r11)) (x3 := none) (x4 := none) (q11.2 _ _ gL) (by show 5 ≤ 100; omega)
  rw [ha] at z12
  rw [hk] at g11
  have g12 := q12.2 _ _ g11
  have fl : bifM P .len [.ref r11] h12 = .ok (.int 1) h12 := by
    unfold bifM seqOf listOf
    simp only [g12]
    rfl
  have z13 : exec P (callM P k) W.s10_13 [some (.exc c l), some (.ref r8), some (.ref r10), some (.ref r11), some (.bl b), none, none] h12 = .nx [some (.exc c l), some (.ref r8), some (.ref r10), some (.ref r11), some (.bl b), none, none] h12 := by
    cases b <;> simp only [exec, execs, tv, ev, evs, eo, ct, asg, asgs, itv, bind_ok', go_ok, noEx_ok', setM, callP, pick, negM, isNM, mc_bt, t_bl, b_add, b_sub, b_mod, b_fdiv, b_pow3, b_pow18, b_pow30, b_str, c_lt, c_gt, c_le, c_ge, c_eqi, c_nei, c_eqs, c_nes, c_eqb, c_neb, f_len, f_max, f_min, f_abs, List.getElem?_cons_zero, List.getElem?_cons_succ, List.set_cons_zero, List.set_cons_succ, List.length_cons, List.length_nil, if_true, if_false, decide_true, decide_false, Bool.not_true, Bool.not_false, Bool.false_eq_true, Bool.or_true, Bool.true_or, Bool.or_false, Bool.false_or, Bool.and_true, Bool.true_and, Bool.and_false, Bool.false_and, beq_self_eq_true, W.s10_13, fl, X, e27, e26, beq_self_eq_true, c_nei, c_neb, c_eqb]
    · rfl
    · rfl
  have z14 : exec P (callM P k) W.s10_14 [some (.exc c l), some (.ref r8), some (.ref r10), some (.ref r11), some (.bl b), none, none] h12 = .rt (.str n) h12 := by
    have es := s_ref g12 (at_0 rfl)
    cases b <;> simp only [exec, execs, tv, ev, evs, eo, ct, asg, asgs, itv, bind_ok', go_ok, noEx_ok', setM, callP, pick, negM, isNM, mc_bt, t_bl, b_add, b_sub, b_mod, b_fdiv, b_pow3, b_pow18, b_pow30, b_str, c_lt, c_gt, c_le, c_ge, c_eqi, c_nei, c_eqs, c_nes, c_eqb, c_neb, f_len, f_max, f_min, f_abs, List.getElem?_cons_zero, List.getElem?_cons_succ, List.set_cons_zero, List.set_cons_succ, List.length_cons, List.length_nil, if_true, if_false, decide_true, decide_false, Bool.not_true, Bool.not_false, Bool.false_eq_true, Bool.or_true, Bool.true_or, Bool.or_false, Bool.false_or, Bool.and_true, Bool.true_and, Bool.and_false, Bool.false_and, beq_self_eq_true, W.s10_14, X, e28, es] <;> rfl
  refine ⟨h12, ?_, (((((((((((q0.trans q1).trans q2).trans q3).trans q4).trans q5).trans q6).trans q7).trans q8).trans q9).trans q10).trans q11).trans q12⟩
  rw [c_fn]
  exact f_rt [some (.exc c l), none, none, none, none, none, none] rfl rfl (x_nx z0 (x_nx z1 (x_nx z2 (x_nx z3 (x_nx z4 (x_nx z5 (x_nx z6 (x_nx z7 (x_nx z8 (x_nx z9 (x_nx z10 (x_nx z11 (x_nx z12 (x_nx z13 (x_rt z14)))))))))))))))
end
end WN
set_option linter.all false
set_option maxRecDepth 100000
set_option maxHeartbeats 4000000
namespace WN
open DM WB
/-! drawn names -/
theorem _root_.WB.Bag.grow {b : Nat} {h h' : MH} (w : Bag h b) (g : Grow h h') : Bag h' b := by
  obtain ⟨g0, m, hb, z⟩ := w
  exact ⟨g0, m, g.2 _ _ hb, z⟩
theorem acc_low : ∀ {acc : List MV}, (∀ x ∈ acc, ∃ c, x = .str [c] ∧ c ∈ LET) → ∃ t : Tx, acc = (t.map fun c => [c]).map MV.str ∧ (∀ c ∈ t, c ∈ LET) ∧ t.length = acc.length
  | [], _ => ⟨[], rfl, fun c h => (by cases h), rfl⟩
  | x :: xs, hx => by
    obtain ⟨c, rfl, hc⟩ := hx x List.mem_cons_self
    obtain ⟨t, rfl, ht, hl⟩ := acc_low fun y hy => hx y (List.mem_cons_of_mem _ hy)
    exact ⟨c :: t, rfl, fun d hd => (List.mem_cons.mp hd).elim (fun z => z ▸ hc) (ht d), by rw [List.length_cons, List.length_cons, hl]⟩
theorem lo_128 : ∀ c ∈ LET, c < 128 := by decide
theorem nth_in {t : Tx} {d : Int} {n : Nat} (hn : t.length = n) (h0 : 0 ≤ d) (h1 : d < n) : ∃ c, c ∈ t ∧ ∀ {h : MH}, subM (.str t) (.int d) h = .ok (.str [c]) h := by
  have hi : d.toNat < t.length := by omega
  refine ⟨t[d.toNat], List.getElem_mem hi, fun {h} => ?_⟩
  have := s_strn (h := h) (List.getElem?_eq_getElem hi)
  rwa [Int.toNat_of_nonneg h0] at this
theorem pick2 {l : List MV} {d : Int} {n : Nat} {Q : MV → Prop} (hn : l.length = n) (hq : ∀ v ∈ l, Q v) (h0 : 0 ≤ d) (h1 : d < n) : ∃ v, atL l d = some v ∧ Q v := by
  have hi : d.toNat < l.length := by omega
  exact ⟨_, at_i h0 (List.getElem?_eq_getElem hi), hq _ (List.getElem_mem hi)⟩
section
variable {P : Prog} [W.Fn P 2 W.F2] [W.Fn P 3 W.F3]
section
variable [W.Fn P 5 W.F5]
theorem drawn_ok {k b : Nat} {h : MH} (w : Bag h b) : ∃ n h', callM P (k + 2) 5 [.ref b] h = .ok (.str n) h' ∧ nm n = true ∧ n.length ≤ 9 ∧ (∀ c ∈ n, c < 128) ∧ Bag h' b ∧ Gb b h h' := by
  obtain ⟨d, h1, d0, d1, e1, w1, s1, f1⟩ := w.take (P := P) (k := k) 8 (by omega) (by omega)
  have ei : itv P (callM P (k + 1)) (.rng (.bin .add (.int 1) (.call 3 (.cons (.var 0) (.cons (.int 8) .nil)) .nil [] [.pos 0, .pos 1]))) [some (.ref b), some (.str LET), none, none] h = .ok (.items (rngL 0 (1 + d))) h1 :=
    it_rng (by simp only [exec, execs, tv, ev, evs, eo, ct, asg, asgs, itv, bind_ok', go_ok, noEx_ok', setM, callP, pick, negM, isNM, mc_bt, t_bl, b_add, b_sub, b_mod, b_fdiv, b_pow3, b_pow18, b_pow30, b_str, c_lt, c_gt, c_le, c_ge, c_eqi, c_nei, c_eqs, c_nes, c_eqb, c_neb, f_len, f_max, f_min, f_abs, List.getElem?_cons_zero, List.getElem?_cons_succ, List.set_cons_zero, List.set_cons_succ, List.length_cons, List.length_nil, if_true, if_false, decide_true, decide_false, Bool.not_true, Bool.not_false, Bool.false_eq_true, Bool.or_true, Bool.true_or, Bool.or_false, Bool.false_or, Bool.and_true, Bool.true_and, Bool.and_false, Bool.false_and, beq_self_eq_true, e1]) (by omega) (by omega)
  obtain ⟨acc, h2, e2, ⟨w2, gb2⟩, hl, hq⟩ := lc_all (elt := .sub (.var 1) (.call 3 (.cons (.var 0) (.cons (.int 26) .nil)) .nil [] [.pos 0, .pos 1])) (own := [3]) (j := 3) (Q := fun x => ∃ c, x = .str [c] ∧ c ∈ LET) ei (by rw [rng_len]; unfold LIM; omega) (fun h' => Bag h' b ∧ Gb b h h') ⟨w1, .of s1 f1⟩ (by
    rintro v hx _ ⟨w, g⟩
    obtain ⟨q, h', q0, q1, e, w', s', f'⟩ := w.take (P := P) (k := k) 26 (by omega) (by omega)
    obtain ⟨c, hc, ec⟩ := nth_in (t := LET) (n := 26) rfl q0 q1
    exact ⟨.str [c], h', by simp only [exec, execs, tv, ev, evs, eo, ct, asg, asgs, itv, bind_ok', go_ok, noEx_ok', setM, callP, pick, negM, isNM, mc_bt, t_bl, b_add, b_sub, b_mod, b_fdiv, b_pow3, b_pow18, b_pow30, b_str, c_lt, c_gt, c_le, c_ge, c_eqi, c_nei, c_eqs, c_nes, c_eqb, c_neb, f_len, f_max, f_min, f_abs, List.getElem?_cons_zero, List.getElem?_cons_succ, List.set_cons_zero, List.set_cons_succ, List.length_cons, List.length_nil, if_true, if_false, decide_true, decide_false, Bool.not_true, Bool.not_false, Bool.false_eq_true, Bool.or_true, Bool.true_or, Bool.or_false, Bool.false_or, Bool.and_true, Bool.true_and, Bool.and_false, Bool.false_and, beq_self_eq_true, wipe, e, ec], ⟨c, rfl, hc⟩, w', g.trans (.of s' f')⟩)
  rw [rng_len] at hl
  obtain ⟨t, rfl, ht, htl⟩ := acc_low hq
  have ej := m_join (h := h2.push (.lst ((t.map fun c => [c]).map MV.str))) get_push_size (by unfold LIM; omega)
  have w3 := w2.push (o := .lst ((t.map fun c => [c]).map MV.str))
  have gb3 := gb2.push (o := .lst ((t.map fun c => [c]).map MV.str))
  have es1 : exec P (callM P (k + 1)) W.s5_1 [some (.ref b), some (.str LET), none, none] h = .nx [some (.ref b), some (.str LET), some (.str t), none] (h2.push (.lst ((t.map fun c => [c]).map MV.str))) := by
    exact x_set (ev_met1 rfl k_join e2 ej)
  generalize (h2.push (.lst ((t.map fun c => [c]).map MV.str))) = h3 at es1 w3 gb3
  obtain ⟨u, h4, u0, u1, e4, w4, s4, f4⟩ := w3.take (P := P) (k := k) 8 (by omega) (by omega)
  obtain ⟨c, hc, ec⟩ := nth_in (t := [50, 51, 52, 53, 54, 55, 56, 57]) (n := 8) rfl u0 u1
  have n5 : newList h4 [.str [], .str [c]] = .ok (.ref h4.size) (h4.push (.lst [.str [], .str [c]])) := n_list (by simp [LIM])
  obtain ⟨x, h6, x0, x1, e6, w6, s6, f6⟩ := (w4.push (o := .lst [.str [], .str [c]])).take (P := P) (k := k) 2 (by omega) (by omega)
  obtain ⟨y, ey, f, rfl, hf⟩ := pick2 (Q := fun v => ∃ f, v = .str f ∧ (f = [] ∨ ∃ d, f = [d] ∧ fig [d] = true)) (l := [.str [], .str [c]]) (n := 2) rfl (by
    intro v hv
    simp only [List.mem_cons, List.not_mem_nil, or_false] at hv
    rcases hv with rfl | rfl
    · exact ⟨_, rfl, .inl rfl⟩
    · refine ⟨_, rfl, .inr ⟨c, rfl, ?_⟩⟩
      exact (show ∀ c ∈ ([50, 51, 52, 53, 54, 55, 56, 57] : Tx), fig [c] = true by decide) c hc) x0 x1
  have g6 : h6.get h4.size = some (.lst [.str [], .str [c]]) := by
    rw [f6 _ (Nat.ne_of_gt w4.lt)]
    exact get_push_size
  have p6 := s_ref g6 ey
  have fl : f.length ≤ 1 := by rcases hf with rfl | ⟨d, rfl, _⟩ <;> simp
  have bs := b_str (s := t) (t := f) (h := h6) (by unfold LIM; omega)
  refine ⟨t ++ f, h6, (c_fn (P := P)).trans (f_rt [some (.ref b), none, none, none] rfl rfl (x_nx (r := .cons W.s5_1 (.cons W.s5_2 .nil)) (σ1 := [some (.ref b), some (.str LET), none, none]) (h1 := h) ?_ (x_nx es1 (x_rt ?_)))), nm_of (by omega) (by omega) ht hf, by rw [List.length_append]; omega, ?_, w6, gb3.trans ((Gb.of s4 f4).push.trans (.of s6 f6))⟩
  · simp only [exec, execs, tv, ev, evs, eo, ct, asg, asgs, itv, bind_ok', go_ok, noEx_ok', setM, callP, pick, negM, isNM, mc_bt, t_bl, b_add, b_sub, b_mod, b_fdiv, b_pow3, b_pow18, b_pow30, b_str, c_lt, c_gt, c_le, c_ge, c_eqi, c_nei, c_eqs, c_nes, c_eqb, c_neb, f_len, f_max, f_min, f_abs, List.getElem?_cons_zero, List.getElem?_cons_succ, List.set_cons_zero, List.set_cons_succ, List.length_cons, List.length_nil, if_true, if_false, decide_true, decide_false, Bool.not_true, Bool.not_false, Bool.false_eq_true, Bool.or_true, Bool.true_or, Bool.or_false, Bool.false_or, Bool.and_true, Bool.true_and, Bool.and_false, Bool.false_and, beq_self_eq_true, W.s5_0, LET]
  · simp only [exec, execs, tv, ev, evs, eo, ct, asg, asgs, itv, bind_ok', go_ok, noEx_ok', setM, callP, pick, negM, isNM, mc_bt, t_bl, b_add, b_sub, b_mod, b_fdiv, b_pow3, b_pow18, b_pow30, b_str, c_lt, c_gt, c_le, c_ge, c_eqi, c_nei, c_eqs, c_nes, c_eqb, c_neb, f_len, f_max, f_min, f_abs, List.getElem?_cons_zero, List.getElem?_cons_succ, List.set_cons_zero, List.set_cons_succ, List.length_cons, List.length_nil, if_true, if_false, decide_true, decide_false, Bool.not_true, Bool.not_false, Bool.false_eq_true, Bool.or_true, Bool.true_or, Bool.or_false, Bool.false_or, Bool.and_true, Bool.true_and, Bool.and_false, Bool.false_and, beq_self_eq_true, W.s5_2, e4, ec, n5, e6, p6, bs]
  · intro q hq
    rcases List.mem_append.mp hq with hq | hq
    · exact lo_128 q (ht q hq)
    · rcases hf with rfl | ⟨d, rfl, hd⟩
      · cases hq
      · rw [List.mem_singleton.mp hq]
        unfold fig FIG at hd
        simp at hd
        omega
end
end
end WN
set_option maxRecDepth 100000
/-! printed by gen.py: the tables of law k02_next_names -/
namespace K02
open DM
/-- _law_good_name: slots 0 thing 1 core 2 sign -/
def s11_0 : St := .ite (.or_ (.not_ (.vl (.isi (.var 0) .str))) (.vl (.cmp .eq (.var 0) (.str [])))) (.cons (.ret (.bl false)) .nil) .nil
def s11_1 : St := .set (.nm 1) (.var 0)
def s11_2 : St := .ite (.vl (.cmp .isin (.sub (.var 0) (.neg (.int 1))) (.bif .list (.cons (.str [50, 51, 52, 53, 54, 55, 56, 57]) .nil)))) (.cons (.set (.nm 1) (.sl (.var 0) .no (.so (.neg (.int 1))))) .nil) .nil
def s11_3 : St := .ret (.and_ (.ch .le .le (.int 1) (.bif .len (.cons (.var 1) .nil)) (.int 8)) (.bif .all (.cons (.lc (.cmp .isin (.var 2) (.bif .list (.cons (.str [97, 98, 99, 100, 101, 102, 103, 104, 105, 106, 107, 108, 109, 110, 111, 112, 113, 114, 115, 116, 117, 118, 119, 120, 121, 122]) .nil))) [2] (.nm 2) (.ex (.var 1)) .no) .nil)))
def b11 : Ss := .cons s11_0 (.cons s11_1 (.cons s11_2 (.cons s11_3 .nil)))
abbrev F11 : FnD := ⟨1, 3, b11⟩
/-- _law_odd_name: slots 0 bag 1 title 2 signs 3 some 4 sign 5 spot -/
def s12_0 : St := .set (.nm 2) (.str [97, 98, 122, 48, 49, 50, 51, 52, 53, 54, 55, 56, 57, 32, 65, 90, 45, 95, 46, 44])
def s12_1 : St := .par [4, 5] (.cons (.sub (.var 2) (.call 3 (.cons (.var 0) (.cons (.int 20) .nil)) .nil [] [.pos 0, .pos 1])) (.cons (.call 3 (.cons (.var 0) (.cons (.bin .add (.bif .len (.cons (.var 1) .nil)) (.int 1)) .nil)) .nil [] [.pos 0, .pos 1]) .nil))
def s12_2 : St := .set (.nm 3) (.lst (.cons (.bin .add (.bin .add (.sl (.var 1) .no (.so (.var 5))) (.var 4)) (.sl (.var 1) (.so (.var 5)) .no)) (.cons (.bin .add (.sl (.var 1) .no (.so (.var 5))) (.sl (.var 1) (.so (.bin .add (.var 5) (.int 1))) .no)) (.cons (.bin .add (.bin .add (.sl (.var 1) .no (.so (.var 5))) (.var 4)) (.sl (.var 1) (.so (.bin .add (.var 5) (.int 1))) .no)) .nil))))
def s12_3 : St := .exp (.met 0 (.var 3) (.cons (.bin .add (.bin .add (.sl (.var 1) .no (.so (.var 5))) (.rev (.sl (.var 1) (.so (.var 5)) (.so (.bin .add (.var 5) (.int 2)))))) (.sl (.var 1) (.so (.bin .add (.var 5) (.int 2))) .no)) .nil) .nil [] [])
def s12_4 : St := .set (.nm 3) (.bin .add (.var 3) (.lst (.cons (.bin .add (.var 1) (.var 1)) (.cons (.bin .add (.var 1) (.var 4)) (.cons (.bin .add (.var 4) (.var 1)) .nil)))))
def s12_5 : St := .set (.nm 3) (.bin .add (.var 3) (.lst (.cons .non (.cons (.bl true) (.cons (.int 0) (.cons (.int 7) (.cons (.bin .pow (.int 10) (.int 30)) (.cons (.str []) (.cons (.str [50]) (.cons (.str [57]) (.cons (.str [97, 48]) (.cons (.str [97, 49]) (.cons (.str [97, 49, 48]) (.cons (.str [97, 98, 99, 100, 101, 102, 103, 104, 105]) (.cons (.str [97, 98, 99, 100, 101, 102, 103, 104, 50]) (.cons (.str [97, 98, 99, 100, 101, 102, 103, 104, 105, 50]) .nil))))))))))))))))
def s12_6 : St := .ret (.sub (.bin .add (.var 3) (.lst (.cons (.str [97, 50, 98]) (.cons (.tup (.cons (.var 1) .nil)) (.cons (.lst (.cons (.var 1) .nil)) (.cons (.lst .nil) (.cons (.tup (.cons (.str [97]) (.cons (.str [50]) .nil))) .nil))))))) (.call 3 (.cons (.var 0) (.cons (.int 26) .nil)) .nil [] [.pos 0, .pos 1]))
def b12 : Ss := .cons s12_0 (.cons s12_1 (.cons s12_2 (.cons s12_3 (.cons s12_4 (.cons s12_5 (.cons s12_6 .nil))))))
abbrev F12 : FnD := ⟨2, 6, b12⟩
/-- _law_next: slots 0 thing 1 found 2 e -/
def s13_0 : St := .set (.nm 1) (.str [])
def s13_1 : St := .try_ (.cons (.set (.nm 1) (.call 9 (.cons (.var 0) .nil) .nil [] [.pos 0])) .nil) 26 2 (.cons (.ret (.tup (.cons (.callX 10 2) .nil))) .nil)
def s13_2 : St := .ite (.not_ (.vl (.isi (.var 1) .str))) (.cons (.ret (.str [110, 111, 32, 116, 101, 120, 116])) .nil) .nil
def s13_3 : St := .ret (.ife (.vl (.cmp .eq (.call 9 .nil (.cons (.var 0) .nil) [101] [.kw 0]) (.var 1))) (.var 1) (.str [111, 116, 104, 101, 114, 119, 105, 115, 101, 32, 98, 121, 32, 105, 116, 115, 32, 110, 97, 109, 101]))
def b13 : Ss := .cons s13_0 (.cons s13_1 (.cons s13_2 (.cons s13_3 .nil)))
abbrev F13 : FnD := ⟨1, 3, b13⟩
/-- _law_due: slots 0 thing -/
def s14_0 : St := .ite (.not_ (.vl (.call 11 (.cons (.var 0) .nil) .nil [] [.pos 0]))) (.cons (.ret (.tup (.cons (.str [78, 111, 78, 97, 109, 101]) .nil))) .nil) .nil
def s14_1 : St := .ite (.vl (.cmp .eq (.sub (.var 0) (.neg (.int 1))) (.str [57]))) (.cons (.ret (.tup (.cons (.str [78, 111, 78, 101, 120, 116]) .nil))) .nil) .nil
def s14_2 : St := .ite (.vl (.cmp .isin (.sub (.var 0) (.neg (.int 1))) (.bif .list (.cons (.str [50, 51, 52, 53, 54, 55, 56]) .nil)))) (.cons (.ret (.bin .add (.sl (.var 0) .no (.so (.neg (.int 1)))) (.bif .str (.cons (.bin .add (.bif .int (.cons (.sub (.var 0) (.neg (.int 1))) .nil)) (.int 1)) .nil)))) .nil) .nil
def s14_3 : St := .ret (.bin .add (.var 0) (.str [50]))
def b14 : Ss := .cons s14_0 (.cons s14_1 (.cons s14_2 (.cons s14_3 .nil)))
abbrev F14 : FnD := ⟨1, 1, b14⟩
/-- law: slots 0 script 1 at 2 bag 3 turn 4 title 5 step 6 thing 7 told -/
def s15_0_0 : St := .set (.nm 2) (.call 2 (.cons (.var 0) (.cons (.var 1) .nil)) .nil [] [.pos 0, .pos 1])
def s15_0_1_0 : St := .set (.nm 4) (.call 5 (.cons (.var 2) .nil) .nil [] [.pos 0])
def s15_0_1_1_0 : St := .set (.nm 7) (.call 13 (.cons (.var 4) .nil) .nil [] [.pos 0])
def s15_0_1_1_1 : St := .ite (.or_ (.vl (.cmp .ne (.var 7) (.call 14 (.cons (.var 4) .nil) .nil [] [.pos 0]))) (.or_ (.vl (.cmp .ne (.call 9 (.cons (.str [98]) .nil) .nil [] [.pos 0]) (.str [98, 50]))) (.vl (.cmp .ne (.call 13 (.cons (.var 4) .nil) .nil [] [.pos 0]) (.var 7))))) (.cons (.ret (.bl false)) .nil) .nil
def s15_0_1_1_2 : St := .ite (.not_ (.vl (.isi (.var 7) .str))) (.cons .brk .nil) .nil
def s15_0_1_1_3 : St := .ite (.not_ (.vl (.call 1 (.cons (.var 7) .nil) .nil [] [.pos 0]))) (.cons (.ret (.bl false)) .nil) .nil
def s15_0_1_1_4 : St := .set (.nm 4) (.var 7)
def k15_0_1_1 : Ss := .cons s15_0_1_1_0 (.cons s15_0_1_1_1 (.cons s15_0_1_1_2 (.cons s15_0_1_1_3 (.cons s15_0_1_1_4 .nil))))
def s15_0_1_1 : St := .for_ (.nm 5) (.rng (.int 10)) k15_0_1_1
def s15_0_1_2 : St := .ite (.vl (.cmp .ne (.call 13 (.cons (.var 4) .nil) .nil [] [.pos 0]) (.tup (.cons (.str [78, 111, 78, 101, 120, 116]) .nil)))) (.cons (.ret (.bl false)) .nil) .nil
def s15_0_1_3_0 : St := .ite (.vl (.cmp .ne (.call 13 (.cons (.var 6) .nil) .nil [] [.pos 0]) (.call 14 (.cons (.var 6) .nil) .nil [] [.pos 0]))) (.cons (.ret (.bl false)) .nil) .nil
def k15_0_1_3 : Ss := .cons s15_0_1_3_0 .nil
def s15_0_1_3 : St := .for_ (.nm 6) (.ex (.lst (.cons (.call 12 (.cons (.var 2) (.cons (.var 4) .nil)) .nil [] [.pos 0, .pos 1]) (.cons (.call 12 (.cons (.var 2) (.cons (.call 5 (.cons (.var 2) .nil) .nil [] [.pos 0]) .nil)) .nil [] [.pos 0, .pos 1]) .nil)))) k15_0_1_3
def k15_0_1 : Ss := .cons s15_0_1_0 (.cons s15_0_1_1 (.cons s15_0_1_2 (.cons s15_0_1_3 .nil)))
def s15_0_1 : St := .for_ (.nm 3) (.rng (.int 4)) k15_0_1
def k15_0 : Ss := .cons s15_0_0 (.cons s15_0_1 .nil)
def s15_0 : St := .for_ (.nm 1) (.rng (.bif .max (.cons (.int 1) (.cons (.bif .min (.cons (.int 4) (.cons (.bif .len (.cons (.var 0) .nil)) .nil))) .nil)))) k15_0
def s15_1 : St := .ret (.bl true)
def b15 : Ss := .cons s15_0 (.cons s15_1 .nil)
abbrev F15 : FnD := ⟨1, 8, b15⟩
def fns : Nat → FnD
  | 1 => W.F1
  | 8 => W.F8
  | 9 => W.F9
  | 2 => W.F2
  | 3 => W.F3
  | 10 => W.F10
  | 11 => F11
  | 5 => W.F5
  | 12 => F12
  | 13 => F13
  | 14 => F14
  | 15 => F15
  | _ => ⟨0, 0, .nil⟩
def glob : Nat → MV
  | 1 => .kl [.str [50], .str [51], .str [52], .str [53], .str [54], .str [55], .str [56], .str [57]]
  | 2 => .str [97, 98, 99, 100, 101, 102, 103, 104, 105, 106, 107, 108, 109, 110, 111, 112, 113, 114, 115, 116, 117, 118, 119, 120, 121, 122]
  | 3 => .int 8
  | 4 => .str [57]
  | _ => .non
def atts : List Nat := []
def cls : Nat → ClD
  | _ => ⟨0, [], fun _ => false, false⟩
def xsubL : List (Nat × Nat) := [(1, 1), (1, 26), (1, 28), (2, 2), (2, 26), (2, 28), (3, 3), (3, 26), (3, 28), (4, 4), (4, 26), (4, 28), (5, 5), (5, 26), (5, 28), (6, 6), (6, 26), (6, 28), (7, 7), (7, 26), (7, 28), (8, 8), (8, 26), (8, 28), (9, 9), (9, 26), (9, 28), (10, 10), (10, 26), (10, 28), (11, 11), (11, 26), (11, 28), (12, 12), (12, 26), (12, 28), (13, 13), (13, 26), (13, 28), (14, 14), (14, 26), (14, 28), (15, 15), (15, 26), (15, 28), (16, 16), (16, 26), (16, 28), (17, 17), (17, 26), (17, 28), (18, 18), (18, 26), (18, 28), (19, 19), (19, 26), (19, 28), (20, 20), (20, 26), (20, 28), (21, 21), (21, 27), (22, 22), (22, 27), (23, 23), (23, 27), (24, 24), (24, 27), (25, 25), (25, 27), (26, 26), (26, 28), (27, 27), (28, 28)]
abbrev P (shw : PD → Tx) : Prog := ⟨glob, fns, cls, shw, fun c d => xsubL.contains (c, d), fun _ => 0⟩
instance {shw : PD → Tx} : W.Xs (P shw) 1 1 true := ⟨rfl⟩
instance {shw : PD → Tx} : W.Xs (P shw) 1 2 false := ⟨rfl⟩
instance {shw : PD → Tx} : W.Xs (P shw) 1 3 false := ⟨rfl⟩
instance {shw : PD → Tx} : W.Xs (P shw) 1 4 false := ⟨rfl⟩
instance {shw : PD → Tx} : W.Xs (P shw) 1 5 false := ⟨rfl⟩
instance {shw : PD → Tx} : W.Xs (P shw) 1 6 false := ⟨rfl⟩
instance {shw : PD → Tx} : W.Xs (P shw) 1 7 false := ⟨rfl⟩
instance {shw : PD → Tx} : W.Xs (P shw) 1 8 false := ⟨rfl⟩
instance {shw : PD → Tx} : W.Xs (P shw) 1 9 false := ⟨rfl⟩
instance {shw : PD → Tx} : W.Xs (P shw) 1 10 false := ⟨rfl⟩
instance {shw : PD → Tx} : W.Xs (P shw) 1 11 false := ⟨rfl⟩
instance {shw : PD → Tx} : W.Xs (P shw) 1 12 false := ⟨rfl⟩
instance {shw : PD → Tx} : W.Xs (P shw) 1 13 false := ⟨rfl⟩
instance {shw : PD → Tx} : W.Xs (P shw) 1 14 false := ⟨rfl⟩
instance {shw : PD → Tx} : W.Xs (P shw) 1 15 false := ⟨rfl⟩
instance {shw : PD → Tx} : W.Xs (P shw) 1 16 false := ⟨rfl⟩
instance {shw : PD → Tx} : W.Xs (P shw) 1 17 false := ⟨rfl⟩
instance {shw : PD → Tx} : W.Xs (P shw) 1 18 false := ⟨rfl⟩
instance {shw : PD → Tx} : W.Xs (P shw) 1 19 false := ⟨rfl⟩
instance {shw : PD → Tx} : W.Xs (P shw) 1 20 false := ⟨rfl⟩
instance {shw : PD → Tx} : W.Xs (P shw) 1 21 false := ⟨rfl⟩
instance {shw : PD → Tx} : W.Xs (P shw) 1 22 false := ⟨rfl⟩
instance {shw : PD → Tx} : W.Xs (P shw) 1 23 false := ⟨rfl⟩
instance {shw : PD → Tx} : W.Xs (P shw) 1 24 false := ⟨rfl⟩
instance {shw : PD → Tx} : W.Xs (P shw) 1 25 false := ⟨rfl⟩
instance {shw : PD → Tx} : W.Xs (P shw) 1 26 true := ⟨rfl⟩
instance {shw : PD → Tx} : W.Xs (P shw) 1 27 false := ⟨rfl⟩
instance {shw : PD → Tx} : W.Xs (P shw) 1 28 true := ⟨rfl⟩
instance {shw : PD → Tx} : W.Xs (P shw) 2 1 false := ⟨rfl⟩
instance {shw : PD → Tx} : W.Xs (P shw) 2 2 true := ⟨rfl⟩
instance {shw : PD → Tx} : W.Xs (P shw) 2 3 false := ⟨rfl⟩
instance {shw : PD → Tx} : W.Xs (P shw) 2 4 false := ⟨rfl⟩
instance {shw : PD → Tx} : W.Xs (P shw) 2 5 false := ⟨rfl⟩
instance {shw : PD → Tx} : W.Xs (P shw) 2 6 false := ⟨rfl⟩
instance {shw : PD → Tx} : W.Xs (P shw) 2 7 false := ⟨rfl⟩
instance {shw : PD → Tx} : W.Xs (P shw) 2 8 false := ⟨rfl⟩
instance {shw : PD → Tx} : W.Xs (P shw) 2 9 false := ⟨rfl⟩
instance {shw : PD → Tx} : W.Xs (P shw) 2 10 false := ⟨rfl⟩
instance {shw : PD → Tx} : W.Xs (P shw) 2 11 false := ⟨rfl⟩
instance {shw : PD → Tx} : W.Xs (P shw) 2 12 false := ⟨rfl⟩
instance {shw : PD → Tx} : W.Xs (P shw) 2 13 false := ⟨rfl⟩
instance {shw : PD → Tx} : W.Xs (P shw) 2 14 false := ⟨rfl⟩
instance {shw : PD → Tx} : W.Xs (P shw) 2 15 false := ⟨rfl⟩
instance {shw : PD → Tx} : W.Xs (P shw) 2 16 false := ⟨rfl⟩
instance {shw : PD → Tx} : W.Xs (P shw) 2 17 false := ⟨rfl⟩
instance {shw : PD → Tx} : W.Xs (P shw) 2 18 false := ⟨rfl⟩
instance {shw : PD → Tx} : W.Xs (P shw) 2 19 false := ⟨rfl⟩
instance {shw : PD → Tx} : W.Xs (P shw) 2 20 false := ⟨rfl⟩
instance {shw : PD → Tx} : W.Xs (P shw) 2 21 false := ⟨rfl⟩
instance {shw : PD → Tx} : W.Xs (P shw) 2 22 false := ⟨rfl⟩
instance {shw : PD → Tx} : W.Xs (P shw) 2 23 false := ⟨rfl⟩
instance {shw : PD → Tx} : W.Xs (P shw) 2 24 false := ⟨rfl⟩
instance {shw : PD → Tx} : W.Xs (P shw) 2 25 false := ⟨rfl⟩
instance {shw : PD → Tx} : W.Xs (P shw) 2 26 true := ⟨rfl⟩
instance {shw : PD → Tx} : W.Xs (P shw) 2 27 false := ⟨rfl⟩
instance {shw : PD → Tx} : W.Xs (P shw) 2 28 true := ⟨rfl⟩
instance {shw : PD → Tx} : W.Fn (P shw) 1 W.F1 := ⟨rfl⟩
instance {shw : PD → Tx} : W.Fn (P shw) 8 W.F8 := ⟨rfl⟩
instance {shw : PD → Tx} : W.Fn (P shw) 9 W.F9 := ⟨rfl⟩
instance {shw : PD → Tx} : W.Fn (P shw) 2 W.F2 := ⟨rfl⟩
instance {shw : PD → Tx} : W.Fn (P shw) 3 W.F3 := ⟨rfl⟩
instance {shw : PD → Tx} : W.Fn (P shw) 10 W.F10 := ⟨rfl⟩
instance {shw : PD → Tx} : W.Fn (P shw) 11 F11 := ⟨rfl⟩
instance {shw : PD → Tx} : W.Fn (P shw) 5 W.F5 := ⟨rfl⟩
instance {shw : PD → Tx} : W.Fn (P shw) 12 F12 := ⟨rfl⟩
instance {shw : PD → Tx} : W.Fn (P shw) 13 F13 := ⟨rfl⟩
instance {shw : PD → Tx} : W.Fn (P shw) 14 F14 := ⟨rfl⟩
instance {shw : PD → Tx} : W.Fn (P shw) 15 F15 := ⟨rfl⟩
instance {shw : PD → Tx} : W.Gl (P shw) 1 (.kl [.str [50], .str [51], .str [52], .str [53], .str [54], .str [55], .str [56], .str [57]]) := ⟨rfl⟩
instance {shw : PD → Tx} : W.Gl (P shw) 2 (.str [97, 98, 99, 100, 101, 102, 103, 104, 105, 106, 107, 108, 109, 110, 111, 112, 113, 114, 115, 116, 117, 118, 119, 120, 121, 122]) := ⟨rfl⟩
instance {shw : PD → Tx} : W.Gl (P shw) 3 (.int 8) := ⟨rfl⟩
instance {shw : PD → Tx} : W.Gl (P shw) 4 (.str [57]) := ⟨rfl⟩
def nlaw : Nat := 15
end K02
set_option linter.all false
set_option maxRecDepth 100000
set_option maxHeartbeats 4000000
namespace K02
open DM WB WN
variable {shw : PD → Tx}
theorem in_figs {x : Tx} {h : MH} {r : Nat} (g : h.get r = some (.lst (FIG.map MV.str))) : cmpM .isin (.str x) (.ref r) h = .ok (.bl (fig x)) h := in_refs g
theorem signs_str (s : Tx) : (s.map fun c => MV.str [c]) = (s.map fun c => [c]).map MV.str := by rw [List.map_map]; rfl
theorem let_in {c : Nat} : (LET.map fun c => [c]).any (fun z => z == [c]) = low c := by
  unfold low
  rw [List.any_map, Bool.eq_iff_iff, List.any_eq_true]
  simp
theorem good_all {k : Nat} {a c : Option MV} {t : Tx} {h : MH} (ht : t.length ≤ LIM) : ∃ h', ev (P shw) (callM (P shw) k) (.bif .all (.cons (.lc (.cmp .isin (.var 2) (.bif .list (.cons (.str LET) .nil))) [2] (.nm 2) (.ex (.var 1)) .no) .nil)) [a, some (.str t), c] h = .ok (.bl (t.all low)) h' ∧ Grow h h' := by
  have ei : itv (P shw) (callM (P shw) k) (.ex (.var 1)) [a, some (.str t), c] h = .ok (.items (t.map fun c => .str [c])) h := it_str rfl
  obtain ⟨h', e, gr⟩ := lc_map (elt := .cmp .isin (.var 2) (.bif .list (.cons (.str LET) .nil))) (own := [2]) (j := 2) (F := fun v => match v with
    | .str [c] => .bl (low c)
    | _ => .non) ei (by rw [List.length_map]; exact ht) (fun h' => Grow h h') .refl (by
      intro v h1 hv gr
      obtain ⟨c, _, rfl⟩ := List.mem_map.mp hv
      have el := f_lists (P := P shw) (s := LET) (h := h1) (by simp [LET, LIM])
      have e2 := in_refs (s := [c]) (h := h1.push (.lst (LET.map fun c => MV.str [c]))) (r := h1.size) (l := LET.map fun c => [c]) (by rw [← signs_str]; exact get_push_size)
      rw [let_in] at e2
      refine ⟨h1.push (.lst (LET.map fun c => MV.str [c])), ?_, gr.push⟩
      simp only [exec, execs, tv, ev, evs, eo, ct, asg, asgs, itv, bind_ok', go_ok, noEx_ok', setM, callP, pick, negM, isNM, mc_bt, t_bl, b_add, b_sub, b_mod, b_fdiv, b_pow3, b_pow18, b_pow30, b_str, c_lt, c_gt, c_le, c_ge, c_eqi, c_nei, c_eqs, c_nes, c_eqb, c_neb, f_len, f_max, f_min, f_abs, List.getElem?_cons_zero, List.getElem?_cons_succ, List.set_cons_zero, List.set_cons_succ, List.length_cons, List.length_nil, if_true, if_false, decide_true, decide_false, Bool.not_true, Bool.not_false, Bool.false_eq_true, Bool.or_true, Bool.true_or, Bool.or_false, Bool.false_or, Bool.and_true, Bool.true_and, Bool.and_false, Bool.false_and, beq_self_eq_true, wipe, el, e2])
  rw [List.map_map] at e
  refine ⟨h'.push (.lst (t.map fun c => .bl (low c))), ?_, gr.push⟩
  have e2 := f_all (P := P shw) (h := h'.push (.lst (t.map fun c => MV.bl (low c)))) (r := h'.size) get_push_size (allT_map low t)
  simp only [ev, evs] at e ⊢
  rw [e]
  simp only [bind_ok']
  exact e2
theorem good_ch {k : Nat} {a c : Option MV} {t : Tx} {h : MH} (ht : t.length ≤ LIM) : ev (P shw) (callM (P shw) k) (.ch .le .le (.int 1) (.bif .len (.cons (.var 1) .nil)) (.int 8)) [a, some (.str t), c] h = .ok (.bl (decide (1 ≤ t.length) && decide (t.length ≤ 8))) h := by
  have e1 : decide ((1:Int) ≤ t.length) = decide (1 ≤ t.length) := by rw [decide_eq_decide]; omega
  have e2 : decide ((t.length : Int) ≤ 8) = decide (t.length ≤ 8) := by rw [decide_eq_decide]; omega
  cases b1 : decide (1 ≤ t.length) <;> simp only [exec, execs, tv, ev, evs, eo, ct, asg, asgs, itv, bind_ok', go_ok, noEx_ok', setM, callP, pick, negM, isNM, mc_bt, t_bl, b_add, b_sub, b_mod, b_fdiv, b_pow3, b_pow18, b_pow30, b_str, c_lt, c_gt, c_le, c_ge, c_eqi, c_nei, c_eqs, c_nes, c_eqb, c_neb, f_len, f_max, f_min, f_abs, List.getElem?_cons_zero, List.getElem?_cons_succ, List.set_cons_zero, List.set_cons_succ, List.length_cons, List.length_nil, if_true, if_false, decide_true, decide_false, Bool.not_true, Bool.not_false, Bool.false_eq_true, Bool.or_true, Bool.true_or, Bool.or_false, Bool.false_or, Bool.and_true, Bool.true_and, Bool.and_false, Bool.false_and, beq_self_eq_true, chM, f_lens ht, le_dec, e1, e2, b1]
theorem good_ok {k : Nat} {h : MH} {s : Tx} (hs : s.length ≤ LIM) : ∃ h', callM (P shw) (k + 1) 11 [.str s] h = .ok (.bl (nm s)) h' ∧ Grow h h' := by
  rcases List.eq_nil_or_concat s with rfl | ⟨l, c, rfl⟩
  · refine ⟨h, f_rt [some (.str []), none, none] rfl rfl (x_rt (r := .cons s11_1 (.cons s11_2 (.cons s11_3 .nil))) ?_), .refl⟩
    rw [nm_nil]
    simp only [exec, execs, tv, ev, evs, eo, ct, asg, asgs, itv, bind_ok', go_ok, noEx_ok', setM, callP, pick, negM, isNM, mc_bt, t_bl, b_add, b_sub, b_mod, b_fdiv, b_pow3, b_pow18, b_pow30, b_str, c_lt, c_gt, c_le, c_ge, c_eqi, c_nei, c_eqs, c_nes, c_eqb, c_neb, f_len, f_max, f_min, f_abs, List.getElem?_cons_zero, List.getElem?_cons_succ, List.set_cons_zero, List.set_cons_succ, List.length_cons, List.length_nil, if_true, if_false, decide_true, decide_false, Bool.not_true, Bool.not_false, Bool.false_eq_true, Bool.or_true, Bool.true_or, Bool.or_false, Bool.false_or, Bool.and_true, Bool.true_and, Bool.and_false, Bool.false_and, beq_self_eq_true, s11_0, isi_s]
  · rw [List.concat_eq_append] at hs ⊢
    have hc : (core (l ++ [c])).length ≤ LIM := Nat.le_trans core_len hs
    have e1 : exec (P shw) (callM (P shw) k) s11_0 [some (.str (l ++ [c])), none, none] h = .nx [some (.str (l ++ [c])), none, none] h := by
      have en : ((l ++ [c]) == ([] : Tx)) = false := by rw [beq_eq_false_iff_ne]; simp
      simp only [exec, execs, tv, ev, evs, eo, ct, asg, asgs, itv, bind_ok', go_ok, noEx_ok', setM, callP, pick, negM, isNM, mc_bt, t_bl, b_add, b_sub, b_mod, b_fdiv, b_pow3, b_pow18, b_pow30, b_str, c_lt, c_gt, c_le, c_ge, c_eqi, c_nei, c_eqs, c_nes, c_eqb, c_neb, f_len, f_max, f_min, f_abs, List.getElem?_cons_zero, List.getElem?_cons_succ, List.set_cons_zero, List.set_cons_succ, List.length_cons, List.length_nil, if_true, if_false, decide_true, decide_false, Bool.not_true, Bool.not_false, Bool.false_eq_true, Bool.or_true, Bool.true_or, Bool.or_false, Bool.false_or, Bool.and_true, Bool.true_and, Bool.and_false, Bool.false_and, beq_self_eq_true, s11_0, isi_s, en]
    have el := f_lists (P := P shw) (s := [50, 51, 52, 53, 54, 55, 56, 57]) (h := h) (by simp [LIM])
    have ef := in_figs (x := [c]) (h := h.push (.lst (([50, 51, 52, 53, 54, 55, 56, 57] : Tx).map fun c => MV.str [c]))) (r := h.size) get_push_size
    have g1 : Grow h (h.push (.lst (([50, 51, 52, 53, 54, 55, 56, 57] : Tx).map fun c => MV.str [c]))) := .one
    generalize (h.push (.lst (([50, 51, 52, 53, 54, 55, 56, 57] : Tx).map fun c => MV.str [c]))) = h1 at el ef g1
    have e2 : exec (P shw) (callM (P shw) k) s11_2 [some (.str (l ++ [c])), some (.str (l ++ [c])), none] h = .nx [some (.str (l ++ [c])), some (.str (core (l ++ [c]))), none] h1 := by
      rw [core_snoc]
      cases hf : fig [c] <;> simp only [exec, execs, tv, ev, evs, eo, ct, asg, asgs, itv, bind_ok', go_ok, noEx_ok', setM, callP, pick, negM, isNM, mc_bt, t_bl, b_add, b_sub, b_mod, b_fdiv, b_pow3, b_pow18, b_pow30, b_str, c_lt, c_gt, c_le, c_ge, c_eqi, c_nei, c_eqs, c_nes, c_eqb, c_neb, f_len, f_max, f_min, f_abs, List.getElem?_cons_zero, List.getElem?_cons_succ, List.set_cons_zero, List.set_cons_succ, List.length_cons, List.length_nil, if_true, if_false, decide_true, decide_false, Bool.not_true, Bool.not_false, Bool.false_eq_true, Bool.or_true, Bool.true_or, Bool.or_false, Bool.false_or, Bool.and_true, Bool.true_and, Bool.and_false, Bool.false_and, beq_self_eq_true, s11_2, n_neg, s_last, el, ef, hf, o_m1, sl_txt, cut_init]
    obtain ⟨h', e3, gr⟩ := good_all (shw := shw) (k := k) (a := some (.str (l ++ [c]))) (c := none) (h := h1) hc
    have e4 := good_ch (shw := shw) (k := k) (a := some (.str (l ++ [c]))) (c := none) (h := h1) hc
    have eb : exec (P shw) (callM (P shw) k) s11_1 [some (.str (l ++ [c])), none, none] h = .nx [some (.str (l ++ [c])), some (.str (l ++ [c])), none] h := by
      simp only [exec, execs, tv, ev, evs, eo, ct, asg, asgs, itv, bind_ok', go_ok, noEx_ok', setM, callP, pick, negM, isNM, mc_bt, t_bl, b_add, b_sub, b_mod, b_fdiv, b_pow3, b_pow18, b_pow30, b_str, c_lt, c_gt, c_le, c_ge, c_eqi, c_nei, c_eqs, c_nes, c_eqb, c_neb, f_len, f_max, f_min, f_abs, List.getElem?_cons_zero, List.getElem?_cons_succ, List.set_cons_zero, List.set_cons_succ, List.length_cons, List.length_nil, if_true, if_false, decide_true, decide_false, Bool.not_true, Bool.not_false, Bool.false_eq_true, Bool.or_true, Bool.true_or, Bool.or_false, Bool.false_or, Bool.and_true, Bool.true_and, Bool.and_false, Bool.false_and, beq_self_eq_true, s11_1]
    cases hb : (decide (1 ≤ (core (l ++ [c])).length) && decide ((core (l ++ [c])).length ≤ 8)) with
    | false =>
      refine ⟨h1, f_rt [some (.str (l ++ [c])), none, none] rfl rfl (x_nx (r := .cons s11_1 (.cons s11_2 (.cons s11_3 .nil))) e1 (x_nx eb (x_nx e2 (x_rt ?_)))), g1⟩
      unfold nm
      rw [hb] at e4 ⊢
      unfold s11_3 exec
      rw [ev, e4]
      rfl
    | true =>
      refine ⟨h', f_rt [some (.str (l ++ [c])), none, none] rfl rfl (x_nx (r := .cons s11_1 (.cons s11_2 (.cons s11_3 .nil))) e1 (x_nx eb (x_nx e2 (x_rt ?_)))), g1.trans gr⟩
      unfold nm
      rw [hb] at e4 ⊢
      unfold s11_3 exec
      rw [ev, e4]
      simp only [bind_ok', t_bl, if_true, Bool.true_and]
      unfold LET at e3
      rw [e3]
      rfl

theorem odd_good {k : Nat} {h : MH} {v : MV} (o : Odd h v) : callM (P shw) (k + 1) 11 [v] h = .ok (.bl false) h := by
  refine f_rt [some v, none, none] rfl rfl (x_rt (r := .cons s11_1 (.cons s11_2 (.cons s11_3 .nil))) ?_)
  simp only [exec, execs, tv, ev, evs, eo, ct, asg, asgs, itv, bind_ok', go_ok, noEx_ok', setM, callP, pick, negM, isNM, mc_bt, t_bl, b_add, b_sub, b_mod, b_fdiv, b_pow3, b_pow18, b_pow30, b_str, c_lt, c_gt, c_le, c_ge, c_eqi, c_nei, c_eqs, c_nes, c_eqb, c_neb, f_len, f_max, f_min, f_abs, List.getElem?_cons_zero, List.getElem?_cons_succ, List.set_cons_zero, List.set_cons_succ, List.length_cons, List.length_nil, if_true, if_false, decide_true, decide_false, Bool.not_true, Bool.not_false, Bool.false_eq_true, Bool.or_true, Bool.true_or, Bool.or_false, Bool.false_or, Bool.and_true, Bool.true_and, Bool.and_false, Bool.false_and, beq_self_eq_true, s11_0, o.isi]
/-- what is asked: a text, or something else, with what it holds -/
def Thing (b : Nat) (h : MH) (v : MV) : Prop := ((∃ s : Tx, v = .str s ∧ s.length ≤ 40) ∨ ∀ h', Gb b h h' → Odd h' v) ∧ ∃ d, (∀ h', Gb b h h' → dat DEP h' v = some d) ∧ shwOk d = true ∧ msz d ≤ LIM
theorem Thing.grow {n : Nat} {h h' : MH} {v : MV} (t : Thing n h v) (g : Gb n h h') : Thing n h' v := by
  obtain ⟨a, d, b, c⟩ := t
  exact ⟨a.imp id fun z h2 g2 => z h2 (g.trans g2), d, fun h2 g2 => b h2 (g.trans g2), c⟩
def Ts (n : Nat) (s : Tx) : Prop := s.length ≤ n ∧ ∀ c ∈ s, c < 128
theorem Ts.app {a b n m : Nat} {s t : Tx} (x : Ts a s) (y : Ts b t) (h : a + b ≤ n) : Ts n (s ++ t) := ⟨by rw [List.length_append]; have := x.1; have := y.1; omega, fun c hc => (List.mem_append.mp hc).elim (x.2 c) (y.2 c)⟩
theorem Ts.cut {n : Nat} {s : Tx} {lo hi : Option Int} (x : Ts n s) : Ts n (cut s lo hi) := ⟨Nat.le_trans cut_le x.1, fun c hc => x.2 c (cut_in hc)⟩
theorem Ts.rev {n : Nat} {s : Tx} (x : Ts n s) : Ts n s.reverse := ⟨by rw [List.length_reverse]; exact x.1, fun c hc => x.2 c (List.mem_reverse.mp hc)⟩
theorem Ts.sh {n : Nat} {s : Tx} (x : Ts n s) (hn : n ≤ 40) : shwOk (.str s) = true ∧ msz (.str s) ≤ 402 := by
  refine ⟨?_, ?_⟩
  · unfold shwOk
    rw [List.all_eq_true]
    intro c hc
    have := x.2 c hc
    exact decide_eq_true (by omega)
  · unfold msz
    have := x.1
    omega
theorem thing_str {b n : Nat} {h : MH} {s : Tx} (x : Ts n s) (hn : n ≤ 40) : Thing b h (.str s) := by
  obtain ⟨a, c⟩ := x.sh hn
  exact ⟨.inl ⟨s, rfl, Nat.le_trans x.1 hn⟩, .str s, fun h' _ => rfl, a, by unfold LIM; omega⟩
theorem thing_flat {b : Nat} {h : MH} {v : MV} {a : Tt} {d : PD} (e1 : ∀ h, tyM h v = some a) (e2 : subT a .str = some false ∧ ∀ P, Tt.ok P a = true) (e3 : ∀ h, dat DEP h v = some d) (e4 : shwOk d = true) (e5 : msz d ≤ LIM) : Thing b h v :=
  ⟨.inr fun h' _ => ⟨a, e1 h', e2.1, e2.2⟩, d, fun h' _ => e3 h', e4, e5⟩
theorem thing_list {b r : Nat} {h : MH} {l : List Tx} (g : h.get r = some (.lst (l.map MV.str))) (hb : r ≠ b) (e4 : shwOks (l.map PD.str) = true) (e5 : mszs (l.map PD.str) + 3 ≤ LIM) : Thing b h (.ref r) := by
  refine ⟨.inr fun h' gb => ⟨.lst, ?_, rfl, fun _ => rfl⟩, .lst (l.map PD.str), fun h' gb => ?_, by simp only [shwOk]; exact e4, by simp only [msz]; exact e5⟩
  · unfold tyM
    simp only [gb.2 r _ hb g]
  · unfold DEP
    simp only [dat, gb.2 r _ hb g, dat_strs, Option.map_some]
theorem b_str' {s t : Tx} {h : MH} (a : s.length ≤ 1000) (b : t.length ≤ 1000) : binM .add (.str s) (.str t) h = .ok (.str (s ++ t)) h := b_str (by unfold LIM; omega)
theorem odd_ok {k b : Nat} {h : MH} {n : Tx} (w : Bag h b) (hn : Ts 9 n) : ∃ v h', callM (P shw) (k + 2) 12 [.ref b, .str n] h = .ok v h' ∧ Thing b h' v ∧ Bag h' b ∧ Gb b h h' := by
  obtain ⟨d, h1, d0, d1, e1, w1, s1, f1⟩ := w.take (P := P shw) (k := k) 20 (by omega) (by omega)
  obtain ⟨c, hc, ec⟩ := nth_in (t := [97, 98, 122, 48, 49, 50, 51, 52, 53, 54, 55, 56, 57, 32, 65, 90, 45, 95, 46, 44]) (n := 20) rfl d0 d1
  have c128 : c < 128 := (show ∀ c ∈ ([97, 98, 122, 48, 49, 50, 51, 52, 53, 54, 55, 56, 57, 32, 65, 90, 45, 95, 46, 44] : Tx), c < 128 by decide) c hc
  have tc : Ts 1 [c] := ⟨Nat.le_refl _, fun x hx => by rw [List.mem_singleton.mp hx]; exact c128⟩
  have n9 := hn.1
  obtain ⟨q, h2, q0, q1, e2, w2, s2, f2⟩ := w1.take (P := P shw) (k := k) ((n.length : Int) + 1) (by omega) (by omega)
  have o0 : ∀ {h : MH}, oiM (.int q) h = .ok (some q) h := o_ok ⟨by omega, by omega⟩
  have o1 : ∀ {h : MH}, oiM (.int (q + 1)) h = .ok (some (q + 1)) h := o_ok ⟨by omega, by omega⟩
  have o2 : ∀ {h : MH}, oiM (.int (q + 2)) h = .ok (some (q + 2)) h := o_ok ⟨by omega, by omega⟩
  obtain ⟨A, eA, tA⟩ : ∃ A, cut n none (some q) = A ∧ Ts 9 A := ⟨_, rfl, hn.cut⟩
  obtain ⟨B, eB, tB⟩ : ∃ A, cut n (some q) none = A ∧ Ts 9 A := ⟨_, rfl, hn.cut⟩
  obtain ⟨B1, eB1, tB1⟩ : ∃ A, cut n (some (q + 1)) none = A ∧ Ts 9 A := ⟨_, rfl, hn.cut⟩
  obtain ⟨B2, eB2, tB2⟩ : ∃ A, cut n (some (q + 2)) none = A ∧ Ts 9 A := ⟨_, rfl, hn.cut⟩
  obtain ⟨M, eM, tM⟩ : ∃ A, cut n (some q) (some (q + 2)) = A ∧ Ts 9 A := ⟨_, rfl, hn.cut⟩
  have tR := tM.rev
  have ln : ∀ {h : MH}, bifM (P shw) .len [.str n] h = .ok (.int n.length) h := f_lens (by unfold LIM; omega)
  have u1 := tA.app tc (n := 10) (m := 0) (by omega)
  have u2 := u1.app tB (n := 19) (m := 0) (by omega)
  have u3 := tA.app tB1 (n := 18) (m := 0) (by omega)
  have u4 := u1.app tB1 (n := 19) (m := 0) (by omega)
  have u5 := tA.app tR (n := 18) (m := 0) (by omega)
  have u6 := u5.app tB2 (n := 27) (m := 0) (by omega)
  have u7 := hn.app hn (n := 18) (m := 0) (by omega)
  have u8 := hn.app tc (n := 10) (m := 0) (by omega)
  have u9 := tc.app hn (n := 10) (m := 0) (by omega)
  have k1 : ∀ {h : MH}, binM .add (.str A) (.str [c]) h = .ok (.str (A ++ [c])) h := b_str' (Nat.le_trans tA.1 (by omega)) (Nat.le_trans tc.1 (by omega))
  have k2 : ∀ {h : MH}, binM .add (.str (A ++ [c])) (.str B) h = .ok (.str (A ++ [c] ++ B)) h := b_str' (Nat.le_trans u1.1 (by omega)) (Nat.le_trans tB.1 (by omega))
  have k3 : ∀ {h : MH}, binM .add (.str A) (.str B1) h = .ok (.str (A ++ B1)) h := b_str' (Nat.le_trans tA.1 (by omega)) (Nat.le_trans tB1.1 (by omega))
  have k4 : ∀ {h : MH}, binM .add (.str (A ++ [c])) (.str B1) h = .ok (.str (A ++ [c] ++ B1)) h := b_str' (Nat.le_trans u1.1 (by omega)) (Nat.le_trans tB1.1 (by omega))
  have k5 : ∀ {h : MH}, binM .add (.str A) (.str M.reverse) h = .ok (.str (A ++ M.reverse)) h := b_str' (Nat.le_trans tA.1 (by omega)) (Nat.le_trans tR.1 (by omega))
  have k6 : ∀ {h : MH}, binM .add (.str (A ++ M.reverse)) (.str B2) h = .ok (.str (A ++ M.reverse ++ B2)) h := b_str' (Nat.le_trans u5.1 (by omega)) (Nat.le_trans tB2.1 (by omega))
  have k7 : ∀ {h : MH}, binM .add (.str n) (.str n) h = .ok (.str (n ++ n)) h := b_str' (Nat.le_trans hn.1 (by omega)) (Nat.le_trans hn.1 (by omega))
  have k8 : ∀ {h : MH}, binM .add (.str n) (.str [c]) h = .ok (.str (n ++ [c])) h := b_str' (Nat.le_trans hn.1 (by omega)) (Nat.le_trans tc.1 (by omega))
  have k9 : ∀ {h : MH}, binM .add (.str [c]) (.str n) h = .ok (.str ([c] ++ n)) h := b_str' (Nat.le_trans tc.1 (by omega)) (Nat.le_trans hn.1 (by omega))
  have rv : ∀ {h : MH}, revM (.str M) h = .ok (.str M.reverse) h := rfl
  have nl : ∀ {h : MH} {l : List MV}, l.length ≤ 100 → newList h l = .ok (.ref h.size) (h.push (.lst l)) := fun hl => n_list (by unfold LIM; omega)
  -- the lists
  generalize hL1 : [MV.str (A ++ [c] ++ B), .str (A ++ B1), .str (A ++ [c] ++ B1)] = L1
  have l1 : L1.length = 3 := by rw [← hL1]; rfl
  have z3 : exec (P shw) (callM (P shw) (k + 1)) s12_2 [some (.ref b), some (.str n), some (.str [97, 98, 122, 48, 49, 50, 51, 52, 53, 54, 55, 56, 57, 32, 65, 90, 45, 95, 46, 44]), none, some (.str [c]), some (.int q)] h2
      = .nx [some (.ref b), some (.str n), some (.str [97, 98, 122, 48, 49, 50, 51, 52, 53, 54, 55, 56, 57, 32, 65, 90, 45, 95, 46, 44]), some (.ref h2.size), some (.str [c]), some (.int q)] (h2.push (.lst L1)) := by
    have n1 := nl (h := h2) (l := L1) (by omega)
    rw [← hL1] at n1 ⊢
    simp only [exec, execs, tv, ev, evs, eo, ct, asg, asgs, itv, bind_ok', go_ok, noEx_ok', setM, callP, pick, negM, isNM, mc_bt, t_bl, b_add, b_sub, b_mod, b_fdiv, b_pow3, b_pow18, b_pow30, b_str, c_lt, c_gt, c_le, c_ge, c_eqi, c_nei, c_eqs, c_nes, c_eqb, c_neb, f_len, f_max, f_min, f_abs, List.getElem?_cons_zero, List.getElem?_cons_succ, List.set_cons_zero, List.set_cons_succ, List.length_cons, List.length_nil, if_true, if_false, decide_true, decide_false, Bool.not_true, Bool.not_false, Bool.false_eq_true, Bool.or_true, Bool.true_or, Bool.or_false, Bool.false_or, Bool.and_true, Bool.true_and, Bool.and_false, Bool.false_and, beq_self_eq_true, s12_2, o0, o1, sl_txt, eA, eB, eB1, k1, k2, k3, k4, n1]
  have gr1 : (h2.push (.lst L1)).get h2.size = some (.lst L1) := get_push_size
  have bl2 := w2.lt
  have w3 := w2.push (o := .lst L1)
  have G3 : Gb b h (h2.push (.lst L1)) := ((Gb.of s1 f1).trans (.of s2 f2)).push
  have rb1 : h2.size ≠ b := Nat.ne_of_gt bl2
  have hr1 : h.size ≤ h2.size := by rw [s2, s1]; exact Nat.le_refl _
  generalize hS : ([97, 98, 122, 48, 49, 50, 51, 52, 53, 54, 55, 56, 57, 32, 65, 90, 45, 95, 46, 44] : Tx) = S at ec z3
  generalize (h2.push (.lst L1)) = h3 at z3 gr1 w3 G3
  generalize h2.size = r1 at z3 gr1 rb1 hr1
  -- append
  have ap := m_app (v := .str (A ++ M.reverse ++ B2)) gr1 (by unfold LIM; omega)
  have ka := k_app (P := P shw) gr1
  have z4 : exec (P shw) (callM (P shw) (k + 1)) s12_3 [some (.ref b), some (.str n), some (.str S), some (.ref r1), some (.str [c]), some (.int q)] h3 = .nx [some (.ref b), some (.str n), some (.str S), some (.ref r1), some (.str [c]), some (.int q)] (h3.put r1 (.lst (L1 ++ [.str (A ++ M.reverse ++ B2)]))) := by
    simp only [exec, execs, tv, ev, evs, eo, ct, asg, asgs, itv, bind_ok', go_ok, noEx_ok', setM, callP, pick, negM, isNM, mc_bt, t_bl, b_add, b_sub, b_mod, b_fdiv, b_pow3, b_pow18, b_pow30, b_str, c_lt, c_gt, c_le, c_ge, c_eqi, c_nei, c_eqs, c_nes, c_eqb, c_neb, f_len, f_max, f_min, f_abs, List.getElem?_cons_zero, List.getElem?_cons_succ, List.set_cons_zero, List.set_cons_succ, List.length_cons, List.length_nil, if_true, if_false, decide_true, decide_false, Bool.not_true, Bool.not_false, Bool.false_eq_true, Bool.or_true, Bool.true_or, Bool.or_false, Bool.false_or, Bool.and_true, Bool.true_and, Bool.and_false, Bool.false_and, beq_self_eq_true, s12_3, ka, o0, o2, sl_txt, eA, eM, eB2, rv, k5, k6, ap]
  have gr2 := get_put (o := .lst (L1 ++ [.str (A ++ M.reverse ++ B2)])) gr1
  have w4 := w3.put (o := .lst (L1 ++ [.str (A ++ M.reverse ++ B2)])) (fun z => rb1 z.symm)
  have G4 : Gb b h (h3.put r1 (.lst (L1 ++ [.str (A ++ M.reverse ++ B2)]))) := ⟨by rw [size_put]; exact G3.1, fun m o hm e => by
    have := get_lt e
    rw [get_put_ne (by omega)]
    exact G3.2 m o hm e⟩
  generalize hL2 : L1 ++ [MV.str (A ++ M.reverse ++ B2)] = L2 at z4 gr2 w4 G4
  have l2 : L2.length = 4 := by rw [← hL2, List.length_append, l1]; rfl
  generalize (h3.put r1 (.lst L2)) = h4 at z4 gr2 w4 G4
  -- three more
  obtain ⟨h5, c1, c2, gr3, g5, s5⟩ := cat_ok (l := [.str (n ++ n), .str (n ++ [c]), .str ([c] ++ n)]) gr2 (by omega) (by show 3 ≤ 1000; omega)
  have z5 : exec (P shw) (callM (P shw) (k + 1)) s12_4 [some (.ref b), some (.str n), some (.str S), some (.ref r1), some (.str [c]), some (.int q)] h4 = .nx [some (.ref b), some (.str n), some (.str S), some (.ref (h4.size + 1)), some (.str [c]), some (.int q)] h5 := by
    simp only [exec, execs, tv, ev, evs, eo, ct, asg, asgs, itv, bind_ok', go_ok, noEx_ok', setM, callP, pick, negM, isNM, mc_bt, t_bl, b_add, b_sub, b_mod, b_fdiv, b_pow3, b_pow18, b_pow30, b_str, c_lt, c_gt, c_le, c_ge, c_eqi, c_nei, c_eqs, c_nes, c_eqb, c_neb, f_len, f_max, f_min, f_abs, List.getElem?_cons_zero, List.getElem?_cons_succ, List.set_cons_zero, List.set_cons_succ, List.length_cons, List.length_nil, if_true, if_false, decide_true, decide_false, Bool.not_true, Bool.not_false, Bool.false_eq_true, Bool.or_true, Bool.true_or, Bool.or_false, Bool.false_or, Bool.and_true, Bool.true_and, Bool.and_false, Bool.false_and, beq_self_eq_true, s12_4, k7, k8, k9, c1, c2]
  have G5 := G4.trans g5.gb
  have w5 := w4.grow g5
  have rb2 : h4.size + 1 ≠ b := by have := w4.lt; omega
  generalize h4.size + 1 = r2 at z5 gr3 rb2
  generalize hL3 : L2 ++ [MV.str (n ++ n), .str (n ++ [c]), .str ([c] ++ n)] = L3 at gr3
  have l3 : L3.length = 7 := by rw [← hL3, List.length_append, l2]; rfl
  -- fourteen more
  have s10 : small 10 = true := small_lt (by omega) (by omega)
  generalize hK : ([MV.non, .bl true, .int 0, .int 7, .int (10 ^ 30), .str [], .str [50], .str [57], .str [97, 48], .str [97, 49], .str [97, 49, 48], .str [97, 98, 99, 100, 101, 102, 103, 104, 105], .str [97, 98, 99, 100, 101, 102, 103, 104, 50], .str [97, 98, 99, 100, 101, 102, 103, 104, 105, 50]] : List MV) = K14
  have lK : K14.length = 14 := by rw [← hK]; rfl
  obtain ⟨h6, c3, c4, gr4, g6, s6⟩ := cat_ok (l := K14) gr3 (by omega) (by omega)
  have z6 : exec (P shw) (callM (P shw) (k + 1)) s12_5 [some (.ref b), some (.str n), some (.str S), some (.ref r2), some (.str [c]), some (.int q)] h5 = .nx [some (.ref b), some (.str n), some (.str S), some (.ref (h5.size + 1)), some (.str [c]), some (.int q)] h6 := by
    rw [← hK] at c3 c4
    simp only [exec, execs, tv, ev, evs, eo, ct, asg, asgs, itv, bind_ok', go_ok, noEx_ok', setM, callP, pick, negM, isNM, mc_bt, t_bl, b_add, b_sub, b_mod, b_fdiv, b_pow3, b_pow18, b_pow30, b_str, c_lt, c_gt, c_le, c_ge, c_eqi, c_nei, c_eqs, c_nes, c_eqb, c_neb, f_len, f_max, f_min, f_abs, List.getElem?_cons_zero, List.getElem?_cons_succ, List.set_cons_zero, List.set_cons_succ, List.length_cons, List.length_nil, if_true, if_false, decide_true, decide_false, Bool.not_true, Bool.not_false, Bool.false_eq_true, Bool.or_true, Bool.true_or, Bool.or_false, Bool.false_or, Bool.and_true, Bool.true_and, Bool.and_false, Bool.false_and, beq_self_eq_true, s12_5, b_pow30 s10, c3, c4]
  have G6 := G5.trans g6.gb
  have w6 := w5.grow g6
  have rb3 : h5.size + 1 ≠ b := by have := w5.lt; omega
  generalize h5.size + 1 = r3 at z6 gr4 rb3
  generalize hL4 : L3 ++ K14 = L4 at gr4
  have l4 : L4.length = 21 := by rw [← hL4, List.length_append, l3, lK]
  -- five more
  have m1 := nl (h := h6) (l := [.str n]) (by show 1 ≤ 100; omega)
  have m2 := nl (h := h6.push (.lst [.str n])) (l := []) (by show 0 ≤ 100; omega)
  have x1 : ((h6.push (.lst [.str n])).push (.lst [])).get h6.size = some (.lst [.str n]) := get_push get_push_size
  have x2 : ((h6.push (.lst [.str n])).push (.lst [])).get (h6.push (.lst [.str n])).size = some (.lst []) := get_push_size
  have G7 := G6.push (o := .lst [.str n]) |>.push (o := .lst [])
  have w7 := w6.push (o := .lst [.str n]) |>.push (o := .lst [])
  have gr5 : ((h6.push (.lst [.str n])).push (.lst [])).get r3 = some (.lst L4) := get_push (get_push gr4)
  have y1 : h6.size ≠ b := Nat.ne_of_gt w6.lt
  have y2 : (h6.push (.lst [.str n])).size ≠ b := by rw [size_push]; have := w6.lt; omega
  generalize ((h6.push (.lst [.str n])).push (.lst [])) = h7 at m2 x1 x2 G7 w7 gr5
  generalize (h6.push (.lst [.str n])).size = r5 at m2 x2 y2
  generalize (h6.push (.lst [.str n])) = h6' at m1 m2
  generalize h6.size = r4 at m1 x1 y1
  have t1 : ∀ {h : MH}, litM [.str n] h = .ok (.tup [.str n]) h := l_tup (by show 1 ≤ LIM; unfold LIM; omega)
  have t2 : ∀ {h : MH}, litM [.str [97], .str [50]] h = .ok (.tup [.str [97], .str [50]]) h := l_tup (by show 2 ≤ LIM; unfold LIM; omega)
  generalize hK5 : ([MV.str [97, 50, 98], .tup [.str n], .ref r4, .ref r5, .tup [.str [97], .str [50]]] : List MV) = K5
  have lK5 : K5.length = 5 := by rw [← hK5]; rfl
  obtain ⟨h8, c5, c6, gr6, g8, s8⟩ := cat_ok (l := K5) gr5 (by omega) (by omega)
  have w8 := w7.grow g8
  have rb6 : h7.size + 1 ≠ b := by have := w7.lt; omega
  obtain ⟨z, h9, z0, z1, e9, w9, s9, f9⟩ := w8.take (P := P shw) (k := k) 26 (by omega) (by omega)
  have G9 : Gb b h7 h9 := g8.gb.trans (.of s9 f9)
  have gr7 : h9.get (h7.size + 1) = some (.lst (L4 ++ K5)) := by rw [f9 _ rb6]; exact gr6
  obtain ⟨v, evv, tvv⟩ := pick2 (Q := fun v => Thing b h9 v) (l := L4 ++ K5) (n := 26) (by rw [List.length_append, l4, lK5]) (by
    intro v hv
    rw [← hL4, ← hL3, ← hL2, ← hL1, ← hK, ← hK5] at hv
    simp only [List.mem_append, List.mem_cons, List.not_mem_nil, or_false] at hv
    have ts : ∀ s : Tx, Ts 40 s → Thing b h9 (.str s) := fun s hs => thing_str hs (by omega)
    have up : ∀ {m : Nat} {s : Tx}, Ts m s → m ≤ 40 → Ts 40 s := fun hs hm => ⟨Nat.le_trans hs.1 hm, hs.2⟩
    have sm : ∀ s : Tx, (decide (s.length ≤ 40) && s.all fun c => decide (c < 128)) = true → Thing b h9 (.str s) := fun s hs => by
      rw [Bool.and_eq_true, decide_eq_true_eq, List.all_eq_true] at hs
      exact ts s ⟨hs.1, fun c hc => of_decide_eq_true (hs.2 c hc)⟩
    obtain ⟨q1', q2'⟩ := hn.sh (by omega)
    have v1 : h9.get r4 = some (.lst [.str n]) := G9.2 _ _ y1 x1
    have v2 : h9.get r5 = some (.lst []) := G9.2 _ _ y2 x2
    rcases hv with ((((((rfl | rfl | rfl) | rfl) | (rfl | rfl | rfl)) | (rfl | rfl | rfl | rfl | rfl | rfl | rfl | rfl | rfl | rfl | rfl | rfl | rfl | rfl))) | (rfl | rfl | rfl | rfl | rfl))
    · exact ts _ (up u2 (by omega))
    · exact ts _ (up u3 (by omega))
    · exact ts _ (up u4 (by omega))
    · exact ts _ (up u6 (by omega))
    · exact ts _ (up u7 (by omega))
    · exact ts _ (up u8 (by omega))
    · exact ts _ (up u9 (by omega))
    · exact thing_flat (a := .nn) (d := .non) (fun _ => rfl) ⟨rfl, fun _ => rfl⟩ (fun _ => rfl) rfl (by unfold msz LIM; omega)
    · exact thing_flat (a := .bl) (d := .bl true) (fun _ => rfl) ⟨rfl, fun _ => rfl⟩ (fun _ => rfl) rfl (by unfold msz LIM; omega)
    · exact thing_flat (a := .int) (d := .int 0) (fun _ => rfl) ⟨rfl, fun _ => rfl⟩ (fun _ => rfl) (by decide +kernel) (by decide +kernel)
    · exact thing_flat (a := .int) (d := .int 7) (fun _ => rfl) ⟨rfl, fun _ => rfl⟩ (fun _ => rfl) (by decide +kernel) (by decide +kernel)
    · exact thing_flat (a := .int) (d := .int (10 ^ 30)) (fun _ => rfl) ⟨rfl, fun _ => rfl⟩ (fun _ => rfl) (by decide +kernel) (by decide +kernel)
    · exact sm _ rfl
    · exact sm _ rfl
    · exact sm _ rfl
    · exact sm _ rfl
    · exact sm _ rfl
    · exact sm _ rfl
    · exact sm _ rfl
    · exact sm _ rfl
    · exact sm _ rfl
    · exact sm _ rfl
    · refine thing_flat (a := .tup) (d := .tup [.str n]) (fun _ => rfl) ⟨rfl, fun _ => rfl⟩ (fun _ => rfl) ?_ ?_
      · simp only [shwOk, shwOks] at q1' ⊢
        rw [q1']
        rfl
      · simp only [msz, mszs] at q2' ⊢
        unfold LIM
        omega
    · refine thing_list (l := [n]) v1 y1 ?_ ?_
      · simp only [List.map_cons, List.map_nil, shwOks]
        rw [q1']
        rfl
      · simp only [List.map_cons, List.map_nil, mszs]
        unfold LIM
        omega
    · exact thing_list (l := []) v2 y2 rfl (by simp only [List.map_nil, mszs]; unfold LIM; omega)
    · exact thing_flat (a := .tup) (d := .tup [.str [97], .str [50]]) (fun _ => rfl) ⟨rfl, fun _ => rfl⟩ (fun _ => rfl) (by decide +kernel) (by decide +kernel)) z0 z1
  have p9 := s_ref gr7 evv
  have G := G7.trans G9
  refine ⟨v, h9, f_rt [some (.ref b), some (.str n), none, none, none, none] rfl rfl (x_nx (r := .cons s12_1 (.cons s12_2 (.cons s12_3 (.cons s12_4 (.cons s12_5 (.cons s12_6 .nil)))))) (σ1 := [some (.ref b), some (.str n), some (.str S), none, none, none]) (h1 := h) ?_ (x_nx (σ1 := [some (.ref b), some (.str n), some (.str S), none, some (.str [c]), some (.int q)]) (h1 := h2) ?_
    (x_nx z3 (x_nx z4 (x_nx z5 (x_nx z6 (x_rt ?_))))))), tvv, w9, G⟩
  · rw [← hS]
    exact x_set rfl
  · simp only [exec, execs, tv, ev, evs, eo, ct, asg, asgs, itv, bind_ok', go_ok, noEx_ok', setM, callP, pick, negM, isNM, mc_bt, t_bl, b_add, b_sub, b_mod, b_fdiv, b_pow3, b_pow18, b_pow30, b_str, c_lt, c_gt, c_le, c_ge, c_eqi, c_nei, c_eqs, c_nes, c_eqb, c_neb, f_len, f_max, f_min, f_abs, List.getElem?_cons_zero, List.getElem?_cons_succ, List.set_cons_zero, List.set_cons_succ, List.length_cons, List.length_nil, if_true, if_false, decide_true, decide_false, Bool.not_true, Bool.not_false, Bool.false_eq_true, Bool.or_true, Bool.true_or, Bool.or_false, Bool.false_or, Bool.and_true, Bool.true_and, Bool.and_false, Bool.false_and, beq_self_eq_true, s12_1, e1, ec, ln, e2, upds]
  · rw [← hK5] at c5 c6
    simp only [exec, execs, tv, ev, evs, eo, ct, asg, asgs, itv, bind_ok', go_ok, noEx_ok', setM, callP, pick, negM, isNM, mc_bt, t_bl, b_add, b_sub, b_mod, b_fdiv, b_pow3, b_pow18, b_pow30, b_str, c_lt, c_gt, c_le, c_ge, c_eqi, c_nei, c_eqs, c_nes, c_eqb, c_neb, f_len, f_max, f_min, f_abs, List.getElem?_cons_zero, List.getElem?_cons_succ, List.set_cons_zero, List.set_cons_succ, List.length_cons, List.length_nil, if_true, if_false, decide_true, decide_false, Bool.not_true, Bool.not_false, Bool.false_eq_true, Bool.or_true, Bool.true_or, Bool.or_false, Bool.false_or, Bool.and_true, Bool.true_and, Bool.and_false, Bool.false_and, beq_self_eq_true, s12_6, t1, m1, m2, t2, c5, c6, e9, p9]


/-! the law's own answers -/
section
variable {P : Prog} {C : Nat → List MV → MH → R MV} {σ : En} {h h1 h2 : MH}
theorem x_try_rt {b s : Ss} {d i c : Nat} {l : List MV} {σ1 : En} {v : MV} (e : execs P C b σ h = .ex c l σ1 h1) (hx : P.xsub c d = true) (e2 : execs P C s (σ1.set i (some (.exc c l))) h1 = .rt v h2) : exec P C (.try_ b d i s) σ h = .rt v h2 := by
  unfold exec
  rw [e]
  simp only [hx, if_true, e2]
  rfl
theorem x_try_nx {b s : Ss} {d i : Nat} {σ1 : En} (e : execs P C b σ h = .nx σ1 h1) : exec P C (.try_ b d i s) σ h = .nx σ1 h1 := by
  unfold exec
  rw [e]
end
def tName : MV := .tup [.str [78, 111, 78, 97, 109, 101]]
def tNext : MV := .tup [.str [78, 111, 78, 101, 120, 116]]
def nine (s : Tx) : Bool := s.getLast? == some 57
def ans (s : Tx) : MV := if nm s then (if nine s then tNext else .str (nx s)) else tName
def ds (l : List Nat) (d : Nat) : Bool := l.contains d
theorem xs1 (d : Nat) : (P shw).xsub 1 d = ds [1, 26, 28] d := by
  show xsubL.contains (1, d) = _
  unfold ds xsubL
  simp
theorem xs2 (d : Nat) : (P shw).xsub 2 d = ds [2, 26, 28] d := by
  show xsubL.contains (2, d) = _
  unfold ds xsubL
  simp
theorem which1 {k : Nat} {l : List MV} {h : MH} : ∃ h', callM (P shw) (k + 1) 10 [.exc 1 l] h = .ok (.str [78, 111, 78, 97, 109, 101]) h' ∧ Grow h h' := which_ok (b := false) xs1 rfl rfl rfl rfl rfl
theorem which2 {k : Nat} {l : List MV} {h : MH} : ∃ h', callM (P shw) (k + 1) 10 [.exc 2 l] h = .ok (.str [78, 111, 78, 101, 120, 116]) h' ∧ Grow h h' := which_ok (b := false) xs2 rfl rfl rfl rfl rfl
theorem t1 {v : MV} {h : MH} : litM [v] h = .ok (.tup [v]) h := l_tup (by show 1 ≤ LIM; unfold LIM; omega)
theorem try_1 {k c : Nat} {h h1 : MH} {v : MV} {n : Tx} (e : callM (P shw) (k + 1) 9 [v] h = .ex c [] h1) (hx : (P shw).xsub c 26 = true) (hw : ∃ h', callM (P shw) (k + 1) 10 [.exc c []] h1 = .ok (.str n) h' ∧ Grow h1 h') :
    ∃ h', callM (P shw) (k + 2) 13 [v] h = .ok (.tup [.str n]) h' ∧ Grow h1 h' := by
  obtain ⟨h', e2, gr⟩ := hw
  refine ⟨h', f_rt [some v, none, none] rfl rfl (x_nx (r := .cons s13_1 (.cons s13_2 (.cons s13_3 .nil))) (σ1 := [some v, some (.str []), none]) (h1 := h) rfl (x_rt (x_try_rt (c := c) (l := []) (σ1 := [some v, some (.str []), none]) (h1 := h1) ?_ hx (x_rt ?_)))), gr⟩
  · refine x_ex ?_
    simp only [exec, execs, tv, ev, evs, eo, ct, asg, asgs, itv, bind_ok', go_ok, noEx_ok', setM, callP, pick, negM, isNM, mc_bt, t_bl, b_add, b_sub, b_mod, b_fdiv, b_pow3, b_pow18, b_pow30, b_str, c_lt, c_gt, c_le, c_ge, c_eqi, c_nei, c_eqs, c_nes, c_eqb, c_neb, f_len, f_max, f_min, f_abs, List.getElem?_cons_zero, List.getElem?_cons_succ, List.set_cons_zero, List.set_cons_succ, List.length_cons, List.length_nil, if_true, if_false, decide_true, decide_false, Bool.not_true, Bool.not_false, Bool.false_eq_true, Bool.or_true, Bool.true_or, Bool.or_false, Bool.false_or, Bool.and_true, Bool.true_and, Bool.and_false, Bool.false_and, beq_self_eq_true, e, go_ex]
  · simp only [exec, execs, tv, ev, evs, eo, ct, asg, asgs, itv, bind_ok', go_ok, noEx_ok', setM, callP, pick, negM, isNM, mc_bt, t_bl, b_add, b_sub, b_mod, b_fdiv, b_pow3, b_pow18, b_pow30, b_str, c_lt, c_gt, c_le, c_ge, c_eqi, c_nei, c_eqs, c_nes, c_eqb, c_neb, f_len, f_max, f_min, f_abs, List.getElem?_cons_zero, List.getElem?_cons_succ, List.set_cons_zero, List.set_cons_succ, List.length_cons, List.length_nil, if_true, if_false, decide_true, decide_false, Bool.not_true, Bool.not_false, Bool.false_eq_true, Bool.or_true, Bool.true_or, Bool.or_false, Bool.false_or, Bool.and_true, Bool.true_and, Bool.and_false, Bool.false_and, beq_self_eq_true, callXM, excAt, e2, t1]
theorem next_text {k : Nat} {h : MH} {v : MV} {n : Tx} (e : ∀ h, ∃ h', callM (P shw) (k + 1) 9 [v] h = .ok (.str n) h' ∧ Grow h h') : ∃ h', callM (P shw) (k + 2) 13 [v] h = .ok (.str n) h' ∧ Grow h h' := by
  obtain ⟨h1, e1, q1⟩ := e h
  obtain ⟨h2, e2, q2⟩ := e h1
  refine ⟨h2, f_rt [some v, none, none] rfl rfl (x_nx (r := .cons s13_1 (.cons s13_2 (.cons s13_3 .nil))) (σ1 := [some v, some (.str []), none]) (h1 := h) rfl (x_nx (σ1 := [some v, some (.str n), none]) (h1 := h1) (x_try_nx (x_end ?_)) (x_nx (σ1 := [some v, some (.str n), none]) (h1 := h1) ?_ (x_rt ?_)))), q1.trans q2⟩
  · simp only [exec, execs, tv, ev, evs, eo, ct, asg, asgs, itv, bind_ok', go_ok, noEx_ok', setM, callP, pick, negM, isNM, mc_bt, t_bl, b_add, b_sub, b_mod, b_fdiv, b_pow3, b_pow18, b_pow30, b_str, c_lt, c_gt, c_le, c_ge, c_eqi, c_nei, c_eqs, c_nes, c_eqb, c_neb, f_len, f_max, f_min, f_abs, List.getElem?_cons_zero, List.getElem?_cons_succ, List.set_cons_zero, List.set_cons_succ, List.length_cons, List.length_nil, if_true, if_false, decide_true, decide_false, Bool.not_true, Bool.not_false, Bool.false_eq_true, Bool.or_true, Bool.true_or, Bool.or_false, Bool.false_or, Bool.and_true, Bool.true_and, Bool.and_false, Bool.false_and, beq_self_eq_true, e1]
  · simp only [exec, execs, tv, ev, evs, eo, ct, asg, asgs, itv, bind_ok', go_ok, noEx_ok', setM, callP, pick, negM, isNM, mc_bt, t_bl, b_add, b_sub, b_mod, b_fdiv, b_pow3, b_pow18, b_pow30, b_str, c_lt, c_gt, c_le, c_ge, c_eqi, c_nei, c_eqs, c_nes, c_eqb, c_neb, f_len, f_max, f_min, f_abs, List.getElem?_cons_zero, List.getElem?_cons_succ, List.set_cons_zero, List.set_cons_succ, List.length_cons, List.length_nil, if_true, if_false, decide_true, decide_false, Bool.not_true, Bool.not_false, Bool.false_eq_true, Bool.or_true, Bool.true_or, Bool.or_false, Bool.false_or, Bool.and_true, Bool.true_and, Bool.and_false, Bool.false_and, beq_self_eq_true, s13_2, isi_s]
  · simp only [exec, execs, tv, ev, evs, eo, ct, asg, asgs, itv, bind_ok', go_ok, noEx_ok', setM, callP, pick, negM, isNM, mc_bt, t_bl, b_add, b_sub, b_mod, b_fdiv, b_pow3, b_pow18, b_pow30, b_str, c_lt, c_gt, c_le, c_ge, c_eqi, c_nei, c_eqs, c_nes, c_eqb, c_neb, f_len, f_max, f_min, f_abs, List.getElem?_cons_zero, List.getElem?_cons_succ, List.set_cons_zero, List.set_cons_succ, List.length_cons, List.length_nil, if_true, if_false, decide_true, decide_false, Bool.not_true, Bool.not_false, Bool.false_eq_true, Bool.or_true, Bool.true_or, Bool.or_false, Bool.false_or, Bool.and_true, Bool.true_and, Bool.and_false, Bool.false_and, beq_self_eq_true, s13_3, e2]
theorem law_next_no {k : Nat} {h h1 : MH} {v : MV} (e : callM (P shw) (k + 1) 1 [v] h = .ok (.bl false) h1) (g : Grow h h1) : ∃ h', callM (P shw) (k + 4) 13 [v] h = .ok tName h' ∧ Grow h h' := by
  obtain ⟨h2, e2, q2⟩ := try_1 (shw := shw) (k := k + 2) (next_no (k := k) rfl e) (by rw [xs1]; rfl) which1
  exact ⟨h2, e2, g.trans q2⟩
theorem nm_snoc {s : Tx} (hn : nm s = true) : ∃ l c, s = l ++ [c] := by
  rcases List.eq_nil_or_concat s with rfl | ⟨l, c, rfl⟩
  · rw [nm_nil] at hn
    cases hn
  · exact ⟨l, c, List.concat_eq_append⟩
theorem nx_snoc {l : Tx} {c : Nat} : nx (l ++ [c]) = if fig [c] then l ++ [c + 1] else l ++ [c] ++ [50] := by
  unfold nx
  rw [List.getLast?_concat, List.dropLast_concat]
theorem nine_snoc {l : Tx} {c : Nat} : nine (l ++ [c]) = (c == 57) := by
  unfold nine
  rw [List.getLast?_concat]
  rfl
theorem ans_no {s : Tx} (h : nm s = false) : ans s = tName := by
  unfold ans
  rw [h]
  rfl
theorem ans_9 {l : Tx} (h : nm (l ++ [57]) = true) : ans (l ++ [57]) = tNext := by
  unfold ans
  rw [h, nine_snoc]
  rfl
theorem ans_n {l : Tx} {c : Nat} (h : nm (l ++ [c]) = true) (h9 : c ≠ 57) : ans (l ++ [c]) = .str (nx (l ++ [c])) := by
  unfold ans
  rw [h, nine_snoc, beq_false_of_ne h9]
  rfl
theorem law_next {k : Nat} {h : MH} {s : Tx} (hs : s.length ≤ 40) : ∃ h', callM (P shw) (k + 4) 13 [.str s] h = .ok (ans s) h' ∧ Grow h h' := by
  cases hn : nm s with
  | false =>
    obtain ⟨h1, e1, q1⟩ := name_ok (P := P shw) (k := k) (h := h) (s := s) (by unfold LIM; omega)
    rw [hn] at e1
    rw [ans_no hn]
    exact law_next_no e1 q1
  | true =>
    obtain ⟨l, c, rfl⟩ := nm_snoc hn
    have hl : l.length ≤ 1000 := by rw [List.length_append] at hs; omega
    by_cases h9 : c = 57
    · subst h9
      obtain ⟨h1, e1, q1⟩ := next_9 (P := P shw) (k := k) (h := h) rfl hl hn
      obtain ⟨h2, e2, q2⟩ := try_1 (shw := shw) (k := k + 2) e1 (by rw [xs2]; rfl) which2
      rw [ans_9 hn]
      exact ⟨h2, e2, q1.trans q2⟩
    · rw [ans_n hn h9, nx_snoc]
      refine next_text (k := k + 2) fun h => ?_
      cases hf : fig [c] with
      | true => exact next_f hl hn hf h9
      | false => exact next_l hl hn hf
theorem dig {c : Nat} {h : MH} (hf : fig [c] = true) (h9 : c ≠ 57) : ∃ i : Int, bifM (P shw) .int [.str [c]] h = .ok (.int i) h ∧ bifM (P shw) .str [.int (i + 1)] h = .ok (.str [c + 1]) h := by
  have z : ∀ i : Int, (i.natAbs.log2 < 1920) → bifM (P shw) .str [.int i] h = .ok (.str (itx i)) h := fun i hi => if_pos hi
  rcases fig_cs hf with rfl | rfl | rfl | rfl | rfl | rfl | rfl | rfl
  · exact ⟨2, rfl, (z 3 (by decide)).trans (by rw [show itx 3 = [51] from by decide +kernel])⟩
  · exact ⟨3, rfl, (z 4 (by decide)).trans (by rw [show itx 4 = [52] from by decide +kernel])⟩
  · exact ⟨4, rfl, (z 5 (by decide)).trans (by rw [show itx 5 = [53] from by decide +kernel])⟩
  · exact ⟨5, rfl, (z 6 (by decide)).trans (by rw [show itx 6 = [54] from by decide +kernel])⟩
  · exact ⟨6, rfl, (z 7 (by decide)).trans (by rw [show itx 7 = [55] from by decide +kernel])⟩
  · exact ⟨7, rfl, (z 8 (by decide)).trans (by rw [show itx 8 = [56] from by decide +kernel])⟩
  · exact ⟨8, rfl, (z 9 (by decide)).trans (by rw [show itx 9 = [57] from by decide +kernel])⟩
  · exact absurd rfl h9
theorem due_no {k : Nat} {h h1 : MH} {v : MV} (e : callM (P shw) (k + 1) 11 [v] h = .ok (.bl false) h1) : callM (P shw) (k + 2) 14 [v] h = .ok tName h1 := by
  refine f_rt [some v] rfl rfl (x_rt (r := .cons s14_1 (.cons s14_2 (.cons s14_3 .nil))) ?_)
  simp only [exec, execs, tv, ev, evs, eo, ct, asg, asgs, itv, bind_ok', go_ok, noEx_ok', setM, callP, pick, negM, isNM, mc_bt, t_bl, b_add, b_sub, b_mod, b_fdiv, b_pow3, b_pow18, b_pow30, b_str, c_lt, c_gt, c_le, c_ge, c_eqi, c_nei, c_eqs, c_nes, c_eqb, c_neb, f_len, f_max, f_min, f_abs, List.getElem?_cons_zero, List.getElem?_cons_succ, List.set_cons_zero, List.set_cons_succ, List.length_cons, List.length_nil, if_true, if_false, decide_true, decide_false, Bool.not_true, Bool.not_false, Bool.false_eq_true, Bool.or_true, Bool.true_or, Bool.or_false, Bool.false_or, Bool.and_true, Bool.true_and, Bool.and_false, Bool.false_and, beq_self_eq_true, s14_0, e, t1]
  rfl
theorem in_due {c : Nat} {h : MH} {r : Nat} (g : h.get r = some (.lst (([50, 51, 52, 53, 54, 55, 56] : Tx).map fun c => MV.str [c]))) (h9 : c ≠ 57) : cmpM .isin (.str [c]) (.ref r) h = .ok (.bl (fig [c])) h := by
  rw [signs_str] at g
  rw [in_refs g]
  congr 2
  unfold fig FIG
  simp only [List.map_cons, List.map_nil, List.any_cons, List.any_nil, Bool.or_false]
  have : (([57] : Tx) == [c]) = false := by
    rw [beq_eq_false_iff_ne]
    intro z
    exact h9 (List.cons.inj z).1.symm
  rw [this]
  simp only [Bool.or_false]
theorem law_due {k : Nat} {h : MH} {s : Tx} (hs : s.length ≤ 40) : ∃ h', callM (P shw) (k + 2) 14 [.str s] h = .ok (ans s) h' ∧ Grow h h' := by
  obtain ⟨h1, e1, q1⟩ := good_ok (shw := shw) (k := k) (h := h) (s := s) (by unfold LIM; omega)
  cases hn : nm s with
  | false =>
    rw [hn] at e1
    rw [ans_no hn]
    exact ⟨h1, due_no e1, q1⟩
  | true =>
    rw [hn] at e1
    obtain ⟨l, c, rfl⟩ := nm_snoc hn
    have hl : l.length ≤ 1000 := by rw [List.length_append] at hs; omega
    have z0 : exec (P shw) (callM (P shw) (k + 1)) s14_0 [some (.str (l ++ [c]))] h = .nx [some (.str (l ++ [c]))] h1 := by simp only [exec, execs, tv, ev, evs, eo, ct, asg, asgs, itv, bind_ok', go_ok, noEx_ok', setM, callP, pick, negM, isNM, mc_bt, t_bl, b_add, b_sub, b_mod, b_fdiv, b_pow3, b_pow18, b_pow30, b_str, c_lt, c_gt, c_le, c_ge, c_eqi, c_nei, c_eqs, c_nes, c_eqb, c_neb, f_len, f_max, f_min, f_abs, List.getElem?_cons_zero, List.getElem?_cons_succ, List.set_cons_zero, List.set_cons_succ, List.length_cons, List.length_nil, if_true, if_false, decide_true, decide_false, Bool.not_true, Bool.not_false, Bool.false_eq_true, Bool.or_true, Bool.true_or, Bool.or_false, Bool.false_or, Bool.and_true, Bool.true_and, Bool.and_false, Bool.false_and, beq_self_eq_true, s14_0, e1]
    by_cases h9 : c = 57
    · subst h9
      rw [ans_9 hn]
      refine ⟨h1, f_rt [some (.str (l ++ [57]))] rfl rfl (x_nx (r := .cons s14_1 (.cons s14_2 (.cons s14_3 .nil))) z0 (x_rt ?_)), q1⟩
      simp only [exec, execs, tv, ev, evs, eo, ct, asg, asgs, itv, bind_ok', go_ok, noEx_ok', setM, callP, pick, negM, isNM, mc_bt, t_bl, b_add, b_sub, b_mod, b_fdiv, b_pow3, b_pow18, b_pow30, b_str, c_lt, c_gt, c_le, c_ge, c_eqi, c_nei, c_eqs, c_nes, c_eqb, c_neb, f_len, f_max, f_min, f_abs, List.getElem?_cons_zero, List.getElem?_cons_succ, List.set_cons_zero, List.set_cons_succ, List.length_cons, List.length_nil, if_true, if_false, decide_true, decide_false, Bool.not_true, Bool.not_false, Bool.false_eq_true, Bool.or_true, Bool.true_or, Bool.or_false, Bool.false_or, Bool.and_true, Bool.true_and, Bool.and_false, Bool.false_and, beq_self_eq_true, s14_1, n_neg, s_last, t1]
      rfl
    · have e5 : ([c] == ([57] : Tx)) = false := by
        rw [beq_eq_false_iff_ne]
        intro z
        exact h9 (List.cons.inj z).1
      have z1 : exec (P shw) (callM (P shw) (k + 1)) s14_1 [some (.str (l ++ [c]))] h1 = .nx [some (.str (l ++ [c]))] h1 := by simp only [exec, execs, tv, ev, evs, eo, ct, asg, asgs, itv, bind_ok', go_ok, noEx_ok', setM, callP, pick, negM, isNM, mc_bt, t_bl, b_add, b_sub, b_mod, b_fdiv, b_pow3, b_pow18, b_pow30, b_str, c_lt, c_gt, c_le, c_ge, c_eqi, c_nei, c_eqs, c_nes, c_eqb, c_neb, f_len, f_max, f_min, f_abs, List.getElem?_cons_zero, List.getElem?_cons_succ, List.set_cons_zero, List.set_cons_succ, List.length_cons, List.length_nil, if_true, if_false, decide_true, decide_false, Bool.not_true, Bool.not_false, Bool.false_eq_true, Bool.or_true, Bool.true_or, Bool.or_false, Bool.false_or, Bool.and_true, Bool.true_and, Bool.and_false, Bool.false_and, beq_self_eq_true, s14_1, n_neg, s_last, e5]
      have el := f_lists (P := P shw) (s := [50, 51, 52, 53, 54, 55, 56]) (h := h1) (by simp [LIM])
      have ef := in_due (c := c) (h := h1.push (.lst (([50, 51, 52, 53, 54, 55, 56] : Tx).map fun c => MV.str [c]))) (r := h1.size) get_push_size h9
      have q2 : Grow h1 (h1.push (.lst (([50, 51, 52, 53, 54, 55, 56] : Tx).map fun c => MV.str [c]))) := .one
      generalize (h1.push (.lst (([50, 51, 52, 53, 54, 55, 56] : Tx).map fun c => MV.str [c]))) = h2 at el ef q2
      rw [ans_n hn h9, nx_snoc]
      cases hf : fig [c] with
      | true =>
        obtain ⟨i, d1, d2⟩ := dig (shw := shw) (h := h2) hf h9
        have eb := b_str (s := l) (t := [c + 1]) (h := h2) (by unfold LIM; simp; omega)
        refine ⟨h2, f_rt [some (.str (l ++ [c]))] rfl rfl (x_nx (r := .cons s14_1 (.cons s14_2 (.cons s14_3 .nil))) z0 (x_nx z1 (x_rt ?_))), q1.trans q2⟩
        simp only [exec, execs, tv, ev, evs, eo, ct, asg, asgs, itv, bind_ok', go_ok, noEx_ok', setM, callP, pick, negM, isNM, mc_bt, t_bl, b_add, b_sub, b_mod, b_fdiv, b_pow3, b_pow18, b_pow30, b_str, c_lt, c_gt, c_le, c_ge, c_eqi, c_nei, c_eqs, c_nes, c_eqb, c_neb, f_len, f_max, f_min, f_abs, List.getElem?_cons_zero, List.getElem?_cons_succ, List.set_cons_zero, List.set_cons_succ, List.length_cons, List.length_nil, if_true, if_false, decide_true, decide_false, Bool.not_true, Bool.not_false, Bool.false_eq_true, Bool.or_true, Bool.true_or, Bool.or_false, Bool.false_or, Bool.and_true, Bool.true_and, Bool.and_false, Bool.false_and, beq_self_eq_true, s14_2, n_neg, s_last, el, ef, hf, o_m1, sl_txt, cut_init, d1, d2, eb]
      | false =>
        have eb := b_str (s := l ++ [c]) (t := [50]) (h := h2) (by rw [List.length_append]; unfold LIM; simp; omega)
        refine ⟨h2, f_rt [some (.str (l ++ [c]))] rfl rfl (x_nx (r := .cons s14_1 (.cons s14_2 (.cons s14_3 .nil))) z0 (x_nx z1 (x_nx (σ1 := [some (.str (l ++ [c]))]) (h1 := h2) ?_ (x_rt ?_)))), q1.trans q2⟩
        · simp only [exec, execs, tv, ev, evs, eo, ct, asg, asgs, itv, bind_ok', go_ok, noEx_ok', setM, callP, pick, negM, isNM, mc_bt, t_bl, b_add, b_sub, b_mod, b_fdiv, b_pow3, b_pow18, b_pow30, b_str, c_lt, c_gt, c_le, c_ge, c_eqi, c_nei, c_eqs, c_nes, c_eqb, c_neb, f_len, f_max, f_min, f_abs, List.getElem?_cons_zero, List.getElem?_cons_succ, List.set_cons_zero, List.set_cons_succ, List.length_cons, List.length_nil, if_true, if_false, decide_true, decide_false, Bool.not_true, Bool.not_false, Bool.false_eq_true, Bool.or_true, Bool.true_or, Bool.or_false, Bool.false_or, Bool.and_true, Bool.true_and, Bool.and_false, Bool.false_and, beq_self_eq_true, s14_2, n_neg, s_last, el, ef, hf]
        · simp only [exec, execs, tv, ev, evs, eo, ct, asg, asgs, itv, bind_ok', go_ok, noEx_ok', setM, callP, pick, negM, isNM, mc_bt, t_bl, b_add, b_sub, b_mod, b_fdiv, b_pow3, b_pow18, b_pow30, b_str, c_lt, c_gt, c_le, c_ge, c_eqi, c_nei, c_eqs, c_nes, c_eqb, c_neb, f_len, f_max, f_min, f_abs, List.getElem?_cons_zero, List.getElem?_cons_succ, List.set_cons_zero, List.set_cons_succ, List.length_cons, List.length_nil, if_true, if_false, decide_true, decide_false, Bool.not_true, Bool.not_false, Bool.false_eq_true, Bool.or_true, Bool.true_or, Bool.or_false, Bool.false_or, Bool.and_true, Bool.true_and, Bool.and_false, Bool.false_and, beq_self_eq_true, s14_3, eb]
theorem ne_tup {s : Tx} {h : MH} : cmpM .ne (.tup [.str s]) (.tup [.str s]) h = .ok (.bl false) h := by
  have e : eqM h (.tup [.str s]) (.tup [.str s]) = some true := by
    unfold eqM DEP
    simp [dat, eqP, eqPs]
  unfold cmpM
  rw [e]
  rfl
theorem ne_ans {s : Tx} {h : MH} : cmpM .ne (ans s) (ans s) h = .ok (.bl false) h := by
  unfold ans
  split
  · split
    · exact ne_tup
    · rw [c_nes, beq_self_eq_true]
      rfl
  · exact ne_tup

/-! step by step -/
def rk (s : Tx) : Nat := match s.getLast? with
  | some c => if fig [c] then 57 - c else 8
  | none => 0
theorem rk_snoc {l : Tx} {c : Nat} : rk (l ++ [c]) = if fig [c] then 57 - c else 8 := by
  unfold rk
  rw [List.getLast?_concat]
theorem rk_le {s : Tx} : rk s ≤ 8 := by
  rcases List.eq_nil_or_concat s with rfl | ⟨l, c, rfl⟩
  · exact Nat.zero_le _
  · rw [List.concat_eq_append, rk_snoc]
    split
    · rename_i h
      have := fig_cs h
      omega
    · exact Nat.le_refl _
theorem nm_len {s : Tx} (h : nm s = true) : s.length ≤ 9 := by
  obtain ⟨t, f, rfl, h1, h2, h3, hf⟩ := nm_form h
  rw [List.length_append]
  rcases hf with rfl | ⟨d, rfl, _⟩
  · show t.length + 0 ≤ 9
    omega
  · show t.length + 1 ≤ 9
    omega
theorem nm_lo {s : Tx} (h : nm s = true) : ∀ c ∈ s, c < 128 := by
  obtain ⟨t, f, rfl, h1, h2, h3, hf⟩ := nm_form h
  intro q hq
  rcases List.mem_append.mp hq with hq | hq
  · exact lo_128 q (h3 q hq)
  · rcases hf with rfl | ⟨d, rfl, hd⟩
    · cases hq
    · rw [List.mem_singleton.mp hq]
      have := fig_cs hd
      omega
theorem step {l : Tx} {c : Nat} (hn : nm (l ++ [c]) = true) (h9 : c ≠ 57) : nm (nx (l ++ [c])) = true ∧ rk (nx (l ++ [c])) + 1 = rk (l ++ [c]) := by
  obtain ⟨t, f, e, h1, h2, h3, hf⟩ := nm_form hn
  rw [nx_snoc]
  rcases hf with rfl | ⟨d, rfl, hd⟩
  · rw [List.append_nil] at e
    have hc : c ∈ LET := h3 c (by rw [← e]; simp)
    rw [fig_low c hc]
    simp only [Bool.false_eq_true, if_false]
    refine ⟨?_, ?_⟩
    · rw [e]
      exact nm_of h1 h2 h3 (.inr ⟨50, rfl, rfl⟩)
    · rw [rk_snoc, rk_snoc, fig_low c hc]
      rfl
  · obtain ⟨rfl, hcd⟩ := List.append_inj' e rfl
    obtain rfl := (List.cons.inj hcd).1
    rw [hd]
    have hd2 : fig [c + 1] = true := by
      rcases fig_cs hd with rfl | rfl | rfl | rfl | rfl | rfl | rfl | rfl <;> first | rfl | exact absurd rfl h9
    simp only [if_true]
    refine ⟨nm_of h1 h2 h3 (.inr ⟨c + 1, rfl, hd2⟩), ?_⟩
    rw [rk_snoc, rk_snoc, hd, hd2]
    have := fig_cs hd
    simp only [if_true]
    omega
theorem nb : nm [98] = true := nm_of (t := [98]) (f := []) (by decide) (by decide) (by decide) (.inl rfl)
theorem next_b {k : Nat} {h : MH} : ∃ h', callM (P shw) (k + 3) 9 [.str [98]] h = .ok (.str [98, 50]) h' ∧ Grow h h' := next_l (l := []) (c := 98) (by decide) nb rfl
theorem isi_t {l : List MV} {h : MH} : bR (isiM (P shw) (.tup l) .str h) h = .ok (.bl false) h := rfl
section
variable {k : Nat} {x0 x1 x2 x3 x5 x6 : Option MV}
theorem one {h : MH} {s : Tx} {x7 : Option MV} (hn : nm s = true) : ∃ h1, Grow h h1 ∧ execs (P shw) (callM (P shw) (k + 4)) k15_0_1_1 [x0, x1, x2, x3, some (.str s), x5, x6, x7] h
    = if nine s then .bk [x0, x1, x2, x3, some (.str s), x5, x6, some tNext] h1 else .nx [x0, x1, x2, x3, some (.str (nx s)), x5, x6, some (.str (nx s))] h1 := by
  have hl : s.length ≤ 40 := Nat.le_trans (nm_len hn) (by omega)
  obtain ⟨h1, e1, q1⟩ := law_next (shw := shw) (k := k) (h := h) hl
  obtain ⟨h2, e2, q2⟩ := law_due (shw := shw) (k := k + 2) (h := h1) hl
  obtain ⟨h3, e3, q3⟩ := next_b (shw := shw) (k := k + 1) (h := h2)
  obtain ⟨h4, e4, q4⟩ := law_next (shw := shw) (k := k) (h := h3) hl
  have z0 : exec (P shw) (callM (P shw) (k + 4)) s15_0_1_1_0 [x0, x1, x2, x3, some (.str s), x5, x6, x7] h = .nx [x0, x1, x2, x3, some (.str s), x5, x6, some (ans s)] h1 := by simp only [exec, execs, tv, ev, evs, eo, ct, asg, asgs, itv, bind_ok', go_ok, noEx_ok', setM, callP, pick, negM, isNM, mc_bt, t_bl, b_add, b_sub, b_mod, b_fdiv, b_pow3, b_pow18, b_pow30, b_str, c_lt, c_gt, c_le, c_ge, c_eqi, c_nei, c_eqs, c_nes, c_eqb, c_neb, f_len, f_max, f_min, f_abs, List.getElem?_cons_zero, List.getElem?_cons_succ, List.set_cons_zero, List.set_cons_succ, List.length_cons, List.length_nil, if_true, if_false, decide_true, decide_false, Bool.not_true, Bool.not_false, Bool.false_eq_true, Bool.or_true, Bool.true_or, Bool.or_false, Bool.false_or, Bool.and_true, Bool.true_and, Bool.and_false, Bool.false_and, beq_self_eq_true, s15_0_1_1_0, e1]
  have z1 : exec (P shw) (callM (P shw) (k + 4)) s15_0_1_1_1 [x0, x1, x2, x3, some (.str s), x5, x6, some (ans s)] h1 = .nx [x0, x1, x2, x3, some (.str s), x5, x6, some (ans s)] h4 := by
    simp only [exec, execs, tv, ev, evs, eo, ct, asg, asgs, itv, bind_ok', go_ok, noEx_ok', setM, callP, pick, negM, isNM, mc_bt, t_bl, b_add, b_sub, b_mod, b_fdiv, b_pow3, b_pow18, b_pow30, b_str, c_lt, c_gt, c_le, c_ge, c_eqi, c_nei, c_eqs, c_nes, c_eqb, c_neb, f_len, f_max, f_min, f_abs, List.getElem?_cons_zero, List.getElem?_cons_succ, List.set_cons_zero, List.set_cons_succ, List.length_cons, List.length_nil, if_true, if_false, decide_true, decide_false, Bool.not_true, Bool.not_false, Bool.false_eq_true, Bool.or_true, Bool.true_or, Bool.or_false, Bool.false_or, Bool.and_true, Bool.true_and, Bool.and_false, Bool.false_and, beq_self_eq_true, s15_0_1_1_1, e2, ne_ans, e3, e4]
  have q := ((q1.trans q2).trans q3).trans q4
  obtain ⟨l, c, rfl⟩ := nm_snoc hn
  by_cases h9 : c = 57
  · subst h9
    rw [nine_snoc]
    rw [ans_9 hn] at z0 z1
    refine ⟨h4, q, x_nx z0 (x_nx z1 (x_bk ?_))⟩
    simp only [exec, execs, tv, ev, evs, eo, ct, asg, asgs, itv, bind_ok', go_ok, noEx_ok', setM, callP, pick, negM, isNM, mc_bt, t_bl, b_add, b_sub, b_mod, b_fdiv, b_pow3, b_pow18, b_pow30, b_str, c_lt, c_gt, c_le, c_ge, c_eqi, c_nei, c_eqs, c_nes, c_eqb, c_neb, f_len, f_max, f_min, f_abs, List.getElem?_cons_zero, List.getElem?_cons_succ, List.set_cons_zero, List.set_cons_succ, List.length_cons, List.length_nil, if_true, if_false, decide_true, decide_false, Bool.not_true, Bool.not_false, Bool.false_eq_true, Bool.or_true, Bool.true_or, Bool.or_false, Bool.false_or, Bool.and_true, Bool.true_and, Bool.and_false, Bool.false_and, beq_self_eq_true, s15_0_1_1_2, tNext, isi_t]
  · rw [nine_snoc, beq_false_of_ne h9]
    rw [ans_n hn h9] at z0 z1
    obtain ⟨sn, _⟩ := step hn h9
    obtain ⟨h5, e5, q5⟩ := name_ok (P := P shw) (k := k + 3) (h := h4) (s := nx (l ++ [c])) (by have := nm_len sn; unfold LIM; omega)
    rw [sn] at e5
    refine ⟨h5, q.trans q5, x_nx z0 (x_nx z1 (x_nx (σ1 := [x0, x1, x2, x3, some (.str (l ++ [c])), x5, x6, some (.str (nx (l ++ [c])))]) (h1 := h4) ?_ (x_nx (σ1 := [x0, x1, x2, x3, some (.str (l ++ [c])), x5, x6, some (.str (nx (l ++ [c])))]) (h1 := h5) ?_ (x_end ?_))))⟩
    · simp only [exec, execs, tv, ev, evs, eo, ct, asg, asgs, itv, bind_ok', go_ok, noEx_ok', setM, callP, pick, negM, isNM, mc_bt, t_bl, b_add, b_sub, b_mod, b_fdiv, b_pow3, b_pow18, b_pow30, b_str, c_lt, c_gt, c_le, c_ge, c_eqi, c_nei, c_eqs, c_nes, c_eqb, c_neb, f_len, f_max, f_min, f_abs, List.getElem?_cons_zero, List.getElem?_cons_succ, List.set_cons_zero, List.set_cons_succ, List.length_cons, List.length_nil, if_true, if_false, decide_true, decide_false, Bool.not_true, Bool.not_false, Bool.false_eq_true, Bool.or_true, Bool.true_or, Bool.or_false, Bool.false_or, Bool.and_true, Bool.true_and, Bool.and_false, Bool.false_and, beq_self_eq_true, s15_0_1_1_2, isi_s]
    · simp only [exec, execs, tv, ev, evs, eo, ct, asg, asgs, itv, bind_ok', go_ok, noEx_ok', setM, callP, pick, negM, isNM, mc_bt, t_bl, b_add, b_sub, b_mod, b_fdiv, b_pow3, b_pow18, b_pow30, b_str, c_lt, c_gt, c_le, c_ge, c_eqi, c_nei, c_eqs, c_nes, c_eqb, c_neb, f_len, f_max, f_min, f_abs, List.getElem?_cons_zero, List.getElem?_cons_succ, List.set_cons_zero, List.set_cons_succ, List.length_cons, List.length_nil, if_true, if_false, decide_true, decide_false, Bool.not_true, Bool.not_false, Bool.false_eq_true, Bool.or_true, Bool.true_or, Bool.or_false, Bool.false_or, Bool.and_true, Bool.true_and, Bool.and_false, Bool.false_and, beq_self_eq_true, s15_0_1_1_3, e5]
    · simp only [exec, execs, tv, ev, evs, eo, ct, asg, asgs, itv, bind_ok', go_ok, noEx_ok', setM, callP, pick, negM, isNM, mc_bt, t_bl, b_add, b_sub, b_mod, b_fdiv, b_pow3, b_pow18, b_pow30, b_str, c_lt, c_gt, c_le, c_ge, c_eqi, c_nei, c_eqs, c_nes, c_eqb, c_neb, f_len, f_max, f_min, f_abs, List.getElem?_cons_zero, List.getElem?_cons_succ, List.set_cons_zero, List.set_cons_succ, List.length_cons, List.length_nil, if_true, if_false, decide_true, decide_false, Bool.not_true, Bool.not_false, Bool.false_eq_true, Bool.or_true, Bool.true_or, Bool.or_false, Bool.false_or, Bool.and_true, Bool.true_and, Bool.and_false, Bool.false_and, beq_self_eq_true, s15_0_1_1_4]
theorem all {h : MH} {s : Tx} {x7 : Option MV} (hn : nm s = true) : ∃ h1 s1 y5 y7, nm s1 = true ∧ nine s1 = true ∧ Grow h h1 ∧ exec (P shw) (callM (P shw) (k + 4)) s15_0_1_1 [x0, x1, x2, x3, some (.str s), x5, x6, x7] h = .nx [x0, x1, x2, x3, some (.str s1), y5, x6, y7] h1 := by
  have ir : itv (P shw) (callM (P shw) (k + 4)) (.rng (.int 10)) [x0, x1, x2, x3, some (.str s), x5, x6, x7] h = .ok (.items (rngL 0 10)) h := it_rng rfl (by omega) (by omega)
  obtain ⟨σ', h', e, gr, s1, y5, y7, n1, n2, rfl⟩ := for_bk (j := 5) (b := k15_0_1_1) (fun i σ h1 => Grow h h1 ∧ ∃ s1 y5 y7, nm s1 = true ∧ rk s1 + i ≤ 8 ∧ σ = [x0, x1, x2, x3, some (.str s1), y5, x6, y7])
    (fun σ h1 => Grow h h1 ∧ ∃ s1 y5 y7, nm s1 = true ∧ nine s1 = true ∧ σ = [x0, x1, x2, x3, some (.str s1), y5, x6, y7]) ir ⟨.refl, s, _, _, hn, rk_le, rfl⟩ (by
      rintro i v σ h1 ee ⟨gr, s1, y5, y7, n1, r1, rfl⟩
      obtain ⟨h2, q2, e2⟩ := one (shw := shw) (k := k) (x0 := x0) (x1 := x1) (x2 := x2) (x3 := x3) (x5 := some v) (x6 := x6) (x7 := y7) (h := h1) n1
      cases h9 : nine s1 with
      | true =>
        rw [h9] at e2
        exact .inr ⟨_, h2, e2, gr.trans q2, s1, _, _, n1, h9, rfl⟩
      | false =>
        rw [h9] at e2
        obtain ⟨l, c, rfl⟩ := nm_snoc n1
        rw [nine_snoc] at h9
        obtain ⟨sn, sr⟩ := step n1 (fun z => by rw [z] at h9; cases h9)
        exact .inl ⟨_, h2, e2, gr.trans q2, _, _, _, sn, by omega, rfl⟩) (by
      rintro σ h1 ⟨gr, s1, y5, y7, n1, r1, rfl⟩
      rw [rng_len] at r1
      have : (10 - 0 : Int).toNat = 10 := rfl
      omega)
  exact ⟨h', s1, y5, y7, n1, n2, gr, e⟩
theorem thing_1 {b : Nat} {h h1 : MH} {v : MV} {y7 : Option MV} {y4 : Option MV} (t : Thing b h1 v) (g : Grow h1 h) : ∃ h', execs (P shw) (callM (P shw) (k + 4)) k15_0_1_3 [x0, x1, x2, x3, y4, x5, some v, y7] h = .nx [x0, x1, x2, x3, y4, x5, some v, y7] h' ∧ Grow h h' := by
  rcases t.1 with ⟨s, rfl, hs⟩ | o
  · obtain ⟨h2, e2, q2⟩ := law_next (shw := shw) (k := k) (h := h) hs
    obtain ⟨h3, e3, q3⟩ := law_due (shw := shw) (k := k + 2) (h := h2) hs
    refine ⟨h3, x_end ?_, q2.trans q3⟩
    simp only [exec, execs, tv, ev, evs, eo, ct, asg, asgs, itv, bind_ok', go_ok, noEx_ok', setM, callP, pick, negM, isNM, mc_bt, t_bl, b_add, b_sub, b_mod, b_fdiv, b_pow3, b_pow18, b_pow30, b_str, c_lt, c_gt, c_le, c_ge, c_eqi, c_nei, c_eqs, c_nes, c_eqb, c_neb, f_len, f_max, f_min, f_abs, List.getElem?_cons_zero, List.getElem?_cons_succ, List.set_cons_zero, List.set_cons_succ, List.length_cons, List.length_nil, if_true, if_false, decide_true, decide_false, Bool.not_true, Bool.not_false, Bool.false_eq_true, Bool.or_true, Bool.true_or, Bool.or_false, Bool.false_or, Bool.and_true, Bool.true_and, Bool.and_false, Bool.false_and, beq_self_eq_true, s15_0_1_3_0, e2, e3, ne_ans]
  · obtain ⟨h2, e2, q2⟩ := law_next_no (shw := shw) (k := k) (h := h) (o h g.gb).name .refl
    have e3 := due_no (shw := shw) (k := k + 2) (h := h2) (odd_good (o h2 (g.trans q2).gb))
    refine ⟨h2, x_end ?_, q2⟩
    simp only [exec, execs, tv, ev, evs, eo, ct, asg, asgs, itv, bind_ok', go_ok, noEx_ok', setM, callP, pick, negM, isNM, mc_bt, t_bl, b_add, b_sub, b_mod, b_fdiv, b_pow3, b_pow18, b_pow30, b_str, c_lt, c_gt, c_le, c_ge, c_eqi, c_nei, c_eqs, c_nes, c_eqb, c_neb, f_len, f_max, f_min, f_abs, List.getElem?_cons_zero, List.getElem?_cons_succ, List.set_cons_zero, List.set_cons_succ, List.length_cons, List.length_nil, if_true, if_false, decide_true, decide_false, Bool.not_true, Bool.not_false, Bool.false_eq_true, Bool.or_true, Bool.true_or, Bool.or_false, Bool.false_or, Bool.and_true, Bool.true_and, Bool.and_false, Bool.false_and, beq_self_eq_true, s15_0_1_3_0, e2, e3, tName, ne_tup]
theorem turn_ok {b : Nat} {h : MH} {x4 x7 : Option MV} (w : Bag h b) : ∃ h' y4 y5 y6 y7, execs (P shw) (callM (P shw) (k + 4)) k15_0_1 [x0, x1, some (.ref b), x3, x4, x5, x6, x7] h = .nx [x0, x1, some (.ref b), x3, y4, y5, y6, y7] h' ∧ Bag h' b := by
  obtain ⟨n, h1, e1, nn, nl, nc, w1, G1⟩ := drawn_ok (P := P shw) (k := k + 2) w
  obtain ⟨h2, s1, y5, y7, n1, n9, q2, e2⟩ := all (shw := shw) (k := k) (x0 := x0) (x1 := x1) (x2 := some (.ref b)) (x3 := x3) (x5 := x5) (x6 := x6) (x7 := x7) (h := h1) nn
  have w2 := w1.grow q2
  obtain ⟨h3, e3, q3⟩ := law_next (shw := shw) (k := k) (h := h2) (s := s1) (Nat.le_trans (nm_len n1) (by omega))
  have ea : ans s1 = tNext := by
    unfold ans
    rw [n1, n9]
    rfl
  rw [ea] at e3
  have w3 := w2.grow q3
  obtain ⟨v1, h4, e4, t4, w4, G4⟩ := odd_ok (shw := shw) (k := k + 2) w3 (n := s1) ⟨nm_len n1, nm_lo n1⟩
  obtain ⟨m, h5, e5, mn, ml, mc, w5, G5⟩ := drawn_ok (P := P shw) (k := k + 2) w4
  obtain ⟨v2, h6, e6, t6, w6, G6⟩ := odd_ok (shw := shw) (k := k + 2) w5 (n := m) ⟨ml, mc⟩
  have n4 : newList h6 [v1, v2] = .ok (.ref h6.size) (h6.push (.lst [v1, v2])) := n_list (by show 2 ≤ LIM; unfold LIM; omega)
  have g4 : (h6.push (.lst [v1, v2])).get h6.size = some (.lst [v1, v2]) := get_push_size
  have th : ∀ v ∈ [v1, v2], Thing b (h6.push (.lst [v1, v2])) v := by
    intro v hv
    simp only [List.mem_cons, List.not_mem_nil, or_false] at hv
    rcases hv with rfl | rfl
    · exact t4.grow (G5.trans G6).push
    · exact t6.grow Grow.one.gb
  have w7 := w6.push (o := .lst [v1, v2])
  generalize (h6.push (.lst [v1, v2])) = h7 at n4 g4 th w7
  generalize h6.size = r at n4 g4
  have ir : itv (P shw) (callM (P shw) (k + 4)) (.ex (.lst (.cons (.call 12 (.cons (.var 2) (.cons (.var 4) .nil)) .nil [] [.pos 0, .pos 1]) (.cons (.call 12 (.cons (.var 2) (.cons (.call 5 (.cons (.var 2) .nil) .nil [] [.pos 0]) .nil)) .nil [] [.pos 0, .pos 1]) .nil)))) [x0, x1, some (.ref b), x3, some (.str s1), y5, x6, y7] h3 = .ok (.live r) h7 :=
    it_ref (by simp only [exec, execs, tv, ev, evs, eo, ct, asg, asgs, itv, bind_ok', go_ok, noEx_ok', setM, callP, pick, negM, isNM, mc_bt, t_bl, b_add, b_sub, b_mod, b_fdiv, b_pow3, b_pow18, b_pow30, b_str, c_lt, c_gt, c_le, c_ge, c_eqi, c_nei, c_eqs, c_nes, c_eqb, c_neb, f_len, f_max, f_min, f_abs, List.getElem?_cons_zero, List.getElem?_cons_succ, List.set_cons_zero, List.set_cons_succ, List.length_cons, List.length_nil, if_true, if_false, decide_true, decide_false, Bool.not_true, Bool.not_false, Bool.false_eq_true, Bool.or_true, Bool.true_or, Bool.or_false, Bool.false_or, Bool.and_true, Bool.true_and, Bool.and_false, Bool.false_and, beq_self_eq_true, e4, e5, e6, n4]) g4
  obtain ⟨σ', h', e8, gr, y6, rfl⟩ := for_live (j := 6) (b := k15_0_1_3) (fun _ σ h => Grow h7 h ∧ ∃ y6, σ = [x0, x1, some (.ref b), x3, some (.str s1), y5, y6, y7]) ir (fun i σ h p => p.1.2 _ _ g4) ⟨.refl, _, rfl⟩ (by
    rintro i v σ h ee ⟨gr, y6, rfl⟩
    obtain ⟨h', e, gr'⟩ := thing_1 (shw := shw) (k := k) (x0 := x0) (x1 := x1) (x2 := some (.ref b)) (x3 := x3) (x5 := y5) (y4 := some (.str s1)) (y7 := y7) (h := h) (th v (List.mem_of_getElem? ee)) gr
    exact ⟨_, h', e, gr.trans gr', _, rfl⟩)
  refine ⟨h', some (.str s1), y5, y6, y7, x_nx (σ1 := [x0, x1, some (.ref b), x3, some (.str n), x5, x6, x7]) (h1 := h1) ?_ (x_nx e2 (x_nx (σ1 := [x0, x1, some (.ref b), x3, some (.str s1), y5, x6, y7]) (h1 := h3) ?_ (x_end e8))), w7.grow gr⟩
  · simp only [exec, execs, tv, ev, evs, eo, ct, asg, asgs, itv, bind_ok', go_ok, noEx_ok', setM, callP, pick, negM, isNM, mc_bt, t_bl, b_add, b_sub, b_mod, b_fdiv, b_pow3, b_pow18, b_pow30, b_str, c_lt, c_gt, c_le, c_ge, c_eqi, c_nei, c_eqs, c_nes, c_eqb, c_neb, f_len, f_max, f_min, f_abs, List.getElem?_cons_zero, List.getElem?_cons_succ, List.set_cons_zero, List.set_cons_succ, List.length_cons, List.length_nil, if_true, if_false, decide_true, decide_false, Bool.not_true, Bool.not_false, Bool.false_eq_true, Bool.or_true, Bool.true_or, Bool.or_false, Bool.false_or, Bool.and_true, Bool.true_and, Bool.and_false, Bool.false_and, beq_self_eq_true, s15_0_1_0, e1]
  · simp only [exec, execs, tv, ev, evs, eo, ct, asg, asgs, itv, bind_ok', go_ok, noEx_ok', setM, callP, pick, negM, isNM, mc_bt, t_bl, b_add, b_sub, b_mod, b_fdiv, b_pow3, b_pow18, b_pow30, b_str, c_lt, c_gt, c_le, c_ge, c_eqi, c_nei, c_eqs, c_nes, c_eqb, c_neb, f_len, f_max, f_min, f_abs, List.getElem?_cons_zero, List.getElem?_cons_succ, List.set_cons_zero, List.set_cons_succ, List.length_cons, List.length_nil, if_true, if_false, decide_true, decide_false, Bool.not_true, Bool.not_false, Bool.false_eq_true, Bool.or_true, Bool.true_or, Bool.or_false, Bool.false_or, Bool.and_true, Bool.true_and, Bool.and_false, Bool.false_and, beq_self_eq_true, s15_0_1_2, e3, t1, tNext, ne_tup]
end

theorem at_ok {k i : Nat} {h : MH} {ns : List Int} {x2 x3 x4 x5 x6 x7 : Option MV} (hi : i < 8) :
    ∃ h' y2 y3 y4 y5 y6 y7, execs (P shw) (callM (P shw) (k + 4)) k15_0 [some (.kl (ns.map MV.int)), some (.int i), x2, x3, x4, x5, x6, x7] h = .nx [some (.kl (ns.map MV.int)), some (.int i), y2, y3, y4, y5, y6, y7] h' := by
  obtain ⟨b, h1, eb, w1, _⟩ := bag_new (P := P shw) (k := k + 3) (h := h) (ns := ns) hi
  have ir : itv (P shw) (callM (P shw) (k + 4)) (.rng (.int 4)) [some (.kl (ns.map MV.int)), some (.int i), some (.ref b), x3, x4, x5, x6, x7] h1 = .ok (.items (rngL 0 4)) h1 :=
    it_rng rfl (by omega) (by omega)
  obtain ⟨σ', h', e, w', y3, y4, y5, y6, y7, rfl⟩ := for_items (j := 3) (b := k15_0_1) (fun _ σ h => Bag h b ∧ ∃ y3 y4 y5 y6 y7, σ = [some (.kl (ns.map MV.int)), some (.int i), some (.ref b), y3, y4, y5, y6, y7]) ir ⟨w1, _, _, _, _, _, rfl⟩ (by
    rintro n v σ h ee ⟨w, y3, y4, y5, y6, y7, rfl⟩
    obtain ⟨h', z4, z5, z6, z7, e, w'⟩ := turn_ok (shw := shw) (k := k) (x0 := some (.kl (ns.map MV.int))) (x1 := some (.int i)) (x3 := some v) (x4 := y4) (x5 := y5) (x6 := y6) (x7 := y7) w
    exact ⟨_, h', e, w', _, _, _, _, _, rfl⟩)
  refine ⟨h', some (.ref b), y3, y4, y5, y6, y7, x_nx (σ1 := [some (.kl (ns.map MV.int)), some (.int i), some (.ref b), x3, x4, x5, x6, x7]) (h1 := h1) ?_ (x_end e)⟩
  simp only [exec, execs, tv, ev, evs, eo, ct, asg, asgs, itv, bind_ok', go_ok, noEx_ok', setM, callP, pick, negM, isNM, mc_bt, t_bl, b_add, b_sub, b_mod, b_fdiv, b_pow3, b_pow18, b_pow30, b_str, c_lt, c_gt, c_le, c_ge, c_eqi, c_nei, c_eqs, c_nes, c_eqb, c_neb, f_len, f_max, f_min, f_abs, List.getElem?_cons_zero, List.getElem?_cons_succ, List.set_cons_zero, List.set_cons_succ, List.length_cons, List.length_nil, if_true, if_false, decide_true, decide_false, Bool.not_true, Bool.not_false, Bool.false_eq_true, Bool.or_true, Bool.true_or, Bool.or_false, Bool.false_or, Bool.and_true, Bool.true_and, Bool.and_false, Bool.false_and, beq_self_eq_true, s15_0_0, eb]
theorem pure_law (shw : PD → Tx) : ∀ ns : List Int, ns.length ≤ 63 → ∃ h', callM (P shw) (5 + 1) nlaw [.kl (ns.map MV.int)] ⟨[]⟩ = .ok (.bl true) h' := by
  intro ns hn
  obtain ⟨σ', h', e⟩ := cells (P := P shw) (C := callM (P shw) 5) (ns := ns) (n := 8) (j := 1) (b := k15_0) (m := 4) (by omega) (by omega) rfl [some (.kl (ns.map MV.int)), none, none, none, none, none, none, none] ⟨[]⟩ rfl (by
    intro i σ h hi hl h0
    match σ, hl, h0 with
    | [a0, a1, a2, a3, a4, a5, a6, a7], _, h0 =>
      obtain rfl : a0 = some (.kl (ns.map MV.int)) := Option.some.inj h0
      obtain ⟨h', y2, y3, y4, y5, y6, y7, e⟩ := at_ok (shw := shw) (k := 1) (h := h) (ns := ns) (i := i) (x2 := a2) (x3 := a3) (x4 := a4) (x5 := a5) (x6 := a6) (x7 := a7) hi
      exact ⟨_, h', e, rfl, rfl⟩) rfl
  exact ⟨h', f_rt [some (.kl (ns.map MV.int)), none, none, none, none, none, none, none] rfl rfl (x_nx e (x_rt (by simp only [exec, execs, tv, ev, evs, eo, ct, asg, asgs, itv, bind_ok', go_ok, noEx_ok', setM, callP, pick, negM, isNM, mc_bt, t_bl, b_add, b_sub, b_mod, b_fdiv, b_pow3, b_pow18, b_pow30, b_str, c_lt, c_gt, c_le, c_ge, c_eqi, c_nei, c_eqs, c_nes, c_eqb, c_neb, f_len, f_max, f_min, f_abs, List.getElem?_cons_zero, List.getElem?_cons_succ, List.set_cons_zero, List.set_cons_succ, List.length_cons, List.length_nil, if_true, if_false, decide_true, decide_false, Bool.not_true, Bool.not_false, Bool.false_eq_true, Bool.or_true, Bool.true_or, Bool.or_false, Bool.false_or, Bool.and_true, Bool.true_and, Bool.and_false, Bool.false_and, beq_self_eq_true, s15_1])))⟩
end K02
set_option Elab.async false
set_option linter.all false
set_option maxRecDepth 100000
set_option maxHeartbeats 4000000
/-! S1: how the plain interpreter's values and heap stand for the hand layer's. -/
namespace DM
open PySem L2

/-- what the text's own things stand at -/
structure Env1 where
  ca : Nat → Addr          -- classes
  fnm : Nat → Str          -- attributes' and methods' names
  fa : Nat → Addr          -- defs
  kn : Nat → Bool          -- known names

/-- the written part, the world, the defs -/
structure KW where
  K : PySem.W.Frag
  w : World
  fa : Nat → Addr
instance : Coe KW PySem.W.Frag := ⟨KW.K⟩
abbrev KW.In (k : KW) (h : Heap) : Prop := k.K.In h
section
variable (K : PySem.W.Frag)
/-- a list of the top -/
def KL (a : Addr) (xs : List V) : Prop := ∃ (o : Obj) (its : Array Value) (n : Nat), K.lookup a = some o ∧ o.cls = .type "list" ∧ o.dict = none ∧ o.data = .seq its n ∧ its.size ≤ sizeLine ∧ Vals xs its.toList
/-- a list that is never written: of the top, or known whole -/
def KLs (H : Hp) (a : Addr) (xs : List V) : Prop := (∃ o, H a = some (.frz o (.lst xs))) ∨ KL K a xs
theorem KLs.sq {K : PySem.W.Frag} {a : Addr} {xs : List V} {H : Hp} (h : KLs K H a xs) : SqL K H a xs := by
  rcases h with ⟨o, h⟩ | h
  · exact .inl (.inr ⟨o, h⟩)
  · exact .inr h
/-- what is never written stays -/
structure Fx (H H' : Hp) : Prop where
  t : ∀ a xs, SqT K H a xs → SqT K H' a xs
  l : ∀ a xs, KLs K H a xs → KLs K H' a xs
end
/-- a text of signs, no longer than may be -/
def TxOk (s : Tx) : Prop := s.length ≤ sizeLine ∧ ∀ c ∈ s, c < 1114112
section
variable (K : KW) (Z : Env1)
mutual
def VR (f : Nat → Addr) (N : Nat) (H : Hp) : MV → V → Prop
  | .non, v => v = .non
  | .bl b, v => v = .bl b
  | .int i, v => v = .int i
  | .str s, v => v = .str ⟨s.toArray⟩ ∧ TxOk s
  | .tup l, v => ∃ a vs, v = .ref a ∧ SqT K H a vs ∧ VRs f N H l vs
  | .ref n, v => n < N ∧ v = .ref (f n)
  | .kl l, v => ∃ a vs, v = .ref a ∧ KLs K H a vs ∧ VRs f N H l vs
  | .kd l, v => ∃ a es n, v = .ref a ∧ KDict K.K K.w a es n ∧ KDr f N H l es.toList
  | .fn i, v => v = .ref (K.fa i)
  | .exc _ _, _ => False
def VRs (f : Nat → Addr) (N : Nat) (H : Hp) : List MV → List V → Prop
  | [], vs => vs = []
  | x :: xs, vs => ∃ y ys, vs = y :: ys ∧ VR f N H x y ∧ VRs f N H xs ys
/-- a written dict's entries -/
def KDr (f : Nat → Addr) (N : Nat) (H : Hp) : List (MV × MV) → List DictEntry → Prop
  | [], es => es = []
  | (k, m) :: r, es => ∃ e es' s t v, es = e :: es' ∧ k = .str s ∧ e.key = .str ⟨s.toArray⟩ t ∧ TxOk s ∧ RelV v e.val ∧ VR f N H m v ∧ KDr f N H r es'
end

/-- an instance's attributes -/
def FRs (f : Nat → Addr) (N : Nat) (H : Hp) : List (Nat × MV) → List (Str × V) → Prop
  | [], gs => gs = []
  | p :: r, gs => ∃ v ys, gs = (Z.fnm p.1, v) :: ys ∧ VR K f N H p.2 v ∧ FRs f N H r ys
/-- a dict's keys, its entries -/
def KR : MV → Key → Prop
  | .int i, k => k = .inl i
  | .str s, k => k = .inr ⟨s.toArray⟩ ∧ TxOk s
  | _, _ => False
def DKr (f : Nat → Addr) (N : Nat) (H : Hp) : List (MV × MV) → List (Key × V) → Prop
  | [], gs => gs = []
  | p :: r, gs => ∃ k v ys, gs = (k, v) :: ys ∧ KR p.1 k ∧ VR K f N H p.2 v ∧ DKr f N H r ys
/-- a dict, walked or not -/
def DAt (H : Hp) (a : Addr) (kvs : List (Key × V)) : Bool → Prop
  | false => H a = some (.dK kvs)
  | true => ∃ o, H a = some (.frz o (.dK kvs))

/-! dicts whose keys are tuples -/
def leafM : MV → Option Leaf
  | .int i => some (.num i)
  | .bl b => some (.num (if b then 1 else 0))
  | .str s => some (.text ⟨s.toArray⟩)
  | _ => none
def leavesM : List MV → Option (List Leaf)
  | [] => some []
  | x :: r => match leafM x, leavesM r with
    | some k, some l => some (k :: l)
    | _, _ => none
def lfH (w : World) (ls : List Leaf) : Int := reduceHash (Builtin.Tuple.tupleHashOf (ls.map fun k => k.key.hash w))
abbrev EntT := List Leaf × Addr × V
def TabT (w : World) (h : Heap) (a : Addr) (ents : List EntT) : Prop := ents.length ≤ sizeLine ∧ (a == sysModules) = false ∧
  ∃ o es ep, h.get? a = some o ∧ o.ExactDict ∧ o.data = .dict es ep ∧ Paired (fun (e : DictEntry) (q : EntT) => e.hash = lfH w q.1 ∧ e.key = .ref q.2.1 ∧ RelV q.2.2 e.val) es.toList ents
def DTo (w : World) (a : Addr) (ents : List EntT) : HO := .ext fun h => TabT w h a ents
def TKr (f : Nat → Addr) (N : Nat) (H : Hp) : List (MV × MV) → List EntT → Prop
  | [], es => es = []
  | p :: r, es => ∃ ks ls vs q v ys, es = (ls, q, v) :: ys ∧ p.1 = .tup ks ∧ leavesM ks = some ls ∧ SqT K H q vs ∧ VRs K f N H ks vs ∧ VR K f N H p.2 v ∧ TKr f N H r ys
def DAtT (H : Hp) (a : Addr) (ents : List EntT) : Bool → Prop
  | false => H a = some (DTo K.w a ents)
  | true => ∃ o, H a = some (.frz o (DTo K.w a ents))
def OR (f : Nat → Addr) (N : Nat) (H : Hp) (a : Addr) : MO → Prop
  | .lst l => ∃ vs, H a = some (.lst vs) ∧ VRs K f N H l vs
  | .ins c fs => ∃ dx gs, H a = some (.ins (Z.ca c) dx gs) ∧ FRs K Z f N H fs gs ∧ ∀ p ∈ fs, Z.kn p.1 = true
  | .dct false lk l => ∃ kvs, DAt H a kvs lk ∧ DKr K f N H l kvs
  | .dct true lk l => ∃ ents, DAtT K H a ents lk ∧ TKr K f N H l ents ∧ (ents.map (·.1)).Nodup
  | .set _ => False
def MO.unl : MO → Bool
  | .dct _ lk _ => !lk
  | _ => true

structure Rl (f : Nat → Addr) (h : MH) (H : Hp) : Prop where
  ob : ∀ n o, h.get n = some o → OR K Z f h.size H (f n) o
  inj : ∀ n m, n < h.size → m < h.size → f n = f m → n = m
end

structure Ext (f : Nat → Addr) (N : Nat) (H : Hp) (f' : Nat → Addr) (N' : Nat) (H' : Hp) : Prop where
  sz : N ≤ N'
  ag : ∀ n, n < N → f' n = f n
  fr : ∀ a o, H a = some o → (∀ n, n < N → f n ≠ a) → H' a = some o
  nw : ∀ n, N ≤ n → n < N' → H (f' n) = none
  dm : ∀ a, H' a = none → H a = none
  fz : ∀ a o u, H a = some (.frz o u) → H' a = some (.frz o u)

theorem Ext.refl (f : Nat → Addr) (N : Nat) (H : Hp) : Ext f N H f N H := ⟨Nat.le_refl _, fun _ _ => rfl, fun _ _ h _ => h, fun n h1 h2 => absurd h2 (by omega), fun _ h => h, fun _ _ _ h => h⟩
theorem Ext.trans {f f' f'' : Nat → Addr} {N N' N'' : Nat} {H H' H'' : Hp} (a : Ext f N H f' N' H') (b : Ext f' N' H' f'' N'' H'') : Ext f N H f'' N'' H'' := by
  refine ⟨Nat.le_trans a.sz b.sz, fun n h => (b.ag n (Nat.lt_of_lt_of_le h a.sz)).trans (a.ag n h), fun x o h hn => ?_, fun n h1 h2 => ?_, fun x h => a.dm x (b.dm x h), fun x o u h => b.fz x o u (a.fz x o u h)⟩
  · refine b.fr x o (a.fr x o h hn) fun n hn' e => ?_
    by_cases hc : n < N
    · rw [a.ag n hc] at e
      exact hn n hc e
    · have := a.nw n (by omega) hn'
      rw [e, h] at this
      cases this
  · by_cases hc : n < N'
    · rw [b.ag n hc]
      exact a.nw n h1 hc
    · exact a.dm _ (b.nw n (by omega) h2)

theorem MH.get_lt {h : MH} {n : Nat} {o : MO} (e : h.get n = some o) : n < h.size := (List.getElem?_eq_some_iff.mp e).1
theorem MH.get_of_lt {h : MH} {n : Nat} (e : n < h.size) : ∃ o, h.get n = some o := ⟨h.objs[n], List.getElem?_eq_getElem e⟩
theorem MH.get_put_same {h : MH} {n : Nat} {o o' : MO} (e : h.get n = some o) : (h.put n o').get n = some o' := List.getElem?_set_self (MH.get_lt e)
theorem MH.get_put_ne {h : MH} {n m : Nat} {o : MO} (e : m ≠ n) : (h.put n o).get m = h.get m := List.getElem?_set_ne (fun q => e q.symm)
theorem MH.size_put (h : MH) (n : Nat) (o : MO) : (h.put n o).size = h.size := List.length_set
theorem MH.size_push (h : MH) (o : MO) : (h.push o).size = h.size + 1 := by
  show (h.objs ++ [o]).length = _
  rw [List.length_append]
  rfl
theorem MH.get_push_lt {h : MH} {n : Nat} {o : MO} (e : n < h.size) : (h.push o).get n = h.get n := List.getElem?_append_left e
theorem MH.get_push_size (h : MH) (o : MO) : (h.push o).get h.size = some o := List.getElem?_concat_length

section
variable {K : KW} {Z : Env1} {f f' : Nat → Addr} {N N' : Nat} {H H' : Hp} {h h' : MH}

mutual
theorem VR.mono (hN : N ≤ N') (hf : ∀ n, n < N → f' n = f n) (ht : Fx K H H') : ∀ (m : MV) (v : V), VR K f N H m v → VR K f' N' H' m v
  | .non, _, h => by unfold VR at h ⊢; exact h
  | .bl _, _, h => by unfold VR at h ⊢; exact h
  | .int _, _, h => by unfold VR at h ⊢; exact h
  | .str _, _, h => by unfold VR at h ⊢; exact h
  | .tup l, _, h => by
    unfold VR at h ⊢
    obtain ⟨a, vs, e, s, r⟩ := h
    exact ⟨a, vs, e, ht.t a vs s, VRs.mono hN hf ht l vs r⟩
  | .ref n, _, h => by
    unfold VR at h ⊢
    exact ⟨Nat.lt_of_lt_of_le h.1 hN, by rw [hf n h.1]; exact h.2⟩
  | .kl l, _, h => by
    unfold VR at h ⊢
    obtain ⟨a, vs, e, s, r⟩ := h
    exact ⟨a, vs, e, ht.l a vs s, VRs.mono hN hf ht l vs r⟩
  | .kd l, _, h => by
    unfold VR at h ⊢
    obtain ⟨a, es, n, e, d, r⟩ := h
    exact ⟨a, es, n, e, d, KDr.mono hN hf ht l _ r⟩
  | .fn _, _, h => by unfold VR at h ⊢; exact h
  | .exc _ _, _, h => by unfold VR at h; exact h.elim
theorem VRs.mono (hN : N ≤ N') (hf : ∀ n, n < N → f' n = f n) (ht : Fx K H H') : ∀ (l : List MV) (vs : List V), VRs K f N H l vs → VRs K f' N' H' l vs
  | [], _, h => by unfold VRs at h ⊢; exact h
  | x :: xs, _, h => by
    unfold VRs at h ⊢
    obtain ⟨y, ys, e, r, s⟩ := h
    exact ⟨y, ys, e, VR.mono hN hf ht x y r, VRs.mono hN hf ht xs ys s⟩
theorem KDr.mono (hN : N ≤ N') (hf : ∀ n, n < N → f' n = f n) (ht : Fx K H H') : ∀ (l : List (MV × MV)) (es : List DictEntry), KDr K f N H l es → KDr K f' N' H' l es
  | [], _, h => by unfold KDr at h ⊢; exact h
  | (k, m) :: r, _, h => by
    unfold KDr at h ⊢
    obtain ⟨e, es', s, t, v, h1, h2, h3, h4, h5, h6, h7⟩ := h
    exact ⟨e, es', s, t, v, h1, h2, h3, h4, h5, VR.mono hN hf ht m v h6, KDr.mono hN hf ht r es' h7⟩
end
theorem FRs.mono (hN : N ≤ N') (hf : ∀ n, n < N → f' n = f n) (ht : Fx K H H') : ∀ (l : List (Nat × MV)) (gs : List (Str × V)), FRs K Z f N H l gs → FRs K Z f' N' H' l gs
  | [], _, h => h
  | _ :: r, _, ⟨v, ys, e, a, b⟩ => ⟨v, ys, e, VR.mono hN hf ht _ _ a, FRs.mono hN hf ht r ys b⟩

theorem DKr.mono (hN : N ≤ N') (hf : ∀ n, n < N → f' n = f n) (ht : Fx K H H') : ∀ (l : List (MV × MV)) (gs : List (Key × V)), DKr K f N H l gs → DKr K f' N' H' l gs
  | [], _, h => h
  | _ :: r, _, ⟨k, v, ys, e, c, a, b⟩ => ⟨k, v, ys, e, c, VR.mono hN hf ht _ _ a, DKr.mono hN hf ht r ys b⟩
theorem TKr.mono (hN : N ≤ N') (hf : ∀ n, n < N → f' n = f n) (ht : Fx K H H') : ∀ (l : List (MV × MV)) (gs : List EntT), TKr K f N H l gs → TKr K f' N' H' l gs
  | [], _, h => h
  | _ :: r, _, ⟨ks, ls, vs, q, v, ys, e, e1, e2, s, t, a, b⟩ => ⟨ks, ls, vs, q, v, ys, e, e1, e2, ht.t _ _ s, VRs.mono hN hf ht _ _ t, VR.mono hN hf ht _ _ a, TKr.mono hN hf ht r ys b⟩
/-- an object that stands as it stood -/
theorem OR.mono {a : Addr} {o : MO} (hN : N ≤ N') (hf : ∀ n, n < N → f' n = f n) (ht : Fx K H H') (ha : H' a = H a) (x : OR K Z f N H a o) : OR K Z f' N' H' a o := by
  cases o with
  | lst l => obtain ⟨vs, e1, e2⟩ := x; exact ⟨vs, ha ▸ e1, VRs.mono hN hf ht _ _ e2⟩
  | ins c fs => obtain ⟨dx, gs, e1, e2, e3⟩ := x; exact ⟨dx, gs, ha ▸ e1, FRs.mono hN hf ht _ _ e2, e3⟩
  | dct t lk l =>
    cases t with
    | false =>
      obtain ⟨kvs, e1, e2⟩ := x
      refine ⟨kvs, ?_, DKr.mono hN hf ht _ _ e2⟩
      cases lk with
      | false => exact (ha.trans e1 : H' a = some (.dK kvs))
      | true => obtain ⟨o, e1⟩ := e1; exact ⟨o, ha ▸ e1⟩
    | true =>
      obtain ⟨ents, e1, e2, e3⟩ := x
      refine ⟨ents, ?_, TKr.mono hN hf ht _ _ e2, e3⟩
      cases lk with
      | false => exact (ha.trans e1 : H' a = some (DTo K.w a ents))
      | true => obtain ⟨o, e1⟩ := e1; exact ⟨o, ha ▸ e1⟩
  | set l => exact x.elim
/-- what is named is no tuple -/
theorem OR.notup {a : Addr} {o : MO} (h : OR K Z f N H a o) : (∀ xs, H a ≠ some (.tup xs)) ∧ (o.unl = true → ∀ ob u, H a ≠ some (.frz ob u)) ∧ H a ≠ none := by
  cases o with
  | lst l => obtain ⟨vs, e, _⟩ := h; rw [e]; exact ⟨fun _ q => (by cases q), fun _ _ _ q => (by cases q), fun q => (by cases q)⟩
  | ins c fs => obtain ⟨dx, gs, e, _⟩ := h; rw [e]; exact ⟨fun _ q => (by cases q), fun _ _ _ q => (by cases q), fun q => (by cases q)⟩
  | dct t lk l =>
    cases t with
    | false =>
      obtain ⟨kvs, e, _⟩ := h
      cases lk with
      | false =>
        have e : H a = some (.dK kvs) := e
        rw [e]
        exact ⟨fun _ q => (by cases q), fun _ _ _ q => (by cases q), fun q => (by cases q)⟩
      | true =>
        obtain ⟨o, e⟩ := e
        rw [e]
        exact ⟨fun _ q => (by cases q), fun z => (by cases z), fun q => (by cases q)⟩
    | true =>
      obtain ⟨ents, e, _⟩ := h
      cases lk with
      | false =>
        have e : H a = some (DTo K.w a ents) := e
        rw [e]
        exact ⟨fun _ q => (by cases q), fun _ _ _ q => (by cases q), fun q => (by cases q)⟩
      | true =>
        obtain ⟨o, e⟩ := e
        rw [e]
        exact ⟨fun _ q => (by cases q), fun z => (by cases z), fun q => (by cases q)⟩
  | set l => exact h.elim
theorem Rl.named (r : Rl K Z f h H) {n : Nat} (hn : n < h.size) : (∀ xs, H (f n) ≠ some (.tup xs)) ∧ H (f n) ≠ none := by
  obtain ⟨o, e⟩ := MH.get_of_lt hn
  have := OR.notup (r.ob n o e)
  exact ⟨this.1, this.2.2⟩
theorem Rl.nofz (r : Rl K Z f h H) {n : Nat} {o : MO} (e : h.get n = some o) (hk : o.unl = true) : ∀ ob u, H (f n) ≠ some (.frz ob u) := (OR.notup (r.ob n o e)).2.1 hk
theorem Rl.text (r : Rl K Z f h H) (e : Ext f h.size H f' N' H') : Fx K H H' := by
  refine ⟨?_, ?_⟩
  · rintro a xs ((q | ⟨o, q⟩) | q)
    · exact .inl (.inl (e.fr a _ q fun n hn ea => (r.named hn).1 xs (ea ▸ q)))
    · exact .inl (.inr ⟨o, e.fz a _ _ q⟩)
    · exact .inr q
  · rintro a xs (⟨o, q⟩ | q)
    · exact .inl ⟨o, e.fz a _ _ q⟩
    · exact .inr q
theorem Rl.vr (r : Rl K Z f h H) (e : Ext f h.size H f' N' H') {m : MV} {v : V} (x : VR K f h.size H m v) : VR K f' N' H' m v := VR.mono e.sz e.ag (r.text e) m v x
theorem Rl.vrs (r : Rl K Z f h H) (e : Ext f h.size H f' N' H') {l : List MV} {vs : List V} (x : VRs K f h.size H l vs) : VRs K f' N' H' l vs := VRs.mono e.sz e.ag (r.text e) l vs x

/-- lists of values -/
theorem VRs.length : ∀ {l : List MV} {vs : List V}, VRs K f N H l vs → l.length = vs.length
  | [], vs, h => by unfold VRs at h; rw [h]; rfl
  | x :: xs, vs, h => by
    unfold VRs at h
    obtain ⟨y, ys, rfl, _, r⟩ := h
    rw [List.length_cons, List.length_cons, VRs.length r]
theorem VRs.get : ∀ {l : List MV} {vs : List V} {i : Nat} {x : MV}, VRs K f N H l vs → l[i]? = some x → ∃ v, vs[i]? = some v ∧ VR K f N H x v
  | [], _, _, _, _, e => by simp at e
  | y :: ys, vs, 0, x, h, e => by
    unfold VRs at h
    obtain ⟨v, ws, rfl, r, _⟩ := h
    have e' : y = x := Option.some.inj e
    exact ⟨v, rfl, e' ▸ r⟩
  | y :: ys, vs, i + 1, x, h, e => by
    unfold VRs at h
    obtain ⟨v, ws, rfl, _, r⟩ := h
    exact VRs.get (i := i) r e
theorem VRs.nil : VRs K f N H [] [] := by unfold VRs; rfl
theorem VRs.cons {x : MV} {v : V} {l : List MV} {vs : List V} (a : VR K f N H x v) (b : VRs K f N H l vs) : VRs K f N H (x :: l) (v :: vs) := by
  unfold VRs
  exact ⟨v, vs, rfl, a, b⟩
theorem VRs.append : ∀ {l : List MV} {vs : List V} {l2 : List MV} {ws : List V}, VRs K f N H l vs → VRs K f N H l2 ws → VRs K f N H (l ++ l2) (vs ++ ws)
  | [], vs, _, _, h, h2 => by unfold VRs at h; rw [h]; exact h2
  | x :: xs, vs, _, _, h, h2 => by
    unfold VRs at h
    obtain ⟨v, ws, rfl, r, t⟩ := h
    exact .cons r (VRs.append t h2)
theorem VRs.set {x : MV} {v : V} (a : VR K f N H x v) : ∀ {l : List MV} {vs : List V} (i : Nat), VRs K f N H l vs → VRs K f N H (l.set i x) (vs.set i v)
  | [], vs, _, h => by unfold VRs at h; rw [h]; exact .nil
  | y :: ys, vs, 0, h => by
    unfold VRs at h
    obtain ⟨w, ws, rfl, r, t⟩ := h
    exact .cons a t
  | y :: ys, vs, i + 1, h => by
    unfold VRs at h
    obtain ⟨w, ws, rfl, r, t⟩ := h
    exact .cons r (VRs.set a i t)
theorem VRs.drop : ∀ {l : List MV} {vs : List V} (i : Nat), VRs K f N H l vs → VRs K f N H (l.drop i) (vs.drop i)
  | l, vs, 0, h => h
  | [], vs, i + 1, h => by unfold VRs at h; rw [h]; exact .nil
  | y :: ys, vs, i + 1, h => by
    unfold VRs at h
    obtain ⟨w, ws, rfl, r, t⟩ := h
    exact VRs.drop i t
theorem VRs.take : ∀ {l : List MV} {vs : List V} (i : Nat), VRs K f N H l vs → VRs K f N H (l.take i) (vs.take i)
  | l, vs, 0, h => .nil
  | [], vs, i + 1, h => by unfold VRs at h; rw [h]; exact .nil
  | y :: ys, vs, i + 1, h => by
    unfold VRs at h
    obtain ⟨w, ws, rfl, r, t⟩ := h
    exact .cons r (VRs.take i t)
theorem VRs.nil_inv {vs : List V} (h : VRs K f N H [] vs) : vs = [] := by unfold VRs at h; exact h
theorem VRs.cons_inv {x : MV} {l : List MV} {vs : List V} (h : VRs K f N H (x :: l) vs) : ∃ v ws, vs = v :: ws ∧ VR K f N H x v ∧ VRs K f N H l ws := by unfold VRs at h; exact h

/-- an object is changed -/
theorem Ext.put {n : Nat} {u : HO} (hn : n < N) (hz : ∀ ob v, H (f n) ≠ some (.frz ob v)) : Ext f N H f N (upd H (f n) u) := ⟨Nat.le_refl _, fun _ _ => rfl, fun a o q hq => by rw [upd_ne (fun z => hq n hn z.symm)]; exact q, fun m h1 h2 => absurd h2 (by omega), fun a q => by
    by_cases z : a = f n
    · rw [z, upd_same] at q; cases q
    · rw [upd_ne z] at q; exact q, fun a o v q => by
    have hne : a ≠ f n := fun z => hz o v (by rw [← z]; exact q)
    rw [upd_ne hne]; exact q⟩
theorem Rl.put (r : Rl K Z f h H) {n : Nat} {o o' : MO} {u : HO} (e : h.get n = some o) (hu : (∀ xs, u ≠ .tup xs)) (ho : OR K Z f h.size (upd H (f n) u) (f n) o') (hk : o.unl = true := by rfl) :
    Ext f h.size H f (h.put n o').size (upd H (f n) u) ∧ Rl K Z f (h.put n o') (upd H (f n) u) := by
  have hn := MH.get_lt e
  have ex : Ext f h.size H f h.size (upd H (f n) u) := Ext.put hn (r.nofz e hk)
  rw [MH.size_put]
  refine ⟨ex, ⟨fun m x q => ?_, fun m k h1 h2 => r.inj m k (by rw [MH.size_put] at h1; exact h1) (by rw [MH.size_put] at h2; exact h2)⟩⟩
  rw [MH.size_put]
  by_cases hm : m = n
  · subst hm
    rw [MH.get_put_same e] at q
    cases q
    exact ho
  · rw [MH.get_put_ne hm] at q
    have hm' := MH.get_lt q
    have hne : f m ≠ f n := fun z => hm (r.inj m n hm' hn z)
    exact (r.ob m x q).mono (Nat.le_refl _) (fun _ _ => rfl) (r.text ex) (upd_ne hne)
/-- something that bears no name is laid or changed aside -/
theorem Ext.aside {p : Addr} {u : HO} (hp : H p = none) : Ext f N H f N (upd H p u) := ⟨Nat.le_refl _, fun _ _ => rfl, fun a o q hq => by rw [upd_ne (ne_of_none q hp)]; exact q, fun m h1 h2 => absurd h2 (by omega), fun a q => by
    by_cases z : a = p
    · rw [z]; exact hp
    · rw [upd_ne z] at q; exact q, fun a o v q => by rw [upd_ne (ne_of_none q hp)]; exact q⟩
theorem Rl.along (r : Rl K Z f h H) (e : Ext f h.size H f h.size H') (hk : ∀ n, n < h.size → H' (f n) = H (f n)) : Rl K Z f h H' :=
  ⟨fun n o q => (r.ob n o q).mono (Nat.le_refl _) (fun _ _ => rfl) (r.text e) (hk n (MH.get_lt q)), r.inj⟩
theorem Rl.aside (r : Rl K Z f h H) {p : Addr} {u : HO} (hp : H p = none) : Rl K Z f h (upd H p u) :=
  r.along (Ext.aside hp) fun n hn => upd_ne fun z => (r.named hn).2 (z ▸ hp)
/-- a new object gets the next number -/
def nxt (f : Nat → Addr) (N : Nat) (p : Addr) : Nat → Addr := fun n => if n = N then p else f n
theorem nxt_at {p : Addr} : nxt f N p N = p := if_pos rfl
theorem nxt_lt {p : Addr} {n : Nat} (hn : n < N) : nxt f N p n = f n := if_neg (Nat.ne_of_lt hn)
theorem Ext.push {p : Addr} {u : HO} (hp : H p = none) : Ext f N H (nxt f N p) (N + 1) (upd H p u) := by
  refine ⟨Nat.le_succ _, fun n hn => nxt_lt hn, fun a o q hq => by rw [upd_ne (ne_of_none q hp)]; exact q, fun m h1 h2 => ?_, fun a q => ?_, fun a o v q => by rw [upd_ne (ne_of_none q hp)]; exact q⟩
  · have : m = N := by omega
    rw [this, nxt_at]
    exact hp
  · by_cases z : a = p
    · rw [z]; exact hp
    · rw [upd_ne z] at q; exact q
theorem Rl.push (r : Rl K Z f h H) {p : Addr} {o : MO} {u : HO} (hp : H p = none) (ho : OR K Z (nxt f h.size p) (h.size + 1) (upd H p u) p o) :
    Ext f h.size H (nxt f h.size p) (h.push o).size (upd H p u) ∧ Rl K Z (nxt f h.size p) (h.push o) (upd H p u) := by
  have ex : Ext f h.size H (nxt f h.size p) (h.size + 1) (upd H p u) := Ext.push hp
  rw [MH.size_push]
  refine ⟨ex, ⟨fun n x q => ?_, fun n m h1 h2 e => ?_⟩⟩
  · have hn : n < h.size + 1 := by rw [← MH.size_push h o]; exact MH.get_lt q
    rw [MH.size_push]
    by_cases z : n = h.size
    · subst z
      rw [MH.get_push_size] at q
      cases q
      rw [nxt_at]
      exact ho
    · have hn' : n < h.size := by omega
      rw [MH.get_push_lt hn'] at q
      rw [nxt_lt hn']
      have hne : f n ≠ p := fun z => (r.named hn').2 (z ▸ hp)
      exact (r.ob n x q).mono ex.sz ex.ag (r.text ex) (upd_ne hne)
  · rw [MH.size_push] at h1 h2
    by_cases z1 : n = h.size
    · by_cases z2 : m = h.size
      · rw [z1, z2]
      · exfalso
        have hm : m < h.size := by omega
        rw [z1, nxt_at, nxt_lt hm] at e
        exact (r.named hm).2 (e ▸ hp)
    · have hn : n < h.size := by omega
      by_cases z2 : m = h.size
      · exfalso
        rw [z2, nxt_at, nxt_lt hn] at e
        exact (r.named hn).2 (e ▸ hp)
      · have hm : m < h.size := by omega
        rw [nxt_lt hn, nxt_lt hm] at e
        exact r.inj n m hn hm e
end

/-- how an exception of the model stands for one of the layer's; cn: the class of number c, fn: its attribute's name -/
def XR (K : KW) (xc : Nat → Value) (xf : Nat → Str) (f : Nat → Addr) (N : Nat) (H : Hp) (c : Nat) (l : List MV) (cls : Value) (d : Option Addr) : Prop :=
  cls = xc c ∧ (∃ A : Addr, cls = .ref A) ∧ match l with
    | [] => d = none
    | [m] => ∃ dd v, d = some dd ∧ H dd = some (.xd [(xf c, v)]) ∧ VR K f N H m v
    | _ => False
structure Ctx where
  K : KW
  Z : Env1
  xc : Nat → Value
  xf : Nat → Str
  es : Option Nat := none      -- the slot of the exception that is handled, its object
  ea : Addr := 0
  eo : Obj := { cls := .none, data := .cell none }
/-- the handled exception in its slot -/
def ER (Y : Ctx) (f : Nat → Addr) (N : Nat) (H : Hp) (v : MV) (x : V) : Prop := ∃ c l, v = .exc c l ∧ x = .ref Y.ea ∧ XR Y.K Y.xc Y.xf f N H c l Y.eo.cls Y.eo.dict
/-- the slots -/
def SR (Y : Ctx) (f : Nat → Addr) (N : Nat) (H : Hp) (ms : En) (σ : L2.St) : Prop := ms.length = σ.length ∧ ∀ (i : Nat) (v : MV), ms[i]? = some (some v) → ∃ x, σ[i]? = some (some x) ∧ (VR Y.K f N H v x ∨ (Y.es = some i ∧ ER Y f N H v x))
section
variable {Y : Ctx} {f f' : Nat → Addr} {N N' : Nat} {H H' : Hp} {h h' : MH} {ms : En} {σ : L2.St}
theorem OR.noxd {K : KW} {Z : Env1} {a : Addr} {o : MO} (h : OR K Z f N H a o) (fs : List (Str × V)) : H a ≠ some (.xd fs) := by
  intro q
  cases o with
  | lst l => obtain ⟨vs, e, _⟩ := h; rw [q] at e; cases e
  | ins c fs => obtain ⟨dx, gs, e, _⟩ := h; rw [q] at e; cases e
  | dct t lk l =>
    cases t with
    | false =>
      obtain ⟨kvs, e, _⟩ := h
      cases lk with
      | false => have e : H a = some (.dK kvs) := e; rw [q] at e; cases e
      | true => obtain ⟨o, e⟩ := e; rw [q] at e; cases e
    | true =>
      obtain ⟨ents, e, _⟩ := h
      cases lk with
      | false => have e : H a = some (DTo K.w a ents) := e; rw [q] at e; cases e
      | true => obtain ⟨o, e⟩ := e; rw [q] at e; cases e
  | set l => exact h.elim
theorem Rl.xr {K : KW} {Z : Env1} {xc : Nat → Value} {xf : Nat → Str} {c : Nat} {l : List MV} {cls : Value} {d : Option Addr} (r : Rl K Z f h H) (e : Ext f h.size H f' N' H') (x : XR K xc xf f h.size H c l cls d) : XR K xc xf f' N' H' c l cls d := by
  obtain ⟨x1, x0, x2⟩ := x
  refine ⟨x1, x0, ?_⟩
  match l, x2 with
  | [], x2 => exact x2
  | [m], ⟨dd, v, e1, e2, rv⟩ =>
    refine ⟨dd, v, e1, e.fr dd _ e2 fun n hn z => ?_, r.vr e rv⟩
    obtain ⟨o, eo⟩ := MH.get_of_lt hn
    exact OR.noxd (r.ob n o eo) _ (z ▸ e2)
theorem Rl.sr (r : Rl Y.K Y.Z f h H) (e : Ext f h.size H f' N' H') (x : SR Y f h.size H ms σ) : SR Y f' N' H' ms σ := ⟨x.1, fun i v q => by
  obtain ⟨y, a, b⟩ := x.2 i v q
  refine ⟨y, a, ?_⟩
  rcases b with b | ⟨b, c, l, e1, e2, e3⟩
  · exact .inl (r.vr e b)
  · exact .inr ⟨b, c, l, e1, e2, r.xr e e3⟩⟩
theorem SR.get (x : SR Y f N H ms σ) {i : Nat} {v : MV} (q : ms[i]? = some (some v)) (hi : Y.es ≠ some i) : ∃ y, σ[i]? = some (some y) ∧ VR Y.K f N H v y := by
  obtain ⟨y, a, b⟩ := x.2 i v q
  rcases b with b | ⟨b, _⟩
  · exact ⟨y, a, b⟩
  · exact absurd b hi
theorem SR.set (x : SR Y f N H ms σ) {v : MV} {y : V} (r : VR Y.K f N H v y) (i : Nat) : SR Y f N H (ms.set i (some v)) (σ.set i (some y)) := by
  refine ⟨by rw [List.length_set, List.length_set]; exact x.1, fun j w q => ?_⟩
  by_cases hj : j = i
  · subst hj
    have hl : j < ms.length := by
      have := (List.getElem?_eq_some_iff.mp q).1
      rwa [List.length_set] at this
    rw [List.getElem?_set_self hl] at q
    have e : v = w := Option.some.inj (Option.some.inj q)
    exact ⟨y, List.getElem?_set_self (x.1 ▸ hl), .inl (e ▸ r)⟩
  · rw [List.getElem?_set_ne (fun z => hj z.symm)] at q
    obtain ⟨z, a, b⟩ := x.2 j w q
    exact ⟨z, by rw [List.getElem?_set_ne (fun z => hj z.symm)]; exact a, b⟩
theorem SR.wipe1 (x : SR Y f N H ms σ) (i : Nat) : SR Y f N H (ms.set i none) (σ.set i none) := by
  refine ⟨by rw [List.length_set, List.length_set]; exact x.1, fun j w q => ?_⟩
  by_cases hj : j = i
  · subst hj
    have hl : j < ms.length := by
      have := (List.getElem?_eq_some_iff.mp q).1
      rwa [List.length_set] at this
    rw [List.getElem?_set_self hl] at q
    cases q
  · rw [List.getElem?_set_ne (fun z => hj z.symm)] at q
    obtain ⟨z, a, b⟩ := x.2 j w q
    exact ⟨z, by rw [List.getElem?_set_ne (fun z => hj z.symm)]; exact a, b⟩
end

/-! ### a run of the interpreter, as a wish -/
abbrev Wish := Value → Option Addr → L2.St → Hp → Prop
/-- what the run r from (f, h, H) comes to is wished -/
def G (Y : Ctx) (W : Wish) (σ : L2.St) (f : Nat → Addr) (h : MH) (H : Hp) {α : Type} (r : R α) (T : α → (Nat → Addr) → MH → Hp → Prop) : Prop := match r with
  | .ok a h' => ∀ f' H', Ext f h.size H f' h'.size H' → Rl Y.K Y.Z f' h' H' → T a f' h' H'
  | .ex c l h' => ∀ f' H' cls d, Ext f h.size H f' h'.size H' → Rl Y.K Y.Z f' h' H' → XR Y.K Y.xc Y.xf f' h'.size H' c l cls d → W cls d σ H'
  | .stk => False
section
variable {Y : Ctx} {W : Wish} {σ : L2.St} {f : Nat → Addr} {h : MH} {H : Hp}
theorem G.bind {α β : Type} {r : R α} {k : α → MH → R β} {T : β → (Nat → Addr) → MH → Hp → Prop} (g : G Y W σ f h H (r.bind k) T) :
    G Y W σ f h H r (fun a f1 h1 H1 => G Y W σ f1 h1 H1 (k a h1) T) := by
  cases r with
  | ok a h1 =>
    intro f1 H1 e1 r1
    have g' : G Y W σ f h H (k a h1) T := g
    cases hk : k a h1 with
    | ok b h2 =>
      rw [hk] at g'
      exact fun f2 H2 e2 r2 => g' f2 H2 (e1.trans e2) r2
    | ex c l h2 =>
      rw [hk] at g'
      exact fun f2 H2 cls d e2 r2 x => g' f2 H2 cls d (e1.trans e2) r2 x
    | stk =>
      rw [hk] at g'
      exact g'
  | ex c l h1 => exact g
  | stk => exact g
theorem G.mono {α : Type} {r : R α} {T T' : α → (Nat → Addr) → MH → Hp → Prop} (g : G Y W σ f h H r T) (k : ∀ a h' f' H', r = .ok a h' → Ext f h.size H f' h'.size H' → Rl Y.K Y.Z f' h' H' → T a f' h' H' → T' a f' h' H') : G Y W σ f h H r T' := by
  cases r with
  | ok a h1 => exact fun f1 H1 e1 r1 => k a h1 f1 H1 rfl e1 r1 (g f1 H1 e1 r1)
  | ex c l h1 => exact g
  | stk => exact g
theorem G.ok {α : Type} {a : α} {T : α → (Nat → Addr) → MH → Hp → Prop} (r : Rl Y.K Y.Z f h H) (g : G Y W σ f h H (.ok a h) T) : T a f h H := g f H (Ext.refl _ _ _) r
end
/-- an expression's reading by its run -/
def rdE (Y : Ctx) (W : Wish) (m : En → MH → R MV) : TE := fun σ H Q => ∃ f ms h, Rl Y.K Y.Z f h H ∧ SR Y f h.size H ms σ ∧ G Y W σ f h H (m ms h) fun v f' h' H' => ∀ x, VR Y.K f' h'.size H' v x → Q x H'
def rdT (Y : Ctx) (W : Wish) (m : En → MH → R Bool) : TT := fun σ H Q => ∃ f ms h, Rl Y.K Y.Z f h H ∧ SR Y f h.size H ms σ ∧ G Y W σ f h H (m ms h) fun b _ _ H' => Q b H'
def rdA (Y : Ctx) (W : Wish) (m : En → MH → R (List MV)) : TA := fun σ H Q => ∃ f ms h, Rl Y.K Y.Z f h H ∧ SR Y f h.size H ms σ ∧ G Y W σ f h H (m ms h) fun l f' h' H' => ∀ xs, VRs Y.K f' h'.size H' l xs → Q xs H'
theorem _root_.L2.PE.conv {X : Cx} {e : Expr} {t t' : TE} (p : PE X e t) (k : ∀ σ H Q, t' σ H Q → t σ H Q) : PE X e t' := ⟨fun pins s σ H Q I q => p.run pins s σ H Q I (k σ H Q q)⟩
theorem _root_.L2.PT.conv {X : Cx} {e : Expr} {t t' : TT} (p : PT X e t) (k : ∀ σ H Q, t' σ H Q → t σ H Q) : PT X e t' := ⟨fun pins s σ H Q I q => p.run pins s σ H Q I (k σ H Q q)⟩
theorem _root_.L2.PA.conv {X : Cx} {es : List Expr} {t t' : TA} (p : PA X es t) (k : ∀ σ H Q, t' σ H Q → t σ H Q) : PA X es t' := ⟨fun pos pins s σ H Q I q => p.run pos pins s σ H Q I (k σ H Q q)⟩
theorem _root_.L2.PS.conv {X : Cx} {st : Stmt} {t t' : TS} (p : PS X st t) (k : ∀ D σ H, t' D σ H → t D σ H) : PS X st t' := ⟨fun pins s σ H D I q => p.run pins s σ H D I (k D σ H q)⟩
theorem _root_.L2.PSs.conv {X : Cx} {st : List Stmt} {t t' : TS} (p : PSs X st t) (k : ∀ D σ H, t' D σ H → t D σ H) : PSs X st t' := ⟨fun pins s σ H D I q => p.run pins s σ H D I (k D σ H q)⟩
end DM
set_option Elab.async false
set_option linter.all false
set_option maxRecDepth 100000
set_option maxHeartbeats 4000000
/-! S2: operations on values. -/
namespace DM
open PySem L2 PyProof.Rows

theorem LIM_eq : LIM = sizeLine := by rw [sizeLine_eq]; rfl

/-! ### data -/
mutual
def toPy : PD → PyData
  | .non => .none
  | .bl b => .bool b
  | .int i => .int i
  | .str s => .str ⟨s.toArray⟩
  | .tup l => .tuple (toPys l)
  | .lst l => .list (toPys l)
  | .dct l => .dict (toPyd l)
def toPys : List PD → List PyData
  | [] => []
  | x :: xs => toPy x :: toPys xs
def toPyd : List (PD × PD) → List (PyData × PyData)
  | [] => []
  | (a, b) :: r => (toPy a, toPy b) :: toPyd r
end
mutual
/-- flat enough, without dicts, texts of signs -/
def pdOk : Nat → PD → Prop
  | _, .non => True
  | _, .bl _ => True
  | _, .int _ => True
  | _, .str s => TxOk s
  | 0, .tup _ => False
  | 0, .lst _ => False
  | n + 1, .tup l => pdOks n l
  | n + 1, .lst l => pdOks n l
  | _, .dct _ => False
def pdOks : Nat → List PD → Prop
  | _, [] => True
  | n, x :: xs => pdOk n x ∧ pdOks n xs
end
mutual
theorem eqv_toPy : ∀ (a b : PD), PyData.eqv (toPy a) (toPy b) = eqP a b
  | .non, b => by cases b <;> simp [toPy, PyData.eqv, eqP]
  | .bl _, b => by cases b <;> simp [toPy, PyData.eqv, eqP]
  | .int _, b => by cases b <;> simp [toPy, PyData.eqv, eqP]
  | .str s, b => by
    cases b <;> simp [toPy, PyData.eqv, eqP]
    rename_i t
    rw [Bool.eq_iff_iff]
    simp
  | .tup l, b => by
    cases b <;> simp [toPy, PyData.eqv, eqP]
    exact eqv_toPys _ _
  | .lst l, b => by
    cases b <;> simp [toPy, PyData.eqv, eqP]
    exact eqv_toPys _ _
  | .dct l, b => by cases b <;> simp [toPy, PyData.eqv, eqP]
theorem eqv_toPys : ∀ (a b : List PD), PyData.eqvAll (toPys a) (toPys b) = eqPs a b
  | [], [] => by simp [toPys, PyData.eqvAll, eqPs]
  | [], _ :: _ => by simp [toPys, PyData.eqvAll, eqPs]
  | _ :: _, [] => by simp [toPys, PyData.eqvAll, eqPs]
  | x :: xs, y :: ys => by simp [toPys, PyData.eqvAll, eqPs, eqv_toPy x y, eqv_toPys xs ys]
end
theorem strOk_of {s : Tx} (h : TxOk s) : PyData.strOk ⟨s.toArray⟩ = true := by
  unfold PyData.strOk
  simp
  exact fun i hi => h.2 i hi
mutual
theorem lay_of : ∀ (n : Nat) (d : PD), pdOk n d → (toPy d).canLay0 = true ∧ (toPy d).depth ≤ n
  | n, .non, _ => by simp [toPy, PyData.canLay0, PyData.depth]
  | n, .bl _, _ => by simp [toPy, PyData.canLay0, PyData.depth]
  | n, .int _, _ => by simp [toPy, PyData.canLay0, PyData.depth]
  | n, .str s, h => by
    have h' : TxOk s := by unfold pdOk at h; exact h
    exact ⟨by simp only [toPy, PyData.canLay0]; exact strOk_of h', by simp [toPy, PyData.depth]⟩
  | 0, .tup _, h => by unfold pdOk at h; exact h.elim
  | 0, .lst _, h => by unfold pdOk at h; exact h.elim
  | n + 1, .tup l, h => by
    unfold pdOk at h
    obtain ⟨a, b⟩ := lays_of n l h
    exact ⟨by simp only [toPy, PyData.canLay0]; exact a, by simp only [toPy, PyData.depth]; omega⟩
  | n + 1, .lst l, h => by
    unfold pdOk at h
    obtain ⟨a, b⟩ := lays_of n l h
    exact ⟨by simp only [toPy, PyData.canLay0]; exact a, by simp only [toPy, PyData.depth]; omega⟩
  | n, .dct l, h => by unfold pdOk at h; exact h.elim
theorem lays_of : ∀ (n : Nat) (l : List PD), pdOks n l → PyData.canLayAll0 (toPys l) = true ∧ PyData.depthAll (toPys l) ≤ n
  | n, [], _ => by simp [toPys, PyData.canLayAll0, PyData.depthAll]
  | n, x :: xs, h => by
    unfold pdOks at h
    obtain ⟨a, b⟩ := lay_of n x h.1
    obtain ⟨c, d⟩ := lays_of n xs h.2
    refine ⟨by simp only [toPys, PyData.canLayAll0, a, c, Bool.and_self], ?_⟩
    simp only [toPys, PyData.depthAll]
    omega
end
theorem shaped_of {n : Nat} {d : PD} (h : pdOk n d) (hn : n ≤ 64) : SeqAt.shaped (toPy d) = true := by
  obtain ⟨a, b⟩ := lay_of n d h
  unfold SeqAt.shaped
  rw [a, decide_eq_true (by omega)]
  rfl

section
variable {K : KW} {Z : Env1} {f : Nat → Addr} {h : MH} {H : Hp}
theorem datL_dp {n : Nat} (hd : ∀ (m : MV) (d : PD) (x : V), dat n h m = some d → VR K f h.size H m x → Dp K H x (toPy d) ∧ pdOk n d) :
    ∀ (l : List MV) (ds : List PD) (xs : List V), l.mapM (dat n h) = some ds → VRs K f h.size H l xs → DpAll K H xs (toPys ds) ∧ pdOks n ds
  | [], ds, xs, e, r => by
    rw [List.mapM_nil] at e
    cases e
    rw [r.nil_inv]
    exact ⟨by unfold toPys; exact .nil, by unfold pdOks; trivial⟩
  | m :: ms, ds, xs, e, r => by
    obtain ⟨v, ws, rfl, r1, r2⟩ := r.cons_inv
    rw [List.mapM_cons] at e
    cases e1 : dat n h m with
    | none => rw [e1] at e; cases e
    | some d =>
      rw [e1] at e
      cases e2 : ms.mapM (dat n h) with
      | none => rw [e2] at e; cases e
      | some ds' =>
        rw [e2] at e
        have e' : d :: ds' = ds := Option.some.inj e
        subst e'
        obtain ⟨a, b⟩ := hd m d v e1 r1
        obtain ⟨c, g⟩ := datL_dp hd ms ds' ws e2 r2
        exact ⟨by unfold toPys; exact .cons a c, by unfold pdOks; exact ⟨b, g⟩⟩
theorem dat_dp (r : Rl K Z f h H) : ∀ (n : Nat) (m : MV) (d : PD) (x : V), dat n h m = some d → VR K f h.size H m x → Dp K H x (toPy d) ∧ pdOk n d
  | n, .non, d, x, e, q => by
    unfold VR at q
    subst q
    have : PD.non = d := by cases n <;> (simp only [dat] at e; exact Option.some.inj e)
    subst this
    exact ⟨by unfold toPy; exact .non, by cases n <;> (unfold pdOk; trivial)⟩
  | n, .bl b, d, x, e, q => by
    unfold VR at q
    subst q
    have : PD.bl b = d := by cases n <;> (simp only [dat] at e; exact Option.some.inj e)
    subst this
    exact ⟨by unfold toPy; exact .bl b, by cases n <;> (unfold pdOk; trivial)⟩
  | n, .int b, d, x, e, q => by
    unfold VR at q
    subst q
    have : PD.int b = d := by cases n <;> (simp only [dat] at e; exact Option.some.inj e)
    subst this
    exact ⟨by unfold toPy; exact .int b, by cases n <;> (unfold pdOk; trivial)⟩
  | n, .str b, d, x, e, q => by
    unfold VR at q
    obtain ⟨q, hb⟩ := q
    subst q
    have : PD.str b = d := by cases n <;> (simp only [dat] at e; exact Option.some.inj e)
    subst this
    exact ⟨by unfold toPy; exact .str _, by cases n <;> (unfold pdOk; exact hb)⟩
  | 0, .tup l, d, x, e, q => by simp [dat] at e
  | 0, .kl l, d, x, e, q => by simp [dat] at e
  | 0, .ref k, d, x, e, q => by simp [dat] at e
  | n + 1, .tup l, d, x, e, q => by
    unfold VR at q
    obtain ⟨a, vs, rfl, s, t⟩ := q
    simp only [dat] at e
    cases e1 : l.mapM (dat n h) with
    | none => rw [e1] at e; cases e
    | some ds =>
      rw [e1] at e
      have e' : PD.tup ds = d := Option.some.inj e
      subst e'
      obtain ⟨c, g⟩ := datL_dp (dat_dp r n) l ds vs e1 t
      exact ⟨by unfold toPy; exact .tup s c, by unfold pdOk; exact g⟩
  | n + 1, .kl l, d, x, e, q => by
    unfold VR at q
    obtain ⟨a, vs, rfl, s, t⟩ := q
    simp only [dat] at e
    cases e1 : l.mapM (dat n h) with
    | none => rw [e1] at e; cases e
    | some ds =>
      rw [e1] at e
      have e' : PD.lst ds = d := Option.some.inj e
      subst e'
      obtain ⟨c, g⟩ := datL_dp (dat_dp r n) l ds vs e1 t
      exact ⟨by unfold toPy; exact .lst s.sq c, by unfold pdOk; exact g⟩
  | n + 1, .ref k, d, x, e, q => by
    unfold VR at q
    obtain ⟨hk, rfl⟩ := q
    simp only [dat] at e
    cases e0 : h.get k with
    | none => rw [e0] at e; cases e
    | some o =>
      rw [e0] at e
      have ho := r.ob k o e0
      cases o with
      | lst l =>
        obtain ⟨vs, e2, t⟩ := ho
        cases e1 : l.mapM (dat n h) with
        | none => simp only [e1] at e; cases e
        | some ds =>
          simp only [e1] at e
          have e' : PD.lst ds = d := Option.some.inj e
          subst e'
          obtain ⟨c, g⟩ := datL_dp (dat_dp r n) l ds vs e1 t
          exact ⟨by unfold toPy; exact .lst (SqL.of e2) c, by unfold pdOk; exact g⟩
      | ins c fs => cases e
      | dct t lk l => cases e
      | set l => exact ho.elim
  | n, .kd l, d, x, e, q => by cases n <;> simp [dat] at e
  | n, .fn l, d, x, e, q => by cases n <;> simp [dat] at e
  | n, .exc c l, d, x, e, q => by unfold VR at q; exact q.elim
end

/-! ### operations -/
/-- what a pure operation comes to -/
def GP (Y : Ctx) (f : Nat → Addr) (h : MH) (H : Hp) {α : Type} (r : R α) (T : α → (Nat → Addr) → MH → Hp → Prop) : Prop := ∃ W σ, G Y W σ f h H r T
theorem GP.elim {Y : Ctx} {f : Nat → Addr} {h : MH} {H : Hp} {α : Type} {T : α → (Nat → Addr) → MH → Hp → Prop} {P : Prop} (g : GP Y f h H (.stk : R α) T) : P := by
  obtain ⟨W, σ, g⟩ := g
  exact g.elim
theorem GP.app {Y : Ctx} {f f' : Nat → Addr} {h h' : MH} {H H' : Hp} {α : Type} {a : α} {T : α → (Nat → Addr) → MH → Hp → Prop} (g : GP Y f h H (.ok a h') T) (e : Ext f h.size H f' h'.size H') (r : Rl Y.K Y.Z f' h' H') : T a f' h' H' := by
  obtain ⟨W, σ, g⟩ := g
  exact g f' H' e r
def rB (Y : Ctx) (k : MV → MV → MH → R MV) : R2 := fun x y H Q => ∃ f h a b, Rl Y.K Y.Z f h H ∧ VR Y.K f h.size H a x ∧ VR Y.K f h.size H b y ∧ GP Y f h H (k a b h) fun v f' h' H' => ∀ z, VR Y.K f' h'.size H' v z → Q z H'
theorem GP.here {Y : Ctx} {f : Nat → Addr} {h : MH} {H : Hp} {α : Type} {a : α} {T : α → (Nat → Addr) → MH → Hp → Prop} (r : Rl Y.K Y.Z f h H) (g : GP Y f h H (.ok a h) T) : T a f h H := g.app (Ext.refl _ _ _) r

section
variable {Y : Ctx} {f : Nat → Addr} {N : Nat} {h : MH} {H : Hp}
theorem VR.int_inv {K : KW} {i : Int} {x : V} (r : VR K f N H (.int i) x) : x = .int i := by unfold VR at r; exact r
theorem VR.bl_inv {K : KW} {i : Bool} {x : V} (r : VR K f N H (.bl i) x) : x = .bl i := by unfold VR at r; exact r
theorem VR.non_inv {K : KW} {x : V} (r : VR K f N H .non x) : x = .non := by unfold VR at r; exact r
theorem VR.str_inv {K : KW} {s : Tx} {x : V} (r : VR K f N H (.str s) x) : x = .str ⟨s.toArray⟩ ∧ TxOk s := by unfold VR at r; exact r
theorem VR.tup_inv {K : KW} {l : List MV} {x : V} (r : VR K f N H (.tup l) x) : ∃ a vs, x = .ref a ∧ SqT K H a vs ∧ VRs K f N H l vs := by unfold VR at r; exact r
theorem VR.kl_inv {K : KW} {l : List MV} {x : V} (r : VR K f N H (.kl l) x) : ∃ a vs, x = .ref a ∧ KLs K H a vs ∧ VRs K f N H l vs := by unfold VR at r; exact r
theorem VR.ref_inv {K : KW} {n : Nat} {x : V} (r : VR K f N H (.ref n) x) : n < N ∧ x = .ref (f n) := by unfold VR at r; exact r
theorem VR.int {K : KW} {i : Int} : VR K f N H (.int i) (.int i) := by unfold VR; rfl
theorem VR.bl {K : KW} {i : Bool} : VR K f N H (.bl i) (.bl i) := by unfold VR; rfl
theorem VR.non {K : KW} : VR K f N H .non .non := by unfold VR; rfl
theorem VR.str {K : KW} {s : Tx} (t : TxOk s) : VR K f N H (.str s) (.str ⟨s.toArray⟩) := by unfold VR; exact ⟨rfl, t⟩
theorem VR.tup {K : KW} {l : List MV} {a : Addr} {vs : List V} (s : SqT K H a vs) (t : VRs K f N H l vs) : VR K f N H (.tup l) (.ref a) := by unfold VR; exact ⟨a, vs, rfl, s, t⟩
theorem VR.ref {K : KW} {n : Nat} (hn : n < N) : VR K f N H (.ref n) (.ref (f n)) := by unfold VR; exact ⟨hn, rfl⟩
theorem small_of {i : Int} (q : small i = true) : -(2 ^ 64) < i ∧ i < 2 ^ 64 := by
  have := of_decide_eq_true q
  omega

theorem str_app (a b : Tx) : ((⟨a.toArray⟩ : Str) ++ (⟨b.toArray⟩ : Str)) = ⟨(a ++ b).toArray⟩ := by
  show (⟨a.toArray ++ b.toArray⟩ : Str) = _
  simp
theorem TxOk.app {a b : Tx} (ha : TxOk a) (hb : TxOk b) (hl : a.length + b.length ≤ LIM) : TxOk (a ++ b) := ⟨by rw [List.length_append, ← LIM_eq]; exact hl, fun c hc => (List.mem_append.mp hc).elim (ha.2 c) (hb.2 c)⟩
/-- a new list, a new tuple -/
theorem GP.newList {l : List MV} {T : MV → (Nat → Addr) → MH → Hp → Prop} (r : Rl Y.K Y.Z f h H) (g : GP Y f h H (newList h l) T) {vs : List V} (rv : VRs Y.K f h.size H l vs) {p : Addr} (hp : H p = none) :
    vs.length ≤ sizeLine ∧ ∃ f', T (.ref h.size) f' (h.push (.lst l)) (upd H p (.lst vs)) ∧ f' h.size = p := by
  unfold DM.newList at g
  by_cases hl : l.length ≤ LIM
  · rw [if_pos hl] at g
    have hv : vs.length ≤ sizeLine := by rw [← rv.length, ← LIM_eq]; exact hl
    have ex0 : Ext f h.size H (nxt f h.size p) (h.size + 1) (upd H p (.lst vs)) := Ext.push hp
    obtain ⟨ex, rl⟩ := r.push (o := .lst l) (u := .lst vs) hp ⟨vs, upd_same, VRs.mono ex0.sz ex0.ag (r.text ex0) _ _ rv⟩
    exact ⟨hv, _, g.app ex rl, nxt_at⟩
  · rw [if_neg hl] at g
    exact g.elim

def bo : BOp → Operator
  | .add => .Add | .sub => .Sub | .mul => .Mult | .mod => .Mod | .fdiv => .FloorDiv | .pow => .Pow
variable {X : Cx}
theorem VRs.rep {K : KW} {f : Nat → Addr} {N : Nat} {H : Hp} {l : List MV} {vs : List V} (r : VRs K f N H l vs) : ∀ n : Nat, VRs K f N H (List.replicate n l).flatten (List.replicate n vs).flatten
  | 0 => .nil
  | n + 1 => by
    rw [List.replicate_succ, List.replicate_succ, List.flatten_cons, List.flatten_cons]
    exact r.append (VRs.rep r n)
theorem op_bin (hK : X.K = Y.K) (op : BOp) : OpR X (binaryOp (bo op)) (rB Y (binM op)) := by
  intro pins s σ H x y v u Q I rx ry ⟨f, h, a, b, r, ra, rb, g⟩
  unfold binM at g
  split at g
  · cases ra.int_inv; cases rb.int_inv
    exact op_add pins s σ H _ _ v u Q I rx ry ⟨_, _, rfl, rfl, g.here r _ .int⟩
  · rename_i a b
    obtain ⟨rfl, ta⟩ := ra.str_inv
    obtain ⟨rfl, tb⟩ := rb.str_inv
    by_cases hl : a.length + b.length ≤ LIM
    · rw [if_pos hl] at g
      refine op_add_str pins s σ H _ _ v u Q I rx ry ⟨_, _, rfl, rfl, ?_, ?_⟩
      · rw [← LIM_eq]; exact hl
      · rw [str_app]
        exact g.here r _ (.str (ta.app tb hl))
    · rw [if_neg hl] at g
      exact g.elim
  · rename_i a b
    obtain ⟨p, xs, rfl, sa, ta⟩ := ra.tup_inv
    obtain ⟨q, ys, rfl, sb, tb⟩ := rb.tup_inv
    by_cases hl : a.length + b.length ≤ LIM
    · rw [if_pos hl] at g
      have l1 := ta.length
      have l2 := tb.length
      refine op_catA pins s σ H _ _ v u Q I rx ry ⟨p, q, xs, ys, rfl, rfl, hK ▸ sa, hK ▸ sb, ?_, fun e => ?_, fun _ e => ?_, fun _ e z hz => ?_⟩
      · rw [← l1, ← l2, ← LIM_eq]; exact hl
      · subst e
        have e2 : a = [] := List.length_eq_zero_iff.mp l1
        subst e2
        rw [List.nil_append] at g
        exact g.here r _ (.tup sb tb)
      · subst e
        have e2 : b = [] := List.length_eq_zero_iff.mp l2
        subst e2
        rw [List.append_nil] at g
        exact g.here r _ (.tup sa ta)
      · have e1 : Ext f h.size H f h.size (upd H z (.tup (xs ++ ys))) := Ext.aside hz
        have r1 := r.aside (u := .tup (xs ++ ys)) hz
        exact g.app e1 r1 _ (.tup (SqT.of upd_same) ((r.vrs e1 ta).append (r.vrs e1 tb)))
    · rw [if_neg hl] at g
      exact g.elim
  · rename_i m n
    obtain ⟨hm, rfl⟩ := ra.ref_inv
    obtain ⟨hn, rfl⟩ := rb.ref_inv
    split at g
    · rename_i a b em en
      obtain ⟨xs, ea, ta⟩ := r.ob _ _ em
      obtain ⟨ys, eb, tb⟩ := r.ob _ _ en
      refine op_cat pins s σ H _ _ v u Q I rx ry ⟨f m, f n, xs, ys, rfl, rfl, ea, eb, ?_, fun p hp => ?_⟩
      · have := (GP.newList r g (ta.append tb) (p := s.heap.objs.size) I.fresh).1
        rwa [List.length_append] at this
      · obtain ⟨_, f', t, e⟩ := GP.newList r g (ta.append tb) hp
        refine t _ ?_
        rw [← e]
        exact .ref (by rw [MH.size_push]; omega)
    · exact g.elim
  · cases ra.int_inv; cases rb.int_inv
    exact op_sub pins s σ H _ _ v u Q I rx ry ⟨_, _, rfl, rfl, g.here r _ .int⟩
  · cases ra.int_inv; cases rb.int_inv
    rename_i i j
    by_cases hl : (small i || small j) = true
    · rw [if_pos hl] at g
      refine op_mul pins s σ H _ _ v u Q I rx ry ⟨_, _, rfl, rfl, ?_, g.here r _ .int⟩
      rcases Bool.or_eq_true_iff.mp hl with q | q
      · exact .inl (small_of q)
      · exact .inr (small_of q)
    · rw [if_neg hl] at g
      exact g.elim
  · rename_i m k
    obtain ⟨hm, rfl⟩ := ra.ref_inv
    cases rb.int_inv
    split at g
    · rename_i l em
      obtain ⟨xs, ea, ta⟩ := r.ob _ _ em
      split at g
      · rename_i hk
        obtain ⟨h0, h1, h2⟩ := hk
        have hz := sizeLine_eq
        have hl : xs.length * k.toNat ≤ sizeLine := by
          rw [← ta.length, hz]
          exact Nat.le_trans (Nat.mul_le_mul h2 (show k.toNat ≤ 1000 by omega)) (by decide)
        refine op_rep pins s σ H _ _ v u Q I rx ry ⟨f m, k, xs, rfl, rfl, ea, by omega, by omega, hl, fun p hp => ?_⟩
        obtain ⟨_, f', t, e⟩ := GP.newList r g (VRs.rep ta k.toNat) hp
        refine t _ ?_
        rw [← e]
        exact .ref (by rw [MH.size_push]; omega)
      · exact g.elim
    · exact g.elim
  · cases ra.int_inv; cases rb.int_inv
    rename_i i j
    by_cases hl : 0 < j
    · rw [if_pos hl] at g
      exact op_mod pins s σ H _ _ v u Q I rx ry ⟨_, _, rfl, rfl, hl, g.here r _ .int⟩
    · rw [if_neg hl] at g
      exact g.elim
  · cases ra.int_inv; cases rb.int_inv
    rename_i i j
    by_cases hl : 0 < j ∧ j < 1073741824
    · rw [if_pos hl] at g
      exact op_fdiv pins s σ H _ _ v u Q I rx ry ⟨_, _, rfl, rfl, hl, g.here r _ .int⟩
    · rw [if_neg hl] at g
      exact g.elim
  · cases ra.int_inv; cases rb.int_inv
    rename_i i j
    by_cases hl : 0 ≤ j ∧ j ≤ 1000000 ∧ small i
    · rw [if_pos hl] at g
      refine op_pow pins s σ H _ _ v u Q I rx ry ⟨_, _, rfl, rfl, ⟨hl.1, hl.2.1, ?_⟩, g.here r _ .int⟩
      have := small_of hl.2.2
      omega
    · rw [if_neg hl] at g
      exact g.elim
  · exact g.elim
end
end DM
set_option Elab.async false
set_option linter.all false
set_option maxRecDepth 100000
set_option maxHeartbeats 4000000
/-! S3: further operations on values. -/
namespace DM
open PySem L2 PyProof.Rows
section
variable {Y : Ctx} {f : Nat → Addr} {N : Nat} {h : MH} {H : Hp} {X : Cx}
theorem bR_inv {o : Option Bool} {T : MV → (Nat → Addr) → MH → Hp → Prop} (r : Rl Y.K Y.Z f h H) (g : GP Y f h H (bR o h) T) : ∃ b, o = some b ∧ T (.bl b) f h H := by
  cases o with
  | none => exact g.elim
  | some b => exact ⟨b, rfl, GP.here r g⟩
theorem eqM_inv {a b : MV} {x y : V} {c : Bool} (r : Rl Y.K Y.Z f h H) (ra : VR Y.K f h.size H a x) (rb : VR Y.K f h.size H b y) (e : eqM h a b = some c) :
    ∃ d1 d2, Dp Y.K H x d1 ∧ Dp Y.K H y d2 ∧ SeqAt.shaped d1 = true ∧ SeqAt.shaped d2 = true ∧ PyData.eqv d1 d2 = c := by
  unfold eqM at e
  cases e1 : dat DEP h a with
  | none => rw [e1] at e; cases e
  | some d1 =>
    rw [e1] at e
    cases e2 : dat DEP h b with
    | none => rw [e2] at e; cases e
    | some d2 =>
      rw [e2] at e
      obtain ⟨p1, o1⟩ := dat_dp r _ _ _ _ e1 ra
      obtain ⟨p2, o2⟩ := dat_dp r _ _ _ _ e2 rb
      refine ⟨_, _, p1, p2, shaped_of o1 (by decide), shaped_of o2 (by decide), ?_⟩
      rw [eqv_toPy]
      exact Option.some.inj e
/-! ### what a dict holds -/
theorem keyA_eq {a b : MV} {x y : Key} (ha : KR a x) (hb : KR b y) : eqK a b = decide (x = y) := by
  cases a <;> first | exact ha.elim | skip
  all_goals cases b <;> first | exact hb.elim | skip
  · obtain rfl : x = _ := ha
    obtain rfl : y = _ := hb
    simp [eqK]
  · obtain rfl : x = _ := ha
    obtain ⟨rfl, _⟩ := hb
    simp [eqK]
  · obtain ⟨rfl, _⟩ := ha
    obtain rfl : y = _ := hb
    simp [eqK]
  · obtain ⟨rfl, _⟩ := ha
    obtain ⟨rfl, _⟩ := hb
    simp [eqK]
/-- found, or not -/
def RO (K : KW) (f : Nat → Addr) (N : Nat) (H : Hp) : Option MV → Option V → Prop
  | some m, some v => VR K f N H m v
  | none, none => True
  | _, _ => False
theorem DKr.look {K : KW} {k : MV} {y : Key} (hk : KR k y) : ∀ {l : List (MV × MV)} {kvs : List (Key × V)}, DKr K f N H l kvs → RO K f N H (lookK k l) (valV kvs y)
  | [], kvs, e => by
    obtain rfl : kvs = [] := e
    exact True.intro
  | (a, m) :: r, kvs, ⟨x, v, ys, e, c, rv, b⟩ => by
    subst e
    unfold lookK
    have q := keyA_eq c hk
    by_cases hx : x = y
    · rw [q, if_pos (decide_eq_true hx), valV_pos (p := (x, v)) hx]
      exact rv
    · rw [q, if_neg (by simpa using hx), valV_neg (p := (x, v)) hx]
      exact DKr.look hk b
theorem DKr.len {K : KW} : ∀ {l : List (MV × MV)} {kvs : List (Key × V)}, DKr K f N H l kvs → l.length = kvs.length
  | [], kvs, e => by
    obtain rfl : kvs = [] := e
    rfl
  | _ :: r, kvs, ⟨x, v, ys, e, c, rv, b⟩ => by
    subst e
    rw [List.length_cons, List.length_cons, DKr.len b]
theorem DKr.has {K : KW} {k : MV} {y : Key} (hk : KR k y) : ∀ {l : List (MV × MV)} {kvs : List (Key × V)}, DKr K f N H l kvs → hasK k l = kvs.any fun kv => decide (kv.1 = y)
  | [], kvs, e => by
    obtain rfl : kvs = [] := e
    rfl
  | (a, m) :: r, kvs, ⟨x, v, ys, e, c, rv, b⟩ => by
    subst e
    rw [List.any_cons, ← DKr.has hk b, ← keyA_eq c hk]
    rfl
theorem DKr.rpl {K : KW} {k m : MV} {y : Key} {v : V} (hk : KR k y) (rm : VR K f N H m v) : ∀ {l : List (MV × MV)} {kvs : List (Key × V)}, DKr K f N H l kvs → DKr K f N H (l.map fun p => if eqK p.1 k then (p.1, m) else p) (kvs.map fun kv => if kv.1 = y then (kv.1, v) else kv)
  | [], kvs, e => by
    obtain rfl : kvs = [] := e
    rfl
  | (a, n) :: r, kvs, ⟨x, u, ys, e, c, rv, b⟩ => by
    subst e
    rw [List.map_cons, List.map_cons]
    have q := keyA_eq c hk
    by_cases hx : x = y
    · rw [if_pos (show eqK (a, n).1 k = true from by rw [q, decide_eq_true hx]), if_pos hx]
      exact ⟨x, v, _, rfl, c, rm, DKr.rpl hk rm b⟩
    · rw [if_neg (show ¬ eqK (a, n).1 k = true from by rw [q, decide_eq_false hx]; exact Bool.false_ne_true), if_neg hx]
      exact ⟨x, u, _, rfl, c, rv, DKr.rpl hk rm b⟩
theorem DKr.snoc {K : KW} {k m : MV} {y : Key} {v : V} (hk : KR k y) (rm : VR K f N H m v) : ∀ {l : List (MV × MV)} {kvs : List (Key × V)}, DKr K f N H l kvs → DKr K f N H (l ++ [(k, m)]) (kvs ++ [(y, v)])
  | [], kvs, e => by
    obtain rfl : kvs = [] := e
    exact ⟨y, v, [], rfl, hk, rm, rfl⟩
  | (a, n) :: r, kvs, ⟨x, u, ys, e, c, rv, b⟩ => by
    subst e
    exact ⟨x, u, _, rfl, c, rv, DKr.snoc hk rm b⟩
theorem DKr.put {K : KW} {k m : MV} {y : Key} {v : V} {l : List (MV × MV)} {kvs : List (Key × V)} (hk : KR k y) (rm : VR K f N H m v) (d : DKr K f N H l kvs) : DKr K f N H (DM.putK k m l) (L2.putK kvs y v) := by
  unfold DM.putK L2.putK
  rw [DKr.has hk d]
  by_cases q : (kvs.any fun kv => decide (kv.1 = y)) = true
  · rw [if_pos q, if_pos q]
    exact d.rpl hk rm
  · rw [if_neg q, if_neg q]
    exact d.snoc hk rm
theorem DKr.drop {K : KW} {k : MV} {y : Key} (hk : KR k y) : ∀ {l : List (MV × MV)} {kvs : List (Key × V)}, DKr K f N H l kvs → DKr K f N H (DM.dropK k l) (L2.dropK kvs y)
  | [], kvs, e => by
    obtain rfl : kvs = [] := e
    rfl
  | (a, n) :: r, kvs, ⟨x, u, ys, e, c, rv, b⟩ => by
    subst e
    have q := keyA_eq c hk
    have ih := DKr.drop hk b
    unfold DM.dropK L2.dropK at ih ⊢
    rw [List.filter_cons, List.filter_cons]
    by_cases hx : x = y
    · have h1 : ¬ (!eqK (a, n).1 k) = true := by rw [show eqK (a, n).1 k = _ from q, decide_eq_true hx]; exact Bool.false_ne_true
      have h2 : ¬ decide ((x, u).1 ≠ y) = true := by simpa using hx
      rw [if_neg h1, if_neg h2]
      exact ih
    · have h1 : (!eqK (a, n).1 k) = true := by rw [show eqK (a, n).1 k = _ from q, decide_eq_false hx]; rfl
      have h2 : decide ((x, u).1 ≠ y) = true := by simpa using hx
      rw [if_pos h1, if_pos h2]
      exact ⟨x, u, _, rfl, c, rv, ih⟩
theorem KR.kOk {K : KW} {k : MV} {x : V} (hk : kOk false k = true) (r : VR K f N H k x) : ∃ y, KR k y ∧ x = kV y := by
  cases k <;> first | (cases hk; done) | skip
  · exact ⟨.inl _, rfl, r.int_inv⟩
  · exact ⟨.inr _, ⟨rfl, r.str_inv.2⟩, r.str_inv.1⟩
theorem DAt.rd {a : Addr} {kvs : List (Key × V)} {lk : Bool} (d : DAt H a kvs lk) : Rd H a (.dK kvs) := by
  cases lk with
  | false => exact .inl d
  | true => exact .inr d
theorem KDr.look {K : KW} {s : Tx} : ∀ {l : List (MV × MV)} {es : List DictEntry}, KDr K f N H l es → ∃ u, (match es.find? (·.key.isStr ⟨s.toArray⟩) with
      | some e => some (some e.val)
      | none => if es.any (·.refKey) then none else some none) = some u ∧ match lookK (.str s) l, u with
      | some m, some w => ∃ v, RelV v w ∧ VR K f N H m v
      | none, none => True
      | _, _ => False
  | [], es, e => by
    unfold KDr at e
    subst e
    exact ⟨none, rfl, True.intro⟩
  | (k, m) :: r, es, h => by
    unfold KDr at h
    obtain ⟨e, es', s', t, v, rfl, rfl, h3, h4, h5, h6, h7⟩ := h
    obtain ⟨u, e1, e2⟩ := KDr.look (s := s) h7
    unfold lookK
    by_cases hs : s' = s
    · subst hs
      refine ⟨some e.val, ?_, ?_⟩
      · rw [List.find?_cons, show e.key.isStr ⟨s'.toArray⟩ = true from by rw [h3]; exact beq_self_eq_true _]
      · rw [show eqK (.str s') (.str s') = true from by simp [eqK]]
        exact ⟨v, h5, h6⟩
    · refine ⟨u, ?_, ?_⟩
      · rw [List.find?_cons, show e.key.isStr ⟨s.toArray⟩ = false from by rw [h3]; exact beq_eq_false_iff_ne.mpr fun z => hs (by injection z with z; simpa using congrArg Array.toList z)]
        simp only
        rw [List.any_cons, show e.refKey = false from by unfold DictEntry.refKey; rw [h3]]
        exact e1
      · rw [show eqK (.str s') (.str s) = false from by simp [eqK, hs]]
        exact e2
inductive DX (K : KW) (H : Hp) (a : Addr) (y : V) (r : Option V) : Prop
  | d (g : DGet H a y r)
  | k {es : Array DictEntry} {n : Nat} {z : Str} {u : Option Value} (D : KDict K.K K.w a es n) (e : y = .str z) (ns : PySem.W.nsIn K.K a z = some u) (ro : RelO r u)
theorem dget_inv {x k : MV} {v y : V} {o : Option MV} (r : Rl Y.K Y.Z f h H) (rx : VR Y.K f h.size H x v) (rk : VR Y.K f h.size H k y) (e : dget h x k = some o) : ∃ a u, v = .ref a ∧ DX Y.K H a y u ∧ RO Y.K f h.size H o u := by
  unfold dget at e
  split at e
  · rename_i l
    split at e
    · rename_i s
      cases e
      obtain ⟨rfl, ts⟩ := rk.str_inv
      unfold VR at rx
      obtain ⟨a, es, n, rfl, D, kd⟩ := rx
      obtain ⟨u, e1, e2⟩ := KDr.look (s := s) kd
      have ns : PySem.W.nsIn Y.K.K a ⟨s.toArray⟩ = some u := by
        unfold PySem.W.nsIn
        rw [D.at_]
        exact e1
      cases hl : lookK (.str s) l with
      | none =>
        rw [hl] at e2
        cases u with
        | none => exact ⟨a, none, rfl, .k D rfl ns True.intro, True.intro⟩
        | some w => exact e2.elim
      | some m =>
        rw [hl] at e2
        cases u with
        | none => exact e2.elim
        | some w =>
          obtain ⟨v, r1, r2⟩ := e2
          exact ⟨a, some v, rfl, .k D rfl ns r1, r2⟩
    · cases e
  · rename_i n
    obtain ⟨hn, rfl⟩ := rx.ref_inv
    split at e
    · rename_i lk l en
      obtain ⟨kvs, e1, e2⟩ := r.ob _ _ en
      split at e
      · rename_i hk
        cases e
        have rd : Rd H (f n) (.dK kvs) := by
          cases lk with
          | false => exact .inl e1
          | true => exact .inr e1
        cases k <;> first | (cases hk; done) | skip
        · rename_i i
          cases rk.int_inv
          exact ⟨_, _, rfl, .d (.inl ⟨kvs, .inl i, rd, rfl, rfl⟩), DKr.look (k := .int i) (y := .inl i) rfl e2⟩
        · rename_i s
          obtain ⟨rfl, ts⟩ := rk.str_inv
          exact ⟨_, _, rfl, .d (.inl ⟨kvs, .inr ⟨s.toArray⟩, rd, rfl, rfl⟩), DKr.look (k := .str s) (y := .inr ⟨s.toArray⟩) ⟨rfl, ts⟩ e2⟩
      · cases e
    · cases e
  · cases e
section
variable {pins : List (Addr × Obj)} {σ : L2.St} {s : Shared} {a : Addr} {y v : V} {u r : Value} {o : Option V} {A : Around} {E : Value → Shared → Prop} {K : KW}
theorem dx_type (hK : X.K = K) (hW : X.w = K.w) (I : Inv X pins σ H s) (g : DX K H a y o) : s.TypeIs (.ref a) "dict" := by
  cases g with
  | d g => exact dict_typeIs I g
  | k D e ns ro => exact kd_type (X := X) (by rw [hK, hW]; exact D) I
theorem dx_getItem {Q : Value → Shared → Prop} (hK : X.K = K) (hW : X.w = K.w) (hu : A.units + 1 < cLine) (I : Inv X pins σ H s) (g : DX K H a y (some v)) (ry : RelV y u) (h : ∀ w' s', Inv X pins σ H s' → RelV v w' → Q w' s') :
    wpAny (model X.prog X.w) A (getItem (.ref a) u) Q E s := by
  cases g with
  | d g => exact d_getItem hu I g ry h
  | k D e ns ro =>
    rename_i es n z w0
    subst e
    have D : KDict X.K X.w a es n := by rw [hK, hW]; exact D
    rw [← hK] at ns
    cases w0 with
    | none => exact (show False from ro).elim
    | some w0 =>
      obtain ⟨t, rfl⟩ := ry
      exact wpAny_getItem_of (strKind_is X.prog X.w z t) (PySem.W.mapOf_K (prog := X.prog) I.kIn D.at_ D.lit) (PySem.W.find_K D.at_ ns) (h _ _ (I.tok _) ro)
theorem dx_in {Q : Value → Shared → Prop} (hK : X.K = K) (hW : X.w = K.w) (hu : A.units + 1 < cLine) (I : Inv X pins σ H s) (g : DX K H a y o) (ry : RelV y u) (h : ∀ s', Inv X pins σ H s' → Q (.bool o.isSome) s') :
    wpAny (model X.prog X.w) A (compareOp .In u (.ref a)) Q E s := by
  cases g with
  | d g => exact d_in hu I g ry h
  | k D e ns ro =>
    rename_i es n z w0
    subst e
    have D : KDict X.K X.w a es n := by rw [hK, hW]; exact D
    rw [← hK] at ns
    obtain ⟨t, rfl⟩ := ry
    refine wpAny_in_of (strKind_is X.prog X.w z t) D.low (PySem.W.mapOf_K (prog := X.prog) I.kIn D.at_ D.lit) ?_
    rw [PySem.W.find_K D.at_ ns, ← ro.isSome_eq]
    exact h _ (I.tok _)
theorem dx_notIn {Q : Value → Shared → Prop} (hK : X.K = K) (hW : X.w = K.w) (hu : A.units + 1 < cLine) (I : Inv X pins σ H s) (g : DX K H a y o) (ry : RelV y u) (h : ∀ s', Inv X pins σ H s' → Q (.bool (!o.isSome)) s') :
    wpAny (model X.prog X.w) A (compareOp .NotIn u (.ref a)) Q E s := by
  cases g with
  | d g => exact d_notIn hu I g ry h
  | k D e ns ro =>
    rename_i es n z w0
    subst e
    have D : KDict X.K X.w a es n := by rw [hK, hW]; exact D
    rw [← hK] at ns
    obtain ⟨t, rfl⟩ := ry
    refine wpAny_notIn_of (strKind_is X.prog X.w z t) D.low (PySem.W.mapOf_K (prog := X.prog) I.kIn D.at_ D.lit) ?_
    rw [PySem.W.find_K D.at_ ns, ← ro.isSome_eq]
    exact h _ (I.tok _)
end
theorem RO.isSome {K : KW} {o : Option MV} {u : Option V} (r : RO K f N H o u) : o.isSome = u.isSome := by
  cases o <;> cases u <;> first | rfl | exact r.elim
def co : COp → CmpOp
  | .lt => .Lt | .le => .LtE | .gt => .Gt | .ge => .GtE | .eq => .Eq | .ne => .NotEq | .isin => .In | .notin => .NotIn
theorem ltM_inv {a b : MV} {x y : V} {c : Bool} (ra : VR Y.K f h.size H a x) (rb : VR Y.K f h.size H b y) (e : ltM h a b = some c) : ∃ i j, x = .int i ∧ y = .int j ∧ c = decide (i < j) := by
  unfold ltM at e
  split at e
  · exact ⟨_, _, ra.int_inv, rb.int_inv, (Option.some.inj e).symm⟩
  · cases e
theorem mapNot {o : Option Bool} {b : Bool} (e : o.map not = some b) : o = some (!b) := by
  cases o with
  | none => cases e
  | some c =>
    have e' : (!c) = b := Option.some.inj e
    rw [← e']
    simp
theorem toPys_any (d : PD) : ∀ l : List PD, ((toPys l).any fun z => PyData.eqv z (toPy d)) = l.any fun z => eqP z d
  | [] => rfl
  | x :: xs => by
    unfold toPys
    rw [List.any_cons, List.any_cons, eqv_toPy, toPys_any d xs]
theorem inM_dict {x y : V} {a m : MV} {b : Bool} (r : Rl Y.K Y.Z f h H) (ra : VR Y.K f h.size H a x) (rm : VR Y.K f h.size H m y) (hd : isD h m = true) (e : inM h a m = some b) : ∃ p o, y = .ref p ∧ DX Y.K H p x o ∧ b = o.isSome := by
  unfold inM at e
  rw [if_pos hd] at e
  obtain ⟨o, e1, e2⟩ := Option.map_eq_some_iff.mp e
  obtain ⟨p, u, e3, g, ro⟩ := dget_inv r rm ra e1
  exact ⟨p, u, e3, g, by rw [← e2]; exact ro.isSome⟩
theorem inM_str {x : V} {a : MV} {t : Tx} {b : Bool} (ra : VR Y.K f h.size H a x) (e : inM h a (.str t) = some b) : ∃ c, x = .str ⟨#[c]⟩ ∧ b = decide (c ∈ t) := by
  unfold inM at e
  rw [if_neg (by simp [isD])] at e
  split at e
  · rename_i t' et
    cases et
    split at e
    · rename_i c
      obtain ⟨rfl, _⟩ := ra.str_inv
      exact ⟨c, rfl, (Option.some.inj e).symm⟩
    · cases e
  · rename_i hn
    exact absurd rfl (hn t)
theorem inM_data {x y : V} {a m : MV} {b : Bool} (r : Rl Y.K Y.Z f h H) (ra : VR Y.K f h.size H a x) (rm : VR Y.K f h.size H m y) (hd : isD h m = false) (hm : ∀ t, m ≠ .str t) (e : inM h a m = some b) :
    ∃ d ds, Dp Y.K H x d ∧ SeqAt.shaped d = true ∧ (Dp Y.K H y (.list ds) ∧ SeqAt.shaped (.list ds) = true ∨ Dp Y.K H y (.tuple ds) ∧ SeqAt.shaped (.tuple ds) = true) ∧ b = ds.any fun z => PyData.eqv z d := by
  unfold inM at e
  rw [if_neg (by rw [hd]; exact Bool.false_ne_true)] at e
  split at e
  · exact absurd rfl (hm _)
  · split at e
    · rename_i d l e1 e2
      obtain ⟨p1, o1⟩ := dat_dp r _ _ _ _ e1 ra
      obtain ⟨p2, o2⟩ := dat_dp r _ _ _ _ e2 rm
      have s2 := shaped_of o2 (by decide)
      unfold toPy at p2 s2
      exact ⟨_, _, p1, shaped_of o1 (by decide), .inl ⟨p2, s2⟩, by rw [toPys_any]; exact (Option.some.inj e).symm⟩
    · rename_i d l e1 e2
      obtain ⟨p1, o1⟩ := dat_dp r _ _ _ _ e1 ra
      obtain ⟨p2, o2⟩ := dat_dp r _ _ _ _ e2 rm
      have s2 := shaped_of o2 (by decide)
      unfold toPy at p2 s2
      exact ⟨_, _, p1, shaped_of o1 (by decide), .inr ⟨p2, s2⟩, by rw [toPys_any]; exact (Option.some.inj e).symm⟩
    · cases e
theorem op_cmp (hK : X.K = Y.K) (hW : X.w = Y.K.w) (hu : X.A.units + 65 < cLine) (op : COp) : OpR X (compareOp (co op)) (rB Y (cmpM op)) := by
  intro pins s σ H x y v u Q I rx ry ⟨f, h, a, b, r, ra, rb, g⟩
  cases op with
  | eq =>
    obtain ⟨c, e, t⟩ := bR_inv r g
    obtain ⟨d1, d2, p1, p2, s1, s2, e2⟩ := eqM_inv r ra rb e
    exact op_eqD (by omega) pins s σ H _ _ v u Q I rx ry ⟨d1, d2, hK ▸ p1, hK ▸ p2, s1, s2, by rw [e2]; exact t _ .bl⟩
  | ne =>
    obtain ⟨c, e, t⟩ := bR_inv r g
    obtain ⟨d1, d2, p1, p2, s1, s2, e2⟩ := eqM_inv r ra rb (mapNot e)
    exact op_neD (by omega) pins s σ H _ _ v u Q I rx ry ⟨d1, d2, hK ▸ p1, hK ▸ p2, s1, s2, by rw [e2, Bool.not_not]; exact t _ .bl⟩
  | lt =>
    obtain ⟨c, e, t⟩ := bR_inv r g
    obtain ⟨i, j, rfl, rfl, e2⟩ := ltM_inv ra rb e
    exact op_lt pins s σ H _ _ v u Q I rx ry ⟨i, j, rfl, rfl, by show Q (V.bl (decide (i < j))) H; rw [← e2]; exact t _ .bl⟩
  | gt =>
    obtain ⟨c, e, t⟩ := bR_inv r g
    obtain ⟨j, i, rfl, rfl, e2⟩ := ltM_inv rb ra e
    exact op_gt pins s σ H _ _ v u Q I rx ry ⟨i, j, rfl, rfl, by show Q (V.bl (decide (j < i))) H; rw [← e2]; exact t _ .bl⟩
  | le =>
    obtain ⟨c, e, t⟩ := bR_inv r g
    obtain ⟨j, i, rfl, rfl, e2⟩ := ltM_inv rb ra (mapNot e)
    have e3 : decide (i ≤ j) = c := by
      have : decide (i ≤ j) = !decide (j < i) := by rw [Bool.eq_iff_iff]; simp
      rw [this, ← e2, Bool.not_not]
    exact op_le pins s σ H _ _ v u Q I rx ry ⟨i, j, rfl, rfl, by show Q (V.bl (decide (i ≤ j))) H; rw [e3]; exact t _ .bl⟩
  | ge =>
    obtain ⟨c, e, t⟩ := bR_inv r g
    obtain ⟨i, j, rfl, rfl, e2⟩ := ltM_inv ra rb (mapNot e)
    have e3 : decide (j ≤ i) = c := by
      have : decide (j ≤ i) = !decide (i < j) := by rw [Bool.eq_iff_iff]; simp
      rw [this, ← e2, Bool.not_not]
    exact op_ge pins s σ H _ _ v u Q I rx ry ⟨i, j, rfl, rfl, by show Q (V.bl (decide (j ≤ i))) H; rw [e3]; exact t _ .bl⟩
  | isin =>
    obtain ⟨c, e, t⟩ := bR_inv r g
    cases hd : isD h b with
    | true =>
      obtain ⟨p, o, rfl, g1, rfl⟩ := inM_dict r ra rb hd e
      obtain rfl : u = Value.ref p := ry
      exact dx_in hK hW (by omega) I g1 rx fun s' I' => ⟨.bl _, H, I', rfl, t _ .bl⟩
    | false =>
    by_cases hs : ∃ z, b = .str z
    · obtain ⟨z, rfl⟩ := hs
      obtain ⟨rfl, tb⟩ := rb.str_inv
      obtain ⟨k, rfl, e2⟩ := inM_str ra e
      refine op_in_sign pins s σ H _ _ v u Q I rx ry ⟨k, _, rfl, rfl, ?_⟩
      rw [show ((⟨z.toArray⟩ : Str).cps.toList) = z from by simp, ← e2]
      exact t _ .bl
    · obtain ⟨d, ds, p1, s1, p2, e2⟩ := inM_data r ra rb hd (fun z q => hs ⟨z, q⟩) e
      subst e2
      rcases p2 with ⟨p2, s2⟩ | ⟨p2, s2⟩
      · exact op_inD (by omega) pins s σ H _ _ v u Q I rx ry ⟨d, ds, hK ▸ p1, hK ▸ p2, s1, s2, t _ .bl⟩
      · obtain ⟨as, r1⟩ := Dp.reads I d x v (hK ▸ p1) rx
        obtain ⟨bs, r2⟩ := Dp.reads I (.tuple ds) y u (hK ▸ p2) ry
        have hd := SeqAt.depth_of_shaped s1
        exact SeqAt.in_tuple_reads r2 r1 (SeqAt.canLay_of_shaped s2) (SeqAt.canLay_of_shaped s1) (by omega) ⟨.bl _, H, I, rfl, t _ .bl⟩
  | notin =>
    obtain ⟨c, e, t⟩ := bR_inv r g
    have e := mapNot e
    cases hd : isD h b with
    | true =>
      obtain ⟨p, o, rfl, g1, e2⟩ := inM_dict r ra rb hd e
      obtain rfl : u = Value.ref p := ry
      exact dx_notIn hK hW (by omega) I g1 rx fun s' I' => ⟨.bl _, H, I', rfl, by rw [← e2, Bool.not_not]; exact t _ .bl⟩
    | false =>
    by_cases hs : ∃ z, b = .str z
    · obtain ⟨z, rfl⟩ := hs
      obtain ⟨rfl, tb⟩ := rb.str_inv
      obtain ⟨k, rfl, e2⟩ := inM_str ra e
      refine op_notIn_sign pins s σ H _ _ v u Q I rx ry ⟨k, _, rfl, rfl, ?_⟩
      rw [show ((⟨z.toArray⟩ : Str).cps.toList) = z from by simp, ← e2, Bool.not_not]
      exact t _ .bl
    · obtain ⟨d, ds, p1, s1, p2, e2⟩ := inM_data r ra rb hd (fun z q => hs ⟨z, q⟩) e
      have e3 : (!ds.any fun z => PyData.eqv z d) = c := by rw [← e2, Bool.not_not]
      rcases p2 with ⟨p2, s2⟩ | ⟨p2, s2⟩
      · exact op_notInD (by omega) pins s σ H _ _ v u Q I rx ry ⟨d, ds, hK ▸ p1, hK ▸ p2, s1, s2, by rw [e3]; exact t _ .bl⟩
      · obtain ⟨as, r1⟩ := Dp.reads I d x v (hK ▸ p1) rx
        obtain ⟨bs, r2⟩ := Dp.reads I (.tuple ds) y u (hK ▸ p2) ry
        have hd := SeqAt.depth_of_shaped s1
        exact SeqAt.notIn_tuple_reads r2 r1 (SeqAt.canLay_of_shaped s2) (SeqAt.canLay_of_shaped s1) (by omega) ⟨.bl _, H, I, rfl, by rw [e3]; exact t _ .bl⟩

/-! ### truth -/
theorem listOf_sq {m : MV} {x : V} {l : List MV} (r : Rl Y.K Y.Z f h H) (rm : VR Y.K f h.size H m x) (e : listOf h m = some l) : ∃ a vs, x = .ref a ∧ SqL Y.K H a vs ∧ VRs Y.K f h.size H l vs := by
  unfold listOf at e
  split at e
  · rename_i n
    obtain ⟨hn, rfl⟩ := rm.ref_inv
    split at e
    · rename_i l' en
      cases e
      obtain ⟨vs, e1, t⟩ := r.ob _ _ en
      exact ⟨_, vs, rfl, SqL.of e1, t⟩
    · cases e
  · cases e
    obtain ⟨a, vs, rfl, s, t⟩ := rm.kl_inv
    exact ⟨a, vs, rfl, s.sq, t⟩
  · cases e
theorem seqOf_sq {m : MV} {x : V} {l : List MV} (r : Rl Y.K Y.Z f h H) (rm : VR Y.K f h.size H m x) (e : seqOf h m = some l) : ∃ a vs, x = .ref a ∧ (SqL Y.K H a vs ∨ SqT Y.K H a vs) ∧ VRs Y.K f h.size H l vs := by
  unfold seqOf at e
  split at e
  · cases e
    obtain ⟨a, vs, rfl, s, t⟩ := rm.tup_inv
    exact ⟨a, vs, rfl, .inr s, t⟩
  · obtain ⟨a, vs, rfl, s, t⟩ := listOf_sq r rm e
    exact ⟨a, vs, rfl, .inl s, t⟩
theorem emptyEq {l : List MV} {vs : List V} (t : VRs Y.K f h.size H l vs) : (!l.isEmpty) = !vs.isEmpty := by
  have := t.length
  cases l <;> cases vs <;> simp at this ⊢
theorem truM_inv {m : MV} {x : V} {T : Bool → (Nat → Addr) → MH → Hp → Prop} (r : Rl Y.K Y.Z f h H) (rm : VR Y.K f h.size H m x) (g : GP Y f h H (truM m h) T) : ∃ b, truM m h = .ok b h ∧ TruV Y.K x H b ∧ T b f h H := by
  unfold truM at g ⊢
  split at g
  · exact ⟨_, rfl, by rw [rm.non_inv]; rfl, GP.here r g⟩
  · exact ⟨_, rfl, by rw [rm.bl_inv]; rfl, GP.here r g⟩
  · exact ⟨_, rfl, by rw [rm.int_inv]; rfl, GP.here r g⟩
  · rename_i s
    obtain ⟨rfl, t⟩ := rm.str_inv
    refine ⟨_, rfl, ⟨?_, ?_⟩, GP.here r g⟩
    · show s.toArray.size ≤ _
      rw [List.size_toArray]
      exact t.1
    · show (!s.isEmpty) = ((s.toArray.size : Int) != 0)
      rw [List.size_toArray]
      cases s with
      | nil => rfl
      | cons c r =>
        rw [Bool.eq_iff_iff]
        simp
        omega
  · obtain ⟨a, vs, rfl, s, t⟩ := rm.tup_inv
    exact ⟨_, rfl, .inr (.inl ⟨vs, s, emptyEq t⟩), GP.here r g⟩
  · obtain ⟨a, vs, rfl, s, t⟩ := rm.kl_inv
    exact ⟨_, rfl, .inl ⟨vs, s.sq, emptyEq t⟩, GP.here r g⟩
  · obtain ⟨hn, rfl⟩ := rm.ref_inv
    split at g
    · rename_i l en
      obtain ⟨vs, e1, t⟩ := r.ob _ _ en
      exact ⟨_, rfl, .inl ⟨vs, SqL.of e1, emptyEq t⟩, GP.here r g⟩
    · exact g.elim
  · exact g.elim

/-! ### places, slices -/
theorem ixN_eq (i : Int) (n : Nat) : DM.ixN i n = L2.ixN n i := by
  unfold DM.ixN L2.ixN
  by_cases h0 : 0 ≤ i
  · rw [if_pos h0, if_pos h0]
  · rw [if_neg h0, if_neg h0]
    by_cases h1 : -(n : Int) ≤ i
    · rw [if_pos h1, if_pos (by omega)]
    · rw [if_neg h1, if_neg (by omega)]
theorem atL_at {l : List MV} {vs : List V} {i : Int} {v : MV} (t : VRs Y.K f h.size H l vs) (e : atL l i = some v) : ∃ x, atI vs i = some x ∧ VR Y.K f h.size H v x := by
  unfold atL at e
  rw [ixN_eq, t.length] at e
  unfold atI
  cases q : L2.ixN vs.length i with
  | none => rw [q] at e; cases e
  | some k =>
    rw [q] at e
    obtain ⟨x, e1, r1⟩ := t.get e
    exact ⟨x, e1, r1⟩
theorem ix_dict (hK : X.K = Y.K) (hW : X.w = Y.K.w) (hu : X.A.units + 65 < cLine) {value slice : Expr} {pins : List (Addr × Obj)} {s : Shared} {σ : L2.St} {x y : V} {v u : Value} {Q : VK} {a b m : MV} (I : Inv X pins σ H s) (rx : RelV x v) (ry : RelV y u) (r : Rl Y.K Y.Z f h H)
    (ra : VR Y.K f h.size H a x) (rb : VR Y.K f h.size H b y) (e : dget h a b = some (some m)) (q : ∀ z, VR Y.K f h.size H m z → Q z H) (hs : subscripted slice false v u = operate [v, u] (getItem v u)) : wpAny (model X.prog X.w) X.A (subscriptTail value slice v u) (EP X pins σ Q) X.xe s := by
  obtain ⟨p, o, rfl, g, ro⟩ := dget_inv r ra rb e
  obtain rfl : v = Value.ref p := rx
  cases o with
  | none => exact ro.elim
  | some z => exact tail_any (dx_type hK hW I g) PySem.F.slot_dict_getitem.lookup (dx_getItem hK hW (by omega) I g ry fun w' s' I' r' => ⟨z, H, I', r', q z ro⟩) hs
theorem ix_sub (hK : X.K = Y.K) (hW : X.w = Y.K.w) (hu : X.A.units + 65 < cLine) : IxR X (rB Y subM) := by
  intro value slice pins s σ H x y v u Q I rx ry ⟨f, h, a, b, r, ra, rb, g⟩ hs
  unfold subM at g
  split at g
  · rename_i z k
    obtain ⟨rfl, t⟩ := ra.str_inv
    cases rb.int_inv
    split at g
    · rename_i j ej
      split at g
      · rename_i c ec
        refine ix_str value slice pins s σ H _ _ v u Q I rx ry ⟨⟨z.toArray⟩, k, c, rfl, rfl, ?_, ?_, ?_⟩ hs
        · show z.toArray.size ≤ _
          rw [List.size_toArray]
          exact t.1
        · rw [show ((⟨z.toArray⟩ : Str).cps.toList) = z from by simp]
          unfold atI
          rw [← ixN_eq, ej]
          exact ec
        · refine GP.here r g _ (.str (s := [c]) ⟨?_, fun d hd => ?_⟩)
          · rw [sizeLine_eq]; show 1 ≤ _; omega
          · have : d = c := by simpa using hd
            rw [this]
            exact t.2 c (List.mem_of_getElem? ec)
      · exact g.elim
    · exact g.elim
  · obtain ⟨p, vs, rfl, sq, t⟩ := ra.tup_inv
    cases rb.int_inv
    split at g
    · rename_i w e
      obtain ⟨z, e1, r1⟩ := atL_at t e
      exact ix_tup value slice pins s σ H _ _ v u Q I rx ry ⟨p, vs, _, z, rfl, rfl, hK ▸ sq, e1, GP.here r g _ r1⟩ hs
    · exact g.elim
  · obtain ⟨p, vs, rfl, sq, t⟩ := ra.kl_inv
    cases rb.int_inv
    split at g
    · rename_i w e
      obtain ⟨z, e1, r1⟩ := atL_at t e
      exact ix_list value slice pins s σ H _ _ v u Q I rx ry ⟨p, vs, _, z, rfl, rfl, hK ▸ sq.sq, e1, GP.here r g _ r1⟩ hs
    · exact g.elim
  · split at g
    · rename_i m e
      exact ix_dict hK hW hu I rx ry r ra rb e (GP.here r g) hs
    · exact g.elim
  · split at g
    · split at g
      · rename_i m e
        exact ix_dict hK hW hu I rx ry r ra rb e (GP.here r g) hs
      · exact g.elim
    · rename_i l en
      obtain ⟨hn, rfl⟩ := ra.ref_inv
      obtain ⟨vs, e0, t⟩ := r.ob _ _ en
      split at g
      · cases rb.int_inv
        split at g
        · rename_i w e
          obtain ⟨z, e1, r1⟩ := atL_at t e
          exact ix_list value slice pins s σ H _ _ v u Q I rx ry ⟨_, vs, _, z, rfl, rfl, SqL.of e0, e1, GP.here r g _ r1⟩ hs
        · exact g.elim
      · exact g.elim
    · exact g.elim
  · exact g.elim
theorem clip_sIx (d n : Nat) (o : Option Int) : clip d n o = HT.sIx n d o := by
  cases o <;> rfl
theorem cutV_of {l : List MV} {vs : List V} (t : VRs Y.K f N H l vs) (lo hi : Option Int) : VRs Y.K f N H (cut l lo hi) (cutV vs lo hi) := by
  unfold cut cutV
  rw [clip_sIx, clip_sIx, t.length]
  exact (t.drop _).take _
theorem TxOk.sub {s t : Tx} (h : TxOk s) (hl : t.length ≤ s.length) (hm : ∀ c ∈ t, c ∈ s) : TxOk t := ⟨Nat.le_trans hl h.1, fun c hc => h.2 c (hm c hc)⟩
theorem cut_len {α : Type} (l : List α) (lo hi : Option Int) : (cut l lo hi).length ≤ l.length := by
  unfold cut
  rw [List.length_take, List.length_drop]
  omega
theorem cut_mem {α : Type} (l : List α) (lo hi : Option Int) (c : α) (hc : c ∈ cut l lo hi) : c ∈ l := List.mem_of_mem_drop (List.mem_of_mem_take hc)
def rSl (Y : Ctx) : V → Option Int → Option Int → Hp → VK → Prop := fun x lo hi H Q => ∃ f h a, Rl Y.K Y.Z f h H ∧ VR Y.K f h.size H a x ∧ GP Y f h H (slM a lo hi h) fun v f' h' H' => ∀ z, VR Y.K f' h'.size H' v z → Q z H'
theorem GP.newL {l : List MV} {T : MV → (Nat → Addr) → MH → Hp → Prop} (r : Rl Y.K Y.Z f h H) (g : GP Y f h H (new h (.lst l)) T) {vs : List V} (rv : VRs Y.K f h.size H l vs) {p : Addr} (hp : H p = none) :
    ∃ f', T (.ref h.size) f' (h.push (.lst l)) (upd H p (.lst vs)) ∧ f' h.size = p := by
  have ex0 : Ext f h.size H (nxt f h.size p) (h.size + 1) (upd H p (.lst vs)) := Ext.push hp
  obtain ⟨ex, rl⟩ := r.push (o := .lst l) (u := .lst vs) hp ⟨vs, upd_same, VRs.mono ex0.sz ex0.ag (r.text ex0) _ _ rv⟩
  exact ⟨_, g.app ex rl, nxt_at⟩
theorem sl_cut (hK : X.K = Y.K) : SlR X (rSl Y) := by
  intro pins s σ H x v vl vu lo hi sl Q I rx hs pl pu ⟨f, h, a, r, ra, g⟩
  unfold slM at g
  split at g
  · rename_i z
    obtain ⟨rfl, t⟩ := ra.str_inv
    refine sl_str pins s σ H _ v vl vu lo hi sl Q I rx hs pl pu ⟨_, rfl, ?_, ?_⟩
    · show z.toArray.size ≤ _
      rw [List.size_toArray]
      exact t.1
    · have e : L2.cutS ⟨z.toArray⟩ lo hi = ⟨(cut z lo hi).toArray⟩ := by
        unfold L2.cutS cut
        have e1 : (⟨z.toArray⟩ : Str).length = z.length := by show z.toArray.size = _; simp
        have e2 : (⟨z.toArray⟩ : Str).cps.toList = z := by simp
        rw [e1, e2, clip_sIx, clip_sIx]
      rw [e]
      exact GP.here r g _ (.str (t.sub (cut_len _ _ _) (cut_mem _ _ _)))
  · obtain ⟨p, vs, rfl, sq, t⟩ := ra.tup_inv
    refine sl_tupA pins s σ H _ v vl vu lo hi sl Q I rx hs pl pu ⟨p, vs, rfl, hK ▸ sq, fun hw => ?_, fun _ z hz => ?_⟩
    · have e : VRs Y.K f h.size H (cut _ lo hi) (cutV vs lo hi) := cutV_of t lo hi
      have e2 : cutV vs lo hi = vs := by
        unfold cutV
        rw [hw.1, hw.2, List.drop_zero, Nat.sub_zero, List.take_length]
      rw [e2] at e
      exact GP.here r g _ (.tup sq e)
    · have e1 : Ext f h.size H f h.size (upd H z (.tup (cutV vs lo hi))) := Ext.aside hz
      have r1 := r.aside (u := .tup (cutV vs lo hi)) hz
      exact g.app e1 r1 _ (.tup (SqT.of upd_same) (r.vrs e1 (cutV_of t lo hi)))
  · obtain ⟨p, vs, rfl, sq, t⟩ := ra.kl_inv
    refine sl_list pins s σ H _ v vl vu lo hi sl Q I rx hs pl pu ⟨p, vs, rfl, hK ▸ sq.sq, fun z hz => ?_⟩
    obtain ⟨f', q, e⟩ := GP.newL r g (cutV_of t lo hi) hz
    exact q _ (by rw [← e]; exact .ref (by rw [MH.size_push]; omega))
  · split at g
    · rename_i n l e
      obtain ⟨p, vs, rfl, sq, t⟩ := listOf_sq r ra e
      refine sl_list pins s σ H _ v vl vu lo hi sl Q I rx hs pl pu ⟨p, vs, rfl, hK ▸ sq, fun z hz => ?_⟩
      obtain ⟨f', q, e⟩ := GP.newL r g (cutV_of t lo hi) hz
      exact q _ (by rw [← e]; exact .ref (by rw [MH.size_push]; omega))
    · exact g.elim
  · exact g.elim
end
end DM
set_option Elab.async false
set_option linter.all false
set_option maxRecDepth 100000
set_option maxHeartbeats 4000000
/-! S4: defs' promises where no guard of the machine's own is up, calls, the law's own call. -/
namespace DM
open PySem L2 PyProof.Rows PySem.Spec

/-- as the layer's FnOk, where no guard is up -/
structure FnG (P0 : Program) (w : World) (K : PySem.W.Frag) (mg : Str → Option Value) (base : Heap) (CX : CXT) (k : Nat) (f : Addr) (fd : FuncData) (ps : List Str) (sp : Sp) : Prop where
  len : ∀ vs H Q E, sp vs H Q E → vs.length = ps.length
  run : ∀ (A : Around) (outer : List Env) (s : Shared) (H : Hp) (args : Args) (us : List Value) (vs : List V) (Q : VK) (E : XK), Room k A → A.guards = some [] →
    Env0 P0 w K mg base A outer s H → BindsTo s fd args (ps.zip us) → Vals vs us → sp vs H Q E → codeAny (model P0 w) A (.call (.ref f) args) (CR CX outer P0 w H s Q E) s

/-- a def by its body -/
theorem fnG_of {CX : CXT} {P0 : Program} {w : World} {K : PySem.W.Frag} {mg : Str → Option Value} {base : Heap} {k : Nat} {f : Addr} {x qual : Str} {params : Arguments} {body : List Stmt} {scope : Scope}
    {dvs : List V} {kws : List (Str × V)} {fd : FuncData} {N ps : List Str} {sp : Sp} (F : FunD K x qual params body scope dvs kws f fd) (S : FnScope N ps scope) (len : ∀ vs H Q E, sp vs H Q E → vs.length = ps.length)
    (hbody : ∀ (cdv : Value) (A : Around) (outer : List Env) (s : Shared) (H : Hp) (vs : List V) (Q : VK) (E : XK),
      Room k (A.deeper (envOfC qual scope s.heap.objs.size f cdv)) → A.guards = some [] → sp vs H Q E →
      ∃ t, PSs (cxOf CX P0 w K mg base N qual scope f cdv A outer s H E) body t ∧ t { nx := fun _ H' => Q .non H', rt := Q } (start N vs) H) :
    FnG P0 w K mg base CX (k + 1) f fd ps sp := by
  obtain ⟨oc, od, dV, kV, doc, pm, an, cdv, ct, osl, efd, lk, hcd, _, _⟩ := F.ex
  subst efd
  constructor
  · exact len
  intro A outer s H args us vs Q E hr hG e0 hb rv hsp
  have stays : ∀ b o, base.get? b = some o → s.heap.get? b = some o := fun b o e => (e0.bs b o e).1
  have kin : K.In s.heap := e0.mod.kin.keeps stays
  have slots : ∀ y ∈ ps.zip us, scope.names.lookup y.1 = some .local ∨
      (scope.names.lookup y.1 = some .cell ∧ ((cellsFrom (s.heap.objs.size + 1) scope.names []).lookup y.1).isSome = true) := by
    rintro ⟨n, v⟩ hy
    have hp := S.par n (List.of_mem_zip hy).1
    rcases hp with q | q
    · exact Or.inl q
    · exact Or.inr ⟨q, PySem.W.cellsFrom_some _ _ _ (Or.inl q)⟩
  refine codeAny_call_function hr.depth (kin _ _ lk) rfl S.co S.gen rfl (PySem.W.codeRec_of kin hcd) ?_
  refine hb _ _ _ _ ?_
  refine wpAny_newFunctionEnv_cells S.kind slots ?_
  intro env he s1 hx
  subst he
  refine ⟨(e0.mod.nolimit.keeps stays).keeps hx.toInCall.keep, codeAny_func ?_⟩
  obtain ⟨t, pt, hq⟩ := hbody cdv A outer s H vs Q E (hr.deeper _) hG hsp
  have I := inv_start (CX := CX) (E := E) (f := f) (N := N) S hr.hd e0 (len _ _ _ _ hsp) rv hx
  refine wpAny_mono (pt.run [] s1 (start N vs) H _ I hq) ?_ (fun _ _ z => z)
  intro fl s' hs
  cases fl with
  | next =>
    obtain ⟨σ', H', J, q⟩ := hs
    exact ⟨V.non, H', J.os, J.bare, J.base, J.hok, (rfl : RelV V.non Value.none), q⟩
  | ret u =>
    obtain ⟨v, σ', H', J, r, q⟩ := hs
    exact ⟨v, H', J.os, J.bare, J.base, J.hok, r, q⟩
  | brk => obtain ⟨_, _, _, q⟩ := hs; exact q.elim
  | cont => obtain ⟨_, _, _, q⟩ := hs; exact q.elim

/-- a def's promise where an exception is handled -/
structure FnGH (P0 : Program) (w : World) (K : PySem.W.Frag) (mg : Str → Option Value) (base : Heap) (CX : CXT) (k : Nat) (f : Addr) (fd : FuncData) (ps : List Str) (sp : Addr × Obj → Sp) : Prop where
  len : ∀ p vs H Q E, sp p vs H Q E → vs.length = ps.length
  run : ∀ (A : Around) (outer : List Env) (s : Shared) (H : Hp) (args : Args) (us : List Value) (vs : List V) (Q : VK) (E : XK) (p : Addr × Obj), L2H.RoomH k A → A.guards = some [] → L2H.Hot1 A p → L2H.PinOk outer H s p →
    Env0 P0 w K mg base A outer s H → BindsTo s fd args (ps.zip us) → Vals vs us → sp p vs H Q E → codeAny (model P0 w) A (.call (.ref f) args) (CR CX outer P0 w H s Q E) s
theorem fnGH_of {CX : CXT} {P0 : Program} {w : World} {K : PySem.W.Frag} {mg : Str → Option Value} {base : Heap} {k : Nat} {f : Addr} {x qual : Str} {params : Arguments} {body : List Stmt} {scope : Scope}
    {dvs : List V} {kws : List (Str × V)} {fd : FuncData} {N ps : List Str} {sp : Addr × Obj → Sp} (F : FunD K x qual params body scope dvs kws f fd) (S : FnScope N ps scope) (len : ∀ p vs H Q E, sp p vs H Q E → vs.length = ps.length)
    (hbody : ∀ (cdv : Value) (A : Around) (outer : List Env) (s : Shared) (H : Hp) (vs : List V) (Q : VK) (E : XK) (p : Addr × Obj), L2H.Hot1 A p →
      L2H.RoomH k (A.deeper (envOfC qual scope s.heap.objs.size f cdv)) → A.guards = some [] → sp p vs H Q E →
      ∃ t, PSs (L2H.cxH CX P0 w K mg base N qual scope f cdv A outer s H E p) body t ∧ t { nx := fun _ H' => Q .non H', rt := Q } (start N vs) H) :
    FnGH P0 w K mg base CX (k + 1) f fd ps sp := by
  obtain ⟨oc, od, dV, kV, doc, pm, an, cdv, ct, osl, efd, lk, hcd, _, _⟩ := F.ex
  subst efd
  refine ⟨len, ?_⟩
  intro A outer s H args us vs Q E p hr hG hot pin e0 hb rv hsp
  have stays : ∀ b o, base.get? b = some o → s.heap.get? b = some o := fun b o e => (e0.bs b o e).1
  have kin : K.In s.heap := e0.mod.kin.keeps stays
  have slots : ∀ y ∈ ps.zip us, scope.names.lookup y.1 = some .local ∨
      (scope.names.lookup y.1 = some .cell ∧ ((cellsFrom (s.heap.objs.size + 1) scope.names []).lookup y.1).isSome = true) := by
    rintro ⟨n, v⟩ hy
    have hp := S.par n (List.of_mem_zip hy).1
    rcases hp with q | q
    · exact Or.inl q
    · exact Or.inr ⟨q, PySem.W.cellsFrom_some _ _ _ (Or.inl q)⟩
  refine codeAny_call_function hr.depth (kin _ _ lk) rfl S.co S.gen rfl (PySem.W.codeRec_of kin hcd) ?_
  refine hb _ _ _ _ ?_
  refine wpAny_newFunctionEnv_cells S.kind slots ?_
  intro env he s1 hx
  subst he
  refine ⟨(e0.mod.nolimit.keeps stays).keeps hx.toInCall.keep, codeAny_func ?_⟩
  obtain ⟨t, pt, hq⟩ := hbody cdv A outer s H vs Q E p hot (hr.deeper _) hG hsp
  have I := L2H.inv_startH (CX := CX) (E := E) (f := f) (cd := cdv) (qual := qual) (N := N) S pin e0 (len _ _ _ _ _ hsp) rv hx
  refine wpAny_mono (pt.run [] s1 (start N vs) H _ I hq) ?_ (fun _ _ z => z)
  intro fl s' hs
  cases fl with
  | next =>
    obtain ⟨σ', H', J, q⟩ := hs
    exact ⟨V.non, H', J.os, J.bare, J.base, J.hok, (rfl : RelV V.non Value.none), q⟩
  | ret u =>
    obtain ⟨v, σ', H', J, r, q⟩ := hs
    exact ⟨v, H', J.os, J.bare, J.base, J.hok, r, q⟩
  | brk => obtain ⟨_, _, _, q⟩ := hs; exact q.elim
  | cont => obtain ⟨_, _, _, q⟩ := hs; exact q.elim

section
variable {X : Cx} {CX : CXT} {k : Nat} {f C : Addr} {fd : FuncData} {ps : List Str} {sp : Sp} {E : XK} {pins : List (Addr × Obj)} {σ : L2.St} {H : Hp} {s : Shared} {Q : VK}
/-- a call of a def with arguments that bind -/
theorem run_fnG (F : FnG X.prog X.w X.K X.mg X.base CX k f fd ps sp) (hr : Room k X.A) (hG : X.A.guards = some []) (hx : PassesAt CX X σ E) (I : Inv X pins σ H s) {us bs : List Value} {ks : List (Str × Value)} {vs : List V}
    (hb : BindsTo s fd ⟨us, ks⟩ (ps.zip bs)) (r : Vals vs bs) (h : sp vs H Q E) : wpAny (model X.prog X.w) X.A (call (.ref f) us ks) (EP X pins σ Q) X.xe s := by
  have go := F.run X.A X.stack s H ⟨us, ks⟩ bs vs Q E hr hG I.env0 hb r h
  refine wpAny_call (codeAny_mono go ?_)
  intro rr s' hq
  rcases rr with e | fl
  · exact hx pins H s e s' I hq
  · cases fl <;> first | exact I.after hq | exact False.elim hq
/-- a call while the exception p is handled -/
theorem run_fnGH {sp : Addr × Obj → Sp} {p : Addr × Obj} (F : FnGH X.prog X.w X.K X.mg X.base CX k f fd ps sp) (hr : L2H.RoomH k X.A) (hG : X.A.guards = some []) (hot : L2H.Hot1 X.A p) (pin : L2H.PinOk X.stack H s p) (hx : PassesAt CX X σ E) (I : Inv X pins σ H s) {us bs : List Value} {ks : List (Str × Value)} {vs : List V}
    (hb : BindsTo s fd ⟨us, ks⟩ (ps.zip bs)) (r : Vals vs bs) (h : sp p vs H Q E) : wpAny (model X.prog X.w) X.A (call (.ref f) us ks) (EP X pins σ Q) X.xe s := by
  have go := F.run X.A X.stack s H ⟨us, ks⟩ bs vs Q E p hr hG hot pin I.env0 hb r h
  refine wpAny_call (codeAny_mono go ?_)
  intro rr s' hq
  rcases rr with e | fl
  · exact hx pins H s e s' I hq
  · cases fl <;> first | exact I.after hq | exact False.elim hq
/-- a new instance, then its __init__ -/
theorem run_makeG (M : Mk X.K C f) (F : FnG X.prog X.w X.K X.mg X.base CX k f fd ps sp) (hr : Room (k + 1) X.A) (hG : X.A.guards = some []) (hx : PassesAt CX X σ E) (I : Inv X pins σ H s) {us bs : List Value} {ks : List (Str × Value)} {vs : List V}
    (hb : ∀ (s' : Shared), X.K.In s'.heap → ∀ u : Value, BindsTo s' fd ⟨u :: us, ks⟩ (ps.zip (u :: bs))) (r : Vals vs bs)
    (h : ∀ x dx, H x = none → H dx = none → dx ≠ x → sp (.ref x :: vs) (upd (upd H dx (.own x)) x (.ins C dx [])) (fun v H2 => v = .non ∧ Q (.ref x) H2) E) :
    wpAny (model X.prog X.w) X.A (call (.ref C) us ks) (EP X pins σ Q) X.xe s := by
  have n1 : H (s.heap.objs.size + 1) = none := I.hok.fresh (Nat.le_succ _)
  have n0 : H s.heap.objs.size = none := I.hok.fresh (Nat.le_refl _)
  have hq := h _ _ n1 n0 (Nat.ne_of_lt (Nat.lt_succ_self _))
  have I2 := Inv.made (C := C) I
  have r1 : RelV (V.ref (s.heap.objs.size + 1)) (Value.ref (s.heap.objs.size + 1)) := rfl
  have go := F.run _ X.stack _ _ ⟨Value.ref (s.heap.objs.size + 1) :: us, ks⟩ (Value.ref (s.heap.objs.size + 1) :: bs) _ _ E (hr.make C us ks) hG (I2.env0.make C us ks) (hb _ I2.kIn _)
    (Paired.cons r1 r) hq
  refine wpAny_call (make_map (f := f) I.kIn M.makes M.init (beq_iff_eq.mp M.fn) (codeAny_mono go ?_))
  intro rr s' hz
  rcases rr with e | fl
  · exact hx pins _ _ e s' I2 hz
  · cases fl with
    | ret u =>
      obtain ⟨v, H', I3, rv, ev, q3⟩ := I2.after hz
      subst ev
      exact ⟨rv, V.ref (s.heap.objs.size + 1), H', I3, rfl, q3⟩
    | next => exact False.elim hz
    | brk => exact False.elim hz
    | cont => exact False.elim hz
end

/-! ### the law's call -/
/-- the script, known whole -/
def scrH (a : Addr) (ob : Obj) (xs : List V) : Hp := fun b => if b = a then some (.frz ob (.lst xs)) else none
theorem law_callG {P0 : Program} {w : World} {K : PySem.W.Frag} {mg mb : Str → Option Value} {CX : CXT} {k : Nat} {fa a : Addr} {fd : FuncData} {x : Str} {sp : Sp} {s₁ : Shared} {vs : List Value} {ns : List Int}
    (kin : K.In s₁.heap) (hns : s₁.heap.Ns mainGlobals mg) (hb : s₁.heap.Ns builtinsNs mb) (hbb : ∀ x : Str, x ≠ "__name__" → mb x = bootBuiltins x) (hlim : s₁.heap.NoLimit) (hg : s₁.gens = #[])
    (ha : s₁.heap.get? a = some { cls := .type "list", data := .seq vs.toArray }) (hi : IntsAre vs ns) (hl : ns.length ≤ sizeLine) (hr : Room k callerA)
    (F : ∀ base : Heap, K.In base → base.Ns mainGlobals mg → FnG P0 w K mg base CX k fa fd [x] sp) (hbind : ∀ (s : Shared) (u : Value), BindsTo s fd ⟨[u], []⟩ [(x, u)])
    (hsp : ∀ H : Hp, KLs K H a (ns.map V.int) → sp [.ref a] H (fun v _ => v = .bl true) fun _ _ _ => False)
    (hCX : ∀ H e s', CX [] H s₁ (fun _ _ _ => False) e s' → False) :
    codeAny (model P0 w) callerA (.call (.ref fa) ⟨[.ref a], []⟩) (fun r s' => r = .ok (.ret (.bool true)) ∧ OldK s₁.heap s'.heap ∧ s'.os = s₁.os ∧ AllBare s'.gens) s₁ := by
  have rv : Vals (ns.map V.int) vs := vals_ints hi
  have lenV := hi.length
  -- H: nothing, or the script alone
  have core : ∀ H : Hp, (∀ b u, H b = some u → b = a ∧ ∃ xs, u = .frz { cls := .type "list", data := .seq vs.toArray } (.lst xs)) → KLs K H a (ns.map V.int) → HOk P0 w H s₁.heap → (H a ≠ none → K.lookup a = none) →
      codeAny (model P0 w) callerA (.call (.ref fa) ⟨[.ref a], []⟩) (fun r s' => r = .ok (.ret (.bool true)) ∧ OldK s₁.heap s'.heap ∧ s'.os = s₁.os ∧ AllBare s'.gens) s₁ := by
    intro H hH hS hok hK
    -- the ground: the heap without the script
    have ground : ∀ {b : Addr} {o : Obj}, s₁.heap.get? b = some o → (b = a → False) ∨ H a = none → (hidT s₁.heap H).get? b = some o := by
      intro b o e hc
      refine hidT_get e ?_
      cases q : H b with
      | none => rfl
      | some u =>
        obtain ⟨e1, _⟩ := hH b u q
        rcases hc with z | z
        · exact (z e1).elim
        · rw [← e1, q] at z; cases z
    have kinG : K.In (hidT s₁.heap H) := by
      intro b o e
      refine ground (kin b o e) ?_
      by_cases hc : H a = none
      · exact Or.inr hc
      · refine Or.inl fun z => ?_
        rw [z, hK hc] at e
        cases e
    have nsG : ∀ {b : Addr} {m : Str → Option Value}, s₁.heap.Ns b m → (hidT s₁.heap H).Ns b m := by
      rintro b m ⟨o, es, ep, e, d, r⟩
      refine ⟨o, es, ep, ground e (Or.inl fun z => ?_), d, r⟩
      rw [z, ha] at e
      cases e
      cases d
    obtain ⟨mc, c1, c2⟩ := hlim
    have md : Mod K mg (hidT s₁.heap H) := ⟨kinG, nsG hns, ⟨mb, nsG hb, hbb⟩, ⟨mc, nsG c1, c2⟩⟩
    have none_in : ∀ b : Addr, b ∈ ([] : List Addr) → False := fun b z => nomatch z
    have e0 : Env0 P0 w K mg (hidT s₁.heap H) callerA [] s₁ H :=
      { frames := rfl, mod := md, bs := fun b o e => of_hidT e, bsz := Nat.le_of_eq (hidT_size _ _), funs := trivial, frf := fun b z => (none_in b z).elim, hok := hok, bare := .of_eq hg }
    have r1 : RelV (V.ref a) (Value.ref a) := rfl
    have go := (F _ kinG (nsG hns)).run callerA [] s₁ H ⟨[.ref a], []⟩ [.ref a] [.ref a] _ _ hr rfl e0 (hbind s₁ (.ref a)) (Paired.cons r1 Paired.nil) (hsp H hS)
    refine codeAny_mono go ?_
    intro rr s' hz
    rcases rr with e | fl
    · exact (hCX H e s' hz).elim
    cases fl with
    | ret u =>
      obtain ⟨v, H', os, bare, un, hok', r', q⟩ := hz
      have q' : v = V.bl true := q
      subst q'
      have ru : u = Value.bool true := r'
      subst ru
      refine ⟨rfl, OldK.of_keep ?_, os, bare⟩
      intro b o e
      cases q : H b with
      | none => exact un.keep b o e q (fun z => none_in b z) (fun z => none_in b z)
      | some u =>
        obtain ⟨_, xs, rfl⟩ := hH b u q
        have t1 := (hok b _ q).1
        have t2 := (hok' b _ (un.frzs b _ _ q)).1
        rw [e] at t1
        cases t1
        exact t2
    | next => exact False.elim hz
    | brk => exact False.elim hz
    | cont => exact False.elim hz
  cases hk : K.lookup a with
  | none =>
    refine core (scrH a { cls := .type "list", data := .seq vs.toArray } (ns.map V.int)) ?_ (Or.inl ⟨_, if_pos rfl⟩) ?_ (fun _ => hk)
    · intro b u e
      unfold scrH at e
      split at e
      · rename_i hb
        cases e
        exact ⟨hb, _, rfl⟩
      · cases e
    · intro b u e
      unfold scrH at e
      split at e
      · rename_i hb
        cases e
        subst hb
        exact ⟨ha, by rw [List.length_map]; exact hl, vs, _, rv, ha⟩
      · cases e
  | some o =>
    have e := kin a o hk
    rw [ha] at e
    cases e
    refine core (fun _ => none) (fun b u z => nomatch z) (Or.inr ?_) (fun b u z => nomatch z) (fun z => absurd rfl z)
    exact ⟨_, vs.toArray, _, hk, rfl, rfl, rfl, by rw [List.size_toArray, lenV]; exact hl, by simpa using rv⟩
open PySem.W in
theorem walk_G {l : PySem.W.OpenLaw} {n k : Nat} {q : Program} {loose : List Str} {XP : (Str → Option Value) → Heap → Prop} {YP : World → Heap → Prop} {d : DefRec} {CX : CXT} {x : Str}
    (hn : l.most = some n) (hn2 : n ≤ sizeLine) (hdf : d.params.defaults = []) (hr : Room k callerA)
    (F : ∀ (w : World) (mg : Str → Option Value) (fa : Addr) (h : Heap), YP w h → h.Ns mainGlobals mg → mg d.name = some (.ref fa) →
      ∃ (K : PySem.W.Frag) (fd : FuncData) (sp : Sp), K.In h ∧ (∀ (s : Shared) (u : Value), BindsTo s fd ⟨[u], []⟩ [(x, u)]) ∧
        (∀ (H : Hp) (a : Addr) (ns : List Int), ns.length ≤ n → KLs K H a (ns.map V.int) → sp [.ref a] H (fun v _ => v = .bl true) fun _ _ _ => False) ∧
        ∀ base : Heap, K.In base → base.Ns mainGlobals mg → FnG l.prog w K mg base CX k fa fd [x] sp)
    (hCX : ∀ (H : Hp) (s : Shared) (e : Value) (s' : Shared), CX [] H s (fun _ _ _ => False) e s' → False) :
    PySem.W.WalkO q loose XP YP l.row.toRowW d [] (fun f vs => PySem.call f vs) := by
  refine Att.attach_call hn hdf ?_
  intro w s₀ s₁ mg mb fa o pm cd doc a vs ns G Y ho hd hcd hmg hobj hints hlen hg
  obtain ⟨K, fd, sp, KX, bnd, hsp, hF⟩ := F w mg fa _ Y G.T.g hmg
  refine law_callG KX G.T.g G.T.b G.T.builtins G.T.nolimit hg hobj hints (Nat.le_trans hlen hn2) hr hF bnd (fun H hS => hsp H a ns hlen hS) ?_
  exact fun H e s' => hCX H s₁ e s'
end DM
set_option Elab.async false
set_option linter.all false
set_option maxRecDepth 100000
set_option maxHeartbeats 4000000
/-! S5: which text a term of the interpreter's is. -/
namespace DM
open PySem L2 PyProof.Rows PySem.Spec

structure Tab where
  P : Prog
  fnm : Nat → Str           -- names of attributes, methods, keywords
  gn : Nat → Str            -- names of the module's constants
  gok : Nat → Bool
  fname : Nat → Str         -- names of the module's defs
  fok : Nat → Bool
  fps : Nat → List Str      -- their parameters
  cname : Nat → Str         -- names of the module's classes
  cok : Nat → Bool
  shc : Nat → Nat → List Nat → List Src → Bool   -- forms of making: the class
  shm : Nat → Nat → List Nat → List Src → Bool   -- forms of methods' calls
  mnm : Nat → Str           -- a method's name
  sh : Nat → Nat → List Nat → List Src → Bool   -- forms of calls: the def, how many by place, the names, where each parameter is from
  hot : Bool := false                           -- while an exception is handled
  es : Option Nat := none                       -- its slot
  xname : Nat → Str := fun _ => ""              -- exceptions' classes
  xok : Nat → Bool := fun _ => false            -- those of the module
  xmk : Nat → Bool := fun _ => false            -- those that may be raised with a text
  hok : Nat → Bool := fun _ => false            -- defs that may be called of an exception

def visB (sc : Scope) (x : Str) : Bool := match sc.names.lookup x with
  | some .local => true
  | some .cell => true
  | some .free => true
  | _ => false
def glB (sc : Scope) (x : Str) : Bool := match sc.names.lookup x with
  | some .globalImplicit => true
  | _ => false
/-- a name that may be stored: any of a def's own; in a block its plain own ones -/
def locB (inB : Bool) (sc : Scope) (x : Str) : Bool := match sc.names.lookup x with
  | some .local => true
  | some .cell => !inB
  | _ => false
def nmB (N : List Str) (i : Nat) (x : Str) : Bool := decide (N[i]? = some x) && !(x == ("__debug__" : Str)) && !(x == ("__classdict__" : Str))
def isStar : Expr → Bool
  | .Starred _ _ => true
  | _ => false
def isSlice : Expr → Bool
  | .Slice _ _ none _ => true
  | _ => false
def txB (s : Tx) : Bool := decide (s.length ≤ LIM) && s.all fun c => decide (c < 1114112)
def bName : Bif → Str
  | .len => "len" | .abs => "abs" | .max => "max" | .min => "min" | .repr => "repr" | .list => "list" | .tuple => "tuple" | .set => "set" | .sorted => "sorted" | .int => "int" | .str => "str" | .all => "all" | .any => "any"
def tName : Ty → Str
  | .int => "int" | .bool => "bool" | .str => "str" | .list => "list" | .tuple => "tuple" | .dict => "dict" | .lookup => "LookupError" | .value => "ValueError" | .own _ => "?"
def tyS : Ty → Option String
  | .int => some "int" | .bool => some "bool" | .str => some "str" | .list => some "list" | .tuple => some "tuple" | .dict => some "dict" | _ => none
/-- a method of a built-in class: its name -/
def mName : Nat → Option Str
  | 0 => some "append"
  | 1 => some "join"
  | 2 => some "index"
  | 6 => some "pop"
  | 7 => some "reverse"
  | _ => none
/-- methods of dicts -/
def dmN1 : Nat → Option Str
  | 0 => some "get"
  | 1 => some "pop"
  | _ => none
def dmN2 : Nat → Option Str
  | 0 => some "get"
  | 1 => some "pop"
  | 2 => some "setdefault"
  | _ => none
/-- the object of an attribute is no super() -/
def noSup : Expr → Bool
  | .Call (.Name x _) [] [] _ => !(x == ("super" : Str))
  | _ => true
mutual
/-- the slots that a target stores -/
def tgS : Tg → List Nat
  | .nm i => [i]
  | .tup l => tgSs l
  | .stB i j => [i, j]
  | _ => []
def tgSs : Tgs → List Nat
  | .nil => []
  | .cons t r => tgS t ++ tgSs r
end
def isSet : Expr → Bool
  | .Set _ _ _ => true
  | _ => false
/-- a test that is a value's truth, or a comparison -/
def plainT : Expr → Bool
  | .UnaryOp .Not _ _ => false
  | .BoolOp _ _ _ => false
  | .IfExp _ _ _ _ => false
  | .Compare _ _ _ _ => false
  | _ => true
def isCmp : Expr → Bool
  | .Compare _ _ _ _ => true
  | _ => false
def isTup : Expr → Bool
  | .Tuple _ _ _ => true
  | _ => false
/-- what may be called while an exception is handled -/
def hotB : Bif → Bool
  | .len => true
  | .any => true
  | _ => false
def isL : Itx → Bool
  | .exL _ => true
  | _ => false
section
variable (T : Tab) (N : List Str)
mutual
def mE (sc : Scope) : Ex → Expr → Bool
  | .var i, e => match e with
    | .Name x _ => nmB N i x && visB sc x && decide (T.es ≠ some i)
    | _ => false
  | .non, e => match e with
    | .Constant .none _ _ => true
    | _ => false
  | .bl b, e => match e with
    | .Constant (.bool c) _ _ => b == c
    | _ => false
  | .int i, e => match e with
    | .Constant (.int j) _ _ => decide (i = j)
    | _ => false
  | .str s, e => match e with
    | .Constant (.str t) _ _ => decide (t = ⟨s.toArray⟩) && txB s
    | _ => false
  | .gl g, e => match e with
    | .Name x _ => decide (x = T.gn g) && T.gok g && glB sc x && !(x == ("__debug__" : Str))
    | _ => false
  | .bin op a b, e => match e with
    | .BinOp l o r _ => decide (bo op = o) && mE sc a l && mE sc b r
    | _ => false
  | .neg a, e => match e with
    | .UnaryOp .USub x _ => mE sc a x
    | _ => false
  | .not_ a, e => match e with
    | .UnaryOp .Not x _ => mE sc a x
    | _ => false
  | .cmp op a b, e => match e with
    | .Compare l [o] [r] _ => decide (co op = o) && !behindInMarks o r && mE sc a l && mE sc b r
    | _ => false
  | .isN a, e => match e with
    | .Compare l [.Is] [.Constant .none _ _] _ => mE sc a l
    | _ => false
  | .isNt a, e => match e with
    | .Compare l [.IsNot] [.Constant .none _ _] _ => mE sc a l
    | _ => false
  | .ch o1 o2 a b c, e => match e with
    | .Compare l [p1, p2] [m, r] _ => decide (co o1 = p1) && decide (co o2 = p2) && !lastMarks [p1, p2] [m, r] && mE sc a l && mE sc b m && mE sc c r
    | _ => false
  | .and_ a b, e => match e with
    | .BoolOp .And (x :: y :: rest) p => mE sc a x && (match rest with
      | [] => mE sc b y
      | _ => mE sc b (.BoolOp .And (y :: rest) p))
    | _ => false
  | .or_ a b, e => match e with
    | .BoolOp .Or (x :: y :: rest) p => mE sc a x && (match rest with
      | [] => mE sc b y
      | _ => mE sc b (.BoolOp .Or (y :: rest) p))
    | _ => false
  | .ife c a b, e => match e with
    | .IfExp t x y _ => mT sc c t && mE sc a x && mE sc b y
    | _ => false
  | .att a f, e => match e with
    | .Attribute o m _ => decide (m = T.fnm f) && mE sc a o && noSup o
    | _ => false
  | .sub a i, e => match e with
    | .Subscript v s _ => mE sc a v && mE sc i s && !isSlice s
    | _ => false
  | .sl a lo hi, e => match e with
    | .Subscript v (.Slice l h none _) _ => mE sc a v && mO sc lo l && mO sc hi h
    | _ => false
  | .rev a, e => match e with
    | .Subscript v (.Slice none none (some (.UnaryOp .USub (.Constant (.int 1) _ _) _)) _) _ => mE sc a v
    | _ => false
  | .tup es, e => match e with
    | .Tuple xs _ _ => mEs sc es xs
    | _ => false
  | .lst es, e => match e with
    | .List xs _ => mEs sc es xs
    | _ => false
  | .dct es, e => match e with
    | .Dict ks vs _ => mDs sc es ks vs && decide (ks.length ≤ 15)
    | _ => false
  | .call f es ks kn sh, e => match e with
    | .Call (.Name x _) args kws _ => decide (x = T.fname f) && T.fok f && glB sc x && !(x == ("__debug__" : Str)) && mEs sc es args && mKs sc ks kn kws && T.sh f args.length kn sh && !T.hot
    | _ => false
  | .bif b es, e => match e with
    | .Call (.Name x _) (a :: args) [] _ => decide (x = bName b) && glB sc x && mEs sc es (a :: args) && (!T.hot || hotB b)
    | _ => false
  | .isi a t, e => match e with
    | .Call (.Name x _) [o, .Name y _] [] _ => decide (x = "isinstance") && glB sc x && mE sc a o && !isStar o && glB sc y && (match t with
      | .own c => decide (y = T.cname c) && T.cok c && !(y == ("__debug__" : Str))
      | _ => decide (y = tName t) && (tyS t).isSome)
    | _ => false
  | .met m o es ks kn sh, e => match e with
    | .Call (.Attribute v x ap) args kws p => (match mName m, kws, args with
      | some y, [], a :: r => decide (m ≠ 7) && decide (x = y) && mE sc o v && noSup v && mEs sc es (a :: r) && decide (ap.endLine = p.line) && decide ((a :: r).length < 20) && (match ks with | .nil => true | _ => false)
      | some y, [], [] => decide (m = 7) && decide (x = y) && mE sc o v && noSup v && decide (ap.endLine = p.line) && (match es, ks with | .nil, .nil => true | _, _ => false)
      | some _, _, _ => false
      | none, _, _ => decide (100 ≤ m) && decide (x = T.mnm m) && mE sc o v && noSup v && mEs sc es args && mKs sc ks kn kws && T.shm m args.length kn sh && decide (ap.endLine = p.line) && decide (args.length < 12) && decide (kws.length < 12) && !T.hot)
    | _ => false
  | .mk c es ks kn sh, e => match e with
    | .Call (.Name x _) args kws _ => decide (x = T.cname c) && T.cok c && glB sc x && !(x == ("__debug__" : Str)) && mEs sc es args && mKs sc ks kn kws && T.shc c args.length kn sh && !T.hot
    | _ => false
  | .lc elt own tg it c, e => match e with
    | .ListComp x [⟨t, i, ifs, 0⟩] scope _ => (match own.map fun k => N[k]? with
      | names => names.all (·.isSome) && blkC N sc scope ((names.filterMap id).zip own)) &&
        mI sc it i t && mG true (relS scope sc) tg t && (tgS tg).all (fun k => own.contains k) && mE (relS scope sc) elt x && mC (relS scope sc) c ifs && !isSet i && (!T.hot || isL it)
    | _ => false
  | .dm1 k o a, e => match e with
    | .Call (.Attribute v x ap) [b] [] p => decide (some x = dmN1 k) && mE sc o v && noSup v && mE sc a b && !isStar b && decide (ap.endLine = p.line)
    | _ => false
  | .dm2 k o a b, e => match e with
    | .Call (.Attribute v x ap) [c, d] [] p => decide (some x = dmN2 k) && mE sc o v && noSup v && mE sc a c && !isStar c && mE sc b d && !isStar d && decide (ap.endLine = p.line)
    | _ => false
  | .dsT o a b, e => match e with
    | .Call (.Attribute v x ap) [c, d] [] p => decide (x = "setdefault") && mE sc o v && noSup v && mE sc a c && !isStar c && mE sc b d && !isStar d && decide (ap.endLine = p.line)
    | _ => false
  | .sortk o, e => match e with
    | .Call (.Name x _) [.Call (.Attribute v y ap) [] [] p2] [] _ => decide (x = "sorted") && glB sc x && decide (y = "keys") && mE sc o v && noSup v && decide (ap.endLine = p2.line) && !T.hot
    | _ => false
  | .lenO m o, e => match e with
    | .Call (.Name x _) [a] [] _ => decide (x = "len") && glB sc x && mE sc o a && !isStar a && decide (T.mnm m = "__len__") && decide (100 ≤ m) && T.shm m 0 [] [] && !T.hot
    | _ => false
  | .lci elt own tg p c, e => match e with
    | .ListComp x [⟨t, .Call (.Attribute v y ap) [] [] p2, ifs, 0⟩] scope _ => decide (y = "items") && mE sc p v && noSup v && decide (ap.endLine = p2.line) && isTup t && (match own.map fun k => N[k]? with
      | names => names.all (·.isSome) && blkC N sc scope ((names.filterMap id).zip own)) &&
        mG true (relS scope sc) tg t && (tgS tg).all (fun k => own.contains k) && mC (relS scope sc) c ifs && mE (relS scope sc) elt x && !T.hot
    | _ => false
  | .sci elt own tg p c, e => match e with
    | .Call (.Name z _) [.SetComp x [⟨t, .Call (.Attribute v y ap) [] [] p2, ifs, 0⟩] scope _] [] _ => decide (z = "sorted") && glB sc z && decide (y = "items") && mE sc p v && noSup v && decide (ap.endLine = p2.line) && isTup t && (match own.map fun k => N[k]? with
      | names => names.all (·.isSome) && blkC N sc scope ((names.filterMap id).zip own)) &&
        mG true (relS scope sc) tg t && (tgS tg).all (fun k => own.contains k) && mC (relS scope sc) c ifs && mE (relS scope sc) elt x && !T.hot
    | _ => false
  | .dci kx vx own tg p c, e => match e with
    | .DictComp x w [⟨t, .Call (.Attribute v y ap) [] [] p2, ifs, 0⟩] scope _ => decide (y = "items") && mE sc p v && noSup v && decide (ap.endLine = p2.line) && isTup t && (match own.map fun k => N[k]? with
      | names => names.all (·.isSome) && blkC N sc scope ((names.filterMap id).zip own)) &&
        mG true (relS scope sc) tg t && (tgS tg).all (fun k => own.contains k) && mC (relS scope sc) c ifs && mE (relS scope sc) kx x && mE (relS scope sc) vx w && !T.hot
    | _ => false
  | .dcT kx vx own tg p c, e => match e with
    | .DictComp x w [⟨t, .Call (.Attribute v y ap) [] [] p2, ifs, 0⟩] scope _ => decide (y = "items") && mE sc p v && noSup v && decide (ap.endLine = p2.line) && isTup t && (match own.map fun k => N[k]? with
      | names => names.all (·.isSome) && blkC N sc scope ((names.filterMap id).zip own)) &&
        mG true (relS scope sc) tg t && (tgS tg).all (fun k => own.contains k) && mC (relS scope sc) c ifs && mE (relS scope sc) kx x && mE (relS scope sc) vx w && !T.hot
    | _ => false
  | .fst _, _ => false
  | .isX i d, e => match e with
    | .Call (.Name x _) [.Name z _, .Name y _] [] _ => decide (x = "isinstance") && glB sc x && nmB N i z && visB sc z && decide (T.es = some i) && T.hot && decide (y = T.xname d) && glB sc y && !(y == ("__debug__" : Str)) && T.xok d
    | _ => false
  | .attX i f, e => match e with
    | .Attribute (.Name z _) m _ => nmB N i z && visB sc z && decide (T.es = some i) && T.hot && decide (m = T.fnm f) && false
    | _ => false
  | .callX f i, e => match e with
    | .Call (.Name x _) [.Name z _] [] _ => decide (x = T.fname f) && T.hok f && glB sc x && !(x == ("__debug__" : Str)) && nmB N i z && visB sc z && decide (T.es = some i) && T.hot
    | _ => false
  | .nev, _ => true
def mT (sc : Scope) : Te → Expr → Bool
  | .not_ a, e => match e with
    | .UnaryOp .Not x _ => mT sc a x
    | _ => false
  | .and_ a b, e => match e with
    | .BoolOp .And (x :: y :: rest) p => mT sc a x && (match rest with
      | [] => mT sc b y
      | _ => mT sc b (.BoolOp .And (y :: rest) p))
    | _ => false
  | .or_ a b, e => match e with
    | .BoolOp .Or (x :: y :: rest) p => mT sc a x && (match rest with
      | [] => mT sc b y
      | _ => mT sc b (.BoolOp .Or (y :: rest) p))
    | _ => false
  | .vl i, e => mE sc i e && (plainT e || isCmp e)
def mEs (sc : Scope) : Es → List Expr → Bool
  | .nil, l => l.isEmpty
  | .cons i r, l => match l with
    | e :: es => mE sc i e && !isStar e && mEs sc r es
    | [] => false
/-- keys and values by turns -/
def mDs (sc : Scope) : Es → List (Option Expr) → List Expr → Bool
  | .nil, ks, vs => ks.isEmpty && vs.isEmpty
  | .cons k r, ks, vs => match ks, r with
    | some x :: kr, .cons v t => (match vs with
      | y :: vr => mE sc k x && mE sc v y && mDs sc t kr vr
      | [] => false)
    | _, _ => false
def mKs (sc : Scope) : Es → List Nat → List Keyword → Bool
  | .nil, kn, l => kn.isEmpty && l.isEmpty
  | .cons i r, kn, l => match kn, l with
    | k :: kr, ⟨some x, e, _⟩ :: es => decide (x = T.fnm k) && mE sc i e && mKs sc r kr es
    | _, _ => false
def mO (sc : Scope) : Eo → Option Expr → Bool
  | .no, o => o.isNone
  | .so i, o => match o with
    | some e => mE sc i e
    | none => false
def mC (sc : Scope) : Tc → List Expr → Bool
  | .no, o => o.isEmpty
  | .so i, o => match o with
    | [e] => mT sc i e
    | _ => false
def mG (inB : Bool) (sc : Scope) : Tg → Expr → Bool
  | .nm i, e => match e with
    | .Name x _ => nmB N i x && locB inB sc x
    | _ => false
  | .tup l, e => match e with
    | .Tuple es _ _ => mGs inB sc l es
    | _ => false
  | .stB i j, e => match e with
    | .Tuple [.Starred (.Name x _) _, .Name y _] _ _ => nmB N i x && locB inB sc x && nmB N j y && locB inB sc y && decide (i ≠ j) && !T.hot
    | _ => false
  | .att o f, e => match e with
    | .Attribute v x _ => decide (x = T.fnm f) && mE sc o v && noSup v
    | _ => false
  | .sub o i, e => match e with
    | .Subscript v s _ => mE sc o v && mE sc i s && !isSlice s
    | _ => false
def mGs (inB : Bool) (sc : Scope) : Tgs → List Expr → Bool
  | .nil, l => l.isEmpty
  | .cons t r, l => match l with
    | e :: es => mG inB sc t e && !isStar e && mGs inB sc r es
    | [] => false
/-- what is walked, to the target t -/
def mI (sc : Scope) : Itx → Expr → Expr → Bool
  | .ex i, e, _ => mE sc i e && !T.hot
  | .exL i, e, _ => mE sc i e && T.hot
  | .rng i, e, _ => match e with
    | .Call (.Name x _) [a] [] _ => decide (x = "range") && glB sc x && mE sc i a && !isStar a && !T.hot
    | _ => false
  | .rng2 i j, e, _ => match e with
    | .Call (.Name x _) [a, b] [] _ => decide (x = "range") && glB sc x && mE sc i a && !isStar a && mE sc j b && !isStar b && !T.hot
    | _ => false
  | .zip i j, e, t => match e with
    | .Call (.Name x _) [a, b] [] _ => decide (x = "zip") && glB sc x && mE sc i a && !isStar a && mE sc j b && !isStar b && isTup t && !T.hot
    | _ => false
  | .enum i, e, t => match e with
    | .Call (.Name x _) [a] [] _ => decide (x = "enumerate") && glB sc x && mE sc i a && !isStar a && isTup t && !T.hot
    | _ => false
  | _, _, _ => false
end
end
end DM
set_option Elab.async false
set_option linter.all false
set_option maxRecDepth 100000
set_option maxHeartbeats 4000000
/-! S6b: sorted keys, views of keys. -/
namespace DM
open PySem L2 PyProof.Rows PySem.Spec
/-! ### what sorting comes to -/
theorem perm_sorted_eq {α : Type} (le : α → α → Prop) (anti : ∀ a b, le a b → le b a → a = b) : ∀ l m : List α, l.Perm m → l.Pairwise le → m.Pairwise le → l = m
  | [], m, p, _, _ => (List.nil_perm.mp p).symm
  | a :: l, [], p, _, _ => by cases (List.perm_nil.mp p)
  | a :: l, b :: m, p, h1, h2 => by
    rw [List.pairwise_cons] at h1 h2
    have e : a = b := by
      rcases List.mem_cons.mp (p.mem_iff.mp List.mem_cons_self) with e | e
      · exact e
      · rcases List.mem_cons.mp (p.mem_iff.mpr List.mem_cons_self) with e2 | e2
        · exact e2.symm
        · exact anti a b (h1.1 b e2) (h2.1 a e)
    subst e
    rw [perm_sorted_eq le anti l m (List.Perm.cons_inv p) h1.2 h2.2]
theorem insI_perm (x : Int) : ∀ l, (insI x l).Perm (x :: l)
  | [] => .refl _
  | y :: r => by
    unfold insI
    split
    · exact .refl _
    · exact ((insI_perm x r).cons y).trans (.swap x y r)
theorem srtI_perm : ∀ l, (srtI l).Perm l
  | [] => .refl _
  | x :: r => (insI_perm x (srtI r)).trans ((srtI_perm r).cons x)
theorem insI_srt (x : Int) : ∀ l, l.Pairwise (· ≤ ·) → (insI x l).Pairwise (· ≤ ·)
  | [], _ => List.pairwise_singleton _ _
  | y :: r, h => by
    unfold insI
    have h' := h
    rw [List.pairwise_cons] at h'
    split
    · rename_i q
      rw [List.pairwise_cons]
      refine ⟨fun z hz => ?_, h⟩
      rcases List.mem_cons.mp hz with rfl | hz
      · exact q
      · exact Int.le_trans q (h'.1 z hz)
    · rename_i q
      rw [List.pairwise_cons]
      refine ⟨fun z hz => ?_, insI_srt x r h'.2⟩
      rcases List.mem_cons.mp ((insI_perm x r).mem_iff.mp hz) with rfl | hz
      · omega
      · exact h'.1 z hz
theorem srtI_srt : ∀ l, (srtI l).Pairwise (· ≤ ·)
  | [] => .nil
  | x :: r => insI_srt x _ (srtI_srt r)
theorem srtI_eq {ks ns : List Int} (p : ks.Perm ns) (h : ks.Pairwise (· ≤ ·)) : ks = srtI ns :=
  perm_sorted_eq _ (fun a b h1 h2 => Int.le_antisymm h1 h2) _ _ (p.trans (srtI_perm ns).symm) h (srtI_srt ns)
theorem ltT_cps : ∀ a b : Tx, ltT a b = ltCps a b
  | [], [] => rfl
  | [], _ :: _ => rfl
  | _ :: _, [] => rfl
  | a :: r, b :: t => by
    unfold ltT ltCps
    rw [ltT_cps r t]
    by_cases e : a = b
    · subst e
      simp
    · have e1 : (a == b) = false := beq_false_of_ne e
      rw [e1]
      simp
theorem ltT_irr : ∀ a : Tx, ltT a a = false
  | [] => rfl
  | a :: r => by
    unfold ltT
    rw [beq_self_eq_true, if_pos rfl]
    exact ltT_irr r
theorem ltT_asym : ∀ a b : Tx, ltT a b = true → ltT b a = false
  | [], [], _ => rfl
  | [], _ :: _, _ => rfl
  | _ :: _, [], h => by cases h
  | a :: r, b :: t, h => by
    unfold ltT at h ⊢
    by_cases e : a = b
    · subst e
      rw [beq_self_eq_true, if_pos rfl] at h ⊢
      exact ltT_asym r t h
    · have e1 : (a == b) = false := beq_false_of_ne e
      have e2 : (b == a) = false := beq_false_of_ne fun z => e z.symm
      rw [e1] at h
      rw [e2]
      have h := of_decide_eq_true h
      exact decide_eq_false (by omega)
theorem ltT_tot : ∀ a b : Tx, ltT a b = false → ltT b a = false → a = b
  | [], [], _, _ => rfl
  | [], _ :: _, h, _ => by cases h
  | _ :: _, [], _, h => by cases h
  | a :: r, b :: t, h, g => by
    unfold ltT at h g
    by_cases e : a = b
    · subst e
      rw [beq_self_eq_true, if_pos rfl] at h g
      rw [ltT_tot r t h g]
    · exfalso
      have e1 : (a == b) = false := beq_false_of_ne e
      have e2 : (b == a) = false := beq_false_of_ne fun z => e z.symm
      rw [e1] at h
      rw [e2] at g
      have h := of_decide_eq_false h
      have g := of_decide_eq_false g
      omega
theorem ltT_trans : ∀ a b c : Tx, ltT b a = false → ltT c b = false → ltT c a = false
  | [], _, [], _, _ => rfl
  | [], _, _ :: _, _, _ => rfl
  | _ :: _, [], _, h, _ => by cases h
  | _ :: _, _ :: _, [], _, g => by cases g
  | a :: r, b :: t, c :: u, h, g => by
    unfold ltT at h g ⊢
    by_cases e : c = a
    · subst e
      rw [beq_self_eq_true, if_pos rfl]
      by_cases e2 : b = c
      · subst e2
        rw [beq_self_eq_true, if_pos rfl] at h g
        exact ltT_trans r t u h g
      · exfalso
        have e1 : (b == c) = false := beq_false_of_ne e2
        have e3 : (c == b) = false := beq_false_of_ne fun z => e2 z.symm
        rw [e1] at h
        rw [e3] at g
        have h := of_decide_eq_false h
        have g := of_decide_eq_false g
        omega
    · have e0 : (c == a) = false := beq_false_of_ne e
      rw [e0]
      by_cases e2 : b = a
      · subst e2
        rw [e0] at g
        exact g
      · have e1 : (b == a) = false := beq_false_of_ne e2
        rw [e1] at h
        have h := of_decide_eq_false h
        by_cases e3 : c = b
        · subst e3
          exact decide_eq_false h
        · have e4 : (c == b) = false := beq_false_of_ne e3
          rw [e4] at g
          have g := of_decide_eq_false g
          exact decide_eq_false (by omega)
theorem insS_perm (x : Tx) : ∀ l, (insS x l).Perm (x :: l)
  | [] => .refl _
  | y :: r => by
    unfold insS
    split
    · exact ((insS_perm x r).cons y).trans (.swap x y r)
    · exact .refl _
theorem srtS_perm : ∀ l, (srtS l).Perm l
  | [] => .refl _
  | x :: r => (insS_perm x (srtS r)).trans ((srtS_perm r).cons x)
def LeT (a b : Tx) : Prop := ltT b a = false
theorem insS_srt (x : Tx) : ∀ l, l.Pairwise LeT → (insS x l).Pairwise LeT
  | [], _ => List.pairwise_singleton _ _
  | y :: r, h => by
    unfold insS
    have h' := h
    rw [List.pairwise_cons] at h'
    split
    · rename_i q
      rw [List.pairwise_cons]
      refine ⟨fun z hz => ?_, insS_srt x r h'.2⟩
      rcases List.mem_cons.mp ((insS_perm x r).mem_iff.mp hz) with rfl | hz
      · exact ltT_asym _ _ q
      · exact h'.1 z hz
    · rename_i q
      have q : ltT y x = false := by simpa using q
      rw [List.pairwise_cons]
      refine ⟨fun z hz => ?_, h⟩
      rcases List.mem_cons.mp hz with rfl | hz
      · exact q
      · exact ltT_trans _ _ _ q (h'.1 z hz)
theorem srtS_srt : ∀ l, (srtS l).Pairwise LeT
  | [] => .nil
  | x :: r => insS_srt x _ (srtS_srt r)
def toS (t : Tx) : Str := ⟨t.toArray⟩
theorem toS_cps (s : Str) : toS s.cps.toList = s := by
  cases s
  unfold toS
  simp
theorem cps_toS (t : Tx) : (toS t).cps.toList = t := by simp [toS]
theorem rising_pw : ∀ (l : List Str) (p : Str), risingS p l = true → (p :: l).Pairwise fun a b => LeT a.cps.toList b.cps.toList
  | [], p, _ => List.pairwise_singleton _ _
  | x :: r, p, h => by
    unfold risingS at h
    rw [Bool.and_eq_true] at h
    have ih := rising_pw r x h.2
    rw [List.pairwise_cons]
    have hx : LeT p.cps.toList x.cps.toList := by
      unfold LeT
      rw [ltT_cps]
      simpa using h.1
    refine ⟨fun z hz => ?_, ih⟩
    rcases List.mem_cons.mp hz with rfl | hz
    · exact hx
    · rw [List.pairwise_cons] at ih
      exact ltT_trans _ _ _ hx (ih.1 z hz)
theorem srtS_eq {ks ns : List Str} (p : ks.Perm ns) (h : sortedS ks = true) : ks = (srtS (ns.map fun s => s.cps.toList)).map toS := by
  have e : ks.map (fun s => s.cps.toList) = srtS (ns.map fun s => s.cps.toList) := by
    refine perm_sorted_eq LeT (fun a b h1 h2 => ltT_tot _ _ h2 h1) _ _ ((p.map _).trans (srtS_perm _).symm) ?_ (srtS_srt _)
    rw [List.pairwise_map]
    cases ks with
    | nil => exact .nil
    | cons x r => exact rising_pw r x h
  rw [← e, List.map_map]
  have : (toS ∘ fun s : Str => s.cps.toList) = id := funext fun s => toS_cps s
  rw [this, List.map_id]
section
variable {X : Cx} {T : String} {r d : Addr} {n : Nat} {P : Nat → Value → Prop} {OK : Heap → Prop}
/-- what was collected is sorted: ints -/
theorem sorted_srcI {pins : List (Addr × Obj)} {σ : L2.St} {H : Hp} {s : Shared} {Q : VK} {ns : List Int} (K : PySem.W.KdlSrc X.prog X.w T r d n P OK) (hh : X.A.handled = none) (I : Inv X pins σ H s) (hok : OK s.heap) (hn : n ≤ sizeLine)
    (hi : ∀ acc, ItemsOf P acc n → IntsAre acc.toList ns) (q : ∀ (ks : List Int) (p : Addr), ks.Perm ns → ks.Pairwise (· ≤ ·) → H p = none → Q (.ref p) (upd H p (.lst (ks.map V.int)))) :
    wpAny (model X.prog X.w) X.A (call (.builtin "sorted") [.ref r]) (EP X pins σ Q) X.xe s := by
  refine Calls.call_function_entry PyProof.Rows.kind_sorted PyProof.Rows.plain_sorted PyProof.Rows.entry_sorted (PyProof.Rows.args_sorted1 _) ?_
  unfold Builtin.«sorted»
  refine wpAny_bind (m := checkCount "sorted" 1 1 _) (wpAny_pure ?_)
  refine wpAny_bind (PySem.W.kdu_collect (A := X.A.in1) K hh hok hn fun hp tk acc keep coll => ?_)
  have la : acc.toList.length ≤ sizeLine := by rw [Array.length_toList, coll.1]; exact hn
  have ia := hi acc coll
  have I1 : Inv X pins σ H { s with heap := hp, toks := tk } := I.kept keep
  refine wpAny_bind (wpAny_newList ?_ la)
  have ob : (hp.push (seqObj "list" acc.toList.toArray 0)).get? hp.objs.size = some (seqObj "list" acc.toList.toArray 0) := Heap.get?_push_size _ rfl
  show wpAny _ _ _ _ _ { s with heap := hp.push (seqObj "list" acc.toList.toArray 0), toks := tk }
  refine wpAny_bind (wpAny_holding (wpAny_call_entry PyProof.Rows.slot_list_sort ⟨_, ob, rfl⟩ PyProof.Rows.entry_list_sort
    (SrtO.list_sort_ord (s := { s with heap := hp.push (seqObj "list" acc.toList.toArray 0), toks := tk }) SrtO.swo_int ob la (fun two => SrtO.ints_sortable ia two) fun out o1 o2 => ⟨_, rfl, ?_⟩) (PyProof.Rows.args_list_sort _)))
  obtain ⟨k1, k2, k3⟩ := SrtO.ints_out ia o1 o2
  obtain ⟨ep, at'⟩ := PyProof.Rows.sortedHeap_at (vs := acc.toList) (out := out.toArray) ob
  have lz : ((out.map SrtO.iv).map V.int).length ≤ sizeLine := by
    rw [List.length_map, k2.length_eq, ← ia.length]
    exact la
  refine wpAny_pure ⟨_, rfl, .ref hp.objs.size, upd H hp.objs.size (.lst ((out.map SrtO.iv).map V.int)), I1.laid (t' := tk) (fun b u e => ?_) (Nat.le_refl _) ⟨lz, out, ep, vals_of_ints k1, at'⟩, rfl, q _ _ k2 k3 (I1.hok.fresh (Nat.le_refl _))⟩
  have lb : b < hp.objs.size := Heap.lt_size e
  rw [PyProof.Rows.sortedHeap_old (Nat.ne_of_lt lb) (by rw [size_push']; exact Nat.lt_succ_of_lt lb)]
  exact Heap.get?_push_of_some _ e
/-- .. texts -/
theorem sorted_srcS {pins : List (Addr × Obj)} {σ : L2.St} {H : Hp} {s : Shared} {Q : VK} {ns : List Str} (K : PySem.W.KdlSrc X.prog X.w T r d n P OK) (hh : X.A.handled = none) (I : Inv X pins σ H s) (hok : OK s.heap) (hn : n < 64) (hns : ns.length = n)
    (hi : ∀ acc, ItemsOf P acc n → StrsAre acc.toList ns) (q : ∀ (ks : List Str) (p : Addr), ks.Perm ns → sortedS ks = true → H p = none → Q (.ref p) (upd H p (.lst (ks.map V.str)))) :
    wpAny (model X.prog X.w) X.A (call (.builtin "sorted") [.ref r]) (EP X pins σ Q) X.xe s := by
  have h16 : n ≤ sizeLine := by rw [sizeLine_eq]; omega
  refine Calls.call_function_entry PyProof.Rows.kind_sorted PyProof.Rows.plain_sorted PyProof.Rows.entry_sorted (PyProof.Rows.args_sorted1 _) ?_
  unfold Builtin.«sorted»
  refine wpAny_bind (m := checkCount "sorted" 1 1 _) (wpAny_pure ?_)
  refine wpAny_bind (PySem.W.kdu_collect (A := X.A.in1) K hh hok h16 fun hp tk acc keep coll => ?_)
  have la : acc.toList.length = n := by rw [Array.length_toList, coll.1]
  have ia := hi acc coll
  have I1 : Inv X pins σ H { s with heap := hp, toks := tk } := I.kept keep
  refine wpAny_bind (wpAny_newList ?_ (by rw [la]; exact h16))
  have ob : (hp.push (seqObj "list" acc.toList.toArray 0)).get? hp.objs.size = some (seqObj "list" acc.toList.toArray 0) := Heap.get?_push_size _ rfl
  show wpAny _ _ _ _ _ { s with heap := hp.push (seqObj "list" acc.toList.toArray 0), toks := tk }
  refine wpAny_bind (wpAny_holding (wpAny_call_entry PyProof.Rows.slot_list_sort ⟨_, ob, rfl⟩ PyProof.Rows.entry_list_sort
    (list_sort_treeK strKind_oneLt (s := { s with heap := hp.push (seqObj "list" acc.toList.toArray 0), toks := tk }) ob ia.keysOf (fun _ _ _ e => keyKind_strs (by rw [← e]; exact ia)) (by rw [la]; exact hn) fun fin o1 o2 => ⟨_, rfl, ?_⟩)
    (PyProof.Rows.args_list_sort _)))
  obtain ⟨ks, k1, k2, k3⟩ := sorted_out_str ia o1 o2
  obtain ⟨ep, at'⟩ := PyProof.Rows.sortedHeap_at (vs := acc.toList) (out := (arrOf fin).map (·.2)) ob
  have lz : (ks.map V.str).length ≤ sizeLine := by
    rw [List.length_map, k2.length_eq, hns]
    exact h16
  refine wpAny_pure ⟨_, rfl, .ref hp.objs.size, upd H hp.objs.size (.lst (ks.map V.str)), I1.laid (t' := tk) (fun b u e => ?_) (Nat.le_refl _)
    (show ObjOk X.prog X.w _ _ _ (.lst (ks.map V.str)) from ⟨lz, ((arrOf fin).map (·.2)).toList, ep, vals_of_strs k1, by rw [Array.toArray_toList]; exact at'⟩), rfl, q ks _ k2 k3 (I1.hok.fresh (Nat.le_refl _))⟩
  have lb : b < hp.objs.size := Heap.lt_size e
  rw [PyProof.Rows.sortedHeap_old (Nat.ne_of_lt lb) (by rw [size_push']; exact Nat.lt_succ_of_lt lb)]
  exact Heap.get?_push_of_some _ e
/-- keys, told one by one -/
theorem keys_ints {vs : List (Key × Value)} {ns : List Int} (hk : vs.map (·.1) = ns.map Sum.inl) {acc : Array Value} (c : ItemsOf (fun i v => ∃ k x, vs[i]? = some (k, x) ∧ (mixKind X.prog X.w).is k v = true) acc vs.length) : IntsAre acc.toList ns := by
  have ln : vs.length = ns.length := by
    have e := congrArg List.length hk
    rwa [List.length_map, List.length_map] at e
  have go : ∀ {ks : List Int} {us : List Value}, us.length = ks.length → (∀ (j : Nat) u, us[j]? = some u → ∃ k t, ks[j]? = some k ∧ u = Value.int k t) → IntsAre us ks := by
    intro ks
    induction ks with
    | nil =>
      intro us l _
      cases us with
      | nil => exact .nil
      | cons _ _ => cases l
    | cons k ks ih =>
      intro us l h
      cases us with
      | nil => cases l
      | cons u us =>
        obtain ⟨k', t, e1, e2⟩ := h 0 u rfl
        cases e1
        subst e2
        exact .cons _ _ (ih (Nat.succ.inj l) fun j v e => h (j + 1) v e)
  refine go (by rw [Array.length_toList, c.1, ln]) fun j u e => ?_
  obtain ⟨k, x, e1, e2⟩ := c.2 j u (by rw [← Array.getElem?_toList]; exact e)
  have e3 : (vs.map (·.1))[j]? = some k := by rw [List.getElem?_map, e1]; rfl
  rw [hk, List.getElem?_map] at e3
  cases e4 : ns[j]? with
  | none => rw [e4] at e3; cases e3
  | some i =>
    rw [e4] at e3
    cases e3
    rcases keyIs_shape (show keyIs (.inl i) u = true from e2) with ⟨i', t, ek, ht⟩ | ⟨z, t, ek, ht⟩
    · cases ek
      exact ⟨i, t, rfl, ht⟩
    · cases ek
theorem keys_strs {vs : List (Key × Value)} {ns : List Str} (hk : vs.map (·.1) = ns.map Sum.inr) {acc : Array Value} (c : ItemsOf (fun i v => ∃ k x, vs[i]? = some (k, x) ∧ (mixKind X.prog X.w).is k v = true) acc vs.length) : StrsAre acc.toList ns := by
  have ln : vs.length = ns.length := by
    have e := congrArg List.length hk
    rwa [List.length_map, List.length_map] at e
  have go : ∀ {ks : List Str} {us : List Value}, us.length = ks.length → (∀ (j : Nat) u, us[j]? = some u → ∃ k t, ks[j]? = some k ∧ u = Value.str k t) → StrsAre us ks := by
    intro ks
    induction ks with
    | nil =>
      intro us l _
      cases us with
      | nil => exact .nil
      | cons _ _ => cases l
    | cons k ks ih =>
      intro us l h
      cases us with
      | nil => cases l
      | cons u us =>
        obtain ⟨k', t, e1, e2⟩ := h 0 u rfl
        cases e1
        subst e2
        exact .cons _ _ (ih (Nat.succ.inj l) fun j v e => h (j + 1) v e)
  refine go (by rw [Array.length_toList, c.1, ln]) fun j u e => ?_
  obtain ⟨k, x, e1, e2⟩ := c.2 j u (by rw [← Array.getElem?_toList]; exact e)
  have e3 : (vs.map (·.1))[j]? = some k := by rw [List.getElem?_map, e1]; rfl
  rw [hk, List.getElem?_map] at e3
  cases e4 : ns[j]? with
  | none => rw [e4] at e3; cases e3
  | some i =>
    rw [e4] at e3
    cases e3
    rcases keyIs_shape (show keyIs (.inr i) u = true from e2) with ⟨i', t, ek, ht⟩ | ⟨z, t, ek, ht⟩
    · cases ek
    · cases ek
      exact ⟨i, t, rfl, ht⟩
/-- what a dict's keys, sorted, come to -/
def SortK (kvs : List (Key × V)) (H : Hp) (Q : VK) : Prop :=
  (∃ ns : List Int, kvs.map (·.1) = ns.map Sum.inl ∧ ∀ (ks : List Int) (p : Addr), ks.Perm ns → ks.Pairwise (· ≤ ·) → H p = none → Q (.ref p) (upd H p (.lst (ks.map V.int)))) ∨
  (∃ ns : List Str, kvs.map (·.1) = ns.map Sum.inr ∧ ns.length < 64 ∧ ∀ (ks : List Str) (p : Addr), ks.Perm ns → sortedS ks = true → H p = none → Q (.ref p) (upd H p (.lst (ks.map V.str))))
theorem call_sortedK (hc : X.calm = true) : CallR X (.builtin "sorted") (fun xs H Q => ∃ (a : Addr) (kvs : List (Key × V)), xs = [.ref a] ∧ Rd H a (.dK kvs) ∧ SortK kvs H Q) := by
  intro pins s σ H xs us Q I rv ⟨a, kvs, ex, hd, q⟩
  subst ex
  rw [Vals.ref1 rv]
  obtain ⟨z, lo, vs, rel, dd⟩ := dk_rd I.hok hd
  obtain ⟨ep, hat⟩ := dd.dictAt
  rcases q with ⟨ns, hk, q⟩ | ⟨ns, hk, h64, q⟩
  · have hk' : vs.map (·.1) = ns.map Sum.inl := rel.keys.symm.trans hk
    exact sorted_srcI (PySem.W.kdl_dict (knd := mixKind X.prog X.w) (kvs := vs) (ep := ep) lo) (I.ok.hd hc) I hat (by rw [← rel.length]; exact z) (fun acc c => keys_ints hk' c) q
  · have hk' : vs.map (·.1) = ns.map Sum.inr := rel.keys.symm.trans hk
    have ln : vs.length = ns.length := by
      have e := congrArg List.length hk'
      rwa [List.length_map, List.length_map] at e
    exact sorted_srcS (PySem.W.kdl_dict (knd := mixKind X.prog X.w) (kvs := vs) (ep := ep) lo) (I.ok.hd hc) I hat (by rw [ln]; exact h64) ln.symm (fun acc c => keys_strs hk' c) q
/-- a view of the keys -/
def keysO (p d : Addr) : HO := .ext fun h => PySem.W.KdlKeysView h p d
theorem keysO_ok {P : Program} {w : World} {H : Hp} {h : Heap} {p d : Addr} (e : h.get? p = some { cls := .type "dict_keys", data := .fields #[.ref d] }) : ObjOk P w H h p (keysO p d) :=
  ⟨⟨_, e, rfl, rfl⟩, ⟨_, e⟩, fun h1 h2 x k => let ⟨o, ho, r⟩ := x; ⟨o, k o ho, r⟩⟩
def rKeys : V → List V → Hp → VK → Prop := fun x xs H Q => ∃ (a : Addr) (kvs : List (Key × V)), x = .ref a ∧ xs = [] ∧ H a = some (.dK kvs) ∧ ∀ p, H p = none → Q (.ref p) (upd H p (keysO p a))
theorem mt_keys : MtR X "dict.keys" rKeys := by
  intro pins s σ H x xs v us Q I rx rxs ⟨a, kvs, e1, e2, ha, q⟩
  subst e1 e2
  cases rx
  cases rxs
  obtain ⟨z, lo, vs, rel, dd⟩ := dk_of I.hok ha
  have hf : H s.heap.objs.size = none := I.hok.fresh (Nat.le_refl _)
  refine call_meetsIn F.slot_dict_keys dd.typeIs F.entry_dict_keys (F.args_dict_keys_1 _) (PySem.W.kdl_meets_keys (mixKind X.prog X.w) a lo) ⟨⟨vs, dd⟩, ?_⟩
  exact ⟨.ref s.heap.objs.size, upd H s.heap.objs.size (keysO s.heap.objs.size a), I.laid (t' := s.toks) (fun b u e => Heap.get?_push_of_some _ e) (Nat.le_refl _) (keysO_ok (Heap.get?_push_size _ rfl)), rfl, q _ hf⟩
theorem call_sortedV (hc : X.calm = true) : CallR X (.builtin "sorted") (fun xs H Q => ∃ (p a : Addr) (kvs : List (Key × V)), xs = [.ref p] ∧ H p = some (keysO p a) ∧ Rd H a (.dK kvs) ∧ SortK kvs H Q) := by
  intro pins s σ H xs us Q I rv ⟨p, a, kvs, ex, hp, hd, q⟩
  subst ex
  rw [Vals.ref1 rv]
  obtain ⟨z, lo, vs, rel, dd⟩ := dk_rd I.hok hd
  obtain ⟨ep, hat⟩ := dd.dictAt
  have hv : PySem.W.KdlKeysView s.heap p a := (I.hok p _ hp).1
  rcases q with ⟨ns, hk, q⟩ | ⟨ns, hk, h64, q⟩
  · have hk' : vs.map (·.1) = ns.map Sum.inl := rel.keys.symm.trans hk
    exact sorted_srcI (PySem.W.kdl_keys (knd := mixKind X.prog X.w) (kvs := vs) (ep := ep)) (I.ok.hd hc) I ⟨hv, hat⟩ (by rw [← rel.length]; exact z) (fun acc c => keys_ints hk' c) q
  · have hk' : vs.map (·.1) = ns.map Sum.inr := rel.keys.symm.trans hk
    have ln : vs.length = ns.length := by
      have e := congrArg List.length hk'
      rwa [List.length_map, List.length_map] at e
    exact sorted_srcS (PySem.W.kdl_keys (knd := mixKind X.prog X.w) (kvs := vs) (ep := ep)) (I.ok.hd hc) I ⟨hv, hat⟩ (by rw [ln]; exact h64) ln.symm (fun acc c => keys_strs hk' c) q
end
end DM
set_option Elab.async false
set_option linter.all false
set_option maxRecDepth 100000
set_option maxHeartbeats 4000000
/-! S6: built-in functions, methods. -/
namespace DM
open PySem L2 PyProof.Rows PySem.Spec

/-! ### the text of a datum -/
def ChOk (s : Str) : Prop := ∀ c ∈ s.cps.toList, c < 1114112
theorem ChOk.app {a b : Str} (ha : ChOk a) (hb : ChOk b) : ChOk (a ++ b) := by
  intro c hc
  have e : (a ++ b).cps.toList = a.cps.toList ++ b.cps.toList := TL.tl_append a b
  rw [e] at hc
  exact (List.mem_append.mp hc).elim (ha c) (hb c)
theorem char_lt (c : Char) : c.toNat < 1114112 := by
  have h := c.valid
  unfold Char.toNat
  rcases h with h | h
  · have : c.val.toNat < 0xd800 := h
    omega
  · exact h.2
theorem ChOk.of (s : String) : ChOk (Str.ofString s) := by
  intro c hc
  rw [Str.ofString_eq_toList] at hc
  have hc' : c ∈ s.toList.map Char.toNat := by simpa using hc
  obtain ⟨d, _, rfl⟩ := List.mem_map.mp hc'
  exact char_lt d
theorem hex_lt {w c d : Nat} (h : d ∈ List.replicate (w - ((Nat.toDigits 16 c).map Char.toNat).length) 48 ++ (Nat.toDigits 16 c).map Char.toNat) : d < 1114112 := by
  rcases List.mem_append.mp h with h | h
  · rw [(List.mem_replicate.mp h).2]
    omega
  · obtain ⟨e, _, rfl⟩ := List.mem_map.mp h
    exact char_lt e
theorem reprChar_lt {q c : Nat} (hc : c < 1114112) : ∀ d ∈ Builtin.Str.reprChar q c, d < 1114112 := by
  intro d hd
  unfold Builtin.Str.reprChar at hd
  dsimp only at hd
  split at hd
  · simp at hd; omega
  split at hd
  · simp at hd; omega
  split at hd
  · simp at hd; omega
  split at hd
  · simp at hd; omega
  split at hd
  · simp at hd; omega
  split at hd
  · rcases List.mem_append.mp hd with hd | hd
    · simp at hd; omega
    · exact hex_lt hd
  split at hd
  · rcases List.mem_append.mp hd with hd | hd
    · simp at hd; omega
    · exact hex_lt hd
  · rcases List.mem_append.mp hd with hd | hd
    · simp at hd; omega
    · exact hex_lt hd
theorem foldl_repr_lt {q : Nat} : ∀ (l : List Nat) (acc : Array Nat), (∀ c ∈ l, c < 1114112) → (∀ c ∈ acc.toList, c < 1114112) → ∀ c ∈ (l.foldl (fun out c => out ++ (Builtin.Str.reprChar q c).toArray) acc).toList, c < 1114112
  | [], acc, _, ha => ha
  | x :: r, acc, hl, ha => by
    refine foldl_repr_lt r _ (fun c hc => hl c (List.mem_cons_of_mem _ hc)) ?_
    intro c hc
    rw [Array.toList_append] at hc
    rcases List.mem_append.mp hc with hc | hc
    · exact ha c hc
    · exact reprChar_lt (hl x List.mem_cons_self) c hc
theorem ChOk.repr {x : Str} (h : ChOk x) : ChOk (reprText x) := by
  have hq : reprQuote x < 1114112 := by unfold reprQuote; split <;> omega
  intro c hc
  unfold reprText at hc
  simp only [Array.toList_push] at hc
  rcases List.mem_append.mp hc with hc | hc
  · rw [← Array.foldl_toList] at hc
    refine foldl_repr_lt x.cps.toList _ h ?_ c hc
    intro d hd
    have : d = reprQuote x := by simpa using hd
    omega
  · have : c = reprQuote x := by simpa using hc
    omega
theorem ChOk.join {s : Str} (hs : ChOk s) : ∀ {l : List Str}, (∀ x ∈ l, ChOk x) → ChOk (Str.join s l)
  | [], _ => ChOk.of ""
  | [x], h => h x List.mem_cons_self
  | x :: y :: r, h => by
    show ChOk (x ++ s ++ Str.join s (y :: r))
    exact ((h x List.mem_cons_self).app hs).app (ChOk.join hs fun z hz => h z (List.mem_cons_of_mem _ hz))
theorem ChOk.textFrom : ∀ (l : List Str) (k : Nat) (acc : Str), (∀ x ∈ l, ChOk x) → ChOk acc → ChOk (textFrom k acc l)
  | [], k, acc, _, ha => ha
  | x :: r, k, acc, h, ha => by
    refine ChOk.textFrom r (k + 1) _ (fun z hz => h z (List.mem_cons_of_mem _ hz)) (ChOk.app (ChOk.app ha ?_) (h x List.mem_cons_self))
    exact ChOk.of _
theorem ChOk.list {l : List Str} (h : ∀ x ∈ l, ChOk x) : ChOk (listText l) := ChOk.app (ChOk.textFrom l 0 _ h (ChOk.of "[")) (ChOk.of "]")
theorem ChOk.tuple {l : List Str} (h : ∀ x ∈ l, ChOk x) : ChOk (tupleText l) := ChOk.app (ChOk.app (ChOk.of "(") (ChOk.join (ChOk.of ", ") h)) (ChOk.of _)
/-- the text of a datum without dicts -/
theorem len_sum_cons (t : Str) (ts : List Str) : ((t :: ts).map (·.length)).sum = t.length + (ts.map (·.length)).sum := by rw [List.map_cons, List.sum_cons]
mutual
theorem shown_le : ∀ (n : Nat) (d : PD), pdOk n d → shwOk d = true → (toPy d).shown.length ≤ msz d ∧ ChOk (toPy d).shown ∧ (toPy d).showable = true
  | n, .non, _, _ => ⟨by show 4 ≤ 4; omega, ChOk.of "None", by simp [toPy, PyData.showable]⟩
  | n, .bl b, _, _ => by
    refine ⟨?_, ?_, by simp [toPy, PyData.showable]⟩
    · cases b
      · show 5 ≤ 5; omega
      · show 4 ≤ 5; omega
    · cases b
      · exact ChOk.of "False"
      · exact ChOk.of "True"
  | n, .int i, _, hs => by
    have hs' : i.natAbs.log2 < 1920 := of_decide_eq_true (by simpa [shwOk] using hs)
    refine ⟨?_, ?_, ?_⟩
    · have e := int_text_length_le (k := i.natAbs.log2 + 1) (a := i) (by omega) (by omega)
      simp only [toPy, PyData.shown, msz]
      rw [PySem.ofString_length]
      omega
    · simp only [toPy, PyData.shown]
      exact ChOk.of _
    · simp only [toPy, PyData.showable]
      exact decide_eq_true hs'
  | n, .str s, h, hs => by
    have h' : TxOk s := by unfold pdOk at h; exact h
    have e0 : ((⟨s.toArray⟩ : Str).cps.toList) = s := by simp
    refine ⟨?_, ?_, by simp [toPy, PyData.showable]⟩
    · have e := StrLaws.reprText_len ⟨s.toArray⟩ (by rw [e0]; exact fun c hc => Nat.lt_trans (h'.2 c hc) (by decide))
      have e1 : (⟨s.toArray⟩ : Str).length = s.length := by show s.toArray.size = _; simp
      simp only [toPy, PyData.shown, msz]
      omega
    · simp only [toPy, PyData.shown]
      exact ChOk.repr (by unfold ChOk; rw [e0]; exact h'.2)
  | 0, .tup _, h, _ => by unfold pdOk at h; exact h.elim
  | 0, .lst _, h, _ => by unfold pdOk at h; exact h.elim
  | n + 1, .tup l, h, hs => by
    unfold pdOk at h
    obtain ⟨a, b, c⟩ := showns_le n l h (by simpa [shwOk] using hs)
    have e := tupleText_len_le (PyData.shownAll (toPys l))
    refine ⟨?_, ?_, ?_⟩
    · simp only [toPy, PyData.shown, msz]
      omega
    · simp only [toPy, PyData.shown]
      exact ChOk.tuple b
    · simp only [toPy, PyData.showable]
      exact c
  | n + 1, .lst l, h, hs => by
    unfold pdOk at h
    obtain ⟨a, b, c⟩ := showns_le n l h (by simpa [shwOk] using hs)
    have e := listText_len_le (PyData.shownAll (toPys l))
    refine ⟨?_, ?_, ?_⟩
    · simp only [toPy, PyData.shown, msz]
      omega
    · simp only [toPy, PyData.shown]
      exact ChOk.list b
    · simp only [toPy, PyData.showable]
      exact c
  | n, .dct l, h, _ => by unfold pdOk at h; exact h.elim
theorem showns_le : ∀ (n : Nat) (l : List PD), pdOks n l → shwOks l = true → ((PyData.shownAll (toPys l)).map (·.length)).sum + 2 * (PyData.shownAll (toPys l)).length ≤ mszs l ∧ (∀ x ∈ PyData.shownAll (toPys l), ChOk x) ∧ PyData.showableAll (toPys l) = true
  | n, [], _, _ => ⟨by simp [toPys, PyData.shownAll, mszs], fun x hx => (by simp [toPys, PyData.shownAll] at hx), by simp [toPys, PyData.showableAll]⟩
  | n, x :: xs, h, hs => by
    unfold pdOks at h
    have hs' : shwOk x = true ∧ shwOks xs = true := by simpa [shwOks] using hs
    obtain ⟨a, b, c⟩ := shown_le n x h.1 hs'.1
    obtain ⟨a2, b2, c2⟩ := showns_le n xs h.2 hs'.2
    simp only [toPys, PyData.shownAll, PyData.showableAll]
    refine ⟨?_, fun y hy => ?_, by rw [c, c2]; rfl⟩
    · rw [len_sum_cons, List.length_cons]
      simp only [mszs]
      omega
    · rcases List.mem_cons.mp hy with rfl | hy
      · exact b
      · exact b2 y hy
end
def shwOf (d : PD) : Tx := (toPy d).shown.cps.toList
theorem str_eta (s : Str) : (⟨s.cps.toList.toArray⟩ : Str) = s := by cases s; simp

section
variable {Y : Ctx} {f : Nat → Addr} {N : Nat} {h : MH} {H : Hp} {X : Cx}
def rC (Y : Ctx) (k : List MV → MH → R MV) : List V → Hp → VK → Prop := fun xs H Q => ∃ f h l, Rl Y.K Y.Z f h H ∧ VRs Y.K f h.size H l xs ∧ GP Y f h H (k l h) fun v f' h' H' => ∀ z, VR Y.K f' h'.size H' v z → Q z H'
/-- arguments, one by one -/
theorem VRs.inv1 {K : KW} {m : MV} {xs : List V} (r : VRs K f N H [m] xs) : ∃ x, xs = [x] ∧ VR K f N H m x := by
  obtain ⟨v, ws, rfl, a, b⟩ := r.cons_inv
  rw [b.nil_inv]
  exact ⟨v, rfl, a⟩
theorem VRs.inv2 {K : KW} {m n : MV} {xs : List V} (r : VRs K f N H [m, n] xs) : ∃ x y, xs = [x, y] ∧ VR K f N H m x ∧ VR K f N H n y := by
  obtain ⟨v, ws, rfl, a, b⟩ := r.cons_inv
  obtain ⟨x, rfl, c⟩ := b.inv1
  exact ⟨v, x, rfl, a, c⟩
/-- a builtin's name, as a value: a function or a type -/
def bVal : Bif → Value
  | .len => .builtin "len" | .abs => .builtin "abs" | .max => .builtin "max" | .min => .builtin "min" | .repr => .builtin "repr" | .list => .type "list" | .tuple => .type "tuple" | .set => .type "set" | .sorted => .builtin "sorted" | .int => .type "int" | .str => .type "str" | .all => .builtin "all" | .any => .builtin "any"
theorem allT_inv : ∀ {l : List MV} {b : Bool} {vs : List V}, allT l = some b → VRs Y.K f N H l vs → ∃ bs : List Bool, vs = bs.map V.bl ∧ bs.all id = b
  | [], b, vs, e, r => ⟨[], r.nil_inv, Option.some.inj e⟩
  | m :: ms, b, vs, e, r => by
    obtain ⟨v, ws, rfl, a, t⟩ := r.cons_inv
    cases m with
    | bl c =>
      simp only [allT] at e
      cases e1 : allT ms with
      | none => rw [e1] at e; cases e
      | some d =>
        rw [e1] at e
        obtain ⟨bs, rfl, e2⟩ := allT_inv e1 t
        refine ⟨c :: bs, by rw [a.bl_inv]; rfl, ?_⟩
        rw [List.all_cons, e2]
        exact Option.some.inj e
    | _ => cases e
theorem anyT_inv : ∀ {l : List MV} {b : Bool} {vs : List V}, anyT l = some b → VRs Y.K f N H l vs → ∃ bs : List Bool, vs = bs.map V.bl ∧ bs.any id = b
  | [], b, vs, e, r => ⟨[], r.nil_inv, Option.some.inj e⟩
  | m :: ms, b, vs, e, r => by
    obtain ⟨v, ws, rfl, a, t⟩ := r.cons_inv
    cases m with
    | bl c =>
      simp only [anyT] at e
      cases e1 : anyT ms with
      | none => rw [e1] at e; cases e
      | some d =>
        rw [e1] at e
        obtain ⟨bs, rfl, e2⟩ := anyT_inv e1 t
        refine ⟨c :: bs, by rw [a.bl_inv]; rfl, ?_⟩
        rw [List.any_cons, e2]
        exact Option.some.inj e
    | _ => cases e
theorem tR_inv {o : Option Tx} {T : MV → (Nat → Addr) → MH → Hp → Prop} (r : Rl Y.K Y.Z f h H) (g : GP Y f h H (tR o h) T) : ∃ s, o = some s ∧ T (.str s) f h H := by
  cases o with
  | none => exact g.elim
  | some b => exact ⟨b, rfl, GP.here r g⟩
/-- the signs of a text, each as a text -/
theorem VRs.signs {K : KW} : ∀ {s : Tx}, TxOk s → VRs K f N H (s.map fun c => MV.str [c]) (s.map fun c => V.str ⟨#[c]⟩)
  | [], _ => .nil
  | c :: r, t => by
    refine .cons (.str (s := [c]) ⟨?_, fun d hd => ?_⟩) (VRs.signs ⟨Nat.le_of_succ_le t.1, fun d hd => t.2 d (List.mem_cons_of_mem _ hd)⟩)
    · rw [sizeLine_eq]; show 1 ≤ _; omega
    · have : d = c := by simpa using hd
      rw [this]
      exact t.2 c List.mem_cons_self
theorem call_repr {P : Prog} (hP : P.shw = shwOf) (hK : X.K = Y.K) (hG : X.A.guards = some []) (hu : X.A.units + 65 < cLine) {pins : List (Addr × Obj)} {s : Shared} {σ : L2.St} {m : MV} {x : V} {u : Value} {Q : VK}
    (I : Inv X pins σ H s) (rx : RelV x u) (r : Rl Y.K Y.Z f h H) (rm : VR Y.K f h.size H m x) (g : GP Y f h H (tR (shM P m h) h) fun v f' h' H' => ∀ z, VR Y.K f' h'.size H' v z → Q z H') :
    wpAny (model X.prog X.w) X.A (call (.builtin "repr") [u]) (EP X pins σ Q) X.xe s := by
  obtain ⟨t, e, q⟩ := tR_inv r g
  unfold shM at e
  cases e1 : dat DEP h m with
  | none => rw [e1] at e; cases e
  | some d =>
    rw [e1] at e
    simp only at e
    split at e
    · rename_i hc
      cases e
      obtain ⟨dp, po⟩ := dat_dp r _ _ _ _ e1 rm
      obtain ⟨l1, l2, l3⟩ := shown_le _ _ po hc.1
      have hsz : (toPy d).shown.length ≤ sizeLine := Nat.le_trans l1 (LIM_eq ▸ hc.2)
      have hsh := shaped_of po (by decide)
      have q2 : Q (.str (toPy d).shown) H := by
        rw [hP] at q
        have := q _ (.str (K := Y.K) (f := f) (N := h.size) (H := H) (s := shwOf d) ⟨?_, l2⟩)
        · unfold shwOf at this
          rwa [str_eta] at this
        · show (toPy d).shown.cps.toList.length ≤ _
          rw [Array.length_toList]
          exact hsz
      obtain ⟨as, rd⟩ := Dp.reads I (toPy d) x u (hK ▸ dp) rx
      have done : ∀ (h' : Heap) (tk' : Tok) (tk : Nat), (∀ b o, s.heap.get? b = some o → h'.get? b = some o) → EP X pins σ Q (.str (toPy d).shown tk') { s with heap := h', toks := tk } := fun h' tk' tk k => ⟨.str _, H, I.kept k, ⟨_, rfl⟩, q2⟩
      have hd := SeqAt.depth_of_shaped hsh
      cases d with
      | non =>
        cases rm0 : x <;> (subst rm0; cases dp)
        cases rx
        exact PySem.P.repr_of_none (done s.heap _ _ fun _ _ z => z)
      | bl b =>
        cases rm0 : x <;> (subst rm0; cases dp)
        cases rx
        refine PySem.P.repr_of_bool ?_
        exact done s.heap s.toks (s.toks + 1) fun _ _ z => z
      | int i =>
        cases rm0 : x <;> (subst rm0; cases dp)
        obtain ⟨t, rfl⟩ := rx
        refine PySem.P.repr_of_int (of_decide_eq_true (by simpa [shwOk] using hc.1)) ?_
        exact done s.heap s.toks (s.toks + 1) fun _ _ z => z
      | str z =>
        cases rm0 : x <;> (subst rm0; cases dp)
        obtain ⟨t, rfl⟩ := rx
        have hz : (reprText ⟨z.toArray⟩).length ≤ sizeLine := by simpa [toPy, PyData.shown] using hsz
        refine PySem.P.repr_of_str ?_ hz
        exact done s.heap s.toks (s.toks + 1) fun _ _ z => z
      | tup l =>
        cases rm0 : x <;> (subst rm0; cases dp)
        cases rx
        exact repr_of_reads' rd l3 (PyData.noDict_hsm (PyData.hasDict_of_canLay _ (lay_of _ _ po).1)) hG (by omega) (fun _ _ z => z) (fun h' u' tk k => done h' u' tk k) hsz
      | lst l =>
        cases rm0 : x <;> (subst rm0; cases dp)
        cases rx
        exact repr_of_reads' rd l3 (PyData.noDict_hsm (PyData.hasDict_of_canLay _ (lay_of _ _ po).1)) hG (by omega) (fun _ _ z => z) (fun h' u' tk k => done h' u' tk k) hsz
      | dct l => cases po
    · cases e

/-- list(text) -/
theorem call_listS {K : KW} (hc : X.calm = true) : CallR X (.type "list") (fun xs H Q => ∃ z : Tx, xs = [.str ⟨z.toArray⟩] ∧ z.length ≤ sizeLine ∧ ∀ p, H p = none → Q (.ref p) (upd H p (.lst (z.map fun c => V.str ⟨#[c]⟩)))) := by
  intro pins s σ H xs us Q I r h
  obtain ⟨z, rfl, hz, q⟩ := h
  obtain ⟨u, rfl, t, rfl⟩ := vals1 r
  refine call_list_str (I.ok.hd hc) _ t (fun h' tk acc' c' hk hS hacc => ?_) (by show z.toArray.size ≤ _; simpa using hz)
  have hn := I.fresh
  refine ⟨.ref _, _, ?_, rfl, q _ hn⟩
  refine I.laid hk (Nat.le_refl _) ?_
  have hl : acc'.toList.length = z.length := by
    have := hacc.1
    simpa using this
  refine ⟨by rw [List.length_map]; exact hz, acc'.toList, c', ?_, ?_⟩
  · refine vals_of_at (by rw [List.length_map]; exact hl.symm) fun j x u e1 e2 => ?_
    obtain ⟨c, t2, e3, rfl⟩ := hacc.2 j u (by simpa using e2)
    have e3' : z[j]? = some c := by simpa using e3
    rw [List.getElem?_map, e3'] at e1
    cases e1
    exact ⟨t2, rfl⟩
  · simpa using hS
theorem txs_inv : ∀ {l : List MV} {ts : List Tx} {vs : List V}, txs l = some ts → VRs Y.K f N H l vs → vs = (ts.map fun t => (⟨t.toArray⟩ : Str)).map V.str ∧ ∀ t ∈ ts, TxOk t
  | [], ts, vs, e, r => by
    cases e
    exact ⟨r.nil_inv, fun t h => (by cases h)⟩
  | m :: ms, ts, vs, e, r => by
    obtain ⟨v, ws, rfl, a, t⟩ := r.cons_inv
    cases m with
    | str z =>
      simp only [txs] at e
      cases e1 : txs ms with
      | none => rw [e1] at e; cases e
      | some d =>
        rw [e1] at e
        cases (Option.some.inj e)
        obtain ⟨rfl, h2⟩ := txs_inv e1 t
        obtain ⟨rfl, h3⟩ := a.str_inv
        refine ⟨rfl, fun t ht => ?_⟩
        rcases List.mem_cons.mp ht with rfl | ht
        · exact h3
        · exact h2 t ht
    | _ => cases e
theorem ints_inv : ∀ {l : List MV} {ns : List Int} {vs : List V}, intL l = some ns → VRs Y.K f N H l vs → vs = ns.map V.int
  | [], ns, vs, e, r => by
    cases e
    exact r.nil_inv
  | m :: ms, ns, vs, e, r => by
    obtain ⟨v, ws, rfl, a, t⟩ := r.cons_inv
    cases m with
    | int i =>
      simp only [intL] at e
      cases e1 : intL ms with
      | none => rw [e1] at e; cases e
      | some d =>
        rw [e1] at e
        cases (Option.some.inj e)
        rw [a.int_inv, ints_inv e1 t]
        rfl
    | _ => cases e
theorem dk_ints : ∀ {l : List (MV × MV)} {ns : List Int} {kvs : List (Key × V)}, intL (l.map (·.1)) = some ns → DKr Y.K f N H l kvs → kvs.map (·.1) = ns.map Sum.inl
  | [], ns, kvs, e, r => by
    cases e
    rw [show kvs = [] from r]
    rfl
  | (k, m) :: l, ns, kvs, e, r => by
    obtain ⟨k', v, ys, rfl, a, _, t⟩ := r
    cases k with
    | int i =>
      simp only [List.map_cons, intL] at e
      cases e1 : intL (l.map (·.1)) with
      | none => rw [e1] at e; cases e
      | some d =>
        rw [e1] at e
        cases (Option.some.inj e)
        rw [List.map_cons, List.map_cons, dk_ints e1 t]
        rw [show k' = Sum.inl i from a]
    | _ => simp only [List.map_cons, intL] at e; cases e
theorem dk_strs : ∀ {l : List (MV × MV)} {ns : List Tx} {kvs : List (Key × V)}, txs (l.map (·.1)) = some ns → DKr Y.K f N H l kvs → kvs.map (·.1) = (ns.map toS).map Sum.inr ∧ ∀ t ∈ ns, TxOk t
  | [], ns, kvs, e, r => by
    cases e
    rw [show kvs = [] from r]
    exact ⟨rfl, fun t h => (by cases h)⟩
  | (k, m) :: l, ns, kvs, e, r => by
    obtain ⟨k', v, ys, rfl, a, _, t⟩ := r
    cases k with
    | str i =>
      simp only [List.map_cons, txs] at e
      cases e1 : txs (l.map (·.1)) with
      | none => rw [e1] at e; cases e
      | some d =>
        rw [e1] at e
        cases (Option.some.inj e)
        obtain ⟨h1, h2⟩ := dk_strs e1 t
        obtain ⟨a1, a2⟩ : k' = Sum.inr ⟨i.toArray⟩ ∧ TxOk i := a
        refine ⟨?_, fun t ht => ?_⟩
        · rw [List.map_cons, List.map_cons, List.map_cons, h1, a1]
          rfl
        · rcases List.mem_cons.mp ht with rfl | ht
          · exact a2
          · exact h2 t ht
    | _ => simp only [List.map_cons, txs] at e; cases e
theorem VRs.ints {K : KW} : ∀ {ns : List Int}, VRs K f N H (ns.map .int) (ns.map V.int)
  | [] => .nil
  | i :: r => .cons .int VRs.ints
theorem VRs.txs {K : KW} : ∀ {ts : List Tx}, (∀ t ∈ ts, TxOk t) → VRs K f N H (ts.map .str) ((ts.map toS).map V.str)
  | [], _ => .nil
  | i :: r, h => .cons (.str (h i List.mem_cons_self)) (VRs.txs fun t q => h t (List.mem_cons_of_mem _ q))
theorem cps_map (ts : List Tx) : (ts.map toS).map (fun s => s.cps.toList) = ts := by
  rw [List.map_map]
  have : ((fun s : Str => s.cps.toList) ∘ toS) = id := funext fun s => cps_toS s
  rw [this, List.map_id]
theorem sort_call (hK : X.K = Y.K) (hc : X.calm = true) {pins : List (Addr × Obj)} {s : Shared} {σ : L2.St} {m : MV} {x : V} {u : Value} {Q : VK}
    (I : Inv X pins σ H s) (rx : RelV x u) (r : Rl Y.K Y.Z f h H) (rm : VR Y.K f h.size H m x) (g : GP Y f h H (sortM m h) fun v f' h' H' => ∀ z, VR Y.K f' h'.size H' v z → Q z H') :
    wpAny (model X.prog X.w) X.A (call (.builtin "sorted") [u]) (EP X pins σ Q) X.xe s := by
  have one : ∀ {l : List MV} {vs : List V}, VRs Y.K f h.size H l vs → GP Y f h H (newList h l) (fun v f' h' H' => ∀ z, VR Y.K f' h'.size H' v z → Q z H') → ∀ p, H p = none → Q (.ref p) (upd H p (.lst vs)) := fun rv g p hp => by
    obtain ⟨_, f', q, e⟩ := GP.newList r g rv hp
    exact q _ (by rw [← e]; exact .ref (by rw [MH.size_push]; omega))
  unfold sortM at g
  split at g
  · rename_i n
    obtain ⟨hn, rfl⟩ := rm.ref_inv
    split at g
    · rename_i l en
      obtain ⟨vs, e1, t⟩ := r.ob _ _ en
      unfold sortL at g
      cases ei : intL l with
      | some ns =>
        rw [ei] at g
        have ev := ints_inv ei t
        subst ev
        refine cr_sortedI pins s σ H _ _ Q I (.cons rx .nil) ⟨_, ns, rfl, SqL.of e1, fun ks p h1 h2 hp => ?_⟩
        rw [srtI_eq h1 h2]
        exact one VRs.ints g p hp
      | none =>
        rw [ei] at g
        simp only at g
        cases et : DM.txs l with
        | none => rw [et] at g; exact g.elim
        | some ts =>
          rw [et] at g
          simp only at g
          split at g
          · rename_i h64
            obtain ⟨ev, ht⟩ := txs_inv et t
            subst ev
            refine cr_sortedS pins s σ H _ _ Q I (.cons rx .nil) ⟨_, ts.map toS, rfl, SqL.of e1, by rw [List.length_map]; exact h64, fun ks p h1 h2 hp => ?_⟩
            rw [srtS_eq h1 h2, cps_map]
            exact one (VRs.txs fun t q => ht t ((srtS_perm ts).mem_iff.mp q)) g p hp
          · exact g.elim
    · rename_i lk l en
      obtain ⟨kvs, e1, e2⟩ := r.ob _ _ en
      unfold sortL at g
      refine call_sortedK hc pins s σ H _ _ Q I (.cons rx .nil) ⟨_, kvs, rfl, DAt.rd e1, ?_⟩
      cases ei : intL (l.map (·.1)) with
      | some ns =>
        rw [ei] at g
        refine .inl ⟨ns, dk_ints ei e2, fun ks p h1 h2 hp => ?_⟩
        rw [srtI_eq h1 h2]
        exact one VRs.ints g p hp
      | none =>
        rw [ei] at g
        simp only at g
        cases et : DM.txs (l.map (·.1)) with
        | none => rw [et] at g; exact g.elim
        | some ts =>
          rw [et] at g
          simp only at g
          split at g
          · rename_i h64
            obtain ⟨ek, ht⟩ := dk_strs et e2
            refine .inr ⟨ts.map toS, ek, by rw [List.length_map]; exact h64, fun ks p h1 h2 hp => ?_⟩
            rw [srtS_eq h1 h2, cps_map]
            exact one (VRs.txs fun t q => ht t ((srtS_perm ts).mem_iff.mp q)) g p hp
          · exact g.elim
    · exact g.elim
  · exact g.elim
theorem digit_int {c : Nat} (h : 48 ≤ c ∧ c ≤ 57) : PySem.intText? ⟨#[c]⟩ = some ((c - 48 : Nat) : Int) := by
  have : c = 48 ∨ c = 49 ∨ c = 50 ∨ c = 51 ∨ c = 52 ∨ c = 53 ∨ c = 54 ∨ c = 55 ∨ c = 56 ∨ c = 57 := by omega
  rcases this with rfl | rfl | rfl | rfl | rfl | rfl | rfl | rfl | rfl | rfl <;> decide +kernel
theorem itx_str (i : Int) : (⟨(itx i).toArray⟩ : Str) = Str.ofString (toString i) := by
  rw [Str.ofString_eq_toList]
  rfl
theorem itx_ok {i : Int} (h : i.natAbs.log2 < 1920) : TxOk (itx i) := by
  obtain ⟨l1, l2, _⟩ := shown_le 0 (.int i) (by unfold pdOk; trivial) (by unfold shwOk; exact decide_eq_true h)
  have e : (toPy (.int i)).shown = ⟨(itx i).toArray⟩ := (itx_str i).symm
  rw [e] at l1 l2
  have l1 : (itx i).toArray.size ≤ msz (.int i) := l1
  refine ⟨?_, fun c hc => ?_⟩
  · have l3 : (itx i).toArray.size = (itx i).length := by simp
    rw [sizeLine_eq]
    have : msz (.int i) = i.natAbs.log2 + 3 := by unfold msz; rfl
    omega
  · exact l2 c (by simpa using hc)
theorem call_bif {P : Prog} {b : Bif} (hP : P.shw = shwOf) (hK : X.K = Y.K) (hc : X.calm = true ∨ hotB b = true) (han : CallR X (.builtin "any") (rAny X.K)) (hG : X.A.guards = some []) (hu : X.A.units + 65 < cLine) : CallR X (bVal b) (rC Y (bifM P b)) := by
  intro pins s σ H xs us Q I rv ⟨f, h, l, r, rl, g⟩
  unfold bifM at g
  split at g
  · -- len of a text
    rename_i z
    obtain ⟨x, rfl, a⟩ := rl.inv1
    obtain ⟨rfl, t⟩ := a.str_inv
    split at g
    · refine call_len_str pins s σ H _ us Q I rv ⟨_, rfl, ?_, ?_⟩
      · show z.toArray.size ≤ _
        simpa using t.1
      · have e : ((⟨z.toArray⟩ : Str).length : Int) = z.length := by show (z.toArray.size : Int) = _; simp
        rw [e]
        exact GP.here r g _ .int
    · exact g.elim
  · rename_i m hm
    obtain ⟨x, rfl, a⟩ := rl.inv1
    split at g
    · rename_i l e
      obtain ⟨p, vs, rfl, sq, t⟩ := seqOf_sq r a e
      refine call_len_seq pins s σ H _ us Q I rv ⟨p, vs, rfl, hK ▸ sq, ?_⟩
      rw [← t.length]
      exact GP.here r g _ .int
    · split at g
      · split at g
        · rename_i lk l e
          obtain ⟨hn, rfl⟩ := a.ref_inv
          obtain ⟨kvs, e1, e2⟩ := r.ob _ _ e
          obtain ⟨u, rfl, ru⟩ := vals1 rv
          obtain rfl : u = Value.ref (f _) := ru
          refine d_len I (DAt.rd e1) fun t s' I' => ⟨.int kvs.length, H, I', ⟨t, rfl⟩, ?_⟩
          rw [← e2.len]
          exact GP.here r g _ .int
        · exact g.elim
      · exact g.elim
  · obtain ⟨x, rfl, a⟩ := rl.inv1
    cases a.int_inv
    exact call_abs pins s σ H _ us Q I rv ⟨_, rfl, GP.here r g _ .int⟩
  · obtain ⟨x, y, rfl, a, b⟩ := rl.inv2
    cases a.int_inv; cases b.int_inv
    exact call_max2 (hc.resolve_right (by decide)) pins s σ H _ us Q I rv ⟨_, _, rfl, GP.here r g _ .int⟩
  · obtain ⟨x, y, rfl, a, b⟩ := rl.inv2
    cases a.int_inv; cases b.int_inv
    exact call_min2 (hc.resolve_right (by decide)) pins s σ H _ us Q I rv ⟨_, _, rfl, GP.here r g _ .int⟩
  · obtain ⟨x, rfl, a⟩ := rl.inv1
    cases a.int_inv
    exact call_int1 pins s σ H _ us Q I rv (.inl ⟨_, rfl, GP.here r g _ .int⟩)
  · obtain ⟨x, rfl, a⟩ := rl.inv1
    cases a.bl_inv
    exact call_int1 pins s σ H _ us Q I rv (.inr ⟨_, rfl, GP.here r g _ .int⟩)
  · rename_i c
    obtain ⟨x, rfl, a⟩ := rl.inv1
    obtain ⟨rfl, t⟩ := a.str_inv
    split at g
    · rename_i hc
      exact call_int_str pins s σ H _ us Q I rv ⟨_, _, rfl, digit_int hc, (by decide : 1 ≤ 640), GP.here r g _ .int⟩
    · exact g.elim
  · obtain ⟨x, rfl, a⟩ := rl.inv1
    cases a.int_inv
    split at g
    · rename_i hl
      refine call_str_int pins s σ H _ us Q I rv ⟨_, rfl, hl, ?_⟩
      rw [← itx_str]
      exact GP.here r g _ (.str (itx_ok hl))
    · exact g.elim
  · obtain ⟨x, rfl, a⟩ := rl.inv1
    obtain ⟨rfl, t⟩ := a.str_inv
    exact SkE.call_str_str pins s σ H _ us Q I rv ⟨_, rfl, GP.here r g _ (.str t)⟩
  · obtain ⟨x, rfl, a⟩ := rl.inv1
    obtain ⟨u, rfl, ru⟩ := vals1 rv
    exact call_repr hP hK hG hu I ru r a g
  · rename_i z
    obtain ⟨x, rfl, a⟩ := rl.inv1
    obtain ⟨rfl, t⟩ := a.str_inv
    refine call_listS (K := Y.K) (hc.resolve_right (by decide)) pins s σ H _ us Q I rv ⟨z, rfl, t.1, fun p hp => ?_⟩
    obtain ⟨_, f', q, e⟩ := GP.newList r g (VRs.signs t) hp
    exact q _ (by rw [← e]; exact .ref (by rw [MH.size_push]; omega))
  · obtain ⟨x, rfl, a⟩ := rl.inv1
    split at g
    · rename_i l e
      obtain ⟨p, vs, rfl, sq, t⟩ := seqOf_sq r a e
      refine call_list_of pins s σ H _ us Q I rv ⟨p, vs, rfl, hK ▸ sq, fun z hz => ?_⟩
      obtain ⟨_, f', q, e⟩ := GP.newList r g t hz
      exact q _ (by rw [← e]; exact .ref (by rw [MH.size_push]; omega))
    · exact g.elim
  · obtain ⟨x, rfl, a⟩ := rl.inv1
    split at g
    · rename_i m l e
      obtain ⟨p, vs, rfl, sq, t⟩ := seqOf_sq r a e
      refine call_tuple_of pins s σ H _ us Q I rv ⟨p, vs, rfl, ?_⟩
      rcases sq with sq | sq
      · refine .inl ⟨hK ▸ sq, fun z hz => ?_⟩
        have e1 : Ext f h.size H f h.size (upd H z (.tup vs)) := Ext.aside hz
        exact g.app e1 (r.aside (u := .tup vs) hz) _ (.tup (SqT.of upd_same) (r.vrs e1 t))
      · exact .inr ⟨hK ▸ sq, GP.here r g _ (.tup sq t)⟩
    · exact g.elim
  · obtain ⟨x, rfl, a⟩ := rl.inv1
    obtain ⟨u, rfl, ru⟩ := vals1 rv
    exact sort_call hK (hc.resolve_right (by decide)) I ru r a g
  · obtain ⟨x, rfl, a⟩ := rl.inv1
    split at g
    · rename_i l e
      obtain ⟨p, vs, rfl, sq, t⟩ := listOf_sq r a e
      obtain ⟨b, e2, q⟩ := bR_inv r g
      obtain ⟨bs, rfl, e3⟩ := allT_inv e2 t
      exact cr_all (hc.resolve_right (by decide)) pins s σ H _ us Q I rv ⟨p, bs, rfl, hK ▸ sq, by rw [e3]; exact q _ .bl⟩
    · exact g.elim
  · obtain ⟨x, rfl, a⟩ := rl.inv1
    split at g
    · rename_i l e
      obtain ⟨p, vs, rfl, sq, t⟩ := listOf_sq r a e
      obtain ⟨b, e2, q⟩ := bR_inv r g
      obtain ⟨bs, rfl, e3⟩ := anyT_inv e2 t
      exact han pins s σ H _ us Q I rv ⟨p, bs, rfl, hK ▸ sq, by rw [e3]; exact q _ .bl⟩
    · exact g.elim
  · exact g.elim

/-! ### isinstance -/
def ttV (Z : Env1) : Tt → Value
  | .nn => .type "NoneType" | .bl => .type "bool" | .int => .type "int" | .str => .type "str" | .tup => .type "tuple" | .lst => .type "list" | .own c => .ref (Z.ca c)
def tyV' (Z : Env1) : Ty → V
  | .int => .ty "int" | .bool => .ty "bool" | .str => .ty "str" | .list => .ty "list" | .tuple => .ty "tuple" | .dict => .ty "dict" | .own c => .ref (Z.ca c) | _ => .non
def tyU (Z : Env1) : Ty → Value
  | .int => .type "int" | .bool => .type "bool" | .str => .type "str" | .list => .type "list" | .tuple => .type "tuple" | .dict => .type "dict" | .own c => .ref (Z.ca c) | _ => .none
/-- what is known of own classes -/
structure IsF (P : Prog) (K : PySem.W.Frag) (Z : Env1) : Prop where
  ins : ∀ c, (P.cls c).isx = true → Cls K (Z.ca c) ∧ PySem.W.findIn K (.ref (Z.ca c)) "__class__" = some (some (.builtin "object.__class__")) ∧ PySem.W.specialIn K (.builtin "object.__class__") "__get__" = some (some (.builtin "getset_descriptor.__get__")) ∧
    PySem.W.takesIn K (.builtin "object.__class__") = some true ∧ PySem.W.mroIn K (Z.ca c) (.type "object") = some true
  one : ∀ a t, a.ok P = true → t.ok P = true → ((∃ c, a = .own c) ∨ ∃ c, t = .own c) → ∀ b, subT a t = some b → PySem.W.kitOne K (ttV Z a) (tyU Z t) = some b
theorem KLs.tyX {K : KW} {a : Addr} {xs : List V} (s : KLs K H a xs) : TyX K H (.ref a) (.type "list") := by
  rcases s with ⟨o, e⟩ | ⟨o, its, n, e, c, _⟩
  · exact .base (.frz e)
  · exact .kList e c
theorem SqT.tyX {K : KW} {a : Addr} {xs : List V} (s : SqT K H a xs) : TyX K H (.ref a) (.type "tuple") := by
  rcases s with (e | ⟨o, e⟩) | ⟨o, its, n, e, c, _⟩
  · exact .base (.tup e)
  · exact .fTuple e
  · exact .kTuple e c
theorem tyM_inv {P : Prog} {m : MV} {x : V} {a : Tt} (F : IsF P Y.K Y.Z) (r : Rl Y.K Y.Z f h H) (rm : VR Y.K f h.size H m x) (e : tyM h m = some a) (ok : a.ok P = true) : TyX Y.K H x (ttV Y.Z a) := by
  unfold tyM at e
  split at e
  · cases e; rw [rm.non_inv]; exact .base .non
  · cases e; rw [rm.bl_inv]; exact .base (.bl _)
  · cases e; rw [rm.int_inv]; exact .base (.int _)
  · cases e; rw [rm.str_inv.1]; exact .base (.str _)
  · cases e
    obtain ⟨p, vs, rfl, sq, t⟩ := rm.tup_inv
    exact SqT.tyX sq
  · cases e
    obtain ⟨p, vs, rfl, sq, t⟩ := rm.kl_inv
    exact KLs.tyX sq
  · obtain ⟨hn, rfl⟩ := rm.ref_inv
    split at e
    · rename_i l en
      cases e
      obtain ⟨vs, e1, t⟩ := r.ob _ _ en
      exact .base (.lst e1)
    · rename_i c fs en
      cases e
      obtain ⟨dx, gs, e1, _⟩ := r.ob _ _ en
      obtain ⟨f1, f2, f3, f4, f5⟩ := F.ins c ok
      exact .base (.ins e1 f1 f2 f3 f4 f5)
    · cases e
  · cases e
theorem kit_all {P : Prog} {K : PySem.W.Frag} {Z : Env1} {a : Tt} {t : Ty} {b : Bool} (F : IsF P K Z) (ha : a.ok P = true) (ht : t.ok P = true) (e : subT a t = some b) : PySem.W.kitOne K (ttV Z a) (tyU Z t) = some b := by
  cases a with
  | own c => exact F.one _ _ ha ht (.inl ⟨c, rfl⟩) _ e
  | _ =>
    cases t with
    | own c => exact F.one _ _ ha ht (.inr ⟨c, rfl⟩) _ e
    | lookup => cases e
    | value => cases e
    | _ => cases e; refine kit_ty ?_; decide +kernel
def rI1 (P : Prog) (Y : Ctx) (t : Ty) : List V → Hp → VK → Prop := fun xs H Q => ∃ f h m x, xs = [x, tyV' Y.Z t] ∧ Rl Y.K Y.Z f h H ∧ VR Y.K f h.size H m x ∧ GP Y f h H (bR (isiM P m t h) h) fun v f' h' H' => ∀ z, VR Y.K f' h'.size H' v z → Q z H'
theorem tyS_cls {Z : Env1} {t : Ty} (h1 : t ≠ .lookup) (h2 : t ≠ .value) : ClsV (tyV' Z t) (tyU Z t) := by
  cases t <;> first | exact .ty _ | exact .own _ | exact absurd rfl h1 | exact absurd rfl h2
theorem call_isiM {P : Prog} (hK : X.K = Y.K) (F : IsF P Y.K Y.Z) {t : Ty} : CallR X (.builtin "isinstance") (rI1 P Y t) := by
  intro pins s σ H xs us Q I rv ⟨f, h, m, x, ex, r, rm, g⟩
  obtain ⟨b, e, q⟩ := bR_inv r g
  unfold isiM at e
  cases e1 : tyM h m with
  | none => rw [e1] at e; cases e
  | some a =>
    rw [e1] at e
    simp only at e
    split at e
    · rename_i hok
      rw [Bool.and_eq_true] at hok
      have h1 : t ≠ .lookup := fun z => by subst z; cases a <;> cases e
      have h2 : t ≠ .value := fun z => by subst z; cases a <;> cases e
      exact call_isi pins s σ H xs us Q I rv ⟨x, _, _, _, b, ex, tyS_cls h1 h2, hK ▸ tyM_inv F r rm e1 hok.1, hK ▸ kit_all F hok.1 hok.2 e, q _ .bl⟩
    · cases e

/-! ### methods of built-in classes -/
def mId : Nat → String
  | 0 => "list.append"
  | 2 => "list.index"
  | 6 => "list.pop"
  | 7 => "list.reverse"
  | _ => "str.join"
def mTy : Nat → String
  | 0 => "list"
  | 2 => "list"
  | 6 => "list"
  | 7 => "list"
  | _ => "str"
def rM (Y : Ctx) (k : Nat) : V → List V → Hp → VK → Prop := fun x xs H Q => ∃ f h m l, Rl Y.K Y.Z f h H ∧ VR Y.K f h.size H m x ∧ VRs Y.K f h.size H l xs ∧ GP Y f h H (metM k m l h) fun v f' h' H' => ∀ z, VR Y.K f' h'.size H' v z → Q z H'
theorem joinT_join (s : Tx) : ∀ ts : List Tx, Str.join ⟨s.toArray⟩ (ts.map fun t => (⟨t.toArray⟩ : Str)) = ⟨(joinT s ts).toArray⟩
  | [] => rfl
  | [a] => rfl
  | a :: b :: r => by
    show (⟨a.toArray⟩ : Str) ++ ⟨s.toArray⟩ ++ Str.join ⟨s.toArray⟩ ((b :: r).map fun t => (⟨t.toArray⟩ : Str)) = _
    rw [joinT_join s (b :: r), str_app, str_app]
    rfl
theorem joinT_len (s : Tx) : ∀ ts : List Tx, (joinT s ts).length ≤ (ts.map (·.length)).sum + ts.length * s.length
  | [] => Nat.zero_le _
  | [a] => by show a.length ≤ a.length + 0 + 1 * s.length; omega
  | a :: b :: r => by
    have := joinT_len s (b :: r)
    show (a ++ s ++ joinT s (b :: r)).length ≤ _
    rw [List.length_append, List.length_append, List.map_cons, List.sum_cons, List.length_cons, Nat.add_mul]
    omega
theorem joinT_mem {s : Tx} {P : Nat → Prop} (hs : ∀ c ∈ s, P c) : ∀ {ts : List Tx}, (∀ t ∈ ts, ∀ c ∈ t, P c) → ∀ c ∈ joinT s ts, P c
  | [], _, c, hc => by cases hc
  | [a], h, c, hc => h a List.mem_cons_self c hc
  | a :: b :: r, h, c, hc => by
    rcases List.mem_append.mp (show c ∈ (a ++ s) ++ joinT s (b :: r) from hc) with hc | hc
    · rcases List.mem_append.mp hc with hc | hc
      · exact h a List.mem_cons_self c hc
      · exact hs c hc
    · exact joinT_mem hs (fun t ht => h t (List.mem_cons_of_mem _ ht)) c hc
theorem Txt_join (a : Str) (ys : List Str) : Txt.join a ys = Str.join a ys := StrLaws.glued_eq_join a ys
theorem ixN_seq {i : Int} {n k : Nat} (e : DM.ixN i n = some k) (hn : n ≤ 4611686018427387904) : -(2 ^ 63) ≤ i ∧ i < 2 ^ 63 ∧ seqIndex? i n = some k := by
  unfold DM.ixN at e
  unfold seqIndex?
  split at e
  · split at e
    · cases e
      refine ⟨by omega, by omega, ?_⟩
      simp only
      split
      · omega
      · simp_all
    · cases e
  · split at e
    · cases e
      refine ⟨by omega, by omega, ?_⟩
      simp_all
      omega
    · cases e
theorem VRs.erase {K : KW} : ∀ {l : List MV} {vs : List V} (k : Nat), VRs K f N H l vs → VRs K f N H (l.eraseIdx k) (vs.eraseIdx k)
  | [], vs, k, r => by
    rw [r.nil_inv]
    cases k <;> exact .nil
  | m :: ms, vs, 0, r => by
    obtain ⟨v, ws, rfl, a, t⟩ := r.cons_inv
    exact t
  | m :: ms, vs, k + 1, r => by
    obtain ⟨v, ws, rfl, a, t⟩ := r.cons_inv
    exact .cons a (VRs.erase k t)
theorem VRs.reverse {K : KW} : ∀ {l : List MV} {vs : List V}, VRs K f N H l vs → VRs K f N H l.reverse vs.reverse
  | [], vs, r => by
    rw [r.nil_inv]
    exact .nil
  | m :: ms, vs, r => by
    obtain ⟨v, ws, rfl, a, t⟩ := r.cons_inv
    rw [List.reverse_cons, List.reverse_cons]
    exact (VRs.reverse t).append (.cons a .nil)
theorem mt_met (hK : X.K = Y.K) (k : Nat) : MtR X (mId k) (rM Y k) := by
  intro pins s σ H x xs v us Q I rx rv ⟨f, h, m, l, r, rm, rl, g⟩
  unfold metM at g
  split at g
  · rename_i n v0
    obtain ⟨hn, rfl⟩ := rm.ref_inv
    obtain ⟨y, rfl, ry⟩ := rl.inv1
    split at g
    · rename_i l en
      obtain ⟨vs, e1, t⟩ := r.ob _ _ en
      split at g
      · rename_i hl
        refine mt_append pins s σ H _ _ v us Q I rx rv ⟨_, vs, y, rfl, rfl, e1, by rw [← t.length, ← LIM_eq]; exact hl, ?_⟩
        have ex : Ext f h.size H f h.size (upd H (f n) (.lst (vs ++ [y]))) := Ext.put hn (r.nofz en rfl)
        have hv := r.vrs ex (t.append (.cons ry .nil))
        obtain ⟨ex', rl'⟩ := r.put (o' := .lst (l ++ [v0])) (u := .lst (vs ++ [y])) en (fun _ q => by cases q) ⟨_, upd_same, hv⟩
        exact g.app ex' rl' _ .non
      · exact g.elim
    · exact g.elim
  · rename_i n i
    obtain ⟨hn, rfl⟩ := rm.ref_inv
    obtain ⟨y, rfl, ry⟩ := rl.inv1
    cases ry.int_inv
    split at g
    · rename_i l en
      obtain ⟨vs, e1, t⟩ := r.ob _ _ en
      split at g
      · rename_i k ek
        split at g
        · rename_i w ew
          obtain ⟨z, ez, rz⟩ := t.get ew
          have hz : vs.length ≤ sizeLine := (I.hok _ _ e1).1
          rw [t.length] at ek
          obtain ⟨b1, b2, b3⟩ := ixN_seq ek (by rw [sizeLine_eq] at hz; omega)
          refine mt_popAt pins s σ H _ _ v us Q I rx rv ⟨_, vs, i, k, z, rfl, rfl, e1, b1, b2, b3, ez, ?_⟩
          have ex : Ext f h.size H f h.size (upd H (f n) (.lst (vs.eraseIdx k))) := Ext.put hn (r.nofz en rfl)
          have hv := r.vrs ex (t.erase k)
          obtain ⟨ex', rl'⟩ := r.put (o' := .lst (l.eraseIdx k)) (u := .lst (vs.eraseIdx k)) en (fun _ q => by cases q) ⟨_, upd_same, hv⟩
          exact g.app ex' rl' _ (r.vr ex' rz)
        · exact g.elim
      · exact g.elim
    · exact g.elim
  · rename_i n
    obtain ⟨hn, rfl⟩ := rm.ref_inv
    have en0 := rl.nil_inv
    subst en0
    split at g
    · rename_i l en
      obtain ⟨vs, e1, t⟩ := r.ob _ _ en
      refine L2.mt_reverse pins s σ H _ _ v us Q I rx rv ⟨_, vs, rfl, rfl, e1, ?_⟩
      have ex : Ext f h.size H f h.size (upd H (f n) (.lst vs.reverse)) := Ext.put hn (r.nofz en rfl)
      have hv := r.vrs ex t.reverse
      obtain ⟨ex', rl'⟩ := r.put (o' := .lst l.reverse) (u := .lst vs.reverse) en (fun _ q => by cases q) ⟨_, upd_same, hv⟩
      exact g.app ex' rl' _ .non
    · exact g.elim
  · rename_i z w
    obtain ⟨rfl, tz⟩ := rm.str_inv
    obtain ⟨y, rfl, ry⟩ := rl.inv1
    split at g
    · rename_i l e
      obtain ⟨p, vs, rfl, sq, t⟩ := listOf_sq r ry e
      split at g
      · rename_i ts e1
        obtain ⟨rfl, ht⟩ := txs_inv e1 t
        split at g
        · rename_i hl
          refine L2.mt_join pins s σ H _ _ v us Q I rx rv ⟨_, p, ts.map fun t => (⟨t.toArray⟩ : Str), rfl, rfl, .inl (hK ▸ sq), ?_, ?_⟩
          · have e2 : ((ts.map fun t => (⟨t.toArray⟩ : Str)).map (·.length)).sum = (ts.map (·.length)).sum := by
              rw [List.map_map]
              exact congrArg List.sum (List.map_congr_left fun t _ => (show t.toArray.size = _ by simp))
            have e3 : (⟨z.toArray⟩ : Str).length = z.length := by show z.toArray.size = _; simp
            rw [e2, List.length_map, e3]
            exact hl
          · rw [Txt_join, joinT_join]
            refine GP.here r g _ (.str ⟨?_, ?_⟩)
            · rw [← LIM_eq]
              exact Nat.le_trans (joinT_len _ _) hl
            · exact joinT_mem tz.2 fun t h => (ht t h).2
        · exact g.elim
      · exact g.elim
    · exact g.elim
  · rename_i z
    obtain ⟨y, rfl, ry⟩ := rl.inv1
    obtain ⟨rfl, tz⟩ := ry.str_inv
    split at g
    · rename_i l e
      obtain ⟨p, vs, rfl, sq, t⟩ := listOf_sq r rm e
      split at g
      · rename_i ts e1
        obtain ⟨rfl, ht⟩ := txs_inv e1 t
        split at g
        · rename_i k ek
          obtain ⟨k1, k2, k3⟩ := List.findIdx?_eq_some_iff_getElem.mp ek
          refine L2.mt_index pins s σ H _ _ v us Q I rx rv ⟨p, _, _, k, .str ⟨ts[k].toArray⟩, rfl, rfl, hK ▸ sq, rfl, ?_, ?_, ?_, ?_, GP.here r g _ .int⟩
          · rw [List.all_map, List.all_eq_true]
            exact fun _ _ => rfl
          · rw [List.getElem?_map, List.getElem?_map, List.getElem?_eq_getElem k1]
            rfl
          · have : ts[k] = z := by simpa using k2
            rw [this]
            simp [eqV]
          · intro m z' hm ez
            rw [List.getElem?_map, List.getElem?_map, List.getElem?_eq_getElem (Nat.lt_trans hm k1)] at ez
            cases ez
            have := k3 m hm
            have ne : ts[m] ≠ z := by simpa using this
            simp only [eqV]
            refine decide_eq_false fun q => ne ?_
            have := congrArg (fun s : Str => s.cps.toList) q
            simpa using this
        · exact g.elim
      · exact g.elim
    · exact g.elim
  · exact g.elim
end
end DM
set_option Elab.async false
set_option linter.all false
set_option maxRecDepth 100000
set_option maxHeartbeats 4000000
/-! S6h: walks that end while an exception is handled. -/
namespace DM
open PySem L2 PyProof.Rows PySem.Spec HotX
section
variable {prog : Program} {w : World} {A : Around} {E : Value → Shared → Prop} {s : Shared} {x1 : Addr}
theorem hot_at {A : Around} {h h' : Heap} (t : HotAt A x1 h) (k : ∀ o, h.get? x1 = some o → h'.get? x1 = some o) : HotAt A x1 h' := by
  obtain ⟨a, o, vs, e, d, c⟩ := t
  exact ⟨a, o, vs, k o e, d, c⟩
/-- the iterator itself is no exception -/
theorem hot_ne {A : Around} {h : Heap} (t : HotAt A x1 h) {it : Addr} {o : Obj} {vs : Array Value} (e : h.get? it = some o) (d : o.data = .fields vs) (hs : vs.size ≤ 2) : x1 ≠ it := by
  rintro rfl
  obtain ⟨_, o2, vs2, e2, d2, c2⟩ := t
  have : o = o2 := Option.some.inj (e.symm.trans e2)
  subst this
  rw [d] at d2
  have : vs = vs2 := Data.fields.inj d2
  subst this
  have := (Array.getElem?_eq_some_iff.mp c2).1
  omega
/-- what stands behind a walk's last question -/
theorem endL_hot {it l : Addr} {i : Nat} {items} {Q : Option Value → Shared → Prop} (t : HotAt A x1 s.heap) (hit : s.heap.IsListIter it l i) (hl : s.heap.IsList l items) (hx : items[i]? = none)
    (q : ∀ g, Heap.ExtBut it s.heap g → Q none { s with heap := g }) : wpAny (model prog w) A (pyNext (.ref it)) Q E s := by
  obtain ⟨ob, h1, h2, h3⟩ := id hit
  obtain ⟨ol, l1, _, nl, l2⟩ := hl
  have ne := hot_ne t h1 h3 (by simp)
  have t2 : HotAt A x1 (s.heap.update it (Obj.mapFields (·.setIfInBounds 0 .none))) := hot_at t fun o e => by rw [Heap.get?_update_other _ _ (Ne.symm ne)]; exact e
  unfold pyNext
  refine wpAny_bind (wpAny_attempt (wpAny_callSpecial?_slot (name := Str.ofString "__next__") hit.typeIs slot_listiter_next (wpAny_call_entry slot_listiter_next hit.typeIs entry_listiter_next ?_ (args_listiter_next _))))
  show wpAny _ _ (field (.ref it) 0 >>= _) _ _ _
  refine wpAny_bind (wpAny_field h1 h3 (x := .ref l) rfl ?_)
  show wpAny _ _ (if (Value.ref l == Value.none) = true then _ else _) _ _ _
  rw [if_neg (by exact Bool.false_ne_true)]
  show wpAny _ _ (field (.ref it) 1 >>= _) _ _ _
  refine wpAny_bind (wpAny_field h1 h3 (x := .int i 0) rfl ?_)
  show wpAny _ _ (seqItems? (.ref l) >>= _) _ _ _
  refine wpAny_bind (wpAny_seqItems l1 l2 ?_)
  simp only [hx, Int.toNat_natCast]
  refine wpAny_bind (wpAny_rule (wpAny_bind (wpAny_setField h1 h3 (by simp) ?_)))
  show wpAny _ _ (newExc (.type "StopIteration") [] >>= _) _ _ _
  refine wpAny_bind ?_
  simp only [newTuple, newExc]
  refine wpAny_bind (wpAny_newObj_type ?_ (by size_fits))
  refine wpAny_bind (m := firstArgMember _ _) (wpAny_of_eq (a := Value.none) (by first | rfl | (simp only [firstArgMember]; rfl)) ?_)
  refine wpAny_newObj_type ?_ (by size_fits)
  have t3 := hot_at t2 (h' := ((s.heap.update it (Obj.mapFields (·.setIfInBounds 0 .none))).push { cls := .type "tuple", dict := none, data := .seq ([] : List Value).toArray })) fun o e => Heap.get?_push_of_some _ e
  refine raiseNew_hot (x1 := x1) (hot_at (A := A.in1) ⟨t3.1, t3.2⟩ fun o e => Heap.get?_push_of_some _ e) ?_ (Heap.get?_push_size _ rfl) rfl (by first | (simp; done) | (simp; omega) | (simp only [Array.size_append]; simp; omega)) ?_
  · obtain ⟨_, o3, _, e3, _⟩ := t3
    exact Nat.ne_of_lt (Heap.lt_size e3)
  refine wpAny_bind (wpAny_isInstance (T := "StopIteration") (b := true) ⟨_, Heap.get?_update_self _ (Heap.get?_push_size _ rfl) rfl, rfl⟩ isSubtype_stop ?_)
  refine wpAny_pure (q _ fun b o hb e => ?_)
  have e1 := Heap.get?_push_of_some { cls := .type "tuple", dict := none, data := .seq ([] : List Value).toArray } (((Heap.SameBut.update ..).extBut : Heap.ExtBut it s.heap (s.heap.update it (Obj.mapFields (·.setIfInBounds 0 .none)))) b o hb e)
  rw [Heap.get?_update_other _ _ (Nat.ne_of_gt (Heap.lt_size e1))]
  exact Heap.get?_push_of_some _ e1
theorem endT_hot {it t0 : Addr} {i : Nat} {items} {Q : Option Value → Shared → Prop} (t : HotAt A x1 s.heap) (hit : IsTupIter s.heap it t0 i) (hl : IsTup s.heap t0 items) (hx : items[i]? = none)
    (q : ∀ g, Heap.ExtBut it s.heap g → Q none { s with heap := g }) : wpAny (model prog w) A (pyNext (.ref it)) Q E s := by
  obtain ⟨ob, h1, h2, h3⟩ := id hit
  obtain ⟨ol, l1, _, nl, l2⟩ := hl
  have ne := hot_ne t h1 h3 (by simp)
  have t2 : HotAt A x1 (s.heap.update it (Obj.mapFields (·.setIfInBounds 0 .none))) := hot_at t fun o e => by rw [Heap.get?_update_other _ _ (Ne.symm ne)]; exact e
  unfold pyNext
  refine wpAny_bind (wpAny_attempt (wpAny_callSpecial?_slot (name := Str.ofString "__next__") hit.typeIs slot_tupleiter_next (wpAny_call_entry slot_tupleiter_next hit.typeIs entry_tupleiter_next ?_ (args_tupleiter_next _))))
  show wpAny _ _ (field (.ref it) 0 >>= _) _ _ _
  refine wpAny_bind (wpAny_field h1 h3 (x := .ref t0) rfl ?_)
  show wpAny _ _ (if (Value.ref t0 == Value.none) = true then _ else _) _ _ _
  rw [if_neg (by exact Bool.false_ne_true)]
  show wpAny _ _ (field (.ref it) 1 >>= _) _ _ _
  refine wpAny_bind (wpAny_field h1 h3 (x := .int i 0) rfl ?_)
  show wpAny _ _ (seqItems? (.ref t0) >>= _) _ _ _
  refine wpAny_bind (wpAny_seqItems l1 l2 ?_)
  simp only [hx, Int.toNat_natCast]
  refine wpAny_bind (wpAny_rule (wpAny_bind (wpAny_setField h1 h3 (by simp) ?_)))
  show wpAny _ _ (newExc (.type "StopIteration") [] >>= _) _ _ _
  refine wpAny_bind ?_
  simp only [newTuple, newExc]
  refine wpAny_bind (wpAny_newObj_type ?_ (by size_fits))
  refine wpAny_bind (m := firstArgMember _ _) (wpAny_of_eq (a := Value.none) (by first | rfl | (simp only [firstArgMember]; rfl)) ?_)
  refine wpAny_newObj_type ?_ (by size_fits)
  have t3 := hot_at t2 (h' := ((s.heap.update it (Obj.mapFields (·.setIfInBounds 0 .none))).push { cls := .type "tuple", dict := none, data := .seq ([] : List Value).toArray })) fun o e => Heap.get?_push_of_some _ e
  refine raiseNew_hot (x1 := x1) (hot_at (A := A.in1) ⟨t3.1, t3.2⟩ fun o e => Heap.get?_push_of_some _ e) ?_ (Heap.get?_push_size _ rfl) rfl (by first | (simp; done) | (simp; omega) | (simp only [Array.size_append]; simp; omega)) ?_
  · obtain ⟨_, o3, _, e3, _⟩ := t3
    exact Nat.ne_of_lt (Heap.lt_size e3)
  refine wpAny_bind (wpAny_isInstance (T := "StopIteration") (b := true) ⟨_, Heap.get?_update_self _ (Heap.get?_push_size _ rfl) rfl, rfl⟩ isSubtype_stop ?_)
  refine wpAny_pure (q _ fun b o hb e => ?_)
  have e1 := Heap.get?_push_of_some { cls := .type "tuple", dict := none, data := .seq ([] : List Value).toArray } (((Heap.SameBut.update ..).extBut : Heap.ExtBut it s.heap (s.heap.update it (Obj.mapFields (·.setIfInBounds 0 .none)))) b o hb e)
  rw [Heap.get?_update_other _ _ (Nat.ne_of_gt (Heap.lt_size e1))]
  exact Heap.get?_push_of_some _ e1
/-- a, b = a tuple -/
theorem unpackT_hot {env : Env} {elts : List Expr} {k} {pos : Pos} {t0 : Addr} {items : Array Value} {Q : Unit → Shared → Prop} (t : HotAt A x1 s.heap) (ht : IsTup s.heap t0 items)
    (hn : (assignEach elts env).length = items.size) (hst : (assignEach elts env).findIdx? (·.1) = none)
    (q : ∀ g, (∀ b o, s.heap.get? b = some o → g.get? b = some o) → wpAny (model prog w) A (assignInOrder ((assignEach elts env).map (·.2)) items.toList) Q E { s with heap := g }) :
    wpAny (model prog w) A (assign (.Tuple elts k pos) env (.ref t0)) Q E s := by
  have far : t0 ≠ s.heap.objs.size := by obtain ⟨o, ho, _⟩ := ht; exact Nat.ne_of_lt (Heap.lt_size ho)
  have far1 : x1 ≠ s.heap.objs.size := by obtain ⟨_, o, _, e, _⟩ := t; exact Nat.ne_of_lt (Heap.lt_size e)
  rw [assign_Tuple]
  refine wpAny_bind (wpAny_standAt ?_)
  unfold unpack
  rw [hn, hst]
  refine wpAny_bind (wpAny_holding ?_)
  unfold unpackItems notIterableAtAll
  refine wpAny_bind (wpAny_bind (wpAny_specialOf ht.typeIs slot_tuple_iter.lookup (wpAny_pure ?_)))
  simp only [if_false, Bool.false_eq_true]
  refine wpAny_bind (wpAny_holding (iter_tuple ht ?_))
  refine wpAny_bind (wpAny_holding (draw_tuple far items.size 0 _ _ ⟨_, Heap.get?_push_size _ rfl, rfl, rfl⟩ (ht.push _) (by omega) fun g1 i1 s1 => ?_))
  have all_ : List.take items.size (List.drop 0 items.toList) = items.toList := by
    rw [List.drop_zero]
    exact List.take_of_length_le (by simp)
  rw [all_, if_neg (by simp)]
  have k1 : ∀ b o, b ≠ s.heap.objs.size → s.heap.get? b = some o → g1.get? b = some o := fun b o hb e => s1.extBut b o hb (Heap.get?_push_of_some _ e)
  refine wpAny_bind (wpAny_holding (endT_hot (x1 := x1) (hot_at t fun o e => k1 _ o far1 e) i1 ((ht.push _).extBut s1.extBut far) (by simp) fun g2 e2 => ?_))
  simp only [Option.isSome_none, if_false, Bool.false_eq_true]
  exact wpAny_pure (q g2 fun b o e => e2 b o (Nat.ne_of_lt (Heap.lt_size e)) (k1 b o (Nat.ne_of_lt (Heap.lt_size e)) e))
theorem walksL_hot (t0 : Heap) (hA : HotAt A x1 t0) (I ax : Addr) (hne : ax ≠ I) (items : Array Value) :
    Walks prog w A I [I, ax, x1] [I] items.size (fun i v => items[i]? = some v) (fun i h => (h.IsListIter I ax i ∧ h.IsList ax items) ∧ HotAt A x1 h) where
  sub := fun b hb => by simp at hb; simp [hb]
  frame := fun _ _ _ ⟨st, t⟩ k => ⟨⟨st.1.at fun o e => k I (by simp) o e, st.2.at fun o e => k ax (by simp) o e⟩, hot_at t fun o e => k x1 (by simp) o e⟩
  item := fun i s Q E hi ⟨st, t⟩ q => by
    have ne : x1 ≠ I := by
      obtain ⟨ob, h1, h2, h3⟩ := id st.1
      exact hot_ne t h1 h3 (by simp)
    refine wpAny_pyNext_list_item st.1 st.2 (x := items[i]) (by simp [hi]) fun g hit' hs' => ?_
    exact q _ g s.toks (by simp [hi]) ⟨⟨hit', st.2.extBut hs'.extBut hne⟩, hot_at t fun o e => hs'.extBut _ o ne e⟩ fun b o hb e => hs'.extBut b o (fun z => hb (by simp [z])) e
  done := fun s Q E ⟨st, t⟩ q => endL_hot t st.1 st.2 (by simp) fun g he' => q g s.toks fun b o hb e => he' b o (fun z => hb (by simp [z])) e
  self := fun _ _ _ _ ⟨st, _⟩ q => wpAny_pyIter_listiter st.1 q
end
section
variable {X : Cx}
/-- p's object is pinned here, or stood ahead of a block -/
def Pinned (X : Cx) (p : Addr × Obj) : Prop := p ∈ X.pn ∨ (X.s_0.heap.get? p.1 = some p.2 ∧ X.H_0 p.1 = none ∧ p.1 ∉ X.fs ∧ p.1 ∉ X.ex)
/-- p's object is the exception that is handled -/
def HotP (p : Addr × Obj) (X : Cx) : Prop := L2H.Hot1 X.A p ∧ Pinned X p
variable {p : Addr × Obj} {pins : List (Addr × Obj)} {σ : L2.St} {H : Hp} {s : Shared}
theorem Pinned.here (c : Pinned X p) (I : Inv X pins σ H s) : s.heap.get? p.1 = some p.2 ∧ H p.1 = none := by
  rcases c with c | ⟨c1, c2, c3, c4⟩
  · have := I.pin p (List.mem_append_left _ c)
    exact ⟨this.1, this.2.1⟩
  · exact ⟨I.base.keep _ _ c1 c2 c3 c4, I.base.free _ _ c1 c2 c4⟩
theorem Pinned.out (c : Pinned X p) (I : Inv X pins σ H s) : p.1 ∉ frs X.stack := by
  intro hm
  rcases c with c | ⟨c1, c2, c3, c4⟩
  · have q := I.pin p (List.mem_append_left _ c)
    exact (List.mem_cons.mp (I.stkSub p.1 hm)).elim q.2.2.1 q.2.2.2.1
  · rcases List.mem_cons.mp (I.stkSub p.1 hm) with z | z
    · have h1 := Heap.lt_size c1
      have h2 := I.ok.above
      rw [z] at h1
      exact absurd (Nat.lt_of_lt_of_le h1 h2) (Nat.lt_irrefl _)
    · exact c3 z
theorem HotP.at_ (c : HotP p X) (I : Inv X pins σ H s) : HotAt X.A p.1 s.heap := by
  obtain ⟨⟨c1, vs, d1, d2⟩, c2⟩ := c
  exact ⟨c1, p.2, vs, (c2.here I).1, d1, d2⟩
theorem cr_any_hot (c : HotP p X) : CallR X (.builtin "any") (rAny X.K) := by
  intro pins s σ H vs us Q I r h
  obtain ⟨a, bs, rfl, hs, q⟩ := h
  obtain ⟨its, rv, hl, _⟩ := I.list hs
  rw [Vals.ref1 r]
  have hb := rv.bls
  refine call_any_walk (iter_any hl.isList fun s2 e2 st hne => ?_)
  subst e2
  have t : HotAt X.A.in1 p.1 s.heap := c.at_ I
  refine ⟨_, _, _, _, _, _, _, rfl, walksL_hot (A := X.A.in1) s.heap t _ a hne its.toArray, ⟨st, hot_at t fun o e => Heap.get?_push_of_some _ e⟩, truth_bools hb, fun g tk hk => ?_⟩
  refine ⟨.bl _, H, I.kept fun b o eo => hk b o (fun hm => ?_) (Heap.get?_push_of_some _ eo), ?_, q⟩
  · have := List.mem_singleton.mp hm
    exact absurd (this ▸ Heap.lt_size eo) (Nat.lt_irrefl _)
  · show Value.bool _ = Value.bool _
    rw [← L2.any_range, hb, List.size_toArray, List.length_map]
end
end DM
set_option Elab.async false
set_option linter.all false
set_option maxRecDepth 100000
set_option maxHeartbeats 4000000
/-! S7: the forms of expressions, one by one. -/
namespace DM
open PySem L2 PyProof.Rows PySem.Spec

def btNames : List Str := ["len", "abs", "max", "min", "repr", "list", "tuple", "set", "sorted", "int", "str", "all", "any", "isinstance", "range", "bool", "dict", "zip", "enumerate", "LookupError", "ValueError"]
def spM (Y : Ctx) (T : Tab) (C : Nat → List MV → MH → R MV) (i : Nat) : Sp := fun vs H Q E => vs.length = (T.fps i).length ∧ ∃ f h ms, Rl Y.K Y.Z f h H ∧ VRs Y.K f h.size H ms vs ∧
  G Y (fun c d _ H => E c d H) [] f h H (C i ms h) fun v f' h' H' => ∀ z, VR Y.K f' h'.size H' v z → Q z H'
/-- how a form's values stand for what is bound -/
def PickR (K : KW) (sh : List Src) (us ws bs : List Value) : Prop := ∀ ms zs vs ys l f N H, pick ms zs sh = some l → Vals vs us → VRs K f N H ms vs → Vals ys ws → VRs K f N H zs ys → ∃ xs, Vals xs bs ∧ VRs K f N H l xs
/-- a form of a call with an object ahead -/
def FormS (T : Tab) (K : KW) (i : Nat) (fd : FuncData) (n : Nat) (kn : List Nat) (sh : List Src) : Prop := ∀ us ws : List Value, us.length = n → ws.length = kn.length →
  ∃ bs, bs.length + 1 = (T.fps i).length ∧ (∀ (s : Shared) (u : Value), K.In s.heap → BindsTo s fd ⟨u :: us, (kn.map T.fnm).zip ws⟩ ((T.fps i).zip (u :: bs))) ∧ PickR K sh us ws bs
/-- the classes of exceptions -/
def veB : List Value := [.type "ValueError", .type "Exception", .type "BaseException", .type "object"]
structure XF (T : Tab) (Y : Ctx) (mg : Str → Option Value) : Prop where
  nm : ∀ d, T.xok d = true → (T.xname d == ("__debug__" : Str)) = false ∧ (mg (T.xname d) = some (Y.xc d) ∨ (mg (T.xname d) = none ∧ bootBuiltins (T.xname d) = some (Y.xc d) ∧ T.xname d ≠ "__name__")) ∧ ∃ vv : V, RelV vv (Y.xc d) ∧ ∀ u, RelV vv u → u = Y.xc d
  isc : ∀ c A, Y.xc c = .ref A → ExcC Y.K A
  sub : ∀ c A d, Y.xc c = .ref A → T.xok d = true → PySem.W.exmOne Y.K (.ref A) (Y.xc d) = some (T.P.xsub c d) ∧ PySem.W.kitOne Y.K (.ref A) (Y.xc d) = some (T.P.xsub c d)
  mk_ : ∀ c, T.xmk c = true → T.P.xat c = 0 ∧ (T.xname c == ("__debug__" : Str)) = false ∧ ∃ A, Y.xc c = .ref A ∧ mg (T.xname c) = some (.ref A) ∧ PySem.W.excIn Y.K A veB "ValueError.__new__" = true ∧ PySem.W.keepIn Y.K (.ref A) = true ∧
    PySem.W.subIn Y.K (.ref A) (.type "BaseException") = some true ∧ PySem.W.typeIn Y.K (.ref A) = some (.type "type")
/-- a def called of the exception that is handled -/
def spH (Y : Ctx) (C : Nat → List MV → MH → R MV) (i : Nat) (p : Addr × Obj) : Sp := fun vs H Q E => vs = [.ref p.1] ∧ (∃ vs : Array Value, p.2.data = .fields vs) ∧ ∃ f h c l, Rl Y.K Y.Z f h H ∧ XR Y.K Y.xc Y.xf f h.size H c l p.2.cls p.2.dict ∧
  G Y (fun c d _ H => E c d H) [] f h H (C i [.exc c l] h).noEx fun v f' h' H' => ∀ z, VR Y.K f' h'.size H' v z → Q z H'
/-- what the module holds -/
structure Fcts (T : Tab) (Y : Ctx) (C : Nat → List MV → MH → R MV) (CX : CXT) (lv : Nat) (P0 : Program) (w : World) (mg : Str → Option Value) (base : Heap) : Prop where
  shw : T.P.shw = shwOf
  Z : Y.Z.fnm = T.fnm
  kn : ∀ f g, Y.Z.kn f = true → Y.Z.kn g = true → T.fnm f = T.fnm g → f = g
  gl : ∀ g, T.gok g = true → ∃ u v, mg (T.gn g) = some u ∧ RelV v u ∧ ∀ f N H, VR Y.K f N H (T.P.glob g) v
  fd : ∀ i, T.fok i = true → ∃ a fd, mg (T.fname i) = some (.ref a) ∧ PySem.W.keepIn Y.K (.ref a) = true ∧ FnG P0 w Y.K mg base CX lv a fd (T.fps i) (spM Y T C i) ∧
    ∀ n kn sh, T.sh i n kn sh = true → ∀ (s : Shared) (us ws : List Value), Y.K.In s.heap → us.length = n → ws.length = kn.length →
      ∃ bs, bs.length = (T.fps i).length ∧ BindsTo s fd ⟨us, (kn.map T.fnm).zip ws⟩ ((T.fps i).zip bs) ∧
        ∀ ms zs vs ys l f N H, pick ms zs sh = some l → Vals vs us → VRs Y.K f N H ms vs → Vals ys ws → VRs Y.K f N H zs ys → ∃ xs, Vals xs bs ∧ VRs Y.K f N H l xs
  at_ : ∀ c f, (T.P.cls c).att f = true → Cls Y.K (Y.Z.ca c) ∧ NoAttr Y.K (Y.Z.ca c) (T.fnm f) ∧ Y.Z.kn f = true
  me : ∀ c m i, fldN m (T.P.cls c).met = some i → Cls Y.K (Y.Z.ca c) ∧ (∀ f, Y.Z.kn f = true → T.fnm f ≠ T.mnm m) ∧ ∃ a fd, Meth Y.K (Y.Z.ca c) (T.mnm m) a ∧ FnG P0 w Y.K mg base CX lv a fd (T.fps i) (spM Y T C i) ∧
    ∀ n kn sh, T.shm m n kn sh = true → FormS T Y.K i fd n kn sh
  mkc : ∀ c, T.cok c = true → mg (T.cname c) = some (.ref (Y.Z.ca c)) ∧ ∃ a fd, Mk Y.K (Y.Z.ca c) a ∧ FnG P0 w Y.K mg base CX lv a fd (T.fps (T.P.cls c).ini) (spM Y T C (T.P.cls c).ini) ∧
    ∀ n kn sh, T.shc c n kn sh = true → FormS T Y.K (T.P.cls c).ini fd n kn sh
  isf : IsF T.P Y.K Y.Z
  bt : ∀ x ∈ btNames, mg x = none
  xf : XF T Y mg
  hf : ∀ i, T.hok i = true → ∃ a fd z, mg (T.fname i) = some (.ref a) ∧ PySem.W.keepIn Y.K (.ref a) = true ∧ FnGH P0 w Y.K mg base CX lv a fd [z] (spH Y C i) ∧ ∀ (s : Shared) (u : Value), Y.K.In s.heap → BindsTo s fd ⟨[u], []⟩ [(z, u)]
  cx : ∀ outer H s e s', CX outer H s (fun _ _ _ => False) e s' → False
structure Good (T : Tab) (Y : Ctx) (W : Wish) (C : Nat → List MV → MH → R MV) (CX : CXT) (lv : Nat) (inB : Bool) (N : List Str) (sc : Scope) (X : Cx) : Prop where
  eN : X.N = N
  nd : N.Nodup
  eS : X.env.scope = sc
  K : X.K = Y.K
  Wo : X.w = Y.K.w
  calm : T.hot = false → X.calm = true
  gd : X.A.guards = some []
  room : T.hot = false → Room (lv + 1) X.A
  rmH : L2H.RoomH (lv + 1) X.A
  es : Y.es = T.es
  hot : T.hot = true → HotP (Y.ea, Y.eo) X ∧ ∃ vs : Array Value, Y.eo.data = .fields vs
  hes : T.hot = false → T.es = none
  cxe : CX = L2N.CX X.prog X.w
  fn : ∀ x, locB inB sc x = true → X.fn x = true ∨ sc.names.lookup x = some .local
  pass : ∀ σ, PassesAt CX X σ fun c d H => W c d σ H
  tk : L2N.Takes X W
  fc : Fcts T Y C CX lv X.prog X.w X.mg X.base

section
variable {T : Tab} {Y : Ctx} {W : Wish} {C : Nat → List MV → MH → R MV} {CX : CXT} {lv : Nat} {inB : Bool} {N : List Str} {sc : Scope} {X : Cx}
variable {σ : L2.St} {H : Hp} {f : Nat → Addr} {h : MH} {ms : En}

theorem Good.un (g : Good T Y W C CX lv inB N sc X) : X.A.units + 65 < cLine := by have := g.rmH.un; omega
theorem Good.gl (g : Good T Y W C CX lv inB N sc X) {x : Str} (e : glB sc x = true) : Gl X x := by
  unfold glB at e
  show X.env.scope.names.lookup x = _
  rw [g.eS]
  split at e
  · assumption
  · cases e
theorem Good.vis (g : Good T Y W C CX lv inB N sc X) {x : Str} (e : visB sc x = true) : Vis X.env.scope x := by
  unfold visB at e
  rw [g.eS]
  split at e
  · exact .inl (by assumption)
  · exact .inr (.inl (by assumption))
  · exact .inr (.inr (by assumption))
  · cases e
theorem Good.loc (g : Good T Y W C CX lv inB N sc X) {x : Str} (e : locB inB sc x = true) : Loc X.env.scope x ∧ (X.fn x = true ∨ X.env.scope.names.lookup x = some .local) := by
  have h1 := g.fn x e
  rw [g.eS]
  refine ⟨?_, h1⟩
  unfold locB at e
  split at e
  · exact .inl (by assumption)
  · exact .inr (by assumption)
  · cases e
theorem Good.In (g : Good T Y W C CX lv inB N sc X) {hp : Heap} (k : X.K.In hp) : Y.K.In hp := by
  show Y.K.K.In hp
  rw [← g.K]
  exact k
theorem Good.bt (g : Good T Y W C CX lv inB N sc X) {x : Str} (e : x ∈ btNames) : X.mg x = none := g.fc.bt x e
theorem G.wish {W' : Wish} {σ' : L2.St} {α : Type} {r : R α} {Tt : α → (Nat → Addr) → MH → Hp → Prop} (g : G Y W σ f h H r Tt) (k : ∀ c d H', W c d σ H' → W' c d σ' H') : G Y W' σ' f h H r Tt := by
  cases r with
  | ok a h1 => exact g
  | ex c l h1 => exact fun f1 H1 cls d e1 r1 x => k _ _ _ (g f1 H1 cls d e1 r1 x)
  | stk => exact g
theorem G.elim {α : Type} {Tt : α → (Nat → Addr) → MH → Hp → Prop} {P : Prop} (g : G Y W σ f h H (.stk : R α) Tt) : P := False.elim g

/-- from a state further on -/
theorem G.shift {f' : Nat → Addr} {h' : MH} {H' : Hp} {α : Type} {r : R α} {Tt : α → (Nat → Addr) → MH → Hp → Prop} (e : Ext f h.size H f' h'.size H') (g : G Y W σ f h H r Tt) : G Y W σ f' h' H' r Tt := by
  cases r with
  | ok a h1 => exact fun f1 H1 e1 r1 => g f1 H1 (e.trans e1) r1
  | ex c l h1 => exact fun f1 H1 cls d e1 r1 x => g f1 H1 cls d (e.trans e1) r1 x
  | stk => exact g
/-! ### names, constants -/
theorem c_var (g : Good T Y W C CX lv inB N sc X) {i : Nat} {x : Str} {p : Pos} (e1 : nmB N i x = true) (e2 : visB sc x = true) (e3 : T.es ≠ some i) : PE X (.Name x p) (rdE Y W (ev T.P C (.var i))) := by
  unfold nmB at e1
  simp only [Bool.and_eq_true, decide_eq_true_eq, Bool.not_eq_true'] at e1
  refine (pe_var (i := i) (by rw [g.eN]; exact e1.1.1) (g.vis e2) e1.1.2 e1.2).conv ?_
  rintro σ H Q ⟨f, ms, h, r, sr, q⟩
  unfold ev at q
  cases e : ms[i]? with
  | none => rw [e] at q; exact q.elim
  | some o =>
    cases o with
    | none => rw [e] at q; exact q.elim
    | some v =>
      rw [e] at q
      obtain ⟨y, a, b⟩ := sr.get e (g.es ▸ e3)
      exact ⟨y, a, G.ok r q y b⟩
theorem c_const {e : Expr} {v : V} {m : MV} {k : En → MH → R MV} (p : PE X e (tC v)) (hk : ∀ ms h, k ms h = .ok m h) (hv : ∀ f N H, VR Y.K f N H m v) : PE X e (rdE Y W k) := by
  refine p.conv ?_
  rintro σ H Q ⟨f, ms, h, r, sr, q⟩
  rw [hk] at q
  exact G.ok r q v (hv _ _ _)
theorem c_gl (g : Good T Y W C CX lv inB N sc X) {i : Nat} {x : Str} {p : Pos} (e1 : x = T.gn i) (e2 : T.gok i = true) (e3 : glB sc x = true) (e4 : (x == ("__debug__" : Str)) = false) : PE X (.Name x p) (rdE Y W (ev T.P C (.gl i))) := by
  obtain ⟨u, v, h1, h2, h3⟩ := g.fc.gl i e2
  exact c_const (pe_glob (g.gl e3) (e1 ▸ h1) h2 e4) (fun _ _ => by simp only [ev]) h3
theorem txB_ok {s : Tx} (e : txB s = true) : TxOk s := by
  unfold txB at e
  simp only [Bool.and_eq_true, decide_eq_true_eq, List.all_eq_true] at e
  exact ⟨LIM_eq ▸ e.1, e.2⟩

/-! ### operations -/
variable {a b c e : Expr} {ma mb mc : En → MH → R MV} {p : Pos}
theorem rd_seq {k : MV → MH → R MV} {σ : L2.St} {H : Hp} {Q : VK} (q : rdE Y W (fun σ h => (ma σ h).bind k) σ H Q) :
    rdE Y W ma σ H fun x H1 => ∃ f1 h1 a, Rl Y.K Y.Z f1 h1 H1 ∧ VR Y.K f1 h1.size H1 a x ∧ G Y W σ f1 h1 H1 (k a h1) fun v f' h' H' => ∀ z, VR Y.K f' h'.size H' v z → Q z H' := by
  obtain ⟨f, ms, h, r, sr, q⟩ := q
  exact ⟨f, ms, h, r, sr, q.bind.mono fun a h1 f1 H1 _ e1 r1 g1 x rx => ⟨f1, h1, a, r1, rx, g1⟩⟩
theorem rd_seq2 {k : MV → MV → MH → R MV} {σ : L2.St} {H : Hp} {Q : VK} (q : rdE Y W (fun σ h => (ma σ h).bind fun x h1 => (mb σ h1).bind fun y h2 => k x y h2) σ H Q) :
    rdE Y W ma σ H fun x H1 => rdE Y W mb σ H1 fun y H2 => ∃ f2 h2 a b, Rl Y.K Y.Z f2 h2 H2 ∧ VR Y.K f2 h2.size H2 a x ∧ VR Y.K f2 h2.size H2 b y ∧ G Y W σ f2 h2 H2 (k a b h2) fun v f' h' H' => ∀ z, VR Y.K f' h'.size H' v z → Q z H' := by
  obtain ⟨f, ms, h, r, sr, q⟩ := q
  refine ⟨f, ms, h, r, sr, q.bind.mono fun a h1 f1 H1 _ e1 r1 g1 x rx => ⟨f1, ms, h1, r1, r.sr e1 sr, g1.bind.mono fun b h2 f2 H2 _ e2 r2 g2 y ry => ⟨f2, h2, a, b, r2, r1.vr e2 rx, ry, g2⟩⟩⟩
theorem rdE.mono {σ : L2.St} {H : Hp} {Q Q' : VK} (q : rdE Y W ma σ H Q) (k : ∀ x H', Q x H' → Q' x H') : rdE Y W ma σ H Q' := by
  obtain ⟨f, ms, h, r, sr, q⟩ := q
  exact ⟨f, ms, h, r, sr, q.mono fun a h1 f1 H1 _ e1 r1 g1 x rx => k x H1 (g1 x rx)⟩
theorem c_bin (g : Good T Y W C CX lv inB N sc X) (op : BOp) (ha : PE X a (rdE Y W ma)) (hb : PE X b (rdE Y W mb)) : PE X (.BinOp a (bo op) b p) (rdE Y W fun σ h => (ma σ h).bind fun x h1 => (mb σ h1).bind fun y h2 => binM op x y h2) := by
  refine (pe_op (op_bin g.K op) ha hb).conv fun σ H Q q => ?_
  exact (rd_seq2 q).mono fun x H1 q1 => q1.mono fun y H2 ⟨f2, h2, a, b, r, ra, rb, g2⟩ => ⟨f2, h2, a, b, r, ra, rb, W, σ, g2⟩
theorem v_cmp (op : COp) {σ : L2.St} {H : Hp} {Q : VK} (q : rdE Y W (fun σ h => (ma σ h).bind fun x h1 => (mb σ h1).bind fun y h2 => cmpM op x y h2) σ H Q) : tOp (rB Y (cmpM op)) (rdE Y W ma) (rdE Y W mb) σ H Q :=
  (rd_seq2 q).mono fun x H1 q1 => q1.mono fun y H2 ⟨f2, h2, a, b, r, ra, rb, g2⟩ => ⟨f2, h2, a, b, r, ra, rb, W, σ, g2⟩
theorem c_cmp (g : Good T Y W C CX lv inB N sc X) (op : COp) (ha : PE X a (rdE Y W ma)) (hb : PE X b (rdE Y W mb)) (hm : behindInMarks (co op) b = false) : PE X (.Compare a [co op] [b] p) (rdE Y W fun σ h => (ma σ h).bind fun x h1 => (mb σ h1).bind fun y h2 => cmpM op x y h2) :=
  (pe_cmpR (op_cmp g.K g.Wo g.un op) ha hb hm).conv fun σ H Q q => v_cmp op q
/-- a comparison as a test -/
theorem t_of {m : En → MH → R MV} {t : TE} (hp : PT X e fun σ H Q => t σ H fun x H' => ∃ k, x = .bl k ∧ Q k H') (k : ∀ σ H Q, rdE Y W m σ H Q → t σ H Q) (hb : ∀ ms h v h', m ms h = .ok v h' → ∃ b, v = .bl b) : PT X e (rdT Y W fun σ h => (m σ h).bind fun x h1 => truM x h1) := by
  refine hp.conv fun σ H Q q => k σ H _ ?_
  obtain ⟨f, ms, h, r, sr, q⟩ := q
  refine ⟨f, ms, h, r, sr, q.bind.mono fun v h1 f1 H1 eq e1 r1 g1 x rx => ?_⟩
  obtain ⟨b, rfl⟩ := hb _ _ _ _ eq
  exact ⟨b, rx.bl_inv, G.ok r1 g1⟩
theorem bind_ok {α β : Type} {r : R α} {k : α → MH → R β} {v : β} {h' : MH} (e : r.bind k = .ok v h') : ∃ a h1, r = .ok a h1 ∧ k a h1 = .ok v h' := by
  cases r with
  | ok a h1 => exact ⟨a, h1, rfl, e⟩
  | ex c l h1 => cases e
  | stk => cases e
theorem bR_bl {o : Option Bool} {h : MH} {v : MV} {h' : MH} (e : bR o h = .ok v h') : ∃ b, v = .bl b := by
  cases o with
  | none => cases e
  | some b => cases e; exact ⟨b, rfl⟩
theorem cmpM_bl {op : COp} {x y : MV} {h : MH} {v : MV} {h' : MH} (e : cmpM op x y h = .ok v h') : ∃ b, v = .bl b := by
  unfold cmpM at e
  cases op <;> exact bR_bl e
theorem t_cmp (g : Good T Y W C CX lv inB N sc X) (op : COp) (ha : PE X a (rdE Y W ma)) (hb : PE X b (rdE Y W mb)) (hm : behindInMarks (co op) b = false) : PT X (.Compare a [co op] [b] p) (rdT Y W fun σ h => ((ma σ h).bind fun x h1 => (mb σ h1).bind fun y h2 => cmpM op x y h2).bind fun x h1 => truM x h1) :=
  t_of (m := fun σ h => (ma σ h).bind fun x h1 => (mb σ h1).bind fun y h2 => cmpM op x y h2) (pt_cmpR (op_cmp g.K g.Wo g.un op) ha hb hm) (fun σ H Q q => v_cmp op q) fun ms h v h' e => by
    obtain ⟨x, h1, _, e⟩ := bind_ok e
    obtain ⟨y, h2, _, e⟩ := bind_ok e
    exact cmpM_bl e
theorem c_sub (g : Good T Y W C CX lv inB N sc X) (ha : PE X a (rdE Y W ma)) (hb : PE X b (rdE Y W mb)) (hs : isSlice b = false) : PE X (.Subscript a b p) (rdE Y W fun σ h => (ma σ h).bind fun x h1 => (mb σ h1).bind fun y h2 => subM x y h2) := by
  have pl : PlainIx b := by
    intro o i
    unfold subscripted
    cases b <;> first | rfl | skip
    rename_i l u st pp
    cases st
    · cases hs
    · rfl
  refine (pe_ix (ix_sub g.K g.Wo g.un) ha hb pl).conv fun σ H Q q => ?_
  exact (rd_seq2 q).mono fun x H1 q1 => q1.mono fun y H2 ⟨f2, h2, a, b, r, ra, rb, g2⟩ => ⟨f2, h2, a, b, r, ra, rb, W, σ, g2⟩
theorem c_neg (g : Good T Y W C CX lv inB N sc X) (ha : PE X a (rdE Y W ma)) : PE X (.UnaryOp .USub a p) (rdE Y W fun σ h => (ma σ h).bind fun x h1 => negM x h1) := by
  refine (pe_un un_neg ha).conv fun σ H Q q => ?_
  refine (rd_seq q).mono fun x H1 ⟨f1, h1, m, r, rm, g1⟩ => ?_
  cases m with
  | int i => exact ⟨i, rm.int_inv, G.ok r g1 _ .int⟩
  | _ => exact g1.elim
theorem c_not (g : Good T Y W C CX lv inB N sc X) (ha : PE X a (rdE Y W ma)) : PE X (.UnaryOp .Not a p) (rdE Y W fun σ h => (ma σ h).bind fun x h1 => (truM x h1).bind fun b h2 => .ok (.bl (!b)) h2) := by
  refine (pe_notT ha).conv fun σ H Q q => ?_
  refine (rd_seq q).mono fun x H1 ⟨f1, h1, m, r, rm, g1⟩ => ?_
  obtain ⟨b, e, t, q1⟩ := truM_inv (T := fun b f h H => GP Y f h H (.ok (.bl (!b)) h) fun v f' h' H' => ∀ z, VR Y.K f' h'.size H' v z → Q z H') r rm ⟨W, σ, g1.bind.mono fun _ _ _ _ _ _ _ g2 => ⟨W, σ, g2⟩⟩
  exact ⟨b, g.K ▸ t, GP.here r q1 _ .bl⟩
theorem non_no {m : MV} {x : V} {n : Nat} (rm : VR Y.K f n H m x) (hm : m ≠ .non) : decide (x = V.non) = false := by
  refine decide_eq_false fun hx => ?_
  subst hx
  cases m with
  | non => exact hm rfl
  | bl _ => cases rm.bl_inv
  | int _ => cases rm.int_inv
  | str _ => cases rm.str_inv.1
  | tup _ => obtain ⟨_, _, z, _⟩ := rm.tup_inv; cases z
  | kl _ => obtain ⟨_, _, z, _⟩ := rm.kl_inv; cases z
  | ref _ => cases rm.ref_inv.2
  | kd _ => unfold VR at rm; obtain ⟨_, _, _, z, _⟩ := rm; cases z
  | fn _ => unfold VR at rm; cases rm
  | exc _ _ => unfold VR at rm; exact rm.elim
theorem isNM_bl {b : Bool} {x : MV} {h : MH} {v : MV} {h' : MH} (e : isNM b x h = .ok v h') : ∃ b, v = .bl b := by
  unfold isNM at e
  split at e <;> (cases e; exact ⟨_, rfl⟩)
theorem v_isN {σ : L2.St} {H : Hp} {Q : VK} (q : rdE Y W (fun σ h => (ma σ h).bind fun x h1 => isNM true x h1) σ H Q) : tIsN (rdE Y W ma) σ H Q := by
  refine (rd_seq q).mono fun x H1 ⟨f1, h1, m, r, rm, g1⟩ => ?_
  cases m with
  | non =>
    rw [rm.non_inv]
    exact G.ok r g1 _ .bl
  | _ =>
    rw [non_no rm (fun z => by cases z)]
    exact G.ok r g1 _ .bl
theorem v_isNt {σ : L2.St} {H : Hp} {Q : VK} (q : rdE Y W (fun σ h => (ma σ h).bind fun x h1 => isNM false x h1) σ H Q) : tNotN (rdE Y W ma) σ H Q := by
  refine (rd_seq q).mono fun x H1 ⟨f1, h1, m, r, rm, g1⟩ => ?_
  cases m with
  | non =>
    rw [rm.non_inv]
    exact G.ok r g1 _ .bl
  | _ =>
    rw [non_no rm (fun z => by cases z)]
    exact G.ok r g1 _ .bl
theorem c_isN (ha : PE X a (rdE Y W ma)) {j p'} : PE X (.Compare a [.Is] [.Constant .none j p'] p) (rdE Y W fun σ h => (ma σ h).bind fun x h1 => isNM true x h1) :=
  (pe_cmp (pc_isN ha)).conv fun σ H Q q => v_isN q
theorem c_isNt (ha : PE X a (rdE Y W ma)) {j p'} : PE X (.Compare a [.IsNot] [.Constant .none j p'] p) (rdE Y W fun σ h => (ma σ h).bind fun x h1 => isNM false x h1) :=
  (pe_cmp (pc_notN ha)).conv fun σ H Q q => v_isNt q
theorem t_isN (ha : PE X a (rdE Y W ma)) {j p'} : PT X (.Compare a [.Is] [.Constant .none j p'] p) (rdT Y W fun σ h => ((ma σ h).bind fun x h1 => isNM true x h1).bind fun x h1 => truM x h1) :=
  t_of (m := fun σ h => (ma σ h).bind fun x h1 => isNM true x h1) (pt_cmp (pc_isN ha)) (fun σ H Q q => v_isN q) fun ms h v h' e => by
    obtain ⟨x, h1, _, e⟩ := bind_ok e
    exact isNM_bl e
theorem t_isNt (ha : PE X a (rdE Y W ma)) {j p'} : PT X (.Compare a [.IsNot] [.Constant .none j p'] p) (rdT Y W fun σ h => ((ma σ h).bind fun x h1 => isNM false x h1).bind fun x h1 => truM x h1) :=
  t_of (m := fun σ h => (ma σ h).bind fun x h1 => isNM false x h1) (pt_cmp (pc_notN ha)) (fun σ H Q q => v_isNt q) fun ms h v h' e => by
    obtain ⟨x, h1, _, e⟩ := bind_ok e
    exact isNM_bl e
theorem v_ch (o1 o2 : COp) {σ : L2.St} {H : Hp} {Q : VK} (q : rdE Y W (fun σ h => (ma σ h).bind fun x h1 => (mb σ h1).bind fun y h2 => chM (fun h3 => mc σ h3) o1 o2 x y h2) σ H Q) : tChain (rB Y (cmpM o1)) (rB Y (cmpM o2)) (rdE Y W ma) (rdE Y W mb) (rdE Y W mc) σ H Q := by
  obtain ⟨f, ms, h, r, sr, q⟩ := q
  refine ⟨f, ms, h, r, sr, q.bind.mono fun a h1 f1 H1 _ e1 r1 g1 x rx => ⟨f1, ms, h1, r1, r.sr e1 sr, g1.bind.mono fun b h2 f2 H2 _ e2 r2 g2 y ry => ?_⟩⟩
  refine ⟨f2, h2, a, b, r2, r1.vr e2 rx, ry, W, σ, g2.bind.mono fun z h3 f3 H3 _ e3 r3 g3 w rw => ?_⟩
  have sr3 := r2.sr e3 (r1.sr e2 (r.sr e1 sr))
  cases z with
  | bl k =>
    refine ⟨k, rw.bl_inv, ?_⟩
    cases k with
    | true => exact ⟨f3, ms, h3, r3, sr3, g3.bind.mono fun d h4 f4 H4 _ e4 r4 g4 v rv => ⟨f4, h4, b, d, r4, r3.vr e4 (r2.vr e3 ry), rv, W, σ, g4⟩⟩
    | false => exact G.ok r3 g3 _ .bl
  | _ => exact g3.elim
theorem c_ch (g : Good T Y W C CX lv inB N sc X) (o1 o2 : COp) (ha : PE X a (rdE Y W ma)) (hb : PE X b (rdE Y W mb)) (hc : PE X c (rdE Y W mc)) (hm : lastMarks [co o1, co o2] [b, c] = false) :
    PE X (.Compare a [co o1, co o2] [b, c] p) (rdE Y W fun σ h => (ma σ h).bind fun x h1 => (mb σ h1).bind fun y h2 => chM (fun h3 => mc σ h3) o1 o2 x y h2) :=
  (pe_chain (op_cmp g.K g.Wo g.un o1) (op_cmp g.K g.Wo g.un o2) ha hb hc hm).conv fun σ H Q q => v_ch o1 o2 q
theorem t_ch (g : Good T Y W C CX lv inB N sc X) (o1 o2 : COp) (ha : PE X a (rdE Y W ma)) (hb : PE X b (rdE Y W mb)) (hc : PE X c (rdE Y W mc)) (hm : lastMarks [co o1, co o2] [b, c] = false) :
    PT X (.Compare a [co o1, co o2] [b, c] p) (rdT Y W fun σ h => ((ma σ h).bind fun x h1 => (mb σ h1).bind fun y h2 => chM (fun h3 => mc σ h3) o1 o2 x y h2).bind fun x h1 => truM x h1) :=
  t_of (m := fun σ h => (ma σ h).bind fun x h1 => (mb σ h1).bind fun y h2 => chM (fun h3 => mc σ h3) o1 o2 x y h2) (pt_chain (op_cmp g.K g.Wo g.un o1) (op_cmp g.K g.Wo g.un o2) ha hb hc hm) (fun σ H Q q => v_ch o1 o2 q) fun ms h v h' e => by
    obtain ⟨x, h1, _, e⟩ := bind_ok e
    obtain ⟨y, h2, _, e⟩ := bind_ok e
    obtain ⟨z, h3, _, e⟩ := bind_ok e
    cases z with
    | bl k =>
      cases k with
      | true =>
        obtain ⟨w, h4, _, e⟩ := bind_ok e
        exact cmpM_bl e
      | false => cases e; exact ⟨_, rfl⟩
    | _ => cases e
theorem c_and (g : Good T Y W C CX lv inB N sc X) {rest : List Expr} (ha : PE X a (rdE Y W ma)) (hb : PE X (.BoolOp .And (b :: rest) p) (rdE Y W mb)) :
    PE X (.BoolOp .And (a :: b :: rest) p) (rdE Y W fun σ h => (ma σ h).bind fun x h1 => (truM x h1).bind fun c h2 => if c then mb σ h2 else .ok x h2) := by
  refine (pe_andT ha hb).conv fun σ H Q q => ?_
  obtain ⟨f, ms, h, r, sr, q⟩ := q
  refine ⟨f, ms, h, r, sr, q.bind.mono fun a h1 f1 H1 _ e1 r1 g1 x rx => ?_⟩
  obtain ⟨k, e, t, q1⟩ := truM_inv (T := fun k f h H => G Y W σ f h H (if k then mb ms h else .ok a h) fun v f' h' H' => ∀ z, VR Y.K f' h'.size H' v z → Q z H') r1 rx ⟨W, σ, g1.bind⟩
  refine ⟨k, g.K ▸ t, ?_⟩
  cases k with
  | true => exact ⟨f1, ms, h1, r1, r.sr e1 sr, q1⟩
  | false => exact G.ok r1 q1 _ rx
theorem c_or (g : Good T Y W C CX lv inB N sc X) {rest : List Expr} (ha : PE X a (rdE Y W ma)) (hb : PE X (.BoolOp .Or (b :: rest) p) (rdE Y W mb)) :
    PE X (.BoolOp .Or (a :: b :: rest) p) (rdE Y W fun σ h => (ma σ h).bind fun x h1 => (truM x h1).bind fun c h2 => if c then .ok x h2 else mb σ h2) := by
  refine (pe_orT ha hb).conv fun σ H Q q => ?_
  obtain ⟨f, ms, h, r, sr, q⟩ := q
  refine ⟨f, ms, h, r, sr, q.bind.mono fun a h1 f1 H1 _ e1 r1 g1 x rx => ?_⟩
  obtain ⟨k, e, t, q1⟩ := truM_inv (T := fun k f h H => G Y W σ f h H (if k then .ok a h else mb ms h) fun v f' h' H' => ∀ z, VR Y.K f' h'.size H' v z → Q z H') r1 rx ⟨W, σ, g1.bind⟩
  refine ⟨k, g.K ▸ t, ?_⟩
  cases k with
  | false => exact ⟨f1, ms, h1, r1, r.sr e1 sr, q1⟩
  | true => exact G.ok r1 q1 _ rx
/-! ### tests -/
variable {ta tb : En → MH → R Bool}
theorem rt_seq {k : Bool → En → MH → R MV} {σ : L2.St} {H : Hp} {Q : VK} (q : rdE Y W (fun σ h => (ta σ h).bind fun d h1 => k d σ h1) σ H Q) : rdT Y W ta σ H fun d H1 => rdE Y W (k d) σ H1 Q := by
  obtain ⟨f, ms, h, r, sr, q⟩ := q
  exact ⟨f, ms, h, r, sr, q.bind.mono fun a h1 f1 H1 _ e1 r1 g1 => ⟨f1, ms, h1, r1, r.sr e1 sr, g1⟩⟩
theorem c_ife (hc : PT X c (rdT Y W ta)) (ha : PE X a (rdE Y W ma)) (hb : PE X b (rdE Y W mb)) : PE X (.IfExp c a b p) (rdE Y W fun σ h => (ta σ h).bind fun d h1 => if d then ma σ h1 else mb σ h1) := by
  refine (pe_ifExp hc ha hb).conv fun σ H Q q => ?_
  have q2 := rt_seq (k := fun d σ h1 => if d then ma σ h1 else mb σ h1) q
  obtain ⟨f, ms, h, r, sr, q⟩ := q2
  refine ⟨f, ms, h, r, sr, q.mono fun d h1 f1 H1 _ e1 r1 g1 => ?_⟩
  cases d with
  | true => exact g1
  | false => exact g1
theorem plainT_true (e : Expr) (h : plainT e = true) (env : Env) (whole : Sem Value) : isTrue e env whole = (do let v ← whole; standAt e.pos; holding [v] (truthy v)) := by
  cases e <;> first | rfl | (cases h; done) | skip
  all_goals (rename_i op _ _; cases op <;> first | rfl | (cases h; done))
theorem t_val (g : Good T Y W C CX lv inB N sc X) (ha : PE X a (rdE Y W ma)) (hp : plainT a = true) : PT X a (rdT Y W fun σ h => (ma σ h).bind fun x h1 => truM x h1) := by
  refine (pt_truth ha (plainT_true a hp X.env)).conv fun σ H Q q => ?_
  obtain ⟨f, ms, h, r, sr, q⟩ := q
  refine ⟨f, ms, h, r, sr, q.bind.mono fun a h1 f1 H1 _ e1 r1 g1 x rx => ?_⟩
  obtain ⟨k, e, t, q1⟩ := truM_inv (T := fun k f h H => Q k H) r1 rx ⟨W, σ, g1⟩
  exact ⟨k, g.K ▸ t, q1⟩
theorem t_not (ha : PT X a (rdT Y W ta)) : PT X (.UnaryOp .Not a p) (rdT Y W fun σ h => (ta σ h).bind fun b h1 => .ok (!b) h1) := by
  refine (pt_not ha).conv fun σ H Q q => ?_
  obtain ⟨f, ms, h, r, sr, q⟩ := q
  exact ⟨f, ms, h, r, sr, q.bind.mono fun a h1 f1 H1 _ e1 r1 g1 => G.ok r1 g1⟩
theorem _root_.L2.PW.conv {X : Cx} {e : Expr} {t t' : TT} (p : PW X e t) (k : ∀ σ H Q, t' σ H Q → t σ H Q) : PW X e t' := ⟨fun w pins s σ H Q I q => p.run w pins s σ H Q I (k σ H Q q)⟩
theorem t_and {rest : List Expr} (ha : PT X a (rdT Y W ta)) (hb : PW X (.BoolOp .And (b :: rest) p) (rdT Y W tb)) : PW X (.BoolOp .And (a :: b :: rest) p) (rdT Y W fun σ h => (ta σ h).bind fun c h1 => if c then tb σ h1 else .ok false h1) := by
  refine (pw_and ha hb).conv fun σ H Q q => ?_
  obtain ⟨f, ms, h, r, sr, q⟩ := q
  refine ⟨f, ms, h, r, sr, q.bind.mono fun a h1 f1 H1 _ e1 r1 g1 => ?_⟩
  cases a with
  | true => exact ⟨f1, ms, h1, r1, r.sr e1 sr, g1⟩
  | false => exact G.ok r1 g1
theorem t_or {rest : List Expr} (ha : PT X a (rdT Y W ta)) (hb : PW X (.BoolOp .Or (b :: rest) p) (rdT Y W tb)) : PW X (.BoolOp .Or (a :: b :: rest) p) (rdT Y W fun σ h => (ta σ h).bind fun c h1 => if c then .ok true h1 else tb σ h1) := by
  refine (pw_or ha hb).conv fun σ H Q q => ?_
  obtain ⟨f, ms, h, r, sr, q⟩ := q
  refine ⟨f, ms, h, r, sr, q.bind.mono fun a h1 f1 H1 _ e1 r1 g1 => ?_⟩
  cases a with
  | false => exact ⟨f1, ms, h1, r1, r.sr e1 sr, g1⟩
  | true => exact G.ok r1 g1
/-! ### argument lists -/
variable {es : List Expr} {me : En → MH → R (List MV)}
theorem star_cons {e : Expr} {es : List Expr} {env : Env} (h : isStar e = false) : starEach (e :: es) env = (false, eval e env) :: starEach es env := by
  cases e <;> first | rfl | cases h
def noStars (es : List Expr) : Bool := es.all fun e => !isStar e
theorem star_any {env : Env} {pos : Pos} : ∀ {es : List Expr}, noStars es = true → (backTo pos (starEach es env)).any (·.1) = false
  | [], _ => rfl
  | e :: es, h => by
    unfold noStars at h
    rw [List.all_cons, Bool.and_eq_true] at h
    rw [star_cons (by simpa using h.1)]
    show (false || (backTo pos (starEach es env)).any (·.1)) = false
    rw [star_any h.2]
    rfl
theorem a_nil : PA X [] (rdA Y W fun σ h => .ok [] h) := by
  refine pa_nil.conv fun σ H Q q => ?_
  obtain ⟨f, ms, h, r, sr, q⟩ := q
  exact G.ok r q _ .nil
theorem a_cons (ha : PE X e (rdE Y W ma)) (hr : PA X es (rdA Y W me)) (hs : isStar e = false) : PA X (e :: es) (rdA Y W fun σ h => (ma σ h).bind fun x h1 => (me σ h1).bind fun l h2 => .ok (x :: l) h2) := by
  refine (pa_cons ha hr (star_cons hs)).conv fun σ H Q q => ?_
  obtain ⟨f, ms, h, r, sr, q⟩ := q
  refine ⟨f, ms, h, r, sr, q.bind.mono fun a h1 f1 H1 _ e1 r1 g1 x rx => ⟨f1, ms, h1, r1, r.sr e1 sr, g1.bind.mono fun l h2 f2 H2 _ e2 r2 g2 xs rl => ?_⟩⟩
  exact G.ok r2 g2 _ (.cons (r1.vr e2 rx) rl)
theorem _root_.L2.PK.conv {X : Cx} {e : List Keyword} {t t' : TA} (p : PK X e t) (k : ∀ σ H Q, t' σ H Q → t σ H Q) : PK X e t' := ⟨fun pos pins s σ H Q I q => p.run pos pins s σ H Q I (k σ H Q q)⟩
theorem k_nil : PK X [] (rdA Y W fun σ h => .ok [] h) := by
  refine pk_nil.conv fun σ H Q q => ?_
  obtain ⟨f, ms, h, r, sr, q⟩ := q
  exact G.ok r q _ .nil
theorem k_cons {kws : List Keyword} {nm : Option Str} {kpos : Pos} (ha : PE X e (rdE Y W ma)) (hr : PK X kws (rdA Y W me)) : PK X (⟨nm, e, kpos⟩ :: kws) (rdA Y W fun σ h => (ma σ h).bind fun x h1 => (me σ h1).bind fun l h2 => .ok (x :: l) h2) := by
  refine (pk_cons ha hr).conv fun σ H Q q => ?_
  obtain ⟨f, ms, h, r, sr, q⟩ := q
  refine ⟨f, ms, h, r, sr, q.bind.mono fun a h1 f1 H1 _ e1 r1 g1 x rx => ⟨f1, ms, h1, r1, r.sr e1 sr, g1.bind.mono fun l h2 f2 H2 _ e2 r2 g2 xs rl => ?_⟩⟩
  exact G.ok r2 g2 _ (.cons (r1.vr e2 rx) rl)
theorem c_tup (he : PA X es (rdA Y W me)) {k1} : PE X (.Tuple es k1 p) (rdE Y W fun σ h => (me σ h).bind fun l h1 => litM l h1) := by
  refine (pe_tup he).conv fun σ H Q q => ?_
  obtain ⟨f, ms, h, r, sr, q⟩ := q
  refine ⟨f, ms, h, r, sr, q.bind.mono fun l h1 f1 H1 _ e1 r1 g1 xs rx => ?_⟩
  unfold litM at g1
  by_cases hl : l.length ≤ LIM
  · rw [if_pos hl] at g1
    refine ⟨by rw [← rx.length, ← LIM_eq]; exact hl, fun z hz => ?_⟩
    have e2 : Ext f1 h1.size H1 f1 h1.size (upd H1 z (.tup xs)) := Ext.aside hz
    exact g1 _ _ e2 (r1.aside (u := .tup xs) hz) _ (.tup (SqT.of upd_same) (r1.vrs e2 rx))
  · rw [if_neg hl] at g1
    exact g1.elim
theorem c_lst (he : PA X es (rdA Y W me)) : PE X (.List es p) (rdE Y W fun σ h => (me σ h).bind fun l h1 => newList h1 l) := by
  refine (pe_lst he).conv fun σ H Q q => ?_
  obtain ⟨f, ms, h, r, sr, q⟩ := q
  refine ⟨f, ms, h, r, sr, q.bind.mono fun l h1 f1 H1 _ e1 r1 g1 xs rx => ?_⟩
  have g2 : GP Y f1 h1 H1 (newList h1 l) fun v f' h' H' => ∀ z, VR Y.K f' h'.size H' v z → Q z H' := ⟨W, σ, g1⟩
  have hz : xs.length ≤ sizeLine := by
    unfold newList at g1
    by_cases hl : l.length ≤ LIM
    · rw [← rx.length, ← LIM_eq]; exact hl
    · rw [if_neg hl] at g1
      exact g1.elim
  refine ⟨hz, fun z hz => ?_⟩
  obtain ⟨_, f', t, e⟩ := GP.newList r1 g2 rx hz
  exact t _ (by rw [← e]; exact .ref (by rw [MH.size_push]; omega))
/-! ### slices -/
def rdO (Y : Ctx) (W : Wish) (m : En → MH → R (Option Int)) : TO := fun σ H Q => ∃ f ms h, Rl Y.K Y.Z f h H ∧ SR Y f h.size H ms σ ∧ G Y W σ f h H (m ms h) fun o _ _ H' => Q o H'
variable {ml mu : En → MH → R (Option Int)}
theorem _root_.L2.PO.conv {X : Cx} {e : Option Expr} {t t' : TO} (p : PO X e t) (k : ∀ σ H Q, t' σ H Q → t σ H Q) : PO X e t' := ⟨fun pins s σ H Q I q => p.run pins s σ H Q I (k σ H Q q)⟩
theorem o_no : PO X none (rdO Y W fun σ h => .ok none h) := by
  refine po_none.conv fun σ H Q q => ?_
  obtain ⟨f, ms, h, r, sr, q⟩ := q
  exact G.ok r q
theorem o_so (ha : PE X e (rdE Y W ma)) : PO X (some e) (rdO Y W fun σ h => (ma σ h).bind fun x h1 => oiM x h1) := by
  refine (po_some ha).conv fun σ H Q q => ?_
  obtain ⟨f, ms, h, r, sr, q⟩ := q
  refine ⟨f, ms, h, r, sr, q.bind.mono fun a h1 f1 H1 _ e1 r1 g1 x rx => ?_⟩
  cases a with
  | int i =>
    refine ⟨i, rx.int_inv, ?_⟩
    unfold oiM oi at g1
    simp only at g1
    split at g1
    · rename_i k ek
      split at ek
      · cases ek
        exact G.ok r1 g1
      · cases ek
    · exact g1.elim
  | _ => exact g1.elim
theorem c_sl (g : Good T Y W C CX lv inB N sc X) {lo hi : Option Expr} {p2} (ha : PE X a (rdE Y W ma)) (hl : PO X lo (rdO Y W ml)) (hu : PO X hi (rdO Y W mu)) : PE X (.Subscript a (.Slice lo hi none p2) p)
    (rdE Y W fun σ h => (ma σ h).bind fun x h1 => (ml σ h1).bind fun l h2 => (mu σ h2).bind fun u h3 => slM x l u h3) := by
  refine (pe_slice (sl_cut g.K) ha hl hu).conv fun σ H Q q => ?_
  obtain ⟨f, ms, h, r, sr, q⟩ := q
  refine ⟨f, ms, h, r, sr, q.bind.mono fun a h1 f1 H1 _ e1 r1 g1 x rx => ?_⟩
  have sr1 := r.sr e1 sr
  refine ⟨f1, ms, h1, r1, sr1, g1.bind.mono fun l h2 f2 H2 _ e2 r2 g2 => ?_⟩
  refine ⟨f2, ms, h2, r2, r1.sr e2 sr1, g2.bind.mono fun u h3 f3 H3 _ e3 r3 g3 => ?_⟩
  exact ⟨f3, h3, a, r3, r2.vr e3 (r1.vr e2 rx), W, σ, g3⟩

/-! ### dicts' displays -/
def pairV : List V → List (V × V)
  | k :: v :: r => (k, v) :: pairV r
  | _ => []
/-- the readings of the pairs -/
def trsOf (P : Prog) (C : Nat → List MV → MH → R MV) (Y : Ctx) (W : Wish) : Es → List (TE × TE)
  | .cons k (.cons v r) => (rdE Y W (ev P C k), rdE Y W (ev P C v)) :: trsOf P C Y W r
  | _ => []
def Es.even : Es → Bool
  | .nil => true
  | .cons _ .nil => false
  | .cons _ (.cons _ r) => r.even
theorem v_pairs : ∀ {es : Es} {σ : L2.St} {H : Hp} {Q : List (V × V) → Hp → Prop}, es.even = true → (rdA Y W (evs T.P C es) σ H fun xs H' => Q (pairV xs) H') → tPairs (trsOf T.P C Y W es) σ H Q
  | .nil, σ, H, Q, _, q => by
    obtain ⟨f, ms, h, r, sr, q⟩ := q
    unfold evs at q
    exact G.ok r q [] .nil
  | .cons k .nil, σ, H, Q, he, q => by cases he
  | .cons k (.cons v r), σ, H, Q, he, q => by
    obtain ⟨f, ms, h, r0, sr, q⟩ := q
    unfold evs at q
    refine ⟨f, ms, h, r0, sr, q.bind.mono fun x h1 f1 H1 _ e1 r1 g1 y ry => ?_⟩
    have g1 := g1.bind
    unfold evs at g1
    have sr1 := r0.sr e1 sr
    cases ev1 : ev T.P C v ms h1 with
    | stk => rw [ev1] at g1; exact g1.elim
    | ex c l h2 =>
      rw [ev1] at g1
      refine ⟨f1, ms, h1, r1, sr1, ?_⟩
      rw [ev1]
      exact g1
    | ok w h2 =>
      rw [ev1] at g1
      refine ⟨f1, ms, h1, r1, sr1, ?_⟩
      rw [ev1]
      intro f2 H2 e2 r2 z rz
      refine v_pairs (es := r) he ⟨f2, ms, h2, r2, r1.sr e2 sr1, ?_⟩
      have g2 : G Y W σ f1 h1 H1 ((evs T.P C r ms h2).bind fun l h3 => .ok (w :: l) h3) fun l f' h' H' => G Y W σ f' h' H' (.ok (x :: l) h') fun l f' h' H' => ∀ xs, VRs Y.K f' h'.size H' l xs → Q (pairV xs) H' := g1
      have g3 : G Y W σ f2 h2 H2 ((evs T.P C r ms h2).bind fun l h3 => .ok (w :: l) h3) fun l f' h' H' => G Y W σ f' h' H' (.ok (x :: l) h') fun l f' h' H' => ∀ xs, VRs Y.K f' h'.size H' l xs → Q (pairV xs) H' := by
        cases ev2 : evs T.P C r ms h2 with
        | stk => rw [ev2] at g2; exact g2.elim
        | ex c l h3 =>
          rw [ev2] at g2
          exact fun f3 H3 cls d e3 r3 xx => g2 f3 H3 cls d (e2.trans e3) r3 xx
        | ok l h3 =>
          rw [ev2] at g2
          exact fun f3 H3 e3 r3 => g2 f3 H3 (e2.trans e3) r3
      refine g3.bind.mono fun l h3 f3 H3 _ e3 r3 g4 xs rl => ?_
      have g5 := G.ok r3 (G.ok r3 g4) (y :: z :: xs) (.cons (r1.vr (e2.trans e3) ry) (.cons (r2.vr e3 rz) rl))
      exact g5
theorem merge_ok {K : KW} {N : Nat} : ∀ {l acc : List (MV × MV)} {kvs acc' : List (Key × V)}, DKr K f N H l kvs → DKr K f N H acc acc' → DKr K f N H (l.foldl (fun a p => DM.putK p.1 p.2 a) acc) (kvs.foldl (fun a kv => L2.putK a kv.1 kv.2) acc')
  | [], acc, kvs, acc', e, b => by
    obtain rfl : kvs = [] := e
    exact b
  | (k, m) :: r, acc, kvs, acc', ⟨x, v, ys, e, c, rv, d⟩, b => by
    subst e
    exact merge_ok (l := r) (kvs := ys) d (b.put c rv)
theorem pairs_ok {K : KW} {N : Nat} : ∀ {l : List MV} {ps : List (MV × MV)} {xs : List V}, DM.pairs l = some ps → (ps.all fun p => kOk false p.1) = true → VRs K f N H l xs → ∃ kvs, pairV xs = kvs.map (fun kv => (kV kv.1, kv.2)) ∧ DKr K f N H ps kvs ∧ kvs.length = ps.length
  | [], ps, xs, e, _, r => by
    cases e
    rw [r.nil_inv]
    exact ⟨[], rfl, rfl, rfl⟩
  | [_], ps, xs, e, _, r => by cases e
  | k :: v :: l, ps, xs, e, hk, r => by
    unfold DM.pairs at e
    obtain ⟨qs, e1, e2⟩ := Option.map_eq_some_iff.mp e
    subst e2
    rw [List.all_cons, Bool.and_eq_true] at hk
    obtain ⟨x, ws, rfl, rx, t⟩ := r.cons_inv
    obtain ⟨y, zs, rfl, ry, t2⟩ := t.cons_inv
    obtain ⟨kvs, h1, h2, h3⟩ := pairs_ok e1 hk.2 t2
    obtain ⟨kk, c, rfl⟩ := KR.kOk hk.1 rx
    exact ⟨(kk, y) :: kvs, by rw [List.map_cons, ← h1]; rfl, ⟨kk, y, kvs, rfl, c, ry, h2⟩, by rw [List.length_cons, List.length_cons, h3]⟩
theorem c_dct (g : Good T Y W C CX lv inB N sc X) {es : Es} {ks : List (Option Expr)} {vs : List Expr} (he : es.even = true) (hp : PPs X p ks vs (trsOf T.P C Y W es)) (hall : ks.all (·.isSome) = true) (hl : ks.length = vs.length) (h0 : ks ≠ []) (h15 : ks.length ≤ 15) :
    PE X (.Dict ks vs p) (rdE Y W fun σ h => (evs T.P C es σ (h.push (.dct false false []))).bind fun l h1 => dispM h.size l h1) := by
  refine (pe_disp hp hall hl h0 h15).conv fun σ H Q q z hz => ?_
  obtain ⟨f, ms, h, r, sr, q⟩ := q
  have ex0 : Ext f h.size H (nxt f h.size z) (h.size + 1) (upd H z (.dK [])) := Ext.push hz
  obtain ⟨e1, r1⟩ := r.push (o := .dct false false []) (u := .dK []) hz ⟨[], upd_same, rfl⟩
  refine v_pairs he ⟨_, ms, _, r1, r.sr e1 sr, ((G.shift e1 q).bind).mono fun l h2 f2 H2 _ e2 r2 g2 xs rl => ?_⟩
  unfold dispM at g2
  split at g2
  · exact g2.elim
  · rename_i ps hps
    split at g2
    · rename_i hok
      split at g2
      · rename_i en
        obtain ⟨kvs0, d0, dk0⟩ := r2.ob _ _ en
        have hs : h.size < (h.push (.dct false false [])).size := by rw [MH.size_push]; omega
        have ez : f2 h.size = z := by rw [e2.ag _ hs, nxt_at]
        obtain rfl : kvs0 = [] := dk0
        have d0 : H2 (f2 h.size) = some (.dK []) := d0
        rw [ez] at d0
        obtain ⟨kvs, k1, k2, k3⟩ := pairs_ok hps hok.2 rl
        refine ⟨d0, kvs, k1, by rw [k3]; exact hok.1, ?_⟩
        have hn : h.size < h2.size := Nat.lt_of_lt_of_le hs e2.sz
        have ex : Ext f2 h2.size H2 f2 h2.size (upd H2 z (.dK (mergeK [] kvs))) := by
          have := Ext.put (f := f2) (u := .dK (mergeK [] kvs)) hn (r2.nofz en rfl)
          rwa [ez] at this
        obtain ⟨ex', rl'⟩ := r2.put (o' := .dct false false (ps.foldl (fun a p => DM.putK p.1 p.2 a) [])) (u := .dK (mergeK [] kvs)) en (fun _ q => by cases q) ⟨_, upd_same, by
          rw [ez]
          exact DKr.mono (Nat.le_refl _) (fun _ _ => rfl) (r2.text ex) _ _ (merge_ok k2 rfl)⟩
        rw [ez] at ex' rl'
        refine g2 _ _ ex' rl' _ ?_
        have := VR.ref (K := Y.K) (f := f2) (H := upd H2 z (.dK (mergeK [] kvs))) (N := (h2.put h.size (.dct false false (ps.foldl (fun a p => DM.putK p.1 p.2 a) []))).size) (n := h.size) (by rw [MH.size_put]; exact hn)
        rwa [ez] at this
      · exact g2.elim
    · exact g2.elim
theorem c_dct0 {k1 : List (Option Expr)} {k2 : List Expr} (h1 : k1 = []) (h2 : k2 = []) : PE X (.Dict k1 k2 p) (rdE Y W fun σ h => (evs T.P C .nil σ (h.push (.dct false false []))).bind fun l h1 => dispM h.size l h1) := by
  subst h1 h2
  refine pe_dnewK.conv fun σ H Q q z hz => ?_
  obtain ⟨f, ms, h, r, sr, q⟩ := q
  have ex0 : Ext f h.size H (nxt f h.size z) (h.size + 1) (upd H z (.dK [])) := Ext.push hz
  obtain ⟨e1, r1⟩ := r.push (o := .dct false false []) (u := .dK []) hz ⟨[], upd_same, rfl⟩
  have q2 : G Y W σ f h H (dispM h.size [] (h.push (.dct false false []))) fun v f' h' H' => ∀ x, VR Y.K f' h'.size H' v x → Q x H' := by
    unfold evs at q
    exact q
  have e3 : dispM h.size [] (h.push (.dct false false [])) = .ok (.ref h.size) ((h.push (.dct false false [])).put h.size (.dct false false [])) := by
    unfold dispM DM.pairs
    simp [MH.get_push_size]
  have e4 : (h.push (.dct false false [])).put h.size (.dct false false []) = h.push (.dct false false []) := by
    unfold MH.put MH.push MH.size
    simp
  rw [e3, e4] at q2
  have := VR.ref (K := Y.K) (f := nxt f h.size z) (H := upd H z (.dK [])) (N := (h.push (.dct false false [])).size) (n := h.size) (by rw [MH.size_push]; omega)
  rw [nxt_at] at this
  exact q2 _ _ e1 r1 _ this

/-! ### attributes -/
theorem fld_look {K : KW} {Z : Env1} {N : Nat} (inj : ∀ f g, Z.kn f = true → Z.kn g = true → Z.fnm f = Z.fnm g → f = g) {i : Nat} (hi : Z.kn i = true) :
    ∀ {fs : List (Nat × MV)} {gs : List (Str × V)}, FRs K Z f N H fs gs → (∀ p ∈ fs, Z.kn p.1 = true) → (∀ v, fld i fs = some v → ∃ x, gs.lookup (Z.fnm i) = some x ∧ VR K f N H v x) ∧ (fld i fs = none → gs.lookup (Z.fnm i) = none)
  | [], gs, e, _ => by
    have e : gs = [] := e
    subst e
    exact ⟨fun v h => (by cases h), fun _ => rfl⟩
  | (j, m) :: r, gs, ⟨x, ys, e, a, b⟩, hk => by
    subst e
    obtain ⟨h1, h2⟩ := fld_look inj hi b fun p hp => hk p (List.mem_cons_of_mem _ hp)
    have hj : Z.kn j = true := hk (j, m) List.mem_cons_self
    unfold fld
    by_cases hji : j = i
    · subst hji
      rw [if_pos rfl]
      refine ⟨fun v h => ?_, fun h => (by cases h)⟩
      cases h
      exact ⟨x, by rw [List.lookup_cons_self], a⟩
    · rw [if_neg hji]
      have hne : (Z.fnm i == Z.fnm j) = false := by
        rw [beq_eq_false_iff_ne]
        exact fun z => hji (inj i j hi hj z).symm
      have el : ((Z.fnm j, x) :: ys).lookup (Z.fnm i) = ys.lookup (Z.fnm i) := by
        rw [List.lookup_cons, hne]
      rw [el]
      exact ⟨h1, h2⟩
theorem c_att (g : Good T Y W C CX lv inB N sc X) {i : Nat} {x : Str} (e1 : x = T.fnm i) (ha : PE X a (rdE Y W ma)) (hb : attributeBase a x X.env (eval a X.env) = eval a X.env) : PE X (.Attribute a x p) (rdE Y W fun σ h => (ma σ h).bind fun x h1 => attM T.P x i h1) := by
  subst e1
  refine (pe_fld ha hb).conv fun σ H Q q => ?_
  refine (rd_seq q).mono fun x H1 ⟨f1, h1, m, r, rm, g1⟩ => ?_
  unfold attM at g1
  split at g1
  · rename_i n
    obtain ⟨hn, rfl⟩ := rm.ref_inv
    split at g1
    · rename_i c fs en
      split at g1
      · rename_i v ev1
        split at g1
        · rename_i hat
          obtain ⟨dx, gs, e2, fr, kn⟩ := r.ob _ _ en
          obtain ⟨c1, c2, c3⟩ := g.fc.at_ c i hat
          have inj : ∀ f g, Y.Z.kn f = true → Y.Z.kn g = true → Y.Z.fnm f = Y.Z.fnm g → f = g := by rw [g.fc.Z]; exact g.fc.kn
          obtain ⟨y, l1, l2⟩ := (fld_look inj c3 fr kn).1 v ev1
          refine ⟨_, _, dx, gs, y, rfl, e2, g.K ▸ c1, g.K ▸ c2, ?_, G.ok r g1 y l2⟩
          rw [← g.fc.Z]
          exact l1
        · exact g1.elim
      · exact g1.elim
    · exact g1.elim
  · exact g1.elim
end
end DM
set_option Elab.async false
set_option linter.all false
set_option maxRecDepth 100000
set_option maxHeartbeats 4000000
/-! S8: calls. -/
namespace DM
open PySem L2 PyProof.Rows PySem.Spec
section
variable {T : Tab} {Y : Ctx} {W : Wish} {C : Nat → List MV → MH → R MV} {CX : CXT} {lv : Nat} {inB : Bool} {N : List Str} {sc : Scope} {X : Cx}
variable {σ : L2.St} {H : Hp} {f : Nat → Addr} {h : MH} {ms : En}
variable {a b c e : Expr} {ma mb mc : En → MH → R MV} {p pos : Pos} {es : List Expr} {me mk : En → MH → R (List MV)}

/-! ### own functions -/
theorem call_end (g : Good T Y W C CX lv inB N sc X) (hh : T.hot = false) {i : Nat} {sh : List Src} {kn : List Nat} {A : Addr} {fd : FuncData} (F : FnG X.prog X.w Y.K X.mg X.base CX lv A fd (T.fps i) (spM Y T C i))
    {n : Nat} (B : ∀ (s : Shared) (us ws : List Value), Y.K.In s.heap → us.length = n → ws.length = kn.length →
      ∃ bs, bs.length = (T.fps i).length ∧ BindsTo s fd ⟨us, (kn.map T.fnm).zip ws⟩ ((T.fps i).zip bs) ∧
        ∀ ms zs vs ys l f N H, pick ms zs sh = some l → Vals vs us → VRs Y.K f N H ms vs → Vals ys ws → VRs Y.K f N H zs ys → ∃ xs, Vals xs bs ∧ VRs Y.K f N H l xs)
    {pins : List (Addr × Obj)} {s : Shared} {Q : VK} {us ws : List Value} {vs ys : List V} {ms zs : List MV} (I : Inv X pins σ H s) (r1 : Vals vs us) (r2 : Vals ys ws) (r : Rl Y.K Y.Z f h H)
    (l1 : ms.length = n) (l2 : zs.length = kn.length) (v1 : VRs Y.K f h.size H ms vs) (v2 : VRs Y.K f h.size H zs ys) (q : G Y W σ f h H (callP C i sh ms zs h) fun v f' h' H' => ∀ z, VR Y.K f' h'.size H' v z → Q z H') :
    wpAny (model X.prog X.w) X.A (call (.ref A) us ((kn.map T.fnm).zip ws)) (EP X pins σ Q) X.xe s := by
  obtain ⟨bs, hb, hB, hP⟩ := B s us ws (g.In I.kIn) (by rw [← r1.length, ← v1.length]; exact l1) (by rw [← r2.length, ← v2.length]; exact l2)
  unfold callP at q
  split at q
  · rename_i l el
    obtain ⟨xs, x1, x2⟩ := hP ms zs vs ys l f h.size H el r1 v1 r2 v2
    have F' : FnG X.prog X.w X.K X.mg X.base CX lv A fd (T.fps i) (spM Y T C i) := g.K ▸ F
    exact run_fnG F' ((g.room hh).mono (Nat.le_succ _)) g.gd (g.pass σ) I hB x1 ⟨by rw [x1.length]; exact hb, f, h, l, r, x2, q.wish fun c d H' z => z⟩
  · exact q.elim
theorem kw_some {env : Env} {pos : Pos} : ∀ {kws : List Keyword}, (kws.all fun k => k.1.isSome) = true → (backToKw pos (keywordEach kws env)).all (·.1.isSome) = true ∧ (backToKw pos (keywordEach kws env)).any (·.1.isNone) = false
  | [], _ => ⟨rfl, rfl⟩
  | ⟨nm, e, kp⟩ :: r, h => by
    rw [List.all_cons, Bool.and_eq_true] at h
    obtain ⟨a, b⟩ := kw_some (env := env) (pos := pos) h.2
    cases nm with
    | none => cases h.1
    | some x =>
      constructor
      · show (true && (backToKw pos (keywordEach r env)).all (·.1.isSome)) = true
        rw [a]; rfl
      · show (false || (backToKw pos (keywordEach r env)).any (·.1.isNone)) = false
        rw [b]; rfl
theorem kw_names {env : Env} {pos : Pos} : ∀ {kws : List Keyword}, (backToKw pos (keywordEach kws env)).filterMap (·.1) = kws.filterMap (·.1)
  | [] => rfl
  | ⟨nm, e, kp⟩ :: r => by
    have := kw_names (env := env) (pos := pos) (kws := r)
    cases nm with
    | none => exact this
    | some x => exact congrArg (x :: ·) this
theorem star_all {e : Expr} {es : List Expr} {env : Env} {pos : Pos} (h : noStars (e :: es) = true) : (backTo pos (starEach (e :: es) env)).any (·.1) = false := star_any h
theorem c_call (g : Good T Y W C CX lv inB N sc X) (hh : T.hot = false) {i : Nat} {x : Str} {kws : List Keyword} {kn : List Nat} {sh : List Src} (e1 : x = T.fname i) (e2 : T.fok i = true) (e3 : glB sc x = true) (e4 : (x == ("__debug__" : Str)) = false)
    (ha : PA X (e :: es) (rdA Y W me)) (hk : PK X kws (rdA Y W mk)) (hs : noStars (e :: es) = true) (hall : (kws.all fun k => k.1.isSome) = true) (hks : kws.filterMap (·.1) = kn.map T.fnm) (hsh : T.sh i (e :: es).length kn sh = true)
    (le : ∀ ms h l h', me ms h = .ok l h' → l.length = (e :: es).length) (lk : ∀ ms h l h', mk ms h = .ok l h' → l.length = kn.length) :
    PE X (.Call (.Name x p) (e :: es) kws pos) (rdE Y W fun σ h => (me σ h).bind fun vs h1 => (mk σ h1).bind fun ws h2 => callP C i sh vs ws h2) := by
  refine ⟨fun pins s σ H Q I q => ?_⟩
  obtain ⟨A, fd, h1, h2, F, B⟩ := g.fc.fd i e2
  obtain ⟨a1, a2⟩ := kw_some (env := X.env) (pos := pos) hall
  have hst : isStar e = false := by
    unfold noStars at hs
    rw [List.all_cons, Bool.and_eq_true] at hs
    simpa using hs.1
  refine wpAny_Call_Name_kw (ld_glob I (g.gl e3) (e1 ▸ h1) ?_ e4)
  refine PySem.W.callWith_KW (h₀ := X.base) I.ok.mod.kin (g.K ▸ h2) a1 ?_ (by rw [star_all hs, a2]; rfl) (star_cons hst)
  obtain ⟨f, ms, h, r, sr, q⟩ := q
  refine thn (ha.run pos pins s σ H (fun xs H1 => ∃ f1 h1 l, Ext f h.size H f1 h1.size H1 ∧ Rl Y.K Y.Z f1 h1 H1 ∧ l.length = (e :: es).length ∧ VRs Y.K f1 h1.size H1 l xs ∧ G Y W σ f1 h1 H1 ((mk ms h1).bind fun ws h2 => callP C i sh l ws h2) fun v f' h' H' => ∀ z, VR Y.K f' h'.size H' v z → Q z H') I
    ⟨f, ms, h, r, sr, q.bind.mono fun l h1 f1 H1 eq e1 r1 g1 xs rx => ⟨f1, h1, l, e1, r1, le _ _ _ _ eq, rx, g1⟩⟩) fun us s1 ⟨vs, H1, I1, rv, f1, h1, l, x1, r1, l1, v1, q1⟩ => ?_
  refine thn (hk.run pos pins s1 σ H1 (fun xs H2 => ∃ f2 h2 z, Ext f1 h1.size H1 f2 h2.size H2 ∧ Rl Y.K Y.Z f2 h2 H2 ∧ z.length = kn.length ∧ VRs Y.K f2 h2.size H2 z xs ∧ G Y W σ f2 h2 H2 (callP C i sh l z h2) fun v f' h' H' => ∀ z, VR Y.K f' h'.size H' v z → Q z H') I1
    ⟨f1, ms, h1, r1, r.sr x1 sr, q1.bind.mono fun l h1 f1 H1 eq e1 r1 g1 xs rx => ⟨f1, h1, l, e1, r1, lk _ _ _ _ eq, rx, g1⟩⟩) fun ws s2 ⟨ys, H2, I2, ry, f2, h2', z, x2, r2, l2, v2, q2⟩ => ⟨I2.kIn, ?_⟩
  rw [kw_names, hks]
  exact call_end g hh F (B _ kn sh hsh) I2 rv ry r2 l1 l2 (r1.vrs x2 v1) v2 q2
theorem c_call0 (g : Good T Y W C CX lv inB N sc X) (hh : T.hot = false) {i : Nat} {x : Str} {kws : List Keyword} {kn : List Nat} {sh : List Src} (e1 : x = T.fname i) (e2 : T.fok i = true) (e3 : glB sc x = true) (e4 : (x == ("__debug__" : Str)) = false)
    (hk : PK X kws (rdA Y W mk)) (hall : (kws.all fun k => k.1.isSome) = true) (hks : kws.filterMap (·.1) = kn.map T.fnm) (hsh : T.sh i 0 kn sh = true)
    (lk : ∀ ms h l h', mk ms h = .ok l h' → l.length = kn.length) :
    PE X (.Call (.Name x p) [] kws pos) (rdE Y W fun σ h => (mk σ h).bind fun ws h2 => callP C i sh [] ws h2) := by
  refine ⟨fun pins s σ H Q I q => ?_⟩
  obtain ⟨A, fd, h1, h2, F, B⟩ := g.fc.fd i e2
  obtain ⟨a1, a2⟩ := kw_some (env := X.env) (pos := pos) hall
  refine wpAny_Call_Name_kw (ld_glob I (g.gl e3) (e1 ▸ h1) ?_ e4)
  refine PySem.W.callWith_KW0 (h₀ := X.base) I.ok.mod.kin (g.K ▸ h2) a1 ?_ (by rw [a2]; rfl)
  obtain ⟨f, ms, h, r, sr, q⟩ := q
  refine thn (hk.run pos pins s σ H (fun xs H2 => ∃ f2 h2 z, Rl Y.K Y.Z f2 h2 H2 ∧ z.length = kn.length ∧ VRs Y.K f2 h2.size H2 z xs ∧ G Y W σ f2 h2 H2 (callP C i sh [] z h2) fun v f' h' H' => ∀ z, VR Y.K f' h'.size H' v z → Q z H') I
    ⟨f, ms, h, r, sr, q.bind.mono fun l h1 f1 H1 eq e1 r1 g1 xs rx => ⟨f1, h1, l, r1, lk _ _ _ _ eq, rx, g1⟩⟩) fun ws s2 ⟨ys, H2, I2, ry, f2, h2', z, r2, l2, v2, q2⟩ => ⟨I2.kIn, ?_⟩
  rw [kw_names, hks]
  exact call_end g hh F (B _ kn sh hsh) I2 .nil ry r2 rfl l2 .nil v2 q2

/-! ### built-in ones -/
theorem boot_bif (b : Bif) : bootBuiltins (bName b) = some (bVal b) := by cases b <;> decide +kernel
theorem bName_in (b : Bif) : bName b ∈ btNames := by cases b <;> decide +kernel
theorem bName_ne (b : Bif) : bName b ≠ "__name__" ∧ (bName b == ("__debug__" : Str)) = false := by cases b <;> decide +kernel
theorem hd_star {e : Expr} {es : List Expr} (hs : noStars (e :: es) = true) : isStar e = false ∧ noStars es = true := by
  unfold noStars at hs ⊢
  rw [List.all_cons, Bool.and_eq_true] at hs
  exact ⟨by simpa using hs.1, hs.2⟩
theorem v_args {k : List MV → MH → R MV} {σ : L2.St} {H : Hp} {Q : VK} (q : rdE Y W (fun σ h => (me σ h).bind k) σ H Q) : rdA Y W me σ H fun xs H1 => rC Y k xs H1 Q := by
  obtain ⟨f, ms, h, r, sr, q⟩ := q
  exact ⟨f, ms, h, r, sr, q.bind.mono fun l h1 f1 H1 eq e1 r1 g1 xs rx => ⟨f1, h1, l, r1, rx, W, σ, g1⟩⟩
theorem c_bif (g : Good T Y W C CX lv inB N sc X) (b : Bif) (hh : T.hot = false ∨ hotB b = true) {x : Str} (e1 : x = bName b) (e3 : glB sc x = true) (ha : PA X (e :: es) (rdA Y W me)) (hs : noStars (e :: es) = true) :
    PE X (.Call (.Name x p) (e :: es) [] pos) (rdE Y W fun σ h => (me σ h).bind fun vs h1 => bifM T.P b vs h1) := by
  subst e1
  have han : CallR X (.builtin "any") (rAny X.K) := by
    cases q : T.hot with
    | false => exact cr_any (g.calm q)
    | true => exact cr_any_hot (g.hot q).1
  have rule := call_bif (P := T.P) (b := b) g.fc.shw g.K (hh.imp_left g.calm) han g.gd g.un
  have n := bName_ne b
  have bb := boot_bif b
  obtain ⟨h1, h2⟩ := hd_star hs
  have hm := g.bt (bName_in b)
  have gl := g.gl e3
  have fin : PE X (.Call (.Name (bName b) p) (e :: es) [] pos) (tCB (rC Y (bifM T.P b)) (rdA Y W me)) := by
    cases b <;> first
      | exact pe_callB rule gl hm bb ha n.1 n.2 (star_cons h1) (star_any h2)
      | exact pe_callTy rule gl hm bb ha n.1 n.2 (star_cons h1) (star_any h2)
  exact fin.conv fun σ H Q q => v_args q
theorem boot_ty {t : Ty} {S : String} (e : tyS t = some S) : bootBuiltins (tName t) = some (.type S) ∧ tName t ∈ btNames ∧ tName t ≠ "__name__" ∧ (tName t == ("__debug__" : Str)) = false := by
  cases t <;> cases e <;> decide +kernel
theorem boot_isi : bootBuiltins "isinstance" = some (.builtin "isinstance") := by decide +kernel
theorem c_isi (g : Good T Y W C CX lv inB N sc X) {t : Ty} {S : String} (et : tyS t = some S) {x y : Str} {py : Pos} (e1 : x = "isinstance") (e2 : glB sc x = true) (e3 : y = tName t) (e4 : glB sc y = true) (ha : PE X a (rdE Y W ma)) (hs : isStar a = false) :
    PE X (.Call (.Name x p) [a, .Name y py] [] pos) (rdE Y W fun σ h => (ma σ h).bind fun x h1 => bR (isiM T.P x t h1) h1) := by
  subst e1 e3
  obtain ⟨b1, b2, b3, b4⟩ := boot_ty et
  have py' : PE X (.Name (tName t) py) (tC (.ty S)) := pe_bltn (g.gl e4) (g.bt b2) b1 rfl b3 b4
  have eS : V.ty S = tyV' Y.Z t := by cases t <;> cases et <;> rfl
  have pa : PA X [a, .Name (tName t) py] (tCons (rdE Y W ma) (tCons (tC (.ty S)) tNil)) := pa_cons ha (pa_cons py' pa_nil) (star_cons hs)
  refine (pe_callB (call_isiM (t := t) g.K g.fc.isf) (g.gl e2) (g.bt (by decide)) boot_isi pa (by decide) (by decide) (star_cons hs) rfl).conv fun σ H Q q => ?_
  refine (rd_seq q).mono fun x H1 ⟨f1, h1, m, r, rm, g1⟩ => ?_
  exact ⟨f1, h1, m, x, by rw [← eS], r, rm, W, σ, g1⟩
theorem c_isiO (g : Good T Y W C CX lv inB N sc X) {c : Nat} (hc : T.cok c = true) {x y : Str} {py : Pos} (e1 : x = "isinstance") (e2 : glB sc x = true) (e3 : y = T.cname c) (e4 : glB sc y = true) (e5 : (y == ("__debug__" : Str)) = false) (ha : PE X a (rdE Y W ma)) (hs : isStar a = false) :
    PE X (.Call (.Name x p) [a, .Name y py] [] pos) (rdE Y W fun σ h => (ma σ h).bind fun x h1 => bR (isiM T.P x (.own c) h1) h1) := by
  subst e1 e3
  obtain ⟨hm, _⟩ := g.fc.mkc c hc
  have py' : PE X (.Name (T.cname c) py) (tC (.ref (Y.Z.ca c))) := pe_glob (g.gl e4) hm rfl e5
  have pa : PA X [a, .Name (T.cname c) py] (tCons (rdE Y W ma) (tCons (tC (.ref (Y.Z.ca c))) tNil)) := pa_cons ha (pa_cons py' pa_nil) (star_cons hs)
  refine (pe_callB (call_isiM (t := .own c) g.K g.fc.isf) (g.gl e2) (g.bt (by decide)) boot_isi pa (by decide) (by decide) (star_cons hs) rfl).conv fun σ H Q q => ?_
  refine (rd_seq q).mono fun x H1 ⟨f1, h1, m, r, rm, g1⟩ => ?_
  exact ⟨f1, h1, m, x, rfl, r, rm, W, σ, g1⟩

/-! ### methods of built-in classes -/
theorem noSup_base {o : Expr} {x : Str} {env : Env} {t : Sem Value} (h : noSup o = true) : attributeBase o x env t = t := by
  unfold attributeBase
  split
  · rename_i id _ _
    unfold noSup at h
    simp only [Bool.not_eq_true'] at h
    have : (id != "super") = true := by rw [bne, h]; rfl
    rw [this]
    rfl
  · rfl
theorem m_facts {m : Nat} {y : Str} (e : mName m = some y) : PlainAttrs (mTy m) ∧ Slot (mTy m) y (mId m) ∧ typeOf (.builtin (mId m)) = pure (.type "method_descriptor") := by
  match m, e with
  | 0, e => cases e; exact ⟨F.plainAttrs_list, F.slot_list_append, F.type_list_append⟩
  | 1, e => cases e; exact ⟨F.plainAttrs_str, F.slot_str_join, F.type_str_join⟩
  | 2, e => cases e; exact ⟨F.plainAttrs_list, F.slot_list_index, F.type_list_index⟩
  | 6, e => cases e; exact ⟨F.plainAttrs_list, F.slot_list_pop, F.type_list_pop⟩
  | 7, e => cases e; exact ⟨F.plainAttrs_list, F.slot_list_reverse, F.type_list_reverse⟩
theorem metK_ty {P : Prog} {m : Nat} {y : Str} {v : MV} {x : V} {k : MK} {h' : MH} (e : mName m = some y) (r : Rl Y.K Y.Z f h H) (rv : VR Y.K f h.size H v x) (ek : metK P m v h = .ok k h') : tyV Y.K (mTy m) x H ∧ k = .bt ∧ h' = h := by
  have hlt : m < 100 := by
    match m, e with
    | 0, _ => decide
    | 1, _ => decide
    | 2, _ => decide
    | 6, _ => decide
    | 7, _ => decide
  unfold metK at ek
  split at ek
  · rename_i n
    obtain ⟨hn, rfl⟩ := rv.ref_inv
    split at ek
    · rw [if_pos hlt] at ek
      cases ek
    · rename_i l en
      obtain ⟨vs, e1, t⟩ := r.ob _ _ en
      split at ek
      · rename_i hm
        cases ek
        rcases hm with rfl | rfl | rfl | rfl
        · exact ⟨.inl ⟨rfl, vs, SqL.of e1⟩, rfl, rfl⟩
        · exact ⟨.inl ⟨rfl, vs, SqL.of e1⟩, rfl, rfl⟩
        · exact ⟨.inl ⟨rfl, vs, SqL.of e1⟩, rfl, rfl⟩
        · exact ⟨.inl ⟨rfl, vs, SqL.of e1⟩, rfl, rfl⟩
      · cases ek
    · cases ek
  · obtain ⟨rfl, _⟩ := rv.str_inv
    split at ek
    · rename_i hm
      cases ek
      subst hm
      exact ⟨rfl, rfl, rfl⟩
    · cases ek
  · obtain ⟨p, vs, rfl, sq, t⟩ := rv.kl_inv
    split at ek
    · rename_i hm
      cases ek
      subst hm
      exact ⟨.inl ⟨rfl, vs, sq.sq⟩, rfl, rfl⟩
    · cases ek
  · cases ek
theorem few_ok {env : Env} {pos : Pos} : ∀ {es : List Expr}, noStars es = true → (backTo pos (starEach es env)).all (fun x => !x.1) = true
  | [], _ => rfl
  | e :: es, h => by
    obtain ⟨a, b⟩ := hd_star h
    rw [star_cons a]
    show (true && (backTo pos (starEach es env)).all (fun x => !x.1)) = true
    rw [few_ok b]
    rfl
theorem c_bm (g : Good T Y W C CX lv inB N sc X) {m : Nat} {y : Str} {ap : Pos} {sh : List Src} (e1 : mName m = some y) (ho : PE X a (rdE Y W ma)) (ha : PA X (e :: es) (rdA Y W me)) (hb : noSup a = true) (hs : noStars (e :: es) = true)
    (hl : (ap.endLine == p.line) = true) (hf : (e :: es).length < 20) : PE X (.Call (.Attribute a y ap) (e :: es) [] p)
    (rdE Y W fun σ h => (ma σ h).bind fun x h1 => (metK T.P m x h1).bind fun k h2 => (me σ h2).bind fun vs h3 => metC C k m sh x vs [] h3) := by
  obtain ⟨pa, sl, ty⟩ := m_facts e1
  obtain ⟨h1, h2⟩ := hd_star hs
  refine (pe_bm pa sl ty (mt_met g.K m) ho ha (noSup_base hb) ?_ hl (star_cons h1) (star_any h2)).conv fun σ H Q q => ?_
  · rw [few_ok hs]
    show (true && true && decide ((e :: es).length + 0 + 0 < 30)) = true
    rw [decide_eq_true (by omega)]
    rfl
  obtain ⟨f, ms, h, r, sr, q⟩ := q
  refine ⟨f, ms, h, r, sr, q.bind.mono fun v h1 f1 H1 eq x1 r1 g1 x rx => ?_⟩
  cases ek : metK T.P m v h1 with
  | ex c l h2 =>
    exfalso
    unfold metK at ek
    split at ek
    · split at ek
      · split at ek
        · cases ek
        · split at ek <;> cases ek
      · split at ek <;> cases ek
      · cases ek
    · split at ek <;> cases ek
    · split at ek <;> cases ek
    · cases ek
  | stk => rw [ek] at g1; exact g1.elim
  | ok k h2 =>
    obtain ⟨t1, rfl, rfl⟩ := metK_ty e1 r1 rx ek
    rw [ek] at g1
    have g2 : G Y W σ f1 h2 H1 ((me ms h2).bind fun vs h3 => metC C .bt m sh v vs [] h3) fun v f' h' H' => ∀ z, VR Y.K f' h'.size H' v z → Q z H' := g1
    refine ⟨g.K ▸ t1, f1, ms, h2, r1, r.sr x1 sr, g2.bind.mono fun l h3 f3 H3 _ x3 r3 g3 xs rl => ?_⟩
    exact ⟨f3, h3, v, l, r3, r1.vr x3 rx, rl, W, σ, g3⟩

/-! ### text[::-1] -/
theorem pick_all {α : Type} : ∀ m : List α, (List.range m.length).filterMap (fun k => m[k]?) = m
  | [] => rfl
  | x :: xs => by
    rw [List.length_cons, List.range_succ_eq_map]
    show x :: ((List.range xs.length).map Nat.succ).filterMap (fun k => (x :: xs)[k]?) = _
    rw [List.filterMap_map]
    exact congrArg (x :: ·) (pick_all xs)
theorem fm_congr {α β : Type} {f g : α → Option β} : ∀ {l : List α}, (∀ x ∈ l, f x = g x) → l.filterMap f = l.filterMap g
  | [], _ => rfl
  | x :: xs, h => by
    rw [List.filterMap_cons, List.filterMap_cons, h x List.mem_cons_self, fm_congr fun y hy => h y (List.mem_cons_of_mem _ hy)]
theorem pick_rev (l : List Nat) : ((List.range l.length).map fun k => l.length - 1 - k).filterMap (fun k => l[k]?) = l.reverse := by
  have e := pick_all l.reverse
  rw [List.length_reverse] at e
  rw [List.filterMap_map, ← e]
  refine fm_congr fun k hk => ?_
  have hk' : k < l.length := List.mem_range.mp hk
  rw [List.getElem?_reverse hk']
  rfl
theorem c_rev (g : Good T Y W C CX lv inB N sc X) (ha : PE X a (rdE Y W ma)) {k : Nat} {p1 p2 p3 : Pos} : PE X (.Subscript a (.Slice none none (some (.UnaryOp .USub (.Constant (.int 1) k p1) p2)) p3) p) (rdE Y W fun σ h => (ma σ h).bind fun x h1 => revM x h1) := by
  refine ⟨fun pins s σ H Q I q => ?_⟩
  refine Subscript_ (thn (ha.run pins s σ H _ I (rd_seq q)) fun v s1 ⟨x, H1, I1, r1, f1, h1, m, rl, rm, g1⟩ => ?_)
  have part : PO X (some (.UnaryOp .USub (.Constant (.int 1) k p1) p2)) (tPart (tUn (rU fun i => .int (-i)) (tC (.int 1)))) := po_some (pe_un un_neg pe_int)
  refine wpAny_Slice (thn (po_none.run pins s1 σ H1 (fun o H2 => o = none ∧ H2 = H1) I1 ⟨rfl, rfl⟩) fun vl s2 ⟨o1, H2, I2, pl, e1, e2⟩ => thn (po_none.run pins s2 σ H2 (fun o H3 => o = none ∧ H3 = H2) I2 ⟨rfl, rfl⟩) fun vu s3 ⟨o2, H3, I3, pu, e3, e4⟩ => ?_)
  refine thn (part.run pins s3 σ H3 (fun o H4 => o = some (-1) ∧ H4 = H3) I3 ⟨1, rfl, -1, rfl, rfl, rfl⟩) fun vs s4 ⟨o3, H4, I4, ps, e5, e6⟩ => ?_
  subst e1 e2 e3 e4 e5 e6
  cases m with
  | str z =>
    obtain ⟨rfl, tz⟩ := rm.str_inv
    obtain ⟨tk, rfl⟩ := r1
    obtain rfl : vl = .none := by
      cases pl
      rfl
    obtain rfl : vu = .none := by
      cases pu
      rfl
    obtain ⟨tk2, rfl⟩ : ∃ t, vs = .int (-1) t := by
      cases ps
      exact ⟨_, rfl⟩
    have I5 : Inv X pins σ H4 { s4 with heap := s4.heap.push { cls := .type "slice", data := .fields #[.none, .none, .int (-1) tk2] } } := I4.kept (t' := s4.toks) fun b ob q => Heap.get?_push_of_some _ q
    show wpAny (model X.prog X.w) X.A (subscriptTail a (.Slice none none (some (.UnaryOp .USub (.Constant (.int 1) k p1) p2)) p3) (.str ⟨z.toArray⟩ tk) (.ref s4.heap.objs.size)) (EP X pins σ Q) X.xe { s4 with heap := s4.heap.push { cls := .type "slice", data := .fields #[.none, .none, .int (-1) tk2] } }
    refine tail_any (ops := [.str ⟨z.toArray⟩ tk, .ref s4.heap.objs.size]) (typeIs_str _ _ _) F.slot_str_getitem.lookup (wpAny_getItem_str_slice (l := none) (u := none) (st := some (-1, tk2)) ⟨_, Heap.get?_push_size _ rfl, rfl, rfl⟩ rfl ?_) (by with_unfolding_all rfl)
    have es : (⟨(((slicePicked ⟨z.toArray⟩ none none (some (-1, tk2))).filterMap ((⟨z.toArray⟩ : Str).cps[·]?)).toArray)⟩ : Str) = ⟨z.reverse.toArray⟩ := by
      have e1 : slicePicked ⟨z.toArray⟩ none none (some (-1, tk2)) = (List.range z.length).map fun k => z.length - 1 - k := by
        have e2 : (⟨z.toArray⟩ : Str).length = z.length := by show z.toArray.size = _; simp
        show Builtin.Str.strSliceIndices none none (-1) (⟨z.toArray⟩ : Str).length = _
        rw [e2]
        exact PySem.W.krv_sliceRange z.length
      rw [e1]
      congr 2
      rw [← pick_rev z]
      exact fm_congr fun k _ => by simp
    have ed : sliceMade ⟨z.toArray⟩ tk none none (some (-1, tk2)) = .str ⟨z.reverse.toArray⟩ := by
      rw [← es]
      rfl
    rw [ed]
    refine ⟨?_, .str ⟨z.reverse.toArray⟩, H4, I5.tok _, ⟨_, rfl⟩, ?_⟩
    · show z.reverse.toArray.size ≤ _
      simpa using tz.1
    · exact G.ok rl g1 _ (.str ⟨by rw [List.length_reverse]; exact tz.1, fun c hc => tz.2 c (List.mem_reverse.mp hc)⟩)
  | _ => exact g1.elim
end
end DM
set_option Elab.async false
set_option linter.all false
set_option maxRecDepth 100000
set_option maxHeartbeats 4000000
/-! S8b: new instances, own methods. -/
namespace DM
open PySem L2 PyProof.Rows PySem.Spec
section
variable {T : Tab} {Y : Ctx} {W : Wish} {C : Nat → List MV → MH → R MV} {CX : CXT} {lv : Nat} {inB : Bool} {N : List Str} {sc : Scope} {X : Cx}
variable {σ : L2.St} {H : Hp} {f : Nat → Addr} {h : MH} {ms : En}
variable {a b c e : Expr} {ma mb mc : En → MH → R MV} {p pos : Pos} {es : List Expr} {me mk : En → MH → R (List MV)}
theorem mk_end (g : Good T Y W C CX lv inB N sc X) (hh : T.hot = false) {c : Nat} {sh : List Src} {kn : List Nat} {A : Addr} {fd : FuncData} (M : Mk Y.K (Y.Z.ca c) A) (F : FnG X.prog X.w Y.K X.mg X.base CX lv A fd (T.fps (T.P.cls c).ini) (spM Y T C (T.P.cls c).ini))
    {n : Nat} (B : FormS T Y.K (T.P.cls c).ini fd n kn sh)
    {pins : List (Addr × Obj)} {s : Shared} {Q : VK} {us ws : List Value} {vs ys : List V} {ms zs : List MV} (I : Inv X pins σ H s) (r1 : Vals vs us) (r2 : Vals ys ws) (r : Rl Y.K Y.Z f h H)
    (l1 : ms.length = n) (l2 : zs.length = kn.length) (v1 : VRs Y.K f h.size H ms vs) (v2 : VRs Y.K f h.size H zs ys) (q : G Y W σ f h H (mkM T.P C c sh ms zs h) fun v f' h' H' => ∀ z, VR Y.K f' h'.size H' v z → Q z H') :
    wpAny (model X.prog X.w) X.A (call (.ref (Y.Z.ca c)) us ((kn.map T.fnm).zip ws)) (EP X pins σ Q) X.xe s := by
  obtain ⟨bs, hb, hB, hP⟩ := B us ws (by rw [← r1.length, ← v1.length]; exact l1) (by rw [← r2.length, ← v2.length]; exact l2)
  unfold mkM at q
  split at q
  · rename_i l el
    obtain ⟨xs, x1, x2⟩ := hP ms zs vs ys l f h.size H el r1 v1 r2 v2
    refine run_makeG (g.K ▸ M) (g.K ▸ F : FnG X.prog X.w X.K X.mg X.base CX lv A fd (T.fps (T.P.cls c).ini) (spM Y T C (T.P.cls c).ini)) (g.room hh) g.gd (g.pass σ) I (fun s' k u => hB s' u (g.In k)) x1 fun x dx hx hdx hne => ?_
    have e1 : Ext f h.size H f h.size (upd H dx (.own x)) := Ext.aside hdx
    have ra := r.aside (u := .own x) hdx
    have hx' : upd H dx (.own x) x = none := by rw [upd_ne (fun z => hne z.symm)]; exact hx
    obtain ⟨e2, rb⟩ := ra.push (o := .ins c []) (u := .ins (Y.Z.ca c) dx []) hx' ⟨dx, [], upd_same, rfl, fun p hp => by cases hp⟩
    have e12 := e1.trans e2
    refine ⟨?_, nxt f h.size x, h.push (.ins c []), .ref h.size :: l, rb, .cons ?_ (r.vrs e12 x2), ?_⟩
    · rw [List.length_cons, x1.length]
      exact hb
    · have := VR.ref (K := Y.K) (f := nxt f h.size x) (H := upd (upd H dx (.own x)) x (.ins (Y.Z.ca c) dx [])) (N := (h.push (.ins c [])).size) (n := h.size) (by rw [MH.size_push]; omega)
      rwa [nxt_at] at this
    · refine ((G.shift e12 q).bind.mono fun v h1 f1 H1 _ x3 r3 g3 z rz => ?_).wish fun c d H' z => z
      cases v with
      | non =>
        refine ⟨rz.non_inv, G.ok r3 g3 (.ref x) ?_⟩
        have hs : h.size < (h.push (.ins c [])).size := by rw [MH.size_push]; omega
        have := VR.ref (K := Y.K) (f := f1) (H := H1) (N := h1.size) (n := h.size) (Nat.lt_of_lt_of_le hs x3.sz)
        rwa [x3.ag _ hs, nxt_at] at this
      | _ => exact g3.elim
  · exact q.elim
theorem c_mk (g : Good T Y W C CX lv inB N sc X) (hh : T.hot = false) {c : Nat} {x : Str} {kws : List Keyword} {kn : List Nat} {sh : List Src} (e1 : x = T.cname c) (e2 : T.cok c = true) (e3 : glB sc x = true) (e4 : (x == ("__debug__" : Str)) = false)
    (ha : PA X (e :: es) (rdA Y W me)) (hk : PK X kws (rdA Y W mk)) (hs : noStars (e :: es) = true) (hall : (kws.all fun k => k.1.isSome) = true) (hks : kws.filterMap (·.1) = kn.map T.fnm) (hsh : T.shc c (e :: es).length kn sh = true)
    (le : ∀ ms h l h', me ms h = .ok l h' → l.length = (e :: es).length) (lk : ∀ ms h l h', mk ms h = .ok l h' → l.length = kn.length) :
    PE X (.Call (.Name x p) (e :: es) kws pos) (rdE Y W fun σ h => (me σ h).bind fun vs h1 => (mk σ h1).bind fun ws h2 => mkM T.P C c sh vs ws h2) := by
  refine ⟨fun pins s σ H Q I q => ?_⟩
  obtain ⟨h1, A, fd, M, F, B⟩ := g.fc.mkc c e2
  obtain ⟨a1, a2⟩ := kw_some (env := X.env) (pos := pos) hall
  have hst : isStar e = false := (hd_star hs).1
  refine wpAny_Call_Name_kw (ld_glob I (g.gl e3) (e1 ▸ h1) ?_ e4)
  refine PySem.W.callWith_KW (h₀ := X.base) I.ok.mod.kin (g.K ▸ M.kp) a1 ?_ (by rw [star_all hs, a2]; rfl) (star_cons hst)
  obtain ⟨f, ms, h, r, sr, q⟩ := q
  refine thn (ha.run pos pins s σ H (fun xs H1 => ∃ f1 h1 l, Ext f h.size H f1 h1.size H1 ∧ Rl Y.K Y.Z f1 h1 H1 ∧ l.length = (e :: es).length ∧ VRs Y.K f1 h1.size H1 l xs ∧ G Y W σ f1 h1 H1 ((mk ms h1).bind fun ws h2 => mkM T.P C c sh l ws h2) fun v f' h' H' => ∀ z, VR Y.K f' h'.size H' v z → Q z H') I
    ⟨f, ms, h, r, sr, q.bind.mono fun l h1 f1 H1 eq e1 r1 g1 xs rx => ⟨f1, h1, l, e1, r1, le _ _ _ _ eq, rx, g1⟩⟩) fun us s1 ⟨vs, H1, I1, rv, f1, h1, l, x1, r1, l1, v1, q1⟩ => ?_
  refine thn (hk.run pos pins s1 σ H1 (fun xs H2 => ∃ f2 h2 z, Ext f1 h1.size H1 f2 h2.size H2 ∧ Rl Y.K Y.Z f2 h2 H2 ∧ z.length = kn.length ∧ VRs Y.K f2 h2.size H2 z xs ∧ G Y W σ f2 h2 H2 (mkM T.P C c sh l z h2) fun v f' h' H' => ∀ z, VR Y.K f' h'.size H' v z → Q z H') I1
    ⟨f1, ms, h1, r1, r.sr x1 sr, q1.bind.mono fun l h1 f1 H1 eq e1 r1 g1 xs rx => ⟨f1, h1, l, e1, r1, lk _ _ _ _ eq, rx, g1⟩⟩) fun ws s2 ⟨ys, H2, I2, ry, f2, h2', z, x2, r2, l2, v2, q2⟩ => ⟨I2.kIn, ?_⟩
  rw [kw_names, hks]
  exact mk_end g hh M F (B _ kn sh hsh) I2 rv ry r2 l1 l2 (r1.vrs x2 v1) v2 q2
theorem c_mk0 (g : Good T Y W C CX lv inB N sc X) (hh : T.hot = false) {c : Nat} {x : Str} {kws : List Keyword} {kn : List Nat} {sh : List Src} (e1 : x = T.cname c) (e2 : T.cok c = true) (e3 : glB sc x = true) (e4 : (x == ("__debug__" : Str)) = false)
    (hk : PK X kws (rdA Y W mk)) (hall : (kws.all fun k => k.1.isSome) = true) (hks : kws.filterMap (·.1) = kn.map T.fnm) (hsh : T.shc c 0 kn sh = true)
    (lk : ∀ ms h l h', mk ms h = .ok l h' → l.length = kn.length) :
    PE X (.Call (.Name x p) [] kws pos) (rdE Y W fun σ h => (mk σ h).bind fun ws h2 => mkM T.P C c sh [] ws h2) := by
  refine ⟨fun pins s σ H Q I q => ?_⟩
  obtain ⟨h1, A, fd, M, F, B⟩ := g.fc.mkc c e2
  obtain ⟨a1, a2⟩ := kw_some (env := X.env) (pos := pos) hall
  refine wpAny_Call_Name_kw (ld_glob I (g.gl e3) (e1 ▸ h1) ?_ e4)
  refine PySem.W.callWith_KW0 (h₀ := X.base) I.ok.mod.kin (g.K ▸ M.kp) a1 ?_ (by rw [a2]; rfl)
  obtain ⟨f, ms, h, r, sr, q⟩ := q
  refine thn (hk.run pos pins s σ H (fun xs H2 => ∃ f2 h2 z, Rl Y.K Y.Z f2 h2 H2 ∧ z.length = kn.length ∧ VRs Y.K f2 h2.size H2 z xs ∧ G Y W σ f2 h2 H2 (mkM T.P C c sh [] z h2) fun v f' h' H' => ∀ z, VR Y.K f' h'.size H' v z → Q z H') I
    ⟨f, ms, h, r, sr, q.bind.mono fun l h1 f1 H1 eq e1 r1 g1 xs rx => ⟨f1, h1, l, r1, lk _ _ _ _ eq, rx, g1⟩⟩) fun ws s2 ⟨ys, H2, I2, ry, f2, h2', z, r2, l2, v2, q2⟩ => ⟨I2.kIn, ?_⟩
  rw [kw_names, hks]
  exact mk_end g hh M F (B _ kn sh hsh) I2 .nil ry r2 rfl l2 .nil v2 q2

/-! ### own methods -/
theorem kw_form {env : Env} {pos : Pos} : ∀ {kws : List Keyword}, (kws.all fun k => k.1.isSome) = true → (backToKw pos (keywordEach kws env)).all (fun x => x.1.isSome) = true
  | _, h => (kw_some h).1
theorem meth_tree {o : Expr} {m : Str} {apos pos : Pos} {env : Env} {args : List Expr} {kws : List Keyword} (hb : noSup o = true) (hs : noStars args = true) (hall : (kws.all fun k => k.1.isSome) = true) (hl : (apos.endLine == pos.line) = true)
    (h1 : args.length < 12) (h2 : kws.length < 12) : eval (.Call (.Attribute o m apos) args kws pos) env = (do
      let ov ← eval o env
      standAt apos.atName
      let (f, first) ← holding [ov] (getMethod ov m (plainOf o env))
      callWith pos f first (backTo pos (starEach args env)) (backToKw pos (keywordEach kws env))) := by
  have hf : methodCallForm (args.length + kws.length) (backTo pos (starEach args env)) (backToKw pos (keywordEach kws env)) = true := by
    unfold methodCallForm
    rw [few_ok hs, kw_form hall]
    have : args.length + kws.length + (if (backToKw pos (keywordEach kws env)).isEmpty = true then 0 else 1) < 30 := by split <;> omega
    simpa using this
  rw [arm_eval_Call, noSup_base hb]
  congr 1
  funext ov
  congr 1
  funext _
  rw [mcall_line hf hl]
theorem metK_own {P : Prog} {m : Nat} {v : MV} {x : V} {k : MK} {h' : MH} (hm : 100 ≤ m) (r : Rl Y.K Y.Z f h H) (rv : VR Y.K f h.size H v x) (ek : metK P m v h = .ok k h') : h' = h ∧ ∃ n c fs i dx gs, v = .ref n ∧ x = .ref (f n) ∧ H (f n) = some (.ins (Y.Z.ca c) dx gs) ∧ FRs Y.K Y.Z f h.size H fs gs ∧ (∀ p ∈ fs, Y.Z.kn p.1 = true) ∧
    fldN m (P.cls c).met = some i ∧ k = .own i := by
  unfold metK at ek
  split at ek
  · rename_i n
    obtain ⟨hn, rfl⟩ := rv.ref_inv
    split at ek
    · rename_i c fs en
      rw [if_neg (by omega)] at ek
      obtain ⟨dx, gs, e1, e2, e3⟩ := r.ob _ _ en
      split at ek
      · rename_i i ei
        cases ek
        exact ⟨rfl, n, c, fs, i, dx, gs, rfl, rfl, e1, e2, e3, ei, rfl⟩
      · cases ek
    · split at ek
      · omega
      · cases ek
    · cases ek
  · split at ek
    · omega
    · cases ek
  · split at ek
    · omega
    · cases ek
  · cases ek
theorem metK_noex {P : Prog} {m : Nat} {v : MV} {c : Nat} {l : List MV} {h' : MH} (ek : metK P m v h = .ex c l h') : False := by
  unfold metK at ek
  split at ek
  · split at ek
    · split at ek
      · cases ek
      · split at ek <;> cases ek
    · split at ek <;> cases ek
    · cases ek
  · split at ek <;> cases ek
  · split at ek <;> cases ek
  · cases ek
theorem look_none {Z : Env1} {K : KW} {y : Str} (hy : ∀ i, Z.kn i = true → Z.fnm i ≠ y) : ∀ {fs : List (Nat × MV)} {gs : List (Str × V)}, FRs K Z f h.size H fs gs → (∀ p ∈ fs, Z.kn p.1 = true) → gs.lookup y = none
  | [], gs, e, _ => by
    have e : gs = [] := e
    subst e
    rfl
  | (j, m) :: r, gs, ⟨x, ys, e, a, b⟩, hk => by
    subst e
    have hj : Z.kn j = true := hk (j, m) List.mem_cons_self
    rw [List.lookup_cons, show (y == Z.fnm j) = false from beq_eq_false_iff_ne.mpr fun z => hy j hj z.symm]
    exact look_none hy b fun p hp => hk p (List.mem_cons_of_mem _ hp)
theorem own_end (g : Good T Y W C CX lv inB N sc X) (hh : T.hot = false) {i : Nat} {sh : List Src} {kn : List Nat} {A : Addr} {fd : FuncData} (F : FnG X.prog X.w Y.K X.mg X.base CX lv A fd (T.fps i) (spM Y T C i))
    {n : Nat} (B : FormS T Y.K i fd n kn sh)
    {pins : List (Addr × Obj)} {s : Shared} {Q : VK} {us ws : List Value} {vs ys : List V} {ms zs : List MV} {m0 : MV} {v0 : V} {u0 : Value} (I : Inv X pins σ H s) (r0 : RelV v0 u0) (r1 : Vals vs us) (r2 : Vals ys ws) (r : Rl Y.K Y.Z f h H)
    (l1 : ms.length = n) (l2 : zs.length = kn.length) (v00 : VR Y.K f h.size H m0 v0) (v1 : VRs Y.K f h.size H ms vs) (v2 : VRs Y.K f h.size H zs ys) {m : Nat} (q : G Y W σ f h H (metC C (.own i) m sh m0 ms zs h) fun v f' h' H' => ∀ z, VR Y.K f' h'.size H' v z → Q z H') :
    wpAny (model X.prog X.w) X.A (call (.ref A) (u0 :: us) ((kn.map T.fnm).zip ws)) (EP X pins σ Q) X.xe s := by
  obtain ⟨bs, hb, hB, hP⟩ := B us ws (by rw [← r1.length, ← v1.length]; exact l1) (by rw [← r2.length, ← v2.length]; exact l2)
  unfold metC at q
  simp only at q
  split at q
  · rename_i l el
    obtain ⟨xs, x1, x2⟩ := hP ms zs vs ys l f h.size H el r1 v1 r2 v2
    have F' : FnG X.prog X.w X.K X.mg X.base CX lv A fd (T.fps i) (spM Y T C i) := g.K ▸ F
    exact run_fnG F' ((g.room hh).mono (Nat.le_succ _)) g.gd (g.pass σ) I (hB s u0 (g.In I.kIn)) (.cons r0 x1) ⟨by rw [List.length_cons, x1.length]; exact hb, f, h, m0 :: l, r, .cons v00 x2, q.wish fun c d H' z => z⟩
  · exact q.elim
/-- what is known behind the object and its method -/
theorem own_at (g : Good T Y W C CX lv inB N sc X) {m : Nat} (hm : 100 ≤ m) {k : MK → MH → R MV} {v : MV} {x : V} {Tt : MV → (Nat → Addr) → MH → Hp → Prop} (r : Rl Y.K Y.Z f h H) (rx : VR Y.K f h.size H v x)
    (q : G Y W σ f h H ((metK T.P m v h).bind k) Tt) : ∃ n c dx gs i A fd, x = .ref (f n) ∧ H (f n) = some (.ins (Y.Z.ca c) dx gs) ∧ Cls X.K (Y.Z.ca c) ∧ Meth X.K (Y.Z.ca c) (T.mnm m) A ∧ gs.lookup (T.mnm m) = none ∧
      FnG X.prog X.w Y.K X.mg X.base CX lv A fd (T.fps i) (spM Y T C i) ∧ (∀ n kn sh, T.shm m n kn sh = true → FormS T Y.K i fd n kn sh) ∧ G Y W σ f h H (k (.own i) h) Tt := by
  cases ek : metK T.P m v h with
  | ex c l h2 => exact (metK_noex ek).elim
  | stk => rw [ek] at q; exact q.elim
  | ok k' h2 =>
    obtain ⟨rfl, n, c, fs, i, dx, gs, rfl, rfl, e1, e2, e3, e4, rfl⟩ := metK_own hm r rx ek
    obtain ⟨c1, c2, A, fd, M, F, B⟩ := g.fc.me c m i e4
    rw [ek] at q
    exact ⟨n, c, dx, gs, i, A, fd, rfl, e1, g.K ▸ c1, g.K ▸ M, look_none (by rw [g.fc.Z]; exact c2) e2 e3, F, B, q⟩
theorem c_own (g : Good T Y W C CX lv inB N sc X) (hh : T.hot = false) {m : Nat} {y : Str} {ap : Pos} {kws : List Keyword} {kn : List Nat} {sh : List Src} (hm : 100 ≤ m) (e1 : y = T.mnm m) (ho : PE X a (rdE Y W ma))
    (ha : PA X (e :: es) (rdA Y W me)) (hk : PK X kws (rdA Y W mk)) (hb : noSup a = true) (hs : noStars (e :: es) = true) (hall : (kws.all fun k => k.1.isSome) = true) (hks : kws.filterMap (·.1) = kn.map T.fnm) (hsh : T.shm m (e :: es).length kn sh = true)
    (hl : (ap.endLine == pos.line) = true) (n1 : (e :: es).length < 12) (n2 : kws.length < 12)
    (le : ∀ ms h l h', me ms h = .ok l h' → l.length = (e :: es).length) (lk : ∀ ms h l h', mk ms h = .ok l h' → l.length = kn.length) :
    PE X (.Call (.Attribute a y ap) (e :: es) kws pos) (rdE Y W fun σ h => (ma σ h).bind fun x h1 => (metK T.P m x h1).bind fun k h2 => (me σ h2).bind fun vs h3 => (mk σ h3).bind fun ws h4 => metC C k m sh x vs ws h4) := by
  subst e1
  refine ⟨fun pins s σ H Q I q => ?_⟩
  obtain ⟨a1, a2⟩ := kw_some (env := X.env) (pos := pos) hall
  have hst : isStar e = false := (hd_star hs).1
  obtain ⟨f, ms, h, r, sr, q⟩ := q
  refine PySem.W.methodCall_KW (pl := plainOf a X.env) (thn (ho.run pins s σ H (fun x H1 => ∃ f1 h1 v, Ext f h.size H f1 h1.size H1 ∧ Rl Y.K Y.Z f1 h1 H1 ∧ VR Y.K f1 h1.size H1 v x ∧ G Y W σ f1 h1 H1 ((metK T.P m v h1).bind fun k h2 => (me ms h2).bind fun vs h3 => (mk ms h3).bind fun ws h4 => metC C k m sh v vs ws h4) fun v f' h' H' => ∀ z, VR Y.K f' h'.size H' v z → Q z H') I
    ⟨f, ms, h, r, sr, q.bind.mono fun v h1 f1 H1 eq x1 r1 g1 x rx => ⟨f1, h1, v, x1, r1, rx, g1⟩⟩) fun u s1 ⟨x, H1, I1, ru, f1, h1, v, x1, r1, rx, q1⟩ => ?_) (meth_tree hb hs hall hl n1 n2)
  obtain ⟨n, c, dx, gs, i, A, fd, rfl, e2, c1, M, lk0, F, B, q2⟩ := own_at g hm r1 rx q1
  obtain rfl : u = Value.ref (f1 n) := ru
  refine getmeth_ok I1 e2 c1 M lk0 ?_
  refine PySem.W.callWith_KW (first := [.ref (f1 n)]) (h₀ := X.base) I.ok.mod.kin M.kp a1 ?_ (by rw [star_all hs, a2]; rfl) (star_cons hst)
  have sr1 := r.sr x1 sr
  refine thn (ha.run pos pins s1 σ H1 (fun xs H2 => ∃ f2 h2 l, Ext f1 h1.size H1 f2 h2.size H2 ∧ Rl Y.K Y.Z f2 h2 H2 ∧ l.length = (e :: es).length ∧ VRs Y.K f2 h2.size H2 l xs ∧ G Y W σ f2 h2 H2 ((mk ms h2).bind fun ws h3 => metC C (.own i) m sh v l ws h3) fun v f' h' H' => ∀ z, VR Y.K f' h'.size H' v z → Q z H') I1
    ⟨f1, ms, h1, r1, sr1, q2.bind.mono fun l h2 f2 H2 eq x2 r2 g2 xs rl => ⟨f2, h2, l, x2, r2, le _ _ _ _ eq, rl, g2⟩⟩) fun us s2 ⟨vs, H2, I2, rv, f2, h2, l, x2, r2, l1, v1, q3⟩ => ?_
  refine thn (hk.run pos pins s2 σ H2 (fun xs H3 => ∃ f3 h3 z, Ext f2 h2.size H2 f3 h3.size H3 ∧ Rl Y.K Y.Z f3 h3 H3 ∧ z.length = kn.length ∧ VRs Y.K f3 h3.size H3 z xs ∧ G Y W σ f3 h3 H3 (metC C (.own i) m sh v l z h3) fun v f' h' H' => ∀ z, VR Y.K f' h'.size H' v z → Q z H') I2
    ⟨f2, ms, h2, r2, r1.sr x2 sr1, q3.bind.mono fun l h3 f3 H3 eq x3 r3 g3 xs rl => ⟨f3, h3, l, x3, r3, lk _ _ _ _ eq, rl, g3⟩⟩) fun ws s3 ⟨ys, H3, I3, ry, f3, h3, z, x3, r3, l2, v2, q4⟩ => ⟨I3.kIn, ?_⟩
  rw [kw_names, hks]
  exact own_end (v0 := V.ref (f1 n)) g hh F (B _ kn sh hsh) I3 rfl rv ry r3 l1 l2 (r2.vr x3 (r1.vr x2 rx)) (r2.vrs x3 v1) v2 q4
theorem c_own0 (g : Good T Y W C CX lv inB N sc X) (hh : T.hot = false) {m : Nat} {y : Str} {ap : Pos} {kws : List Keyword} {kn : List Nat} {sh : List Src} (hm : 100 ≤ m) (e1 : y = T.mnm m) (ho : PE X a (rdE Y W ma))
    (hk : PK X kws (rdA Y W mk)) (hb : noSup a = true) (hall : (kws.all fun k => k.1.isSome) = true) (hks : kws.filterMap (·.1) = kn.map T.fnm) (hsh : T.shm m 0 kn sh = true)
    (hl : (ap.endLine == pos.line) = true) (n2 : kws.length < 12) (lk : ∀ ms h l h', mk ms h = .ok l h' → l.length = kn.length) :
    PE X (.Call (.Attribute a y ap) [] kws pos) (rdE Y W fun σ h => (ma σ h).bind fun x h1 => (metK T.P m x h1).bind fun k h2 => (mk σ h2).bind fun ws h4 => metC C k m sh x [] ws h4) := by
  subst e1
  refine ⟨fun pins s σ H Q I q => ?_⟩
  obtain ⟨a1, a2⟩ := kw_some (env := X.env) (pos := pos) hall
  obtain ⟨f, ms, h, r, sr, q⟩ := q
  refine PySem.W.methodCall_KW (pl := plainOf a X.env) (thn (ho.run pins s σ H (fun x H1 => ∃ f1 h1 v, Ext f h.size H f1 h1.size H1 ∧ Rl Y.K Y.Z f1 h1 H1 ∧ VR Y.K f1 h1.size H1 v x ∧ G Y W σ f1 h1 H1 ((metK T.P m v h1).bind fun k h2 => (mk ms h2).bind fun ws h4 => metC C k m sh v [] ws h4) fun v f' h' H' => ∀ z, VR Y.K f' h'.size H' v z → Q z H') I
    ⟨f, ms, h, r, sr, q.bind.mono fun v h1 f1 H1 eq x1 r1 g1 x rx => ⟨f1, h1, v, x1, r1, rx, g1⟩⟩) fun u s1 ⟨x, H1, I1, ru, f1, h1, v, x1, r1, rx, q1⟩ => ?_) (meth_tree hb rfl hall hl (by decide) n2)
  obtain ⟨n, c, dx, gs, i, A, fd, rfl, e2, c1, M, lk0, F, B, q2⟩ := own_at g hm r1 rx q1
  obtain rfl : u = Value.ref (f1 n) := ru
  refine getmeth_ok I1 e2 c1 M lk0 ?_
  refine PySem.W.callWith_KW0 (first := [.ref (f1 n)]) (h₀ := X.base) I.ok.mod.kin M.kp a1 ?_ (by rw [a2]; rfl)
  refine thn (hk.run pos pins s1 σ H1 (fun xs H3 => ∃ f3 h3 z, Ext f1 h1.size H1 f3 h3.size H3 ∧ Rl Y.K Y.Z f3 h3 H3 ∧ z.length = kn.length ∧ VRs Y.K f3 h3.size H3 z xs ∧ G Y W σ f3 h3 H3 (metC C (.own i) m sh v [] z h3) fun v f' h' H' => ∀ z, VR Y.K f' h'.size H' v z → Q z H') I1
    ⟨f1, ms, h1, r1, r.sr x1 sr, q2.bind.mono fun l h3 f3 H3 eq x3 r3 g3 xs rl => ⟨f3, h3, l, x3, r3, lk _ _ _ _ eq, rl, g3⟩⟩) fun ws s3 ⟨ys, H3, I3, ry, f3, h3, z, x3, r3, l2, v2, q4⟩ => ⟨I3.kIn, ?_⟩
  rw [kw_names, hks]
  exact own_end (v0 := V.ref (f1 n)) g hh F (B _ kn sh hsh) I3 rfl .nil ry r3 rfl l2 (r1.vr x3 rx) .nil v2 q4

/-! ### o.f = v -/
theorem putFld_put {K : KW} {Z : Env1} {N : Nat} (inj : ∀ f g, Z.kn f = true → Z.kn g = true → Z.fnm f = Z.fnm g → f = g) {i : Nat} {v : MV} {x : V} (hi : Z.kn i = true) (rx : VR K f N H v x) :
    ∀ {fs : List (Nat × MV)} {gs : List (Str × V)}, FRs K Z f N H fs gs → (∀ p ∈ fs, Z.kn p.1 = true) → FRs K Z f N H (putFld i v fs) (L2.putF (Z.fnm i) x gs) ∧ (∀ p ∈ putFld i v fs, Z.kn p.1 = true) ∧ gs.length = fs.length
  | [], gs, e, _ => by
    have e : gs = [] := e
    subst e
    refine ⟨⟨x, [], rfl, rx, rfl⟩, fun p hp => ?_, rfl⟩
    rw [List.mem_singleton.mp (show p ∈ [(i, v)] from hp)]
    exact hi
  | (j, m) :: r, gs, ⟨y, ys, e, a, b⟩, hk => by
    subst e
    have hj : Z.kn j = true := hk (j, m) List.mem_cons_self
    obtain ⟨h1, h2, h3⟩ := putFld_put inj hi rx b fun p hp => hk p (List.mem_cons_of_mem _ hp)
    unfold putFld L2.putF
    by_cases hji : j = i
    · subst hji
      rw [if_pos rfl, if_pos rfl]
      refine ⟨⟨x, ys, rfl, rx, b⟩, fun p hp => ?_, by rw [List.length_cons, List.length_cons, h3]⟩
      rcases List.mem_cons.mp hp with rfl | hp
      · exact hj
      · exact hk p (List.mem_cons_of_mem _ hp)
    · rw [if_neg hji, if_neg fun z => hji (inj _ _ hj hi z)]
      refine ⟨⟨y, _, rfl, a, h1⟩, fun p hp => ?_, by rw [List.length_cons, List.length_cons, h3]⟩
      rcases List.mem_cons.mp hp with rfl | hp
      · exact hj
      · exact h2 p hp
theorem fld_len {K : KW} {Z : Env1} {N : Nat} : ∀ {fs : List (Nat × MV)} {gs : List (Str × V)}, FRs K Z f N H fs gs → gs.length = fs.length
  | [], gs, e => by
    have e : gs = [] := e
    subst e
    rfl
  | _ :: r, gs, ⟨y, ys, e, a, b⟩ => by
    subst e
    rw [List.length_cons, List.length_cons, fld_len b]
end
end DM
set_option Elab.async false
set_option linter.all false
set_option maxRecDepth 100000
set_option maxHeartbeats 4000000
/-! S8c: methods of dicts, sorted keys, a method with nothing told. -/
namespace DM
open PySem L2 PyProof.Rows PySem.Spec
section
variable {T : Tab} {Y : Ctx} {W : Wish} {C : Nat → List MV → MH → R MV} {CX : CXT} {lv : Nat} {inB : Bool} {N : List Str} {sc : Scope} {X : Cx}
variable {σ : L2.St} {H : Hp} {f : Nat → Addr} {h : MH} {ms : En}
variable {a b c e : Expr} {ma mb mc : En → MH → R MV} {p pos : Pos} {es : List Expr} {me mk : En → MH → R (List MV)}
theorem isDM_inv {x : MV} {h h' : MH} {u : Unit} (e : isDM x h = .ok u h') : h' = h ∧ ∃ n lk l, x = .ref n ∧ h.get n = some (.dct false lk l) := by
  unfold isDM at e
  split at e
  · rename_i n
    split at e
    · rename_i lk l en
      cases e
      exact ⟨rfl, n, lk, l, rfl, en⟩
    · cases e
  · cases e
theorem isDM_noex {x : MV} {h h' : MH} {k : Nat} {l : List MV} (e : isDM x h = .ex k l h') : False := by
  unfold isDM at e
  split at e
  · split at e <;> cases e
  · cases e
theorem G.isD {α : Type} {x : MV} {k : MH → R α} {Tt : α → (Nat → Addr) → MH → Hp → Prop} (g : G Y W σ f h H ((isDM x h).bind fun _ h2 => k h2) Tt) : (∃ n lk l, x = .ref n ∧ h.get n = some (.dct false lk l)) ∧ G Y W σ f h H (k h) Tt := by
  cases e : isDM x h with
  | ok u h1 =>
    obtain ⟨rfl, n, lk, l, ex, en⟩ := isDM_inv e
    rw [e] at g
    exact ⟨⟨n, lk, l, ex, en⟩, g⟩
  | ex c l h1 => exact (isDM_noex e).elim
  | stk => rw [e] at g; exact g.elim
theorem m1_of (g : Good T Y W C CX lv inB N sc X) {m : Str} {ap : Pos} (hb : noSup a = true) (hs : isStar b = false) (hl : (ap.endLine == p.line) = true) : M1 X a m ap b p where
  base := noSup_base hb
  few := by
    have hn : noStars [b] = true := by unfold noStars; simp [hs]
    rw [few_ok hn]
    rfl
  line := hl
  trees := by
    rw [star_cons hs]
    rfl
theorem m2_of (g : Good T Y W C CX lv inB N sc X) {m : Str} {ap : Pos} (hb : noSup a = true) (hs : isStar b = false) (ht : isStar c = false) (hl : (ap.endLine == p.line) = true) : M2 X a m ap b c p where
  base := noSup_base hb
  few := by
    have hn : noStars [b, c] = true := by unfold noStars; simp [hs, ht]
    rw [few_ok hn]
    rfl
  line := hl
  trees := by
    rw [star_cons hs, star_cons ht]
    rfl
theorem Rl.isD (r : Rl Y.K Y.Z f h H) {n : Nat} {lk : Bool} {l : List (MV × MV)} (en : h.get n = some (.dct false lk l)) : IsD H (f n) := by
  obtain ⟨kvs, e1, e2⟩ := r.ob _ _ en
  exact .inl ⟨kvs, DAt.rd e1⟩
theorem dx_ref {K : KW} {y : V} {o : Option V} {x : MV} {n : Nat} {lk : Bool} {l : List (MV × MV)} {k : MV} {om : Option MV} (r : Rl Y.K Y.Z f h H) (en : h.get n = some (.dct false lk l)) (rk : VR Y.K f h.size H k y) (e : dget h (.ref n) k = some om) : ∃ u, DGet H (f n) y u ∧ RO Y.K f h.size H om u := by
  have hn := MH.get_lt en
  unfold dget at e
  simp only [en] at e
  obtain ⟨kvs, e1, e2⟩ := r.ob _ _ en
  split at e
  · rename_i hk
    cases e
    have rd : Rd H (f n) (.dK kvs) := DAt.rd e1
    cases k <;> first | (cases hk; done) | skip
    · rename_i i
      cases rk.int_inv
      exact ⟨_, .inl ⟨kvs, .inl i, rd, rfl, rfl⟩, DKr.look (k := .int i) (y := .inl i) rfl e2⟩
    · rename_i s
      obtain ⟨rfl, ts⟩ := rk.str_inv
      exact ⟨_, .inl ⟨kvs, .inr ⟨s.toArray⟩, rd, rfl, rfl⟩, DKr.look (k := .str s) (y := .inr ⟨s.toArray⟩) ⟨rfl, ts⟩ e2⟩
  · cases e
theorem RO.getD {o : Option MV} {u : Option V} {m : MV} {v : V} (r : RO Y.K f h.size H o u) (d : VR Y.K f h.size H m v) : VR Y.K f h.size H (o.getD m) (u.getD v) := by
  cases o with
  | none =>
    cases u with
    | none => exact d
    | some _ => exact r.elim
  | some m =>
    cases u with
    | none => exact r.elim
    | some v => exact r
/-- d.get(k), d.pop(k) -/
theorem c_dm1 (g : Good T Y W C CX lv inB N sc X) {k : Nat} {m : Str} {ap : Pos} (em : some m = dmN1 k) (ho : PE X a (rdE Y W ma)) (hy : PE X b (rdE Y W mb)) (hb : noSup a = true) (hs : isStar b = false) (hl : (ap.endLine == p.line) = true) :
    PE X (.Call (.Attribute a m ap) [b] [] p) (rdE Y W fun σ h => (ma σ h).bind fun x h1 => (isDM x h1).bind fun _ h2 => (mb σ h2).bind fun y h3 => dm1M k x y h3) := by
  have hu : X.A.units + 1 < cLine := by have := g.un; omega
  match k, em with
  | 0, em =>
    cases em
    refine (pe_dget1 hu ho hy (m1_of g hb hs hl)).conv fun σ H Q q => ?_
    obtain ⟨f, ms, h, r, sr, q⟩ := q
    refine ⟨f, ms, h, r, sr, q.bind.mono fun x h1 f1 H1 _ x1 r1 g1 o ro => ?_⟩
    obtain ⟨⟨n, lk, l, rfl, en⟩, g1⟩ := g1.isD
    obtain ⟨hn, rfl⟩ := ro.ref_inv
    refine ⟨_, rfl, r1.isD en, f1, ms, h1, r1, r.sr x1 sr, g1.bind.mono fun y h2 f2 H2 _ x2 r2 g2 z rz => ?_⟩
    obtain ⟨hn2, e2⟩ := (r1.vr x2 (.ref hn)).ref_inv
    unfold dm1M at g2
    simp only at g2
    cases e3 : dget h2 (.ref n) y with
    | none => rw [e3] at g2; exact g2.elim
    | some om =>
      rw [e3] at g2
      have : ∃ lk l, h2.get n = some (.dct false lk l) := by
        unfold dget at e3
        simp only at e3
        split at e3
        · rename_i lk l q
          exact ⟨lk, l, q⟩
        · cases e3
      obtain ⟨lk2, l2, en2⟩ := this
      obtain ⟨u, dg, rr⟩ := dx_ref (K := Y.K) (x := .non) (o := none) r2 en2 rz e3
      refine ⟨u, ?_, G.ok r2 g2 _ (RO.getD rr .non)⟩
      rw [V.ref.inj e2]
      exact dg
  | 1, em =>
    cases em
    refine (pe_dpop1 ho hy (m1_of g hb hs hl)).conv fun σ H Q q => ?_
    obtain ⟨f, ms, h, r, sr, q⟩ := q
    refine ⟨f, ms, h, r, sr, q.bind.mono fun x h1 f1 H1 _ x1 r1 g1 o ro => ?_⟩
    obtain ⟨⟨n, lk, l, rfl, en⟩, g1⟩ := g1.isD
    obtain ⟨hn, rfl⟩ := ro.ref_inv
    refine ⟨_, rfl, r1.isD en, f1, ms, h1, r1, r.sr x1 sr, g1.bind.mono fun y h2 f2 H2 _ x2 r2 g2 z rz => ?_⟩
    obtain ⟨hn2, e2⟩ := (r1.vr x2 (.ref hn)).ref_inv
    have e2 : f1 n = f2 n := V.ref.inj e2
    rw [e2]
    unfold dm1M at g2
    simp only at g2
    split at g2
    · rename_i l2 en2
      split at g2
      · rename_i hk
        obtain ⟨kvs, d1, d2⟩ := r2.ob _ _ en2
        have d1 : H2 (f2 n) = some (.dK kvs) := d1
        obtain ⟨yk, c1, rfl⟩ := KR.kOk hk rz
        have lo := DKr.look c1 d2
        cases e3 : lookK y l2 with
        | none => rw [e3] at g2; exact g2.elim
        | some w =>
          rw [e3] at g2 lo
          cases e4 : valV kvs yk with
          | none => rw [e4] at lo; exact lo.elim
          | some v =>
            rw [e4] at lo
            have rw_ : VR Y.K f2 h2.size H2 w v := lo
            have ex0 := Ext.put (f := f2) (H := H2) (u := .dK (L2.dropK kvs yk)) hn2 (r2.nofz en2 rfl)
            obtain ⟨ex', rl'⟩ := r2.put (o' := .dct false false (DM.dropK y l2)) (u := .dK (L2.dropK kvs yk)) en2 (fun _ q => by cases q) ⟨_, upd_same, DKr.mono (Nat.le_refl _) (fun _ _ => rfl) (r2.text ex0) _ _ (d2.drop c1)⟩
            exact ⟨kvs, yk, v, d1, rfl, e4, g2 _ _ ex' rl' _ (r2.vr ex' rw_)⟩
      · exact g2.elim
    · exact g2.elim
/-- d.get(k, x), d.pop(k, x), d.setdefault(k, x) -/
theorem c_dm2 (g : Good T Y W C CX lv inB N sc X) {k : Nat} {m : Str} {ap : Pos} (em : some m = dmN2 k) (ho : PE X a (rdE Y W ma)) (hy : PE X b (rdE Y W mb)) (hz : PE X c (rdE Y W mc)) (hb : noSup a = true) (hs : isStar b = false) (ht : isStar c = false) (hl : (ap.endLine == p.line) = true) :
    PE X (.Call (.Attribute a m ap) [b, c] [] p) (rdE Y W fun σ h => (ma σ h).bind fun x h1 => (isDM x h1).bind fun _ h2 => (mb σ h2).bind fun y h3 => (mc σ h3).bind fun z h4 => dm2M k x y z h4) := by
  have hu : X.A.units + 1 < cLine := by have := g.un; omega
  match k, em with
  | 0, em =>
    cases em
    refine (pe_dget2 hu ho hy hz (m2_of g hb hs ht hl)).conv fun σ H Q q => ?_
    obtain ⟨f, ms, h, r, sr, q⟩ := q
    refine ⟨f, ms, h, r, sr, q.bind.mono fun x h1 f1 H1 _ x1 r1 g1 o ro => ?_⟩
    obtain ⟨⟨n, lk, l, rfl, en⟩, g1⟩ := g1.isD
    obtain ⟨hn, rfl⟩ := ro.ref_inv
    have sr1 := r.sr x1 sr
    refine ⟨_, rfl, r1.isD en, f1, ms, h1, r1, sr1, g1.bind.mono fun y h2 f2 H2 _ x2 r2 g2 z rz => ?_⟩
    refine ⟨f2, ms, h2, r2, r1.sr x2 sr1, g2.bind.mono fun w h3 f3 H3 _ x3 r3 g3 v rv => ?_⟩
    obtain ⟨hn3, e2⟩ := (r2.vr x3 (r1.vr x2 (.ref hn))).ref_inv
    have e2 : f1 n = f3 n := V.ref.inj e2
    rw [e2]
    replace rz := r2.vr x3 rz
    unfold dm2M at g3
    simp only at g3
    cases e3 : dget h3 (.ref n) y with
    | none => rw [e3] at g3; exact g3.elim
    | some om =>
      rw [e3] at g3
      have : ∃ lk l, h3.get n = some (.dct false lk l) := by
        unfold dget at e3
        simp only at e3
        split at e3
        · rename_i lk l q
          exact ⟨lk, l, q⟩
        · cases e3
      obtain ⟨lk2, l2, en2⟩ := this
      obtain ⟨u, dg, rr⟩ := dx_ref (K := Y.K) (x := .non) (o := none) r3 en2 rz e3
      exact ⟨u, dg, G.ok r3 g3 _ (RO.getD rr rv)⟩
  | 1, em =>
    cases em
    refine (pe_dpop2 ho hy hz (m2_of g hb hs ht hl)).conv fun σ H Q q => ?_
    obtain ⟨f, ms, h, r, sr, q⟩ := q
    refine ⟨f, ms, h, r, sr, q.bind.mono fun x h1 f1 H1 _ x1 r1 g1 o ro => ?_⟩
    obtain ⟨⟨n, lk, l, rfl, en⟩, g1⟩ := g1.isD
    obtain ⟨hn, rfl⟩ := ro.ref_inv
    have sr1 := r.sr x1 sr
    refine ⟨_, rfl, r1.isD en, f1, ms, h1, r1, sr1, g1.bind.mono fun y h2 f2 H2 _ x2 r2 g2 z rz => ?_⟩
    refine ⟨f2, ms, h2, r2, r1.sr x2 sr1, g2.bind.mono fun w h3 f3 H3 _ x3 r3 g3 v rv => ?_⟩
    obtain ⟨hn3, e2⟩ := (r2.vr x3 (r1.vr x2 (.ref hn))).ref_inv
    have e2 : f1 n = f3 n := V.ref.inj e2
    rw [e2]
    replace rz := r2.vr x3 rz
    unfold dm2M at g3
    simp only at g3
    split at g3
    · rename_i l2 en2
      split at g3
      · rename_i hk
        obtain ⟨kvs, d1, d2⟩ := r3.ob _ _ en2
        have d1 : H3 (f3 n) = some (.dK kvs) := d1
        obtain ⟨yk, c1, rfl⟩ := KR.kOk hk rz
        have lo := DKr.look c1 d2
        refine ⟨kvs, yk, d1, rfl, fun v' e4 => ?_, fun e4 => ?_⟩
        · rw [e4] at lo
          cases e3 : lookK y l2 with
          | none => rw [e3] at lo; exact lo.elim
          | some w' =>
            rw [e3] at g3 lo
            have rw_ : VR Y.K f3 h3.size H3 w' v' := lo
            have ex0 := Ext.put (f := f3) (H := H3) (u := .dK (L2.dropK kvs yk)) hn3 (r3.nofz en2 rfl)
            obtain ⟨ex', rl'⟩ := r3.put (o' := .dct false false (DM.dropK y l2)) (u := .dK (L2.dropK kvs yk)) en2 (fun _ q => by cases q) ⟨_, upd_same, DKr.mono (Nat.le_refl _) (fun _ _ => rfl) (r3.text ex0) _ _ (d2.drop c1)⟩
            exact g3 _ _ ex' rl' _ (r3.vr ex' rw_)
        · rw [e4] at lo
          cases e3 : lookK y l2 with
          | some w' => rw [e3] at lo; exact lo.elim
          | none =>
            rw [e3] at g3
            exact G.ok r3 g3 _ rv
      · exact g3.elim
    · exact g3.elim
  | 2, em =>
    cases em
    refine (pe_dsetd ho hy hz (m2_of g hb hs ht hl)).conv fun σ H Q q => ?_
    obtain ⟨f, ms, h, r, sr, q⟩ := q
    refine ⟨f, ms, h, r, sr, q.bind.mono fun x h1 f1 H1 _ x1 r1 g1 o ro => ?_⟩
    obtain ⟨⟨n, lk, l, rfl, en⟩, g1⟩ := g1.isD
    obtain ⟨hn, rfl⟩ := ro.ref_inv
    have sr1 := r.sr x1 sr
    refine ⟨_, rfl, r1.isD en, f1, ms, h1, r1, sr1, g1.bind.mono fun y h2 f2 H2 _ x2 r2 g2 z rz => ?_⟩
    refine ⟨f2, ms, h2, r2, r1.sr x2 sr1, g2.bind.mono fun w h3 f3 H3 _ x3 r3 g3 v rv => ?_⟩
    obtain ⟨hn3, e2⟩ := (r2.vr x3 (r1.vr x2 (.ref hn))).ref_inv
    have e2 : f1 n = f3 n := V.ref.inj e2
    rw [e2]
    replace rz := r2.vr x3 rz
    unfold dm2M at g3
    simp only at g3
    split at g3
    · rename_i l2 en2
      split at g3
      · rename_i hk
        obtain ⟨kvs, d1, d2⟩ := r3.ob _ _ en2
        have d1 : H3 (f3 n) = some (.dK kvs) := d1
        obtain ⟨yk, c1, rfl⟩ := KR.kOk hk.1 rz
        have lo := DKr.look c1 d2
        refine ⟨kvs, yk, d1, rfl, by rw [← d2.len, ← LIM_eq]; exact hk.2, fun v' e4 => ?_, fun e4 => ?_⟩
        · rw [e4] at lo
          cases e3 : lookK y l2 with
          | none => rw [e3] at lo; exact lo.elim
          | some w' =>
            rw [e3] at g3 lo
            exact G.ok r3 g3 _ lo
        · rw [e4] at lo
          cases e3 : lookK y l2 with
          | some w' => rw [e3] at lo; exact lo.elim
          | none =>
            rw [e3] at g3
            have ex0 := Ext.put (f := f3) (H := H3) (u := .dK (L2.putK kvs yk v)) hn3 (r3.nofz en2 rfl)
            obtain ⟨ex', rl'⟩ := r3.put (o' := .dct false false (DM.putK y w l2)) (u := .dK (L2.putK kvs yk v)) en2 (fun _ q => by cases q) ⟨_, upd_same, DKr.mono (Nat.le_refl _) (fun _ _ => rfl) (r3.text ex0) _ _ (d2.put c1 rv)⟩
            exact g3 _ _ ex' rl' _ (r3.vr ex' rv)
      · exact g3.elim
    · exact g3.elim
theorem isDU_inv {x : MV} {h h' : MH} {u : Unit} (e : isDU x h = .ok u h') : h' = h ∧ ∃ n l, x = .ref n ∧ h.get n = some (.dct false false l) := by
  unfold isDU at e
  split at e
  · rename_i n
    split at e
    · rename_i l en
      cases e
      exact ⟨rfl, n, l, rfl, en⟩
    · cases e
  · cases e
theorem isDU_noex {x : MV} {h h' : MH} {k : Nat} {l : List MV} (e : isDU x h = .ex k l h') : False := by
  unfold isDU at e
  split at e
  · split at e <;> cases e
  · cases e
theorem G.isDU {α : Type} {x : MV} {k : MH → R α} {Tt : α → (Nat → Addr) → MH → Hp → Prop} (g : G Y W σ f h H ((DM.isDU x h).bind fun _ h2 => k h2) Tt) : (∃ n l, x = .ref n ∧ h.get n = some (.dct false false l)) ∧ G Y W σ f h H (k h) Tt := by
  cases e : DM.isDU x h with
  | ok u h1 =>
    obtain ⟨rfl, n, l, ex, en⟩ := isDU_inv e
    rw [e] at g
    exact ⟨⟨n, l, ex, en⟩, g⟩
  | ex c l h1 => exact (isDU_noex e).elim
  | stk => rw [e] at g; exact g.elim
theorem sortK_of {n : Nat} {lk : Bool} {l : List (MV × MV)} {kvs : List (Key × V)} {Q : VK} (r : Rl Y.K Y.Z f h H) (en : h.get n = some (.dct false lk l)) (d2 : DKr Y.K f h.size H l kvs)
    (g0 : G Y W σ f h H (sortM (.ref n) h) fun v f' h' H' => ∀ z, VR Y.K f' h'.size H' v z → Q z H') : SortK kvs H Q := by
  have g : GP Y f h H (sortM (.ref n) h) fun v f' h' H' => ∀ z, VR Y.K f' h'.size H' v z → Q z H' := ⟨W, σ, g0⟩
  have one : ∀ {l : List MV} {vs : List V}, VRs Y.K f h.size H l vs → GP Y f h H (newList h l) (fun v f' h' H' => ∀ z, VR Y.K f' h'.size H' v z → Q z H') → ∀ p, H p = none → Q (.ref p) (upd H p (.lst vs)) := fun rv g p hp => by
    obtain ⟨_, f', q, e⟩ := GP.newList r g rv hp
    exact q _ (by rw [← e]; exact .ref (by rw [MH.size_push]; omega))
  unfold sortM at g
  simp only [en] at g
  unfold sortL at g
  cases ei : intL (l.map (·.1)) with
  | some ns =>
    rw [ei] at g
    refine .inl ⟨ns, dk_ints ei d2, fun ks p h1 h2 hp => ?_⟩
    rw [srtI_eq h1 h2]
    exact one VRs.ints g p hp
  | none =>
    rw [ei] at g
    simp only at g
    cases et : DM.txs (l.map (·.1)) with
    | none => rw [et] at g; exact g.elim
    | some ts =>
      rw [et] at g
      simp only at g
      split at g
      · rename_i h64
        obtain ⟨ek, ht⟩ := dk_strs et d2
        refine .inr ⟨ts.map toS, ek, by rw [List.length_map]; exact h64, fun ks p h1 h2 hp => ?_⟩
        rw [srtS_eq h1 h2, cps_map]
        exact one (VRs.txs fun t q => ht t ((srtS_perm ts).mem_iff.mp q)) g p hp
      · exact g.elim
/-- sorted(d.keys()) -/
theorem c_sortk (g : Good T Y W C CX lv inB N sc X) (hh : T.hot = false) {x y : Str} {p1 p2 ap : Pos} (e1 : x = "sorted") (e2 : glB sc x = true) (e3 : y = "keys") (ho : PE X a (rdE Y W ma)) (hb : noSup a = true) (hl : (ap.endLine == p2.line) = true) :
    PE X (.Call (.Name x p1) [.Call (.Attribute a y ap) [] [] p2] [] p) (rdE Y W fun σ h => (ma σ h).bind fun x h1 => (isDU x h1).bind fun _ h2 => sortM x h2) := by
  subst e1 e3
  have pk := pe_bm0 (name := "keys") F.plainAttrs_dict F.slot_dict_keys F.type_dict_keys (mt_keys (X := X)) ho (noSup_base hb) hl
  have hs : starEach [Expr.Call (.Attribute a "keys" ap) [] [] p2] X.env = [(false, eval (Expr.Call (.Attribute a "keys" ap) [] [] p2) X.env)] := star_cons rfl
  refine (pe_callB (call_sortedV (g.calm hh)) (g.gl e2) (g.bt (by decide)) (by decide +kernel) (pa_cons pk pa_nil hs) (by decide) (by decide) hs rfl).conv fun σ H Q q => ?_
  obtain ⟨f, ms, h, r, sr, q⟩ := q
  refine ⟨f, ms, h, r, sr, q.bind.mono fun x h1 f1 H1 _ x1 r1 g1 o ro => ?_⟩
  obtain ⟨⟨n, l, rfl, en⟩, g1⟩ := g1.isDU
  obtain ⟨hn, rfl⟩ := ro.ref_inv
  obtain ⟨kvs, d1, d2⟩ := r1.ob _ _ en
  have d1 : H1 (f1 n) = some (.dK kvs) := d1
  refine ⟨.inr (.inr (.inl ⟨rfl, .inl ⟨kvs, d1⟩⟩)), _, kvs, rfl, rfl, d1, fun v hv => ?_⟩
  have x2 : Ext f1 h1.size H1 f1 h1.size (upd H1 v (keysO v (f1 n))) := Ext.aside hv
  have r2 := r1.aside (u := keysO v (f1 n)) hv
  have ne : f1 n ≠ v := ne_of_none d1 hv
  refine ⟨v, f1 n, kvs, rfl, upd_same, .inl (by rw [upd_ne ne]; exact d1), ?_⟩
  exact sortK_of r2 en (by
    obtain ⟨kvs', e1, e2⟩ := r2.ob _ _ en
    have e1 : upd H1 v (keysO v (f1 n)) (f1 n) = some (.dK kvs') := e1
    rw [upd_ne ne, d1] at e1
    cases e1
    exact e2) (g1.shift x2)
/-- xs.reverse() -/
theorem c_bm0 (g : Good T Y W C CX lv inB N sc X) {y : Str} {ap : Pos} {sh : List Src} (e1 : mName 7 = some y) (ho : PE X a (rdE Y W ma)) (hb : noSup a = true) (hl : (ap.endLine == p.line) = true) : PE X (.Call (.Attribute a y ap) [] [] p)
    (rdE Y W fun σ h => (ma σ h).bind fun x h1 => (metK T.P 7 x h1).bind fun k h2 => (R.ok [] h2).bind fun vs h3 => metC C k 7 sh x vs [] h3) := by
  obtain ⟨pa, sl, ty⟩ := m_facts e1
  refine (pe_bm0 pa sl ty (mt_met g.K 7) ho (noSup_base hb) hl).conv fun σ H Q q => ?_
  obtain ⟨f, ms, h, r, sr, q⟩ := q
  refine ⟨f, ms, h, r, sr, q.bind.mono fun v h1 f1 H1 eq x1 r1 g1 x rx => ?_⟩
  cases ek : metK T.P 7 v h1 with
  | ex c l h2 =>
    exfalso
    unfold metK at ek
    split at ek
    · split at ek
      · split at ek
        · cases ek
        · split at ek <;> cases ek
      · split at ek <;> cases ek
      · cases ek
    · split at ek <;> cases ek
    · split at ek <;> cases ek
    · cases ek
  | stk => rw [ek] at g1; exact g1.elim
  | ok k h2 =>
    obtain ⟨t1, rfl, rfl⟩ := metK_ty e1 r1 rx ek
    rw [ek] at g1
    have g2 : G Y W σ f1 h2 H1 (metM 7 v [] h2) fun v f' h' H' => ∀ z, VR Y.K f' h'.size H' v z → Q z H' := g1
    exact ⟨g.K ▸ t1, f1, h2, v, [], r1, rx, .nil, W, σ, g2⟩
/-! ### len(x) by an own __len__ -/
theorem run_fnGA {k : Nat} {F : Addr} {fd : FuncData} {ps : List Str} {sp : Sp} {CX : CXT} {E : XK} {pins : List (Addr × Obj)} {s : Shared} {Q : VK} {R : Value → Shared → Prop} {A1 : Around} (FF : FnG X.prog X.w X.K X.mg X.base CX k F fd ps sp) (hr : Room k A1) (hG : A1.guards = some []) (hfr : A1.frames = X.A.frames) (hx : PassesAt CX X σ E) (I : Inv X pins σ H s) {us bs : List Value} {ks : List (Str × Value)} {vs : List V}
    (hb : BindsTo s fd ⟨us, ks⟩ (ps.zip bs)) (r : Vals vs bs) (h : sp vs H Q E) (hQ : ∀ v s', EP X pins σ Q v s' → R v s') : wpAny (model X.prog X.w) A1 (call (.ref F) us ks) R X.xe s := by
  have e0 : Env0 X.prog X.w X.K X.mg X.base A1 X.stack s H := by
    have e := I.env0
    exact ⟨by rw [hfr]; exact e.frames, e.mod, e.bs, e.bsz, e.funs, e.frf, e.hok, e.bare⟩
  have go := FF.run A1 X.stack s H ⟨us, ks⟩ bs vs Q E hr hG e0 hb r h
  refine wpAny_call (codeAny_mono go ?_)
  intro rr s' hq
  rcases rr with e | fl
  · exact hx pins H s e s' I hq
  · cases fl <;> first | exact hQ _ _ (I.after hq) | exact False.elim hq
theorem c_lenO (g : Good T Y W C CX lv inB N sc X) (hh : T.hot = false) {m : Nat} {x : Str} {p1 : Pos} (e1 : x = "len") (e2 : glB sc x = true) (e3 : T.mnm m = "__len__") (hm : 100 ≤ m) (hsh : T.shm m 0 [] [] = true) (ho : PE X a (rdE Y W ma)) (hs : isStar a = false) :
    PE X (.Call (.Name x p1) [a] [] p) (rdE Y W fun σ h => (ma σ h).bind fun x h1 => (metK T.P m x h1).bind fun k h2 => (metC C k m [] x [] [] h2).bind fun v h3 => lenV v h3) := by
  subst e1
  have hst := star_cons (es := []) (env := X.env) hs
  refine ⟨fun pins s σ H Q I q => ?_⟩
  obtain ⟨f, ms, h, r, sr, q⟩ := q
  refine wpAny_Call_Name_kw (ld_blt I (g.gl e2) (g.bt (by decide)) (by decide +kernel : bootBuiltins "len" = some (.builtin "len")) ?_ (by decide) (by decide))
  refine PyProof.Rows.callWith_builtin1 (thn ((pa_cons ho pa_nil hst).run p pins s σ H (fun xs H1 => ∃ x f1 h1 v, xs = [x] ∧ Ext f h.size H f1 h1.size H1 ∧ Rl Y.K Y.Z f1 h1 H1 ∧ VR Y.K f1 h1.size H1 v x ∧
      G Y W σ f1 h1 H1 ((metK T.P m v h1).bind fun k h2 => (metC C k m [] v [] [] h2).bind fun v h3 => lenV v h3) fun v f' h' H' => ∀ z, VR Y.K f' h'.size H' v z → Q z H') I
    ⟨f, ms, h, r, sr, q.bind.mono fun v h1 f1 H1 _ x1 r1 g1 x rx => ⟨x, f1, h1, v, rfl, x1, r1, rx, g1⟩⟩) fun us s1 ⟨vs, H1, I1, ru0, x, f1, h1, v, ex, x1, r1, rx, q1⟩ => ?_) hst rfl
  · subst ex
    obtain ⟨u, rfl, ru⟩ := vals1 ru0
    obtain ⟨n, c, dx, gs, i, A, fd, rfl, e5, c1, M, lk0, F, B, q2⟩ := own_at g hm r1 rx q1
    obtain rfl : u = Value.ref (f1 n) := ru
    obtain ⟨mA, J, _⟩ := ins_get I1.hok e5
    obtain ⟨od, J, _⟩ := J.look
    obtain ⟨mm, hF⟩ := I1.fr
    have Ma := M.at_
    rw [e3] at Ma
    refine PySem.W.len_K hF I1.ok.mod.kin J Ma M.fn ?_
    obtain ⟨bs, hb, hB, hP⟩ := B 0 [] [] hsh [] [] rfl rfl
    have F' : FnG X.prog X.w X.K X.mg X.base CX lv A fd (T.fps i) (spM Y T C i) := g.K ▸ F
    have hpk : pick ([] : List MV) ([] : List MV) [] = some [] := rfl
    obtain ⟨xs, x1', x2'⟩ := hP [] [] [] [] [] f1 h1.size H1 hpk .nil .nil .nil .nil
    have q3 : G Y W σ f1 h1 H1 ((C i [v] h1).bind fun v h3 => lenV v h3) fun v f' h' H' => ∀ z, VR Y.K f' h'.size H' v z → Q z H' := q2
    have r0 : RelV (V.ref (f1 n)) (Value.ref (f1 n)) := rfl
    refine run_fnGA (Q := fun z H' => ∃ f' h' v, Rl Y.K Y.Z f' h' H' ∧ VR Y.K f' h'.size H' v z ∧ G Y W σ f' h' H' (lenV v h') fun v f' h' H' => ∀ z, VR Y.K f' h'.size H' v z → Q z H') F' (g.room hh).in1 g.gd rfl (g.pass σ) I1 (hB s1 _ (g.In I1.kIn)) (.cons r0 x1')
      ⟨by rw [List.length_cons, x1'.length]; exact hb, f1, h1, v :: [], r1, .cons rx x2', (q3.bind.mono fun w h' f' H' _ _ r' g' z rz => ⟨f', h', w, r', rz, g'⟩).wish fun c d H' z => z⟩ ?_
    rintro vv s' ⟨z, H', I', rz, f', h', w, r', rw', g'⟩
    unfold lenV at g'
    split at g'
    · rename_i j
      split at g'
      · rename_i hj
        cases rw'.int_inv
        obtain ⟨t, rfl⟩ := rz
        exact ⟨⟨hj.1, by omega⟩, .int j, H', I'.tok _, ⟨_, rfl⟩, G.ok r' g' _ .int⟩
      · exact g'.elim
    · exact g'.elim
end
end DM
set_option Elab.async false
set_option linter.all false
set_option maxRecDepth 100000
set_option maxHeartbeats 4000000
/-! S8h: what is asked of the exception that is handled. -/
namespace DM
open PySem L2 PyProof.Rows PySem.Spec
section
variable {T : Tab} {Y : Ctx} {W : Wish} {C : Nat → List MV → MH → R MV} {CX : CXT} {lv : Nat} {inB : Bool} {N : List Str} {sc : Scope} {X : Cx}
variable {σ : L2.St} {H : Hp} {f : Nat → Addr} {h : MH} {ms : En}
variable {a b c e : Expr} {ma mb mc : En → MH → R MV} {p pos : Pos} {es : List Expr}
theorem excAt_inv {σ : En} {i c : Nat} {l : List MV} (e : excAt σ i = some (c, l)) : σ[i]? = some (some (.exc c l)) := by
  unfold excAt at e
  split at e
  · rename_i q
    cases e
    exact q
  · cases e
theorem SR.exc {n : Nat} (sr : SR Y f n H ms σ) {i c : Nat} {l : List MV} (e : ms[i]? = some (some (.exc c l))) : σ[i]? = some (some (.ref Y.ea)) ∧ XR Y.K Y.xc Y.xf f n H c l Y.eo.cls Y.eo.dict := by
  obtain ⟨y, q, z⟩ := sr.2 i _ e
  rcases z with z | ⟨_, c2, l2, e2, e3, z⟩
  · unfold VR at z
    exact z.elim
  · cases e2
    exact ⟨e3 ▸ q, z⟩
theorem xr_dict {xc : Nat → Value} {xf : Nat → Str} {K : KW} {n c : Nat} {l : List MV} {cls : Value} {d : Option Addr} (x : XR K xc xf f n H c l cls d) : d = none ∨ ∃ dd fs, d = some dd ∧ H dd = some (.xd fs) := by
  obtain ⟨_, _, x⟩ := x
  match l, x with
  | [], x => exact .inl x
  | [m], ⟨dd, v, e1, e2, _⟩ => exact .inr ⟨dd, _, e1, e2⟩
/-- isinstance(e, C) of a pinned exception -/
theorem call_isP {q : Addr × Obj} {D : Addr} (hp : Pinned X q) (hv : ∃ vs, q.2.data = .fields vs) (C : ExcC X.K D) (hc : q.2.cls = .ref D) : CallR X (.builtin "isinstance") (fun xs H Q => ∃ (cV : V) (cv : Value) (b : Bool), xs = [.ref q.1, cV] ∧ (∀ u, RelV cV u → u = cv) ∧
    PySem.W.kitOne X.K (.ref D) cv = some b ∧ (q.2.dict = none ∨ ∃ dd fs, q.2.dict = some dd ∧ H dd = some (.xd fs)) ∧ Q (.bl b) H) := by
  intro pins s σ H xs us Q I r h
  obtain ⟨cV, cv, b, rfl, hcv, e, hd, g⟩ := h
  cases r with
  | cons rx rr =>
    cases rr with
    | cons rt rr =>
      cases rr
      cases rx
      rename_i cvv
      have ec := hcv _ rt
      subst ec
      obtain ⟨hget, _⟩ := hp.here I
      obtain ⟨vs, hvs⟩ := hv
      obtain ⟨cdD, hcD, _⟩ := PySem.W.any_some C.hd
      have hcl : (PySem.W.clsIn X.K D).isSome = true := by rw [hcD]; rfl
      have fin : ∀ {od : Option Obj}, PySem.W.InstAt s.heap q.1 q.2 D od → wpAny (model X.prog X.w) X.A (call (.builtin "isinstance") [.ref q.1, cvv]) (EP X pins σ Q) X.xe s := fun {od} J =>
        PySem.W.kia_one (PySem.W.kitx_exc hcl C.hg C.hk C.hs C.ha C.hn C.ht C.hm) I.kIn J e (fun z => nomatch z) fun tk => ⟨.bl b, H, I.kept (t' := tk) fun _ _ z => z, rfl, g⟩
      rcases hd with hd | ⟨dd, fs, hd, hx⟩
      · refine fin (od := none) ⟨hget, hc, by unfold PySem.W.notCls; rw [hvs], by rw [hd]; trivial⟩
      · obtain ⟨mA, hns, hr⟩ := I.hok dd _ hx
        obtain ⟨od, ho, hl⟩ := lookIn_ns hns
        exact fin (od := some od) ⟨hget, hc, by unfold PySem.W.notCls; rw [hvs], by rw [hd]; exact ho⟩
theorem pe_xname (g : Good T Y W C CX lv inB N sc X) {d : Nat} {y : Str} {py : Pos} (e1 : y = T.xname d) (e2 : glB sc y = true) (e3 : T.xok d = true) : ∃ vv : V, (∀ u, RelV vv u → u = Y.xc d) ∧ PE X (.Name y py) (tC vv) := by
  subst e1
  obtain ⟨h1, h2, vv, h3, h4⟩ := g.fc.xf.nm d e3
  refine ⟨vv, h4, ?_⟩
  rcases h2 with h2 | ⟨h2, h5, h6⟩
  · exact pe_glob (g.gl e2) h2 h3 h1
  · exact pe_bltn (g.gl e2) h2 h5 h3 h6 h1
theorem c_isX (g : Good T Y W C CX lv inB N sc X) {i d : Nat} {x y z : Str} {py pz : Pos} (e1 : x = "isinstance") (e2 : glB sc x = true) (e3 : nmB N i z = true) (e4 : visB sc z = true) (hh : T.hot = true) (e5 : y = T.xname d) (e6 : glB sc y = true) (e7 : T.xok d = true) :
    PE X (.Call (.Name x p) [.Name z pz, .Name y py] [] pos) (rdE Y W fun σ h => isXM T.P i d σ h) := by
  subst e1
  unfold nmB at e3
  simp only [Bool.and_eq_true, decide_eq_true_eq, Bool.not_eq_true'] at e3
  obtain ⟨vv, hv, pn⟩ := pe_xname g (py := py) e5 e6 e7
  obtain ⟨⟨hp, pin⟩, hvs⟩ := g.hot hh
  have pe : PE X (.Name z pz) (tVar i) := pe_var (i := i) (by rw [g.eN]; exact e3.1.1) (g.vis e4) e3.1.2 e3.2
  have pa : PA X [.Name z pz, .Name y py] (tCons (tVar i) (tCons (tC vv) tNil)) := pa_cons pe (pa_cons pn pa_nil)
  refine ⟨fun pins s σ H Q I q => ?_⟩
  obtain ⟨f, ms, h, r, sr, q⟩ := q
  have q : G Y W σ f h H (isXM T.P i d ms h) _ := q
  unfold isXM at q
  split at q
  · rename_i c l ec
    obtain ⟨e8, x⟩ := sr.exc (excAt_inv ec)
    obtain ⟨A, hA⟩ := x.2.1
    have eA : Y.xc c = .ref A := x.1.symm.trans hA
    have ex := g.fc.xf.isc c A eA
    obtain ⟨_, k2⟩ := g.fc.xf.sub c A d eA e7
    have rule := call_isP (X := X) (q := (Y.ea, Y.eo)) (D := A) pin hvs (g.K ▸ ex) hA
    refine (pe_callB rule (g.gl e2) (g.bt (by decide)) boot_isi pa (by decide) (by decide)).run pins s σ H Q I ?_
    refine ⟨_, e8, vv, Y.xc d, T.P.xsub c d, rfl, hv, ?_, xr_dict x, ?_⟩
    · exact g.K ▸ k2
    · exact G.ok r q _ .bl
  · exact q.elim
theorem c_callX (g : Good T Y W C CX lv inB N sc X) {i j : Nat} {x z : Str} {pz : Pos} (e1 : x = T.fname j) (e2 : T.hok j = true) (e3 : glB sc x = true) (e4 : (x == ("__debug__" : Str)) = false) (e5 : nmB N i z = true) (e6 : visB sc z = true) (hh : T.hot = true) :
    PE X (.Call (.Name x p) [.Name z pz] [] pos) (rdE Y W fun σ h => callXM C j i σ h) := by
  subst e1
  unfold nmB at e5
  simp only [Bool.and_eq_true, decide_eq_true_eq, Bool.not_eq_true'] at e5
  obtain ⟨⟨hot, pin⟩, hvs⟩ := g.hot hh
  obtain ⟨a, fd, ps, m1, m2, F, B⟩ := g.fc.hf j e2
  have pe : PE X (.Name z pz) (tVar i) := pe_var (i := i) (by rw [g.eN]; exact e5.1.1) (g.vis e6) e5.1.2 e5.2
  have pa : PA X [.Name z pz] (tCons (tVar i) tNil) := pa_cons pe pa_nil
  refine ⟨fun pins s σ H Q I q => ?_⟩
  obtain ⟨f, ms, h, r, sr, q⟩ := q
  have q : G Y W σ f h H (callXM C j i ms h) _ := q
  unfold callXM at q
  split at q
  · rename_i c l ec
    obtain ⟨e8, x⟩ := sr.exc (excAt_inv ec)
    refine wpAny_Call_Name_kw (ld_glob I (g.gl e3) m1 ?_ e4)
    refine PySem.W.callWith_K (h₀ := X.base) I.ok.mod.kin (g.K ▸ m2) (thn (pa.run pos pins s σ H (fun vs H1 => vs = [V.ref Y.ea] ∧ H1 = H) I ⟨_, e8, rfl, rfl⟩) fun us s1 ⟨vs, H1, I1, r1, ev, eH⟩ => ⟨I1.kIn, ?_⟩)
    subst ev
    rw [eH] at I1
    obtain ⟨u, rfl, ru⟩ := vals1 r1
    have P1 := pin.here I1
    have hpin : L2H.PinOk X.stack H s1 (Y.ea, Y.eo) := ⟨P1.1, P1.2, pin.out I1, fun v z => by obtain ⟨vs, hvs⟩ := hvs; rw [hvs] at z; cases z⟩
    have F' : FnGH X.prog X.w X.K X.mg X.base CX lv a fd [ps] (spH Y C j) := g.K ▸ F
    show wpAny (model X.prog X.w) X.A (call (.ref a) [u]) _ _ _
    refine run_fnGH (us := [u]) (bs := [u]) F' (g.rmH.mono (Nat.le_succ _)) g.gd hot hpin (g.pass σ) I1 (ks := []) (B s1 u (g.In I1.kIn)) r1 ⟨rfl, hvs, f, h, c, l, r, x, ?_⟩
    exact q.wish fun c d H' z => z
  · exact q.elim
end
end DM
set_option Elab.async false
set_option linter.all false
set_option maxRecDepth 100000
set_option maxHeartbeats 4000000
/-! S9: targets, what is walked, comprehensions. -/
namespace DM
open PySem L2 PyProof.Rows PySem.Spec
def Same (own : List Nat) (σ σ' : L2.St) : Prop := σ'.length = σ.length ∧ ∀ j, j ∉ own → σ'[j]? = σ[j]?
theorem Same.refl {own : List Nat} {σ : L2.St} : Same own σ σ := ⟨rfl, fun _ _ => rfl⟩
theorem Same.trans {o1 o2 : List Nat} {σ σ1 σ2 : L2.St} (a : Same o1 σ σ1) (b : Same o2 σ1 σ2) : Same (o1 ++ o2) σ σ2 := ⟨b.1.trans a.1, fun j hj => by
  rw [List.mem_append, not_or] at hj
  exact (b.2 j hj.2).trans (a.2 j hj.1)⟩
def rdG (Y : Ctx) (W : Wish) (m : MV → En → MH → R En) (own : List Nat) : TG := fun v σ H Q => ∃ f ms h a, Rl Y.K Y.Z f h H ∧ SR Y f h.size H ms σ ∧ VR Y.K f h.size H a v ∧
  G Y W σ f h H (m a ms h) fun ms' f' h' H' => ∀ σ', SR Y f' h'.size H' ms' σ' → Same own σ σ' → Q σ' H'
def NoW : Wish := fun _ _ _ _ => False
def rdGs (Y : Ctx) (m : List MV → En → MH → R En) (own : List Nat) : TGs := fun vs σ H Q => ∃ f ms h l, Rl Y.K Y.Z f h H ∧ SR Y f h.size H ms σ ∧ VRs Y.K f h.size H l vs ∧
  G Y NoW σ f h H (m l ms h) fun ms' f' h' H' => ∀ σ', SR Y f' h'.size H' ms' σ' → Same own σ σ' → Q σ' H'
theorem _root_.L2.PG.conv {X : Cx} {e : Expr} {t t' : TG} (p : PG X e t) (k : ∀ v σ H Q, t' v σ H Q → t v σ H Q) : PG X e t' := ⟨fun pins s σ H v u Q I r q => p.run pins s σ H v u Q I r (k v σ H Q q)⟩
theorem _root_.L2.PGs.conv {X : Cx} {e : List Expr} {t t' : TGs} (p : PGs X e t) (k : ∀ v σ H Q, t' v σ H Q → t v σ H Q) : PGs X e t' := ⟨fun pins s σ H v u Q I r q => p.run pins s σ H v u Q I r (k v σ H Q q)⟩
section
variable {T : Tab} {Y : Ctx} {W : Wish} {C : Nat → List MV → MH → R MV} {CX : CXT} {lv : Nat} {inB : Bool} {N : List Str} {sc : Scope} {X : Cx}
variable {σ : L2.St} {H : Hp} {f f' : Nat → Addr} {h h' : MH} {ms : En}
variable {a b c e : Expr} {ma mb mc : En → MH → R MV} {p pos : Pos} {es : List Expr} {me mk : En → MH → R (List MV)}

theorem g_nm (g : Good T Y W C CX lv inB N sc X) {i : Nat} {x : Str} (e1 : nmB N i x = true) (e2 : locB inB sc x = true) : PG X (.Name x p) (rdG Y W (setM i) [i]) := by
  unfold nmB at e1
  simp only [Bool.and_eq_true, decide_eq_true_eq, Bool.not_eq_true'] at e1
  obtain ⟨l1, l2⟩ := g.loc e2
  refine (pg_name (i := i) (by rw [g.eN]; exact g.nd) (by rw [g.eN]; exact e1.1.1) l1 l2).conv fun v σ H Q q => ?_
  obtain ⟨f, ms, h, a, r, sr, rv, q⟩ := q
  refine G.ok r q _ (sr.set rv i) ⟨by rw [List.length_set], fun j hj => ?_⟩
  exact List.getElem?_set_ne fun z => hj (by rw [z]; exact List.mem_singleton_self _)
theorem gs_nil : PGs X [] (rdGs Y (fun l σ h => match l with
    | [] => .ok σ h
    | _ => .stk) []) := by
  refine pgs_nil.conv fun v σ H Q q => ?_
  obtain ⟨f, ms, h, l, r, sr, rv, q⟩ := q
  cases l with
  | nil => exact ⟨rv.nil_inv, G.ok r q _ sr .refl⟩
  | cons x xs => exact q.elim
theorem asg_cons {e : Expr} {es : List Expr} {env : Env} (h : isStar e = false) : (assignEach (e :: es) env).map (·.2) = assign e env :: (assignEach es env).map (·.2) := by
  cases e <;> first | rfl | cases h
theorem gs_cons {m1 : MV → En → MH → R En} {m2 : List MV → En → MH → R En} {o1 o2 : List Nat} (h1 : PG X e (rdG Y W m1 o1)) (h2 : PGs X es (rdGs Y m2 o2)) (hs : isStar e = false) : PGs X (e :: es) (rdGs Y (fun l σ h => match l with
    | [] => .stk
    | v :: vs => (m1 v σ h).bind fun σ1 h1 => m2 vs σ1 h1) (o1 ++ o2)) := by
  refine (pgs_cons h1 h2 (asg_cons hs)).conv fun v σ H Q q => ?_
  obtain ⟨f, ms, h, l, r, sr, rv, q⟩ := q
  cases l with
  | nil => exact q.elim
  | cons x xs =>
    obtain ⟨y, ys, rfl, r1, r2⟩ := rv.cons_inv
    refine ⟨y, ys, rfl, f, ms, h, x, r, sr, r1, G.wish (q.bind.mono fun ms1 h1 f1 H1 eq x1 rl1 g1 σ1 sr1 sm1 => ?_) fun c d H' z => z.elim⟩
    exact ⟨f1, ms1, h1, xs, rl1, sr1, r.vrs x1 r2, (g1.mono fun ms2 h2 f2 H2 eq2 x2 rl2 g2 σ2 sr2 sm2 => g2 σ2 sr2 (sm1.trans sm2)).wish fun c d H' z => z.elim⟩
theorem asg_len {env : Env} : ∀ {es : List Expr}, (assignEach es env).length = es.length
  | [] => rfl
  | e :: es => by
    have := asg_len (env := env) (es := es)
    cases e <;> exact congrArg Nat.succ this
theorem asg_none {env : Env} : ∀ {es : List Expr}, noStars es = true → (assignEach es env).findIdx? (·.1) = none
  | [], _ => rfl
  | e :: es, h => by
    obtain ⟨a, b⟩ := hd_star h
    have ih := asg_none (env := env) b
    have e1 : assignEach (e :: es) env = (false, assign e env) :: assignEach es env := by cases e <;> first | rfl | cases a
    rw [e1, List.findIdx?_cons, ih]
    rfl
theorem pgT_hot {q : Addr × Obj} {k n : Nat} {t : TGs} (hot : HotP q X) (h1 : PGs X es t) (hn : (assignEach es X.env).length = n) (hst : (assignEach es X.env).findIdx? (·.1) = none) : PG X (.Tuple es k p) (gTup X.K n t) := by
  refine ⟨fun pins s σ H v u Q I r hw => ?_⟩
  obtain ⟨d, xs, rfl, hq, hl, hw⟩ := hw
  cases r
  obtain ⟨its, rv, ht, hz⟩ := I.tuple hq
  refine unpackT_hot (hot.at_ I) ht (by simp [hn, ← hl, rv.length]) hst fun g1 hk => ?_
  have I1 : Inv X pins σ H { s with heap := g1 } := I.kept (t' := s.toks) fun b o e => hk b o e
  exact h1.run pins _ σ H xs _ Q I1 (by simpa using rv) hw
theorem g_tup (g : Good T Y W C CX lv inB N sc X) {m : List MV → En → MH → R En} {own : List Nat} {k : Nat} (h1 : PGs X es (rdGs Y m own)) (hs : noStars es = true) (hl : ∀ l ms h σ' h', m l ms h = .ok σ' h' → l.length = es.length) :
    PG X (.Tuple es k p) (rdG Y W (fun v σ h => match v with
      | .tup vs => (m vs σ h).noEx
      | _ => .stk) own) := by
  have rule : PG X (.Tuple es k p) (gTup X.K es.length (rdGs Y m own)) := by
    cases q : T.hot with
    | false => exact pg_tup (g.calm q) h1 asg_len (asg_none hs)
    | true => exact pgT_hot (g.hot q).1 h1 asg_len (asg_none hs)
  refine rule.conv fun v σ H Q q => ?_
  obtain ⟨f, ms, h, a, r, sr, rv, q⟩ := q
  cases a with
  | tup vs =>
    obtain ⟨p, xs, rfl, sq, t⟩ := rv.tup_inv
    refine ⟨p, xs, rfl, g.K ▸ sq, ?_, f, ms, h, vs, r, sr, t, ?_⟩
    · rw [← t.length]
      have q : G Y W σ f h H (m vs ms h).noEx _ := q
      cases hm : m vs ms h with
      | ok a h1 => exact hl vs ms h a h1 hm
      | ex c l h1 => rw [hm] at q; exact q.elim
      | stk => rw [hm] at q; exact q.elim
    · have q : G Y W σ f h H (m vs ms h).noEx _ := q
      cases hm : m vs ms h with
      | ok a h1 => rw [hm] at q; exact q
      | ex c l h1 => rw [hm] at q; exact q.elim
      | stk => rw [hm] at q; exact q.elim
  | _ => exact q.elim

/-- *i, j = a text -/
theorem star_str {env : Env} {x y : Str} {px py p1 : Pos} {k} {z : Str} {tk : Tok} {Q : Unit → Shared → Prop} {E : Value → Shared → Prop} {s : Shared} (hh : X.A.handled = none) (hz : z.cps.size ≤ sizeLine) (h1 : 1 ≤ z.cps.size)
    (q : ∀ (h2 : Heap) (t2 : Nat) (vs : List Value) (u : Value), (∀ b o, s.heap.get? b = some o → h2.get? b = some o) → ItemsOf (SignAt z) (vs ++ [u]).toArray z.cps.size →
      wpAny (model X.prog X.w) X.A (assignInOrder [assign (.Name x px) env, assign (.Name y py) env] [.ref h2.objs.size, u]) Q E { s with heap := h2.push { cls := .type "list", data := .seq vs.toArray }, toks := t2 }) :
    wpAny (model X.prog X.w) X.A (assign (.Tuple [.Starred (.Name x px) p1, .Name y py] k p) env (.str z tk)) Q E s := by
  rw [assign_Tuple]
  refine wpAny_bind (wpAny_standAt ?_)
  have e0 : assignEach [.Starred (.Name x px) p1, .Name y py] env = [(true, assign (.Name x px) env), (false, assign (.Name y py) env)] := rfl
  unfold unpack
  rw [e0]
  refine wpAny_bind (wpAny_holding ?_)
  show wpAny _ _ (unpackItems (.str z tk) 2 (some 0)) _ _ _
  unfold unpackItems notIterableAtAll
  refine wpAny_bind (wpAny_bind (wpAny_specialOf (typeIs_str s z tk) PySem.F.slot_str_iter.lookup (wpAny_pure ?_)))
  simp only [if_false, Bool.false_eq_true]
  refine wpAny_bind (wpAny_holding (wpAny_pyIter_strU ?_))
  have hd : ∀ {it : Addr} {Q : List Value → Shared → Prop} {s : Shared}, Q [] s → wpAny (model X.prog X.w) X.A (draw (.ref it) 0) Q E s := fun q => wpAny_pure q
  refine wpAny_bind (wpAny_holding (hd ?_))
  rw [if_neg (show ¬ (([] : List Value).length < 0) from by decide)]
  refine wpAny_bind (wpAny_holding (wpAny_collect_strIter (ty := strIterType z) hh (by unfold strIterType; split <;> simp) ⟨_, Heap.get?_push_size _ rfl, rfl, rfl⟩ (fun s' acc hk hg hd2 ho hacc => ?_) hz))
  have hl : acc.toList.length = z.cps.size := by rw [Array.length_toList]; exact hacc.1
  rw [if_neg (by rw [hl]; omega)]
  rcases List.eq_nil_or_concat acc.toList with e | ⟨vs, u, e⟩
  · rw [e] at hl
    simp at hl
    omega
  have e : acc.toList = vs ++ [u] := by rw [e, List.concat_eq_append]
  have l1 : acc.toList.length - (2 - 1 - 0) = vs.length := by rw [e, List.length_append]; simp
  have t1 : acc.toList.take vs.length = vs := by rw [e, List.take_left]
  have t2 : acc.toList.drop vs.length = [u] := by rw [e, List.drop_left]
  rw [l1, t1, t2]
  obtain ⟨hp, gg, dd, tt, oo⟩ := s'
  simp only at hg hd2 ho
  subst hg hd2 ho
  refine wpAny_bind (wpAny_newObj_type (wpAny_pure ?_) ?_)
  · exact q hp tt vs u (fun b o e => hk b o (Nat.ne_of_lt (Heap.lt_size e)) (Heap.get?_push_of_some _ e)) (by rw [← e]; simpa using hacc)
  · show vs.toArray.size ≤ sizeLine
    have : (vs ++ [u]).length = z.cps.size := by rw [← e]; exact hl
    rw [List.length_append] at this
    simp
    omega
/-- the signs, ahead of the last one -/
theorem signs_vals {z : Tx} {vs : List Value} {u : Value} (h : ItemsOf (SignAt ⟨z.toArray⟩) (vs ++ [u]).toArray (⟨z.toArray⟩ : Str).cps.size) : ∃ l c, z = l ++ [c] ∧ Vals (l.map fun c => V.str ⟨#[c]⟩) vs ∧ RelV (V.str ⟨#[c]⟩) u := by
  obtain ⟨h1, h2⟩ := h
  have hl : vs.length + 1 = z.length := by simpa using h1
  rcases List.eq_nil_or_concat z with e | ⟨l, c, e⟩
  · rw [e] at hl
    simp at hl
  · have e : z = l ++ [c] := by rw [e, List.concat_eq_append]
    subst e
    replace hl : vs.length = l.length := by simpa using hl
    have at_ : ∀ (j : Nat) (v : Value), (vs ++ [u])[j]? = some v → ∃ c' t, (l ++ [c])[j]? = some c' ∧ v = Value.str ⟨#[c']⟩ t := by
      intro j v hv
      obtain ⟨c', t, e1, e2⟩ := h2 j v (by simpa using hv)
      exact ⟨c', t, by simpa using e1, e2⟩
    refine ⟨l, c, rfl, ?_, ?_⟩
    · clear h1 h2
      have at2 : ∀ (j : Nat) (v : Value), vs[j]? = some v → ∃ c' t, l[j]? = some c' ∧ v = Value.str ⟨#[c']⟩ t := by
        intro j v hv
        have hj : j < vs.length := (List.getElem?_eq_some_iff.mp hv).1
        obtain ⟨c', t, e1, e2⟩ := at_ j v (by rw [List.getElem?_append_left hj]; exact hv)
        rw [List.getElem?_append_left (by omega)] at e1
        exact ⟨c', t, e1, e2⟩
      clear at_
      clear e
      induction l generalizing vs with
      | nil =>
        have : vs = [] := List.length_eq_zero_iff.mp hl
        subst this
        exact .nil
      | cons a r ih =>
        cases vs with
        | nil => simp at hl
        | cons w ws =>
          obtain ⟨c', t, e1, e2⟩ := at2 0 w rfl
          cases e1
          exact .cons ⟨t, e2⟩ (ih (by simpa using hl) fun j v hv => at2 (j + 1) v hv)
    · obtain ⟨c', t, e1, e2⟩ := at_ vs.length u (by rw [List.getElem?_append_right (Nat.le_refl _)]; simp)
      rw [hl, List.getElem?_append_right (Nat.le_refl _)] at e1
      simp at e1
      subst e1
      exact ⟨t, e2⟩
theorem g_stB (g : Good T Y W C CX lv inB N sc X) (hh : T.hot = false) {i j : Nat} {x y : Str} {px py p1 : Pos} {k} (e1 : nmB N i x = true) (e2 : locB inB sc x = true) (e3 : nmB N j y = true) (e4 : locB inB sc y = true) (hij : i ≠ j) :
    PG X (.Tuple [.Starred (.Name x px) p1, .Name y py] k p) (rdG Y W (fun v σ h => match v with
      | .str s => if s = [] then .stk else (newList h (s.dropLast.map fun c => .str [c])).bind fun r h1 => .ok ((σ.set i (some r)).set j (some (.str (s.getLast?.toList)))) h1
      | _ => .stk) [i, j]) := by
  unfold nmB at e1 e3
  simp only [Bool.and_eq_true, decide_eq_true_eq, Bool.not_eq_true'] at e1 e3
  have n1 : PG X (.Name x px) (gName i) := pg_name (i := i) (by rw [g.eN]; exact g.nd) (by rw [g.eN]; exact e1.1.1) (g.loc e2).1 (g.loc e2).2
  have n2 : PG X (.Name y py) (gName j) := pg_name (i := j) (by rw [g.eN]; exact g.nd) (by rw [g.eN]; exact e3.1.1) (g.loc e4).1 (g.loc e4).2
  refine ⟨fun pins s σ H v u Q I r q => ?_⟩
  obtain ⟨f, ms, h, a, rl, sr, rv, q⟩ := q
  cases a with
  | str z =>
    obtain ⟨rfl, tz⟩ := rv.str_inv
    obtain ⟨tk, rfl⟩ := r
    have q : G Y W σ f h H (if z = [] then .stk else (newList h (z.dropLast.map fun c => MV.str [c])).bind fun r h1 => .ok ((ms.set i (some r)).set j (some (.str (z.getLast?.toList)))) h1) _ := q
    split at q
    · exact q.elim
    · rename_i hz
      have h1 : 1 ≤ z.length := by
        cases z with
        | nil => exact absurd rfl hz
        | cons _ _ => simp
      refine star_str (I.ok.hd (g.calm hh)) (by simpa using tz.1) (by simpa using h1) fun h2 t2 vs uu hk it => ?_
      obtain ⟨l, c, rfl, rvs, ru⟩ := signs_vals it
      have ed : (l ++ [c]).dropLast = l := by simp
      have el : (l ++ [c]).getLast?.toList = [c] := by simp
      rw [ed, el] at q
      have tl : TxOk l := ⟨by have := tz.1; rw [List.length_append] at this; omega, fun d hd => tz.2 d (List.mem_append_left _ hd)⟩
      have I1 : Inv X pins σ H { s with heap := h2, toks := t2 } := I.kept hk
      have D0 : H h2.objs.size = none := I1.hok.fresh (Nat.le_refl _)
      have hvl : (l.map fun c => V.str ⟨#[c]⟩).length ≤ sizeLine := by rw [List.length_map]; exact tl.1
      have I2 : Inv X pins σ (upd H h2.objs.size (.lst (l.map fun c => V.str ⟨#[c]⟩))) { s with heap := h2.push { cls := .type "list", data := .seq vs.toArray }, toks := t2 } := by
        refine I1.laid (t' := t2) (fun b o e => Heap.get?_push_of_some _ e) (Nat.le_refl _) ⟨hvl, vs, 0, rvs, ?_⟩
        exact Heap.get?_push_size _ rfl
      unfold newList new at q
      have hl : (l.map fun c => MV.str [c]).length ≤ LIM := by rw [List.length_map, LIM_eq]; exact tl.1
      rw [if_pos hl] at q
      have rs : VRs Y.K f h.size H (l.map fun c => MV.str [c]) (l.map fun c => V.str ⟨#[c]⟩) := by
        have := VRs.signs (K := Y.K) (f := f) (N := h.size) (H := H) tl
        simpa using this
      have ex0 : Ext f h.size H (nxt f h.size h2.objs.size) (h.size + 1) (upd H h2.objs.size (.lst (l.map fun c => V.str ⟨#[c]⟩))) := Ext.push D0
      obtain ⟨ex, r1⟩ := rl.push (o := .lst (l.map fun c => MV.str [c])) (u := .lst (l.map fun c => V.str ⟨#[c]⟩)) D0 ⟨_, upd_same, VRs.mono ex0.sz ex0.ag (rl.text ex0) _ _ rs⟩
      have sr1 := rl.sr ex sr
      have vr : VR Y.K (nxt f h.size h2.objs.size) (h.push (.lst (l.map fun c => MV.str [c]))).size (upd H h2.objs.size (.lst (l.map fun c => V.str ⟨#[c]⟩))) (.ref h.size) (.ref h2.objs.size) := by
        have := VR.ref (K := Y.K) (f := nxt f h.size h2.objs.size) (H := upd H h2.objs.size (.lst (l.map fun c => V.str ⟨#[c]⟩))) (N := (h.push (.lst (l.map fun c => MV.str [c]))).size) (n := h.size) (by rw [MH.size_push]; omega)
        rwa [nxt_at] at this
      have vc : VR Y.K (nxt f h.size h2.objs.size) (h.push (.lst (l.map fun c => MV.str [c]))).size (upd H h2.objs.size (.lst (l.map fun c => V.str ⟨#[c]⟩))) (.str [c]) (.str ⟨#[c]⟩) :=
        .str (s := [c]) ⟨by rw [sizeLine_eq]; exact (by decide : 1 ≤ 16777216), fun d hd => by rw [List.mem_singleton.mp hd]; exact tz.2 c (List.mem_append_right _ (List.mem_singleton_self c))⟩
      refine assignInOrder_cons (thn (n1.run pins _ σ _ (V.ref h2.objs.size) _ (fun σ1 H1 => H1 = upd H h2.objs.size (.lst (l.map fun c => V.str ⟨#[c]⟩)) ∧ σ1 = σ.set i (some (.ref h2.objs.size))) I2 rfl ⟨rfl, rfl⟩) fun _ s3 ⟨σ1, H1, I3, e5, e6⟩ => ?_)
      subst e5 e6
      refine assignInOrder_cons (thn (n2.run pins _ _ _ (V.str ⟨#[c]⟩) uu (fun σ1 H1 => H1 = upd H h2.objs.size (.lst (l.map fun c => V.str ⟨#[c]⟩)) ∧ σ1 = (σ.set i (some (.ref h2.objs.size))).set j (some (.str ⟨#[c]⟩))) I3 ru ⟨rfl, rfl⟩) fun _ s4 ⟨σ2, H2, I4, e5, e6⟩ => ?_)
      subst e5 e6
      refine assignInOrder_nil ⟨_, _, I4, q _ _ ex r1 _ ((sr1.set vr i).set vc j) ⟨by rw [List.length_set, List.length_set], fun m hm => ?_⟩⟩
      simp only [List.mem_cons, List.not_mem_nil, or_false, not_or] at hm
      rw [List.getElem?_set_ne (fun z => hm.2 z.symm), List.getElem?_set_ne (fun z => hm.1 z.symm)]
  | _ => exact q.elim
/-! ### o[i] = v -/
def rSI (Y : Ctx) : TSet := fun o i v H Q => ∃ f h a b c, Rl Y.K Y.Z f h H ∧ VR Y.K f h.size H a o ∧ VR Y.K f h.size H b i ∧ VR Y.K f h.size H c v ∧ GP Y f h H (setI a b c h) fun _ _ _ H' => Q H'
theorem set_setI (hu : X.A.units + 65 < cLine) : PSet X (rSI Y) := by
  intro pins s σ H o i v ov iv u Q I ro ri rv ⟨f, h, a, b, c, r, ra, rb, rc, g⟩
  unfold setI at g
  split at g
  · rename_i n
    obtain ⟨hn, rfl⟩ := ra.ref_inv
    split at g
    · rename_i l en
      obtain ⟨vs, e1, t⟩ := r.ob _ _ en
      split at g
      · rename_i k
        cases rb.int_inv
        split at g
        · rename_i j ej
          refine set_list pins s σ H _ _ _ ov iv u Q I ro ri rv ⟨f n, vs, k, j, rfl, rfl, e1, by rw [← ixN_eq, ← t.length]; exact ej, ?_⟩
          have hv := (r.vrs (Ext.put (u := .lst (vs.set j v)) hn (r.nofz en rfl)) t).set (r.vr (Ext.put (u := .lst (vs.set j v)) hn (r.nofz en rfl)) rc) j
          obtain ⟨ex', rl'⟩ := r.put (o' := .lst (l.set j c)) (u := .lst (vs.set j v)) en (fun _ q => by cases q) ⟨_, upd_same, hv⟩
          exact g.app ex' rl'
        · exact g.elim
      · exact g.elim
    · rename_i t l en
      obtain ⟨kvs, e1, e2⟩ := r.ob _ _ en
      have e1 : H (f n) = some (.dK kvs) := e1
      split at g
      · rename_i hk
        obtain ⟨y, c1, rfl⟩ := KR.kOk hk.1 rb
        have ex0 := Ext.put (f := f) (H := H) (u := .dK (L2.putK kvs y v)) hn (r.nofz en rfl)
        obtain ⟨ex', rl'⟩ := r.put (o' := .dct false false (DM.putK b c l)) (u := .dK (L2.putK kvs y v)) en (fun _ q => by cases q) ⟨_, upd_same, DKr.mono (Nat.le_refl _) (fun _ _ => rfl) (r.text ex0) _ _ (e2.put c1 rc)⟩
        exact set_dict (by omega) pins s σ H _ _ _ ov iv u Q I ro ri rv ⟨f n, _, rfl, DPut.k e1 (by rw [← e2.len, ← LIM_eq]; exact hk.2), g.app ex' rl'⟩
      · exact g.elim
    · exact g.elim
  · exact g.elim
/-! ### o.f = v -/
theorem g_att (g : Good T Y W C CX lv inB N sc X) {i : Nat} {x : Str} (e1 : x = T.fnm i) (ha : PE X a (rdE Y W ma)) :
    PG X (.Attribute a x p) (rdG Y W (fun v σ h => (ma σ h).bind fun o h1 => (setA T.P o i v h1).bind fun _ h2 => .ok σ h2) []) := by
  subst e1
  refine ⟨fun pins s σ H v u Q I ru q => ?_⟩
  obtain ⟨f, ms, h, w, r, sr, rv, q⟩ := q
  rw [arm_assign_Attribute]
  refine wpAny_bind (wpAny_holding (thn (ha.run pins s σ H (fun o H1 => ∃ f1 h1 m, Ext f h.size H f1 h1.size H1 ∧ Rl Y.K Y.Z f1 h1 H1 ∧ VR Y.K f1 h1.size H1 m o ∧ G Y W σ f1 h1 H1 ((setA T.P m i w h1).bind fun _ h2 => .ok ms h2) fun ms' f' h' H' => ∀ σ', SR Y f' h'.size H' ms' σ' → Same [] σ σ' → Q σ' H') I
    ⟨f, ms, h, r, sr, q.bind.mono fun m h1 f1 H1 _ x1 r1 g1 o ro => ⟨f1, h1, m, x1, r1, ro, g1⟩⟩) fun ov s1 ⟨o, H1, I1, rov, f1, h1, m, x1, r1, ro, g1⟩ => ?_))
  replace g1 := g1.bind
  unfold setA at g1
  split at g1
  · rename_i n
    obtain ⟨hn, rfl⟩ := ro.ref_inv
    obtain rfl : ov = Value.ref (f1 n) := rov
    split at g1
    · rename_i c fs en
      split at g1
      · rename_i hat
        obtain ⟨dx, gs, e2, fr, kn⟩ := r1.ob _ _ en
        obtain ⟨c1, c2, c3⟩ := g.fc.at_ c i hat.2
        have inj : ∀ f g, Y.Z.kn f = true → Y.Z.kn g = true → Y.Z.fnm f = Y.Z.fnm g → f = g := by rw [g.fc.Z]; exact g.fc.kn
        have ex0 := Ext.put (f := f1) (H := H1) (u := .ins (Y.Z.ca c) dx (L2.putF (Y.Z.fnm i) v gs)) hn (r1.nofz en rfl)
        obtain ⟨p1, p2, p3⟩ := putFld_put (K := Y.K) (f := f1) (N := h1.size) (H := upd H1 (f1 n) (.ins (Y.Z.ca c) dx (L2.putF (Y.Z.fnm i) v gs))) inj c3 (r1.vr ex0 (r.vr x1 rv)) (FRs.mono (Nat.le_refl _) (fun _ _ => rfl) (r1.text ex0) _ _ fr) kn
        obtain ⟨ex', rl'⟩ := r1.put (o' := .ins c (putFld i w fs)) (u := .ins (Y.Z.ca c) dx (L2.putF (Y.Z.fnm i) v gs)) en (fun _ q => by cases q) ⟨dx, _, upd_same, p1, p2⟩
        have g2 := G.ok rl' (g1 _ _ ex' rl')
        refine wpAny_bind (wpAny_standAt (wpAny_bind (wpAny_holding (setattr_ok I1 e2 (g.K ▸ c1) (g.K ▸ c2) (by rw [p3]; exact hat.1) ru fun s3 I3 => wpAny_release ⟨σ, upd H1 (f1 n) (.ins (Y.Z.ca c) dx (L2.putF (Y.Z.fnm i) v gs)), ?_, ?_⟩))))
        · rw [g.fc.Z]
          exact I3
        · exact g2 σ (r1.sr ex' (r.sr x1 sr)) .refl
      · exact g1.elim
    · exact g1.elim
  · exact g1.elim
theorem g_sub (g : Good T Y W C CX lv inB N sc X) (ha : PE X a (rdE Y W ma)) (hb : PE X b (rdE Y W mb)) (hs : isSlice b = false) :
    PG X (.Subscript a b p) (rdG Y W (fun v σ h => (ma σ h).bind fun x h1 => (mb σ h1).bind fun y h2 => (setI x y v h2).bind fun _ h3 => .ok σ h3) []) := by
  refine (pg_sub ha hb (set_setI (Y := Y) g.un) ?_).conv fun v σ H Q q => ?_
  · intro v
    cases b <;> first | rfl | skip
    rename_i l u st pp
    cases st
    · cases hs
    · rfl
  obtain ⟨f, ms, h, w, r, sr, rv, q⟩ := q
  refine ⟨f, ms, h, r, sr, q.bind.mono fun x h1 f1 H1 _ x1 r1 g1 o ro => ?_⟩
  have sr1 := r.sr x1 sr
  refine ⟨f1, ms, h1, r1, sr1, g1.bind.mono fun y h2 f2 H2 _ x2 r2 g2 i ri => ?_⟩
  have sr2 := r1.sr x2 sr1
  refine ⟨f2, h2, x, y, w, r2, r1.vr x2 ro, ri, r2.vr (.refl _ _ _) (r1.vr x2 (r.vr x1 rv)), W, σ, g2.bind.mono fun _ h3 f3 H3 _ x3 r3 g3 => ?_⟩
  exact G.ok r3 g3 σ (r2.sr x3 sr2) .refl

/-! ### what is walked -/
/-- from a state on, whatever is laid: the turns yield what stands for these items; an item may be laid anew -/
def Walk (Y : Ctx) (J : L2.It) (l : List MV) (f : Nat → Addr) (h : MH) (H : Hp) : Prop := ∀ f' h' H', Ext f h.size H f' h'.size H' → Rl Y.K Y.Z f' h' H' → ∀ i, (l.length ≤ i → J.stop i H') ∧
  ∀ m, l[i]? = some m → J.go i H' ∧ ∀ x H2, J.yld i H' x H2 → Ext f' h'.size H' f' h'.size H2 ∧ Rl Y.K Y.Z f' h' H2 ∧ VR Y.K f' h'.size H2 m x
def JR (Y : Ctx) (f : Nat → Addr) (h : MH) (H : Hp) (t : DM.It) (J : L2.It) : Prop := match t with
  | .live n => n < h.size ∧ J = Itl Y.K (f n)
  | .items l => Walk Y J l f h H
  | .zip a b => ∃ p q, J = Itz Y.K p q ∧ VR Y.K f h.size H a (.ref p) ∧ VR Y.K f h.size H b (.ref q)
  | .enum a => ∃ p, J = Ite Y.K p ∧ VR Y.K f h.size H a (.ref p)
theorem Rl.laidT (r : Rl Y.K Y.Z f h H) {T : Addr} {l : List MV} {vs : List V} (hT : H T = none) (t : VRs Y.K f h.size H l vs) : Ext f h.size H f h.size (upd H T (.tup vs)) ∧ Rl Y.K Y.Z f h (upd H T (.tup vs)) ∧ VR Y.K f h.size (upd H T (.tup vs)) (.tup l) (.ref T) := by
  have e : Ext f h.size H f h.size (upd H T (.tup vs)) := Ext.aside hT
  exact ⟨e, r.aside hT, .tup (SqT.of upd_same) (r.vrs e t)⟩
theorem JR.step {t : DM.It} {J : L2.It} {i : Nat} {o : Option MV} {H0 : Hp} {f0 : Nat → Addr} {h0 : MH} (r0 : Rl Y.K Y.Z f0 h0 H0) (j : JR Y f0 h0 H0 t J) (x : Ext f0 h0.size H0 f h.size H) (r : Rl Y.K Y.Z f h H) (e : t.at h i = some o) :
    match o with
      | none => J.stop i H
      | some v => J.go i H ∧ ∀ y H', J.yld i H y H' → Ext f h.size H f h.size H' ∧ Rl Y.K Y.Z f h H' ∧ VR Y.K f h.size H' v y := by
  cases t with
  | live n =>
    obtain ⟨hn, rfl⟩ := j
    have hn' : n < h.size := Nat.lt_of_lt_of_le hn x.sz
    unfold It.at at e
    simp only at e
    cases e1 : listOf h (.ref n) with
    | none => rw [e1] at e; cases e
    | some l =>
      rw [e1] at e
      obtain ⟨p, vs, ep, sq, t⟩ := listOf_sq r (.ref hn') e1
      cases ep
      rw [x.ag n hn] at sq
      have e2 : l[i]? = o := Option.some.inj e
      cases o with
      | none =>
        have : l.length ≤ i := List.getElem?_eq_none_iff.mp e2
        exact ⟨vs, sq, by rw [← t.length]; exact this⟩
      | some v =>
        obtain ⟨y, e3, rv⟩ := t.get e2
        refine ⟨⟨vs, y, sq, e3⟩, fun z H' q => ?_⟩
        obtain ⟨rfl, q2⟩ := q
        have := q2 vs sq
        rw [e3] at this
        cases this
        exact ⟨.refl _ _ _, r, rv⟩
  | items l =>
    have e2 : l[i]? = o := Option.some.inj e
    obtain ⟨w1, w2⟩ := j f h H x r i
    cases o with
    | none =>
      have : l.length ≤ i := List.getElem?_eq_none_iff.mp e2
      exact w1 this
    | some v => exact w2 v e2
  | zip a b =>
    obtain ⟨p, q, rfl, ra, rb⟩ := j
    have ra := r0.vr x ra
    have rb := r0.vr x rb
    unfold It.at at e
    simp only at e
    split at e
    · rename_i l m el em
      obtain ⟨p', xs, ep, sx, tx⟩ := listOf_sq r ra el
      cases ep
      obtain ⟨q', ys, eq, sy, ty⟩ := listOf_sq r rb em
      cases eq
      have e2 : pairAt i l m = o := Option.some.inj e
      unfold pairAt at e2
      split at e2
      · rename_i u w eu ew
        subst e2
        obtain ⟨z1, f1, g1⟩ := tx.get eu
        obtain ⟨z2, f2, g2⟩ := ty.get ew
        refine ⟨⟨xs, ys, z1, z2, sx, sy, f1, f2⟩, ?_⟩
        rintro y H' ⟨T, x1, x2, rfl, hT, rfl, h1, h2⟩
        have := h1 xs sx
        rw [f1] at this
        cases this
        have := h2 ys sy
        rw [f2] at this
        cases this
        exact r.laidT hT (.cons g1 (.cons g2 .nil))
      · rename_i hn
        subst e2
        refine ⟨xs, ys, sx, sy, ?_⟩
        cases eu : l[i]? with
        | none => exact .inl (by rw [← tx.length]; exact List.getElem?_eq_none_iff.mp eu)
        | some u =>
          cases ew : m[i]? with
          | none => exact .inr (by rw [← ty.length]; exact List.getElem?_eq_none_iff.mp ew)
          | some w => exact (hn u w eu ew).elim
    · cases e
  | enum a =>
    obtain ⟨p, rfl, ra⟩ := j
    have ra := r0.vr x ra
    unfold It.at at e
    simp only at e
    obtain ⟨l, el, e2⟩ := Option.map_eq_some_iff.mp e
    obtain ⟨p', xs, ep, sx, tx⟩ := listOf_sq r ra el
    cases ep
    cases eu : l[i]? with
    | none =>
      rw [eu] at e2
      subst e2
      exact ⟨xs, sx, by rw [← tx.length]; exact List.getElem?_eq_none_iff.mp eu⟩
    | some u =>
      rw [eu] at e2
      subst e2
      obtain ⟨z1, f1, g1⟩ := tx.get eu
      refine ⟨⟨xs, z1, sx, f1⟩, ?_⟩
      rintro y H' ⟨T, x1, rfl, hT, rfl, h1⟩
      have := h1 xs sx
      rw [f1] at this
      cases this
      exact r.laidT hT (.cons .int (.cons g1 .nil))
def rdI (Y : Ctx) (W : Wish) (m : En → MH → R DM.It) : TI := fun σ H R => ∃ f ms h, Rl Y.K Y.Z f h H ∧ SR Y f h.size H ms σ ∧ G Y W σ f h H (m ms h) fun t f' h' H' => ∀ J, JR Y f' h' H' t J → R J H'
theorem _root_.L2.PI.conv {X : Cx} {tg e : Expr} {t t' : TI} (p : PI X tg e t) (k : ∀ σ H R, t' σ H R → t σ H R) : PI X tg e t' := ⟨fun pins s σ H R I q => p.run pins s σ H R I (k σ H R q)⟩
theorem _root_.L2.PI.or {X : Cx} {tg e : Expr} {t t' : TI} (p : PI X tg e t) (q : PI X tg e t') : PI X tg e fun σ H R => t σ H R ∨ t' σ H R := ⟨fun pins s σ H R I z => by
  rcases z with z | z
  · exact p.run pins s σ H R I z
  · exact q.run pins s σ H R I z⟩
/-- items that stand as they stand -/
theorem walk_of {J : L2.It} {l : List MV} {vs : List V} (r : Rl Y.K Y.Z f h H) (t : VRs Y.K f h.size H l vs) (w : ∀ H', Fx Y.K H H' → ∀ i, (i < vs.length → J.go i H') ∧ (vs.length ≤ i → J.stop i H') ∧ ∀ x H2, i < vs.length → J.yld i H' x H2 → H2 = H' ∧ vs[i]? = some x) : Walk Y J l f h H := by
  intro f' h' H' x r' i
  have t' := r.vrs x t
  obtain ⟨w1, w2, w3⟩ := w H' (r.text x) i
  refine ⟨fun hl => w2 (by rw [← t.length]; exact hl), fun m em => ?_⟩
  have hi : i < vs.length := by rw [← t.length]; exact (List.getElem?_eq_some_iff.mp em).1
  refine ⟨w1 hi, fun y H2 q => ?_⟩
  obtain ⟨rfl, q2⟩ := w3 y H2 hi q
  obtain ⟨z, e3, rv⟩ := t'.get em
  rw [e3] at q2
  cases q2
  exact ⟨.refl _ _ _, r', rv⟩
theorem walk_l {K : KW} {a : Addr} {vs : List V} (s : KLs K H a vs) : ∀ H', Fx K H H' → ∀ i, (i < vs.length → (Itl K a).go i H') ∧ (vs.length ≤ i → (Itl K a).stop i H') ∧ ∀ x H2, i < vs.length → (Itl K a).yld i H' x H2 → H2 = H' ∧ vs[i]? = some x := by
  intro H' fx i
  have s' := (fx.l a vs s).sq
  refine ⟨fun hi => ⟨vs, vs[i], s', List.getElem?_eq_getElem hi⟩, fun hi => ⟨vs, s', hi⟩, fun x H2 hi q => ⟨q.1, q.2 vs s'⟩⟩
theorem walk_t {K : KW} {a : Addr} {vs : List V} (s : SqT K H a vs) : ∀ H', Fx K H H' → ∀ i, (i < vs.length → (Itt K a).go i H') ∧ (vs.length ≤ i → (Itt K a).stop i H') ∧ ∀ x H2, i < vs.length → (Itt K a).yld i H' x H2 → H2 = H' ∧ vs[i]? = some x := by
  intro H' fx i
  have s' := fx.t a vs s
  refine ⟨fun hi => ⟨vs, vs[i], s', List.getElem?_eq_getElem hi⟩, fun hi => ⟨vs, s', hi⟩, fun x H2 hi q => ⟨q.1, q.2 vs s'⟩⟩
theorem relV_str {y : V} {x : Str} {t : Tok} (r : RelV y (Value.str x t)) : y = .str x := by
  cases y <;> first | (obtain ⟨u, e⟩ := r; cases e; done) | (cases r; done) | skip
  obtain ⟨u, e⟩ := r
  cases e
  rfl
theorem kd_len {K : KW} {N : Nat} : ∀ {l : List (MV × MV)} {es : List DictEntry}, KDr K f N H l es → l.length = es.length
  | [], es, e => by unfold KDr at e; rw [e]; rfl
  | (k, m) :: r, es, e => by
    unfold KDr at e
    obtain ⟨_, es', _, _, _, rfl, _, _, _, _, _, h7⟩ := e
    rw [List.length_cons, List.length_cons, kd_len h7]
theorem kd_get {K : KW} {N : Nat} : ∀ {l : List (MV × MV)} {es : List DictEntry} {i : Nat} {p : MV × MV} {en : DictEntry}, KDr K f N H l es → l[i]? = some p → es[i]? = some en → ∃ s t, p.1 = .str s ∧ en.key = .str ⟨s.toArray⟩ t ∧ TxOk s
  | [], es, i, p, en, e, e1, e2 => by simp at e1
  | (k, m) :: r, es, 0, p, en, e, e1, e2 => by
    unfold KDr at e
    obtain ⟨e0, es', s, t, _, rfl, h2, h3, h4, _, _, h7⟩ := e
    cases e1
    cases e2
    exact ⟨s, t, h2, h3, h4⟩
  | (k, m) :: r, es, i + 1, p, en, e, e1, e2 => by
    unfold KDr at e
    obtain ⟨e0, es', s, t, _, rfl, h2, h3, h4, _, _, h7⟩ := e
    exact kd_get (i := i) h7 e1 e2
/-- a written dict by its keys -/
def ItK (es : Array DictEntry) : L2.It := ⟨fun i _ => i < es.size, fun i H x H' => H' = H ∧ ∃ en, es[i]? = some en ∧ RelV x en.key, fun i _ => es.size ≤ i⟩
theorem turn_kd {P : Program} {w : World} {K : PySem.W.Frag} {tg : Expr} {d : Addr} {es : Array DictEntry} {n : Nat} (D : KDict K w d es n) (it : Addr) : Turn P w K tg (ItK es) [it] it (fun i h => h.IsKeyIter it d i es.size n) where
  mem := by simp
  obj := fun i h st b hb => by
    have e : b = it := by simpa using hb
    subst e
    obtain ⟨oi, e, c, dd⟩ := st
    exact ⟨oi, e, fun v z => by rw [dd] at z; cases z⟩
  keep := fun i h h' st k => st.at fun oi e => k it (by simp) oi e
  item := by
    intro X hP hw hK hc i pins s σ H E I hf st hg
    subst hP hw hK
    obtain ⟨f0, f1, f2, f3, f4, f5⟩ := hf it (by simp)
    obtain ⟨en, hen⟩ : ∃ en, es[i]? = some en := ⟨es[i], Array.getElem?_eq_getElem hg⟩
    have ho := I.kIn _ _ D.at_
    refine next_key_item st ho rfl rfl hen fun h' st' sb => ?_
    have I1 : Inv X pins σ H { s with heap := h' } := I.turned (t' := s.toks) (fun b ob hb e => (sb.2 b hb).trans e) f0 f1 f3 f4 f5
    obtain ⟨oi, e, c, dd⟩ := id st'
    have hk : ∃ x t, en.key = .str x t := by
      have hm : en ∈ es.toList := List.mem_of_getElem? (by rw [Array.getElem?_toList]; exact hen)
      obtain ⟨x, t, e1, _⟩ := PySem.W.KeysLit.all D.lit en hm
      exact ⟨x, t, e1⟩
    obtain ⟨x, t, ek⟩ := hk
    exact ⟨en.key, rfl, go_of (s := { s with heap := h' }) e c dd (by decide) ⟨.str x, H, I1, by rw [ek]; exact ⟨t, rfl⟩, ⟨rfl, en, hen, by rw [ek]; exact ⟨t, rfl⟩⟩, st', fun b hb => (hf b hb).1⟩⟩
  done := by
    intro X hP hw hK hc i pins s σ H E I hf st hg
    subst hP hw hK
    obtain ⟨f0, f1, f2, f3, f4, f5⟩ := hf it (by simp)
    have ho := I.kIn _ _ D.at_
    exact next_key_end (I.ok.hd hc) st ho rfl rfl hg fun h' eb => ⟨rfl, I.turned (t' := s.toks) (fun b ob hb e => eb b ob hb e) f0 f1 f3 f4 f5⟩
  self := fun A i s Q E st h => by
    refine wpAny_pyIter_slot st.typeIs F.slot_dict_keyiterator_iter (wpAny_call_entry F.slot_dict_keyiterator_iter st.typeIs F.entry_dict_keyiterator_iter ?_ (F.args_dict_keyiterator_iter_1 _))
    show wpAny _ _ (ret (.ref it)) _ _ s
    exact wpAny_pure ⟨_, rfl, "dict_keyiterator", _, st.typeIs, F.slot_dict_keyiterator_next.lookup, h⟩
def iKd (K : PySem.W.Frag) (w : World) (td : TE) : TI := fun σ H R => td σ H fun x H1 => ∃ d es n, x = .ref d ∧ KDict K w d es n ∧ R (ItK es) H1
theorem pi_kd {tg : Expr} {td : TE} (he : PE X e td) : PI X tg e (iKd X.K X.w td) := by
  refine ⟨fun pins s σ H R I h => ?_⟩
  refine thn (he.run pins s σ H _ I h) fun u s1 ⟨x, H1, I1, rx, d, es, n, ex, D, q⟩ => ?_
  subst ex
  obtain rfl : u = Value.ref d := rx
  exact iter_keys D.low (I1.kIn _ _ D.at_) ⟨rfl, rfl, rfl⟩ rfl (pi_one (tk := s1.toks) I1 _ (turn_kd D _) ⟨_, Heap.get?_push_size _ rfl, rfl, rfl⟩ q)
theorem i_ex (g : Good T Y W C CX lv inB N sc X) {tg : Expr} (ha : PE X a (rdE Y W ma)) : PI X tg a (rdI Y W fun σ h => (ma σ h).bind fun x h1 => itM x h1) := by
  refine ((pi_list ha).or ((pi_tup ha).or ((pi_str ha).or (pi_kd ha)))).conv fun σ H R q => ?_
  obtain ⟨f, ms, h, r, sr, q⟩ := q
  have q1 := q.bind
  cases hm : ma ms h with
  | stk => rw [hm] at q1; exact q1.elim
  | ex c l h1 =>
    rw [hm] at q1
    refine .inl ⟨f, ms, h, r, sr, ?_⟩
    rw [hm]
    exact q1
  | ok v h1 =>
    rw [hm] at q1
    have up : ∀ {Q : VK}, (∀ f1 H1, Ext f h.size H f1 h1.size H1 → Rl Y.K Y.Z f1 h1 H1 → G Y W σ f1 h1 H1 (itM v h1) (fun t f' h' H' => ∀ J, JR Y f' h' H' t J → R J H') → ∀ x, VR Y.K f1 h1.size H1 v x → Q x H1) → rdE Y W ma σ H Q := by
      intro Q k
      refine ⟨f, ms, h, r, sr, ?_⟩
      rw [hm]
      exact fun f1 H1 x1 r1 => k f1 H1 x1 r1 (q1 f1 H1 x1 r1)
    cases v with
    | ref n =>
      refine .inl (up fun f1 H1 x1 r1 g1 x rx => ?_)
      unfold itM itOf at g1
      simp only at g1
      cases e1 : listOf h1 (.ref n) with
      | none => rw [e1] at g1; exact g1.elim
      | some l =>
        rw [e1] at g1
        obtain ⟨p, vs, rfl, sq, t⟩ := listOf_sq r1 rx e1
        obtain ⟨hn, e2⟩ := rx.ref_inv
        cases e2
        exact ⟨_, rfl, ⟨vs, g.K ▸ sq⟩, g.K ▸ G.ok r1 g1 _ ⟨hn, rfl⟩⟩
    | kl l =>
      refine .inl (up fun f1 H1 x1 r1 g1 x rx => ?_)
      obtain ⟨p, vs, rfl, sq, t⟩ := rx.kl_inv
      exact ⟨_, rfl, ⟨vs, g.K ▸ sq.sq⟩, g.K ▸ G.ok r1 g1 _ (walk_of r1 t (walk_l sq))⟩
    | tup l =>
      refine .inr (.inl (up fun f1 H1 x1 r1 g1 x rx => ?_))
      obtain ⟨p, vs, rfl, sq, t⟩ := rx.tup_inv
      exact ⟨_, rfl, ⟨vs, g.K ▸ sq⟩, g.K ▸ G.ok r1 g1 _ (walk_of r1 t (walk_t sq))⟩
    | kd l =>
      refine .inr (.inr (.inr (up fun f1 H1 x1 r1 g1 x rx => ?_)))
      unfold VR at rx
      obtain ⟨d, es, n, rfl, D, kd⟩ := rx
      refine ⟨d, es, n, rfl, by rw [g.K, g.Wo]; exact D, G.ok r1 g1 _ ?_⟩
      intro f' h' H' x' r' i
      have hl : l.length = es.size := by
        have := kd_len kd
        rw [this, Array.length_toList]
      rw [List.length_map]
      refine ⟨fun hi => by show es.size ≤ i; omega, fun m em => ?_⟩
      rw [List.getElem?_map] at em
      obtain ⟨pr, e1, e2⟩ := Option.map_eq_some_iff.mp em
      have hi : i < l.length := (List.getElem?_eq_some_iff.mp e1).1
      refine ⟨by show i < es.size; omega, ?_⟩
      rintro y H2 ⟨rfl, en, e3, ry⟩
      obtain ⟨s, t, e4, e5, ts⟩ := kd_get kd e1 (by rw [Array.getElem?_toList]; exact e3)
      rw [← e2, e4]
      rw [e5] at ry
      obtain rfl : y = .str ⟨s.toArray⟩ := relV_str ry
      exact ⟨.refl _ _ _, r', .str ts⟩
    | str z =>
      refine .inr (.inr (.inl (up fun f1 H1 x1 r1 g1 x rx => ?_)))
      obtain ⟨rfl, t⟩ := rx.str_inv
      refine ⟨_, rfl, G.ok r1 g1 _ (walk_of r1 (VRs.signs t) fun H' fx i => ?_)⟩
      rw [List.length_map]
      have es : (⟨z.toArray⟩ : Str).cps.size = z.length := by simp
      refine ⟨fun hi => by show i < (⟨z.toArray⟩ : Str).cps.size; rw [es]; exact hi, fun hi => by show (⟨z.toArray⟩ : Str).cps.size ≤ i; rw [es]; exact hi, fun x H2 hi q => ⟨q.1, ?_⟩⟩
      obtain ⟨c, e1, rfl⟩ := q.2
      have e2 : z[i]? = some c := by simpa using e1
      rw [List.getElem?_map, e2]
      rfl
    | _ => exact .inl (up fun f1 H1 x1 r1 g1 x rx => g1.elim)
theorem walk_r {K : PySem.W.Frag} {lo : Int} {n : Nat} : ∀ H', Fx K H H' → ∀ i, (i < ((List.range n).map fun k : Nat => V.int (lo + k)).length → (Itr lo n).go i H') ∧ (((List.range n).map fun k : Nat => V.int (lo + k)).length ≤ i → (Itr lo n).stop i H') ∧
    ∀ x H2, i < ((List.range n).map fun k : Nat => V.int (lo + k)).length → (Itr lo n).yld i H' x H2 → H2 = H' ∧ ((List.range n).map fun k : Nat => V.int (lo + k))[i]? = some x := by
  intro H' fx i
  rw [List.length_map, List.length_range]
  refine ⟨fun hi => hi, fun hi => hi, fun x H2 hi q => ⟨q.1, ?_⟩⟩
  rw [List.getElem?_map, List.getElem?_range hi, q.2]
  rfl
theorem VRs.rng {K : KW} {f : Nat → Addr} {N : Nat} {H : Hp} (lo : Int) : ∀ l : List Nat, VRs K f N H (l.map fun k : Nat => MV.int (lo + k)) (l.map fun k : Nat => V.int (lo + k))
  | [] => .nil
  | _ :: r => .cons .int (VRs.rng lo r)
theorem oi_inv {x : MV} {i : Int} (e : oi x = some i) : x = .int i ∧ -4611686018427387904 ≤ i ∧ i < 4611686018427387904 := by
  cases x <;> first | cases e | skip
  rename_i j
  unfold oi at e
  simp only at e
  split at e
  · rename_i h
    cases e
    exact ⟨rfl, h⟩
  · cases e
theorem rngM_inv {x y : MV} {h : MH} {t : DM.It} {h' : MH} (e : rngM x y h = .ok t h') : ∃ m n : Int, x = .int m ∧ y = .int n ∧ (-(2 ^ 62) ≤ m ∧ m < 2 ^ 62 ∧ -(2 ^ 62) ≤ n ∧ n < 2 ^ 62) ∧ t = .items (rngL m n) ∧ h' = h := by
  unfold rngM at e
  split at e
  · rename_i m n e1 e2
    split at e
    · cases e
      obtain ⟨rfl, a1, a2⟩ := oi_inv e1
      obtain ⟨rfl, b1, b2⟩ := oi_inv e2
      exact ⟨_, _, rfl, rfl, by omega, rfl, rfl⟩
    · cases e
  · cases e
theorem rngM_noex {x y : MV} {h : MH} {c : Nat} {l : List MV} {h' : MH} (e : rngM x y h = .ex c l h') : False := by
  unfold rngM at e
  split at e
  · split at e <;> cases e
  · cases e
theorem jr_rng {m n : Int} {f : Nat → Addr} {h : MH} {H : Hp} (r : Rl Y.K Y.Z f h H) : JR Y f h H (.items (rngL m n)) (Itr m (n - m).toNat) := walk_of r (VRs.rng m (List.range (n - m).toNat)) walk_r
theorem i_rng (g : Good T Y W C CX lv inB N sc X) {tg : Expr} {x : Str} (e1 : x = "range") (e2 : glB sc x = true) (ha : PE X a (rdE Y W ma)) (hs : isStar a = false) : PI X tg (.Call (.Name x p) [a] [] pos) (rdI Y W fun σ h => (ma σ h).bind fun x h1 => rngM (.int 0) x h1) := by
  subst e1
  refine (pi_range1 (g.gl e2) (g.bt (by decide)) (pa_cons ha pa_nil (star_cons hs)) (star_cons hs)).conv fun σ H R q => ?_
  obtain ⟨f, ms, h, r, sr, q⟩ := q
  refine ⟨f, ms, h, r, sr, q.bind.mono fun v h1 f1 H1 _ x1 r1 g1 x rx => ?_⟩
  cases hm : rngM (.int 0) v h1 with
  | stk => rw [hm] at g1; exact g1.elim
  | ex c l h2 => exact (rngM_noex hm).elim
  | ok t h2 =>
    rw [hm] at g1
    obtain ⟨m, n, em, rfl, ⟨b1, b2, b3, b4⟩, rfl, rfl⟩ := rngM_inv hm
    cases em
    refine ⟨n, by rw [rx.int_inv], b3, b4, ?_⟩
    have e : n.toNat = (n - 0).toNat := by omega
    rw [e]
    exact G.ok r1 g1 _ (jr_rng r1)
theorem i_rng2 (g : Good T Y W C CX lv inB N sc X) {tg : Expr} {x : Str} (e1 : x = "range") (e2 : glB sc x = true) (ha : PE X a (rdE Y W ma)) (hs : isStar a = false) (hb : PE X b (rdE Y W mb)) (ht : isStar b = false) :
    PI X tg (.Call (.Name x p) [a, b] [] pos) (rdI Y W fun σ h => (ma σ h).bind fun x h1 => (mb σ h1).bind fun y h2 => rngM x y h2) := by
  subst e1
  have sb : starEach [b] X.env = [(false, eval b X.env)] := star_cons ht
  have sa : starEach [a, b] X.env = [(false, eval a X.env), (false, eval b X.env)] := by rw [star_cons hs, sb]
  refine (pi_range2 (g.gl e2) (g.bt (by decide)) (pa_cons ha (pa_cons hb pa_nil (star_cons ht)) (star_cons hs)) sa sb).conv fun σ H R q => ?_
  obtain ⟨f, ms, h, r, sr, q⟩ := q
  refine ⟨f, ms, h, r, sr, q.bind.mono fun v h1 f1 H1 _ x1 r1 g1 x rx => ?_⟩
  refine ⟨f1, ms, h1, r1, r.sr x1 sr, g1.bind.mono fun w h2 f2 H2 _ x2 r2 g2 y ry => ?_⟩
  cases hm : rngM v w h2 with
  | stk => rw [hm] at g2; exact g2.elim
  | ex c l h3 => exact (rngM_noex hm).elim
  | ok t h3 =>
    rw [hm] at g2
    obtain ⟨m, n, rfl, rfl, b, rfl, rfl⟩ := rngM_inv hm
    exact ⟨m, n, by rw [rx.int_inv, ry.int_inv], b, G.ok r2 g2 _ (jr_rng r2)⟩

theorem zipM_inv {x y : MV} {h : MH} {t : DM.It} {h' : MH} (e : zipM x y h = .ok t h') : h' = h ∧ ((∃ l m, x = .tup l ∧ y = .tup m ∧ t = .items (zipT l m)) ∨ ((∃ l, listOf h x = some l) ∧ (∃ l, listOf h y = some l) ∧ t = .zip x y)) := by
  unfold zipM at e
  split at e
  · cases e
    exact ⟨rfl, .inl ⟨_, _, rfl, rfl, rfl⟩⟩
  · split at e
    · rename_i l m e1 e2
      cases e
      exact ⟨rfl, .inr ⟨⟨_, e1⟩, ⟨_, e2⟩, rfl⟩⟩
    · cases e
theorem zipM_noex {x y : MV} {h : MH} {c : Nat} {l : List MV} {h' : MH} (e : zipM x y h = .ex c l h') : False := by
  unfold zipM at e
  split at e
  · cases e
  · split at e <;> cases e
theorem zipT_get : ∀ {l m : List MV} {i : Nat}, (zipT l m)[i]? = pairAt i l m
  | [], m, i => by unfold zipT pairAt; simp
  | x :: r, [], i => by unfold zipT pairAt; cases i <;> simp
  | x :: r, y :: t, 0 => rfl
  | x :: r, y :: t, i + 1 => by
    show (zipT r t)[i]? = _
    rw [zipT_get]
    rfl
theorem zipT_len : ∀ {l m : List MV}, (zipT l m).length = min l.length m.length
  | [], m => by unfold zipT; simp
  | x :: r, [] => by unfold zipT; simp
  | x :: r, y :: t => by
    show (zipT r t).length + 1 = _
    rw [zipT_len, List.length_cons, List.length_cons]
    omega
theorem isTup_ok {t : Expr} (h : isTup t = true) : ∃ a b c, t = .Tuple a b c := by
  cases t <;> first | exact ⟨_, _, _, rfl⟩ | cases h
theorem i_zip (g : Good T Y W C CX lv inB N sc X) {tg : Expr} {x : Str} (ht : isTup tg = true) (e1 : x = "zip") (e2 : glB sc x = true) (ha : PE X a (rdE Y W ma)) (hs : isStar a = false) (hb : PE X b (rdE Y W mb)) (hs2 : isStar b = false) :
    PI X tg (.Call (.Name x p) [a, b] [] pos) (rdI Y W fun σ h => (ma σ h).bind fun x h1 => (mb σ h1).bind fun y h2 => zipM x y h2) := by
  subst e1
  obtain ⟨t1, t2, t3, rfl⟩ := isTup_ok ht
  have sb : starEach [b] X.env = [(false, eval b X.env)] := star_cons hs2
  refine (RZ.pi_zipA (g.gl e2) (g.bt (by decide)) (pa_cons ha (pa_cons hb pa_nil (star_cons hs2)) (star_cons hs)) (star_cons hs) (by rw [sb]; rfl)).conv fun σ H R q => ?_
  obtain ⟨f, ms, h, r, sr, q⟩ := q
  refine ⟨f, ms, h, r, sr, q.bind.mono fun v h1 f1 H1 _ x1 r1 g1 x rx => ?_⟩
  refine ⟨f1, ms, h1, r1, r.sr x1 sr, g1.bind.mono fun w h2 f2 H2 _ x2 r2 g2 y ry => ?_⟩
  have rx := r1.vr x2 rx
  cases hm : zipM v w h2 with
  | stk => rw [hm] at g2; exact g2.elim
  | ex c l h3 => exact (zipM_noex hm).elim
  | ok t h3 =>
    rw [hm] at g2
    obtain ⟨rfl, hz⟩ := zipM_inv hm
    rcases hz with ⟨l, m, rfl, rfl, rfl⟩ | ⟨⟨l, el⟩, ⟨m, em⟩, rfl⟩
    · obtain ⟨pa, xs, rfl, sa, ta⟩ := rx.tup_inv
      obtain ⟨pb, ys, rfl, sb, tb⟩ := ry.tup_inv
      refine ⟨pa, pb, xs, ys, rfl, .inr ⟨g.K ▸ sa, g.K ▸ sb, G.ok r2 g2 _ ?_⟩⟩
      rw [g.K]
      intro f' h' H' x' r' i
      have sa' := (r2.text x').t _ _ sa
      have sb' := (r2.text x').t _ _ sb
      have ta' := r2.vrs x' ta
      have tb' := r2.vrs x' tb
      refine ⟨fun hl => ?_, fun mm em => ?_⟩
      · rw [zipT_len] at hl
        refine ⟨xs, ys, sa', sb', ?_⟩
        rw [← ta.length, ← tb.length]
        omega
      · rw [zipT_get] at em
        unfold pairAt at em
        split at em
        · rename_i u w eu ew
          cases em
          obtain ⟨z1, f1, g1⟩ := ta'.get eu
          obtain ⟨z2, f2, g2⟩ := tb'.get ew
          refine ⟨⟨xs, ys, z1, z2, sa', sb', f1, f2⟩, ?_⟩
          rintro y H' ⟨T, x1, x2, rfl, hT, rfl, h1, h2⟩
          have := h1 xs sa'
          rw [f1] at this
          cases this
          have := h2 ys sb'
          rw [f2] at this
          cases this
          exact r'.laidT hT (.cons g1 (.cons g2 .nil))
        · cases em
    · obtain ⟨pa, xs, rfl, sa, ta⟩ := listOf_sq r2 rx el
      obtain ⟨pb, ys, rfl, sb, tb⟩ := listOf_sq r2 ry em
      refine ⟨pa, pb, xs, ys, rfl, .inl ⟨g.K ▸ sa, g.K ▸ sb, G.ok r2 g2 _ ?_⟩⟩
      rw [g.K]
      exact ⟨pa, pb, rfl, rx, ry⟩
theorem i_enum (g : Good T Y W C CX lv inB N sc X) {tg : Expr} {x : Str} (ht : isTup tg = true) (e1 : x = "enumerate") (e2 : glB sc x = true) (ha : PE X a (rdE Y W ma)) (hs : isStar a = false) :
    PI X tg (.Call (.Name x p) [a] [] pos) (rdI Y W fun σ h => (ma σ h).bind fun x h1 => enumM x h1) := by
  subst e1
  obtain ⟨t1, t2, t3, rfl⟩ := isTup_ok ht
  refine (pi_enum (g.gl e2) (g.bt (by decide)) (pa_cons ha pa_nil (star_cons hs)) (star_cons hs)).conv fun σ H R q => ?_
  obtain ⟨f, ms, h, r, sr, q⟩ := q
  refine ⟨f, ms, h, r, sr, q.bind.mono fun v h1 f1 H1 _ x1 r1 g1 x rx => ?_⟩
  unfold enumM at g1
  split at g1
  · rename_i l el
    obtain ⟨pa, xs, rfl, sa, ta⟩ := listOf_sq r1 rx el
    refine ⟨pa, xs, rfl, g.K ▸ sa, G.ok r1 g1 _ ?_⟩
    rw [g.K]
    exact ⟨pa, rfl, rx⟩
  · exact g1.elim

/-! ### comprehensions -/
theorem Rl.fxD (r : Rl Y.K Y.Z f h H) {D : Addr} {vs : List V} {u : HO} (hD : H D = some (.lst vs)) : Fx Y.K H (upd H D u) := by
  refine ⟨?_, ?_⟩
  · rintro a xs ((q | ⟨o, q⟩) | q)
    · have : a ≠ D := fun z => by rw [z, hD] at q; cases q
      exact .inl (.inl (by rw [upd_ne this]; exact q))
    · have : a ≠ D := fun z => by rw [z, hD] at q; cases q
      exact .inl (.inr ⟨o, by rw [upd_ne this]; exact q⟩)
    · exact .inr q
  · rintro a xs (⟨o, q⟩ | q)
    · have : a ≠ D := fun z => by rw [z, hD] at q; cases q
      exact .inl ⟨o, by rw [upd_ne this]; exact q⟩
    · exact .inr q
theorem Rl.updD (r : Rl Y.K Y.Z f h H) {D : Addr} {vs : List V} {u : HO} (hD : H D = some (.lst vs)) (hn : ∀ n, n < h.size → f n ≠ D) : Rl Y.K Y.Z f h (upd H D u) :=
  ⟨fun n o q => (r.ob n o q).mono (Nat.le_refl _) (fun _ _ => rfl) (r.fxD (u := u) hD) (upd_ne (hn n (MH.get_lt q))), r.inj⟩
/-- the list gets its number -/
theorem Rl.name (r : Rl Y.K Y.Z f h H) {D : Addr} {l : List MV} {vs : List V} (hD : H D = some (.lst vs)) (hn : ∀ n, n < h.size → f n ≠ D) (t : VRs Y.K f h.size H l vs) : Rl Y.K Y.Z (nxt f h.size D) (h.push (.lst l)) H := by
  have up : ∀ {l : List MV} {vs : List V}, VRs Y.K f h.size H l vs → VRs Y.K (nxt f h.size D) (h.size + 1) H l vs := fun {l vs} t => VRs.mono (Nat.le_succ _) (fun n hn => nxt_lt hn) ⟨fun _ _ z => z, fun _ _ z => z⟩ _ _ t
  refine ⟨fun n x q => ?_, fun n m h1 h2 e => ?_⟩
  · have hn' : n < h.size + 1 := by rw [← MH.size_push h (.lst l)]; exact MH.get_lt q
    rw [MH.size_push]
    by_cases z : n = h.size
    · subst z
      rw [MH.get_push_size] at q
      cases q
      rw [nxt_at]
      exact ⟨vs, hD, up t⟩
    · have hn2 : n < h.size := by omega
      rw [MH.get_push_lt hn2] at q
      rw [nxt_lt hn2]
      exact (r.ob n x q).mono (Nat.le_succ _) (fun n hn => nxt_lt hn) ⟨fun _ _ z => z, fun _ _ z => z⟩ rfl
  · rw [MH.size_push] at h1 h2
    by_cases z1 : n = h.size
    · by_cases z2 : m = h.size
      · rw [z1, z2]
      · exfalso
        have hm : m < h.size := by omega
        rw [z1, nxt_at, nxt_lt hm] at e
        exact hn m hm e.symm
    · have hn2 : n < h.size := by omega
      by_cases z2 : m = h.size
      · exfalso
        rw [z2, nxt_at, nxt_lt hn2] at e
        exact hn n hn2 e
      · have hm : m < h.size := by omega
        rw [nxt_lt hn2, nxt_lt hm] at e
        exact r.inj n m hn2 hm e
theorem SR.wipe {N : Nat} (x : SR Y f N H ms σ) : ∀ own : List Nat, SR Y f N H (DM.wipe ms own) (L2.wipe σ own)
  | [] => x
  | i :: r => (SR.wipe x r).wipe1 i
theorem wipe_get {σ : L2.St} {j : Nat} : ∀ {vs : List Nat}, (L2.wipe σ vs)[j]? = if j ∈ vs then (if j < σ.length then some none else none) else σ[j]?
  | [] => by simp [L2.wipe]
  | v :: vs => by
    have ih := wipe_get (σ := σ) (j := j) (vs := vs)
    unfold L2.wipe
    by_cases hv : v = j
    · subst hv
      rw [if_pos List.mem_cons_self]
      by_cases hl : v < σ.length
      · rw [if_pos hl, List.getElem?_set_self (by rw [wipe_length]; exact hl)]
      · rw [if_neg hl, List.getElem?_eq_none (by rw [List.length_set, wipe_length]; omega)]
    · rw [List.getElem?_set_ne hv, ih]
      have e : (j ∈ v :: vs) ↔ j ∈ vs := by
        rw [List.mem_cons]
        exact ⟨fun q => q.resolve_left fun z => hv z.symm, .inr⟩
      by_cases hj : j ∈ vs
      · rw [if_pos hj, if_pos (e.mpr hj)]
      · rw [if_neg hj, if_neg fun q => hj (e.mp q)]
theorem wipe_same {σ σ' : L2.St} {vs o : List Nat} (s : Same o (L2.wipe σ vs) σ') (ho : ∀ j ∈ o, j ∈ vs) : L2.wipe σ' vs = L2.wipe σ vs := by
  refine List.ext_getElem? fun j => ?_
  have hl : σ'.length = σ.length := by rw [s.1, wipe_length]
  rw [wipe_get, wipe_get, hl]
  by_cases hj : j ∈ vs
  · rw [if_pos hj, if_pos hj]
  · rw [if_neg hj, if_neg hj, s.2 j (fun z => hj (ho j z)), wipe_get, if_neg hj]
end
end DM
set_option Elab.async false
set_option linter.all false
set_option maxRecDepth 100000
set_option maxHeartbeats 4000000
/-! S9h: list comprehensions while an exception is handled. -/
namespace DM
open PySem L2 PyProof.Rows PySem.Spec
section
variable {X : Cx} {pins : List (Addr × Obj)} {σ : L2.St} {H : Hp} {s : Shared} {q : Addr × Obj}
theorem HotP.ne_fp (hot : HotP q X) (I : Inv X pins σ H s) {b : Addr} {H' : Hp} (hb : FpOk X pins H' b) : q.1 ≠ b := by
  rcases hot.2 with c | ⟨c1, c2, c3, c4⟩
  · exact hb.2.2.2.2.2 q (List.mem_append_left _ c)
  · rintro rfl
    rcases hb.2.2.2.1 with z | z
    · exact c4 z
    · exact absurd (Nat.lt_of_lt_of_le (Heap.lt_size c1) z) (Nat.lt_irrefl _)
theorem HotP.blk {scope : Scope} {cenv : Env} {fp : List Addr} (hot : HotP q X) (I : Inv X pins σ H s) (hfp : ∀ b ∈ fp, FpOk X pins H b) : HotP q (X.blk s H scope cenv fp) := by
  have a := hot.2.here I
  exact ⟨hot.1, .inr ⟨a.1, a.2, hot.2.out I, fun hm => hot.ne_fp I (hfp _ hm) rfl⟩⟩
/-- an iterator's turns, while q is handled -/
structure TurnP (q : Addr × Obj) (P : Program) (w : World) (K : PySem.W.Frag) (tg : Expr) (J : L2.It) (fp : List Addr) (it : Addr) (tn : Nat → Heap → Prop) : Prop where
  there : ∀ i g, tn i g → ∀ b ∈ fp, ∃ o, g.get? b = some o ∧ ∀ v, o.data ≠ .cell v
  stays : ∀ i g g', tn i g → (∀ b ∈ fp, ∀ o, g.get? b = some o → g'.get? b = some o) → tn i g'
  next : ∀ (X : Cx), X.prog = P → X.w = w → X.K = K → HotP q X → ∀ i pins s σ H E, Inv X pins σ H s → (∀ b ∈ fp, FpOk X pins H b) → tn i s.heap → J.go i H →
    wpAny (model P w) X.A (pyNext (.ref it)) (fun r s1 => ∃ u, r = some u ∧ wpAny (model P w) X.A (letOwnedTupleGo tg (.ref it) u) (fun _ s2 => ∃ x H', Inv X pins σ H' s2 ∧ RelV x u ∧ J.yld i H x H' ∧ tn (i + 1) s2.heap ∧ ∀ b ∈ fp, H' b = none) E s1) E s
  last : ∀ (X : Cx), X.prog = P → X.w = w → X.K = K → HotP q X → ∀ i pins s σ H E, Inv X pins σ H s → (∀ b ∈ fp, FpOk X pins H b) → tn i s.heap → J.stop i H →
    wpAny (model P w) X.A (pyNext (.ref it)) (fun r s1 => r = none ∧ Inv X pins σ H s1) E s
  iter : ∀ (A : Around) i s Q E, tn i s.heap → Q (.ref it) s → wpAny (model P w) A (pyIter (.ref it)) Q E s
theorem turnP_list {P : Program} {w : World} {K : PySem.W.Frag} {tg : Expr} (a it : Addr) : TurnP q P w K tg (Itl K a) [it] it (fun i g => g.IsListIter it a i) where
  there := fun i g st b hb => by
    rw [List.mem_singleton.mp hb]
    obtain ⟨o, e, c, d⟩ := st
    exact ⟨o, e, fun v z => by rw [d] at z; cases z⟩
  stays := fun i g g' st k => st.at fun o e => k it (List.mem_singleton_self _) o e
  next := by
    intro X hP hw hK hot i pins s σ H E I hf st hg
    subst hP hw hK
    obtain ⟨xs, x, hq, hx⟩ := hg
    obtain ⟨its, rv, pl, hz⟩ := I.list hq
    obtain ⟨u, hu, ru⟩ := rv.get hx
    obtain ⟨f0, f1, f2, f3, f4, f5⟩ := hf it (List.mem_singleton_self _)
    refine wpAny_pyNext_list_item st pl.isList (x := u) (by simpa using hu) fun g1 st1 sb => ?_
    have I1 : Inv X pins σ H { s with heap := g1 } := I.turned (t' := s.toks) (fun b o hb e => (sb.2 b hb).trans e) f0 f1 f3 f4 f5
    obtain ⟨o, e, c, d⟩ := id st1
    refine ⟨u, rfl, go_of (s := { s with heap := g1 }) e c d (by decide) ⟨x, H, I1, ru, ⟨rfl, fun ys hy => ?_⟩, st1, fun b hb => (hf b hb).1⟩⟩
    rw [I.list_inj hy hq]
    exact hx
  last := by
    intro X hP hw hK hot i pins s σ H E I hf st hg
    subst hP hw hK
    obtain ⟨xs, hq, hx⟩ := hg
    obtain ⟨its, rv, pl, hz⟩ := I.list hq
    obtain ⟨f0, f1, f2, f3, f4, f5⟩ := hf it (List.mem_singleton_self _)
    have hl := rv.length
    exact endL_hot (hot.at_ I) st pl.isList (by simp; omega) fun g1 eb => ⟨rfl, I.turned (t' := s.toks) (fun b o hb e => eb b o hb e) f0 f1 f3 f4 f5⟩
  iter := fun _ _ _ _ _ st h => wpAny_pyIter_listiter st h
def PIEp (q : Addr × Obj) (X : Cx) (pins : List (Addr × Obj)) (σ : L2.St) (tg : Expr) (R : L2.It → Hp → Prop) (iv : Value) (s2 : Shared) : Prop :=
  ∃ it fp tn J H', iv = .ref it ∧ Inv X pins σ H' s2 ∧ TurnP q X.prog X.w X.K tg J fp it tn ∧ tn 0 s2.heap ∧ (∀ b ∈ fp, FpOk X pins H' b) ∧ R J H'
structure PIq (q : Addr × Obj) (X : Cx) (tg iter : Expr) (wi : TI) : Prop where
  run : ∀ pins s σ H R, Inv X pins σ H s → wi σ H R → wpAny (model X.prog X.w) X.A (eval iter X.env) (fun v s1 => wpAny (model X.prog X.w) X.A (pyIter v) (PIEp q X pins σ tg R) X.xe s1) X.xe s
theorem PIq.conv {tg e : Expr} {t t' : TI} (p : PIq q X tg e t) (k : ∀ σ H R, t' σ H R → t σ H R) : PIq q X tg e t' := ⟨fun pins s σ H R I z => p.run pins s σ H R I (k σ H R z)⟩
theorem piP_list {tg l : Expr} {tl : TE} (hl : PE X l tl) : PIq q X tg l (iList X.K tl) := by
  refine ⟨fun pins s σ H R I h => ?_⟩
  refine thn (hl.run pins s σ H _ I h) fun v s1 ⟨x, H1, I1, r1, q1⟩ => ?_
  obtain ⟨a, rfl, ⟨xs, hq⟩, qq⟩ := q1
  cases r1
  obtain ⟨its, rv, pl, hz⟩ := I1.list hq
  refine wpAny_pyIter_list pl.isList ⟨_, [s1.heap.objs.size], _, _, H1, rfl, I1.kept (t' := s1.toks) fun b o e => Heap.get?_push_of_some _ e, turnP_list a _, ⟨_, Heap.get?_push_size _ rfl, rfl, rfl⟩, fun b hb => ?_, qq⟩
  rw [List.mem_singleton.mp hb]
  exact I1.fpOk (Nat.le_refl _) (I1.hok.fresh (Nat.le_refl _))
variable {tg iter elt : Expr} {ifs : List Expr} {scope : Scope} {own : List (Str × Nat)} {pos pos' : Pos} {wi : TI} {g : TG} {tt : TT} {te : TE}
abbrev Cbk (X : Cx) (s : Shared) (H : Hp) (scope : Scope) (C : Addr) (cl : List (Str × Addr)) (fp : List Addr) : Cx := X.blk s H scope (compEnvC scope cl C X.env) fp
theorem lcP_core {Q : VK} {use : Option (Value → Sem Unit)} {Qf : Value → Shared → Prop} (hot : HotP q X) (hN : X.N.Nodup) (I : Inv X pins σ H s) (hi : PIq q X tg iter wi) (ok : BlkOk X.N X.env.scope scope own)
    (hg : ∀ s H C cl fp, HotP q (Cbk X s H scope C cl fp) → PG (Cbk X s H scope C cl fp) tg g) (ht : ∀ s H C cl fp, HotP q (Cbk X s H scope C cl fp) → PTs (Cbk X s H scope C cl fp) ifs tt) (he : ∀ s H C cl fp, HotP q (Cbk X s H scope C cl fp) → PE (Cbk X s H scope C cl fp) elt te)
    (hs : ∀ x, foldedSetIterable iter X.env x = pure x) (h : tLc wi g tt te (own.map (·.2)) σ H Q)
    (hR : ∀ D C s' m H', Inv X pins σ H' s' → Q (.ref D) H' → s'.heap.Ns C m → FpOk X pins H' C → compPost (model X.prog X.w) X.A X.xe use Qf (.ref D) C (.ok .next) s') :
    wpAny (model X.prog X.w) X.A (comprehension (.ListComp elt [⟨tg, iter, ifs, 0⟩] scope pos) scope X.env pos' (PySem.newList []) false (eval iter X.env) use) Qf X.xe s := by
  have free : ∀ y ∈ scope.names, y.2 = .free → ∃ c, X.env.cells.lookup y.1 = some c := by
    intro y hy e
    rcases ok.free y hy e with k | k
    · exact I.ok.has _ (.inl k)
    · exact I.ok.has _ (.inr k)
  refine wpAny_comprehension_free (use := use) rfl hs (closure_ok free) ok.kind (fun y hy e => by rw [ok.uniq y hy, e]) (thn (hi.run pins s σ H _ I h) fun xv sA hx => thn hx fun itv sB hB => ?_)
  obtain ⟨it, fp, tn, J, HB, rfl, IB, T, stB, fB, qB⟩ := hB
  refine wpAny_newObj_type (newEnv_comp ?_) (by show 0 ≤ sizeLine; decide)
  obtain ⟨D, hD⟩ : ∃ D, sB.heap.objs.size = D := ⟨_, rfl⟩
  rw [hD]
  have DB : HB D = none := IB.hok.fresh (Nat.le_of_eq hD)
  obtain ⟨Wv, ⟨m0, w0⟩, turn⟩ := qB D DB
  obtain ⟨ob, hob⟩ : ∃ ob : Obj, ob = { cls := .type "list", data := .seq ([] : List Value).toArray } := ⟨_, rfl⟩
  obtain ⟨sC, hsC⟩ : ∃ sC : Shared, sC = { sB with heap := sB.heap.push ob } := ⟨_, rfl⟩
  have hC : sC.heap = sB.heap.push ob := by rw [hsC]
  have IC : Inv X pins σ (upd HB D (.lst [])) sC := by
    rw [hsC]
    refine IB.laid (t' := sB.toks) (fun b o e => Heap.get?_push_of_some _ e) (Nat.le_of_eq hD) ⟨Nat.zero_le _, [], 0, .nil, ?_⟩
    rw [← hD, hob]
    exact Heap.get?_push_size _ rfl
  have below : ∀ b ∈ fp, b < sB.heap.objs.size := by
    intro b hb
    obtain ⟨o, e, _⟩ := T.there _ _ stB b hb
    exact Heap.lt_size e
  have fC : ∀ b ∈ fp, FpOk X pins (upd HB D (.lst [])) b ∧ b < sC.heap.objs.size := by
    intro b hb
    have lt := below b hb
    have ne : b ≠ D := by rw [← hD]; exact Nat.ne_of_lt lt
    exact ⟨⟨by rw [upd_ne ne]; exact (fB b hb).1, (fB b hb).2⟩, by rw [hC, Heap.size_push]; exact Nat.lt_succ_of_lt lt⟩
  have stC : tn 0 sC.heap := T.stays _ _ _ stB fun b _ o e => by rw [hC]; exact Heap.get?_push_of_some _ e
  have ID := block_start IC ok hN fC
  rw [← hob, ← hsC]
  obtain ⟨cl, hcl⟩ : ∃ cl, cl = cellsFrom (sC.heap.objs.size + 1) scope.names (cloFrom X.env.cells scope.names []) := ⟨_, rfl⟩
  rw [← hcl] at ID
  obtain ⟨ce, hce⟩ : ∃ ce, ce = compEnvC scope cl sC.heap.objs.size X.env := ⟨_, rfl⟩
  obtain ⟨HC, hHC⟩ : ∃ HC, HC = upd HB D (.lst []) := ⟨_, rfl⟩
  obtain ⟨sD, hsD⟩ : ∃ sD : Shared, sD = { sC with heap := pushCells (sC.heap.push { cls := .type "dict", data := .dict #[] }) scope.names } := ⟨_, rfl⟩
  have hotB : HotP q (X.blk sC HC scope (compEnvC scope cl sC.heap.objs.size X.env) fp) := by
    rw [hHC]
    exact hot.blk IC fun b hb => (fC b hb).1
  have pg := hg sC HC sC.heap.objs.size cl fp hotB
  have pt := ht sC HC sC.heap.objs.size cl fp hotB
  have pb := he sC HC sC.heap.objs.size cl fp hotB
  unfold Cbk at pg pt pb
  show codeAny _ _ (.compStart (.ListComp elt [⟨tg, iter, ifs, 0⟩] scope pos) 0 (.ref it) (.ref D) (compEnvC scope (cellsFrom (sC.heap.objs.size + 1) scope.names (cloFrom X.env.cells scope.names [])) sC.heap.objs.size X.env)) (compPost (model X.prog X.w) X.A X.xe use Qf (.ref D) sC.heap.objs.size) { sC with heap := pushCells (sC.heap.push { cls := .type "dict", data := .dict #[] }) scope.names }
  rw [← hcl]
  have cL : ce.locals = sC.heap.objs.size := by rw [hce]; rfl
  rw [← hce] at pg pt pb ID hotB ⊢
  rw [← hsD] at ID ⊢
  rw [← hHC] at ID IC fC w0
  have nfp : ∀ b ∈ fp, HC b = none := fun b hb => (fC b hb).1.1
  have stD : tn 0 sD.heap := T.stays _ _ _ stC fun b _ o e => by rw [hsD]; exact pushCells_keeps _ _ _ _ (Heap.get?_push_of_some _ e)
  have still : ∀ {σ' : L2.St} {Ha : Hp} {sa : Shared}, Inv (X.blk sC HC scope ce fp) [] σ' Ha sa → (∀ b ∈ fp, Ha b = none) → ∀ b ∈ fp, FpOk (X.blk sC HC scope ce fp) [] Ha b := by
    intro σ' Ha sa Ia hn b hb
    exact ⟨hn b hb, (Ia.ok.exf b hb).1, Ia.ok.exfs b hb, .inl hb, fun x c e => (Ia.ok.exf b hb).2 x c e, fun p hp => absurd (show p ∈ ([] : List (Addr × Obj)) ++ [] from hp) (by simp)⟩
  have run : codeAny (model X.prog X.w) X.A (.compLoop (.ListComp elt [⟨tg, iter, ifs, 0⟩] scope pos) 0 (.ref it) (.ref D) ce) (compPost (model X.prog X.w) X.A X.xe use Qf (.ref D) sC.heap.objs.size) sD := by
    refine compLoop_any (fun n sa => ∃ i Ha, Inv (X.blk sC HC scope ce fp) [] (L2.wipe σ (own.map (·.2))) Ha sa ∧ tn i sa.heap ∧ (∀ b ∈ fp, Ha b = none) ∧ Wv i n Ha) ?_ m0 ⟨0, HC, ID, stD, nfp, w0⟩
    rintro n sa ⟨i, Ha, Ia, sta, na, wa⟩
    rcases turn i n Ha wa with ⟨stop, qq⟩ | ⟨go, Nx, hNx, step⟩
    · refine thnF (T.last (X.blk sC HC scope ce fp) rfl rfl rfl hotB i [] sa _ Ha (fun _ _ => False) Ia (still Ia na) sta stop) fun r sb ⟨hr, Ib⟩ => ?_
      subst hr
      have Ix : Inv X pins σ Ha sb := IC.call' (ch := fp) Ib.os Ib.base Ib.hok Ib.bare fun b hb => ⟨(fC b hb).1.2.2.2.1, (fC b hb).1.2.1, (fC b hb).1.2.2.2.2.1, (fC b hb).1.2.2.2.2.2⟩
      have nC : Ha sC.heap.objs.size = none := by
        have z : Ha ce.locals = none := Ib.free
        rwa [cL] at z
      obtain ⟨m, hm, _⟩ := Ib.loc
      have hm : sb.heap.Ns ce.locals m := hm
      rw [cL] at hm
      exact hR D _ sb m Ha Ix qq hm (IC.fpOk (Nat.le_refl _) nC)
    · refine thnF (T.next (X.blk sC HC scope ce fp) rfl rfl rfl hotB i [] sa _ Ha (fun _ _ => False) Ia (still Ia na) sta go) fun r sb ⟨u, hr, hb1⟩ => ?_
      subst hr
      refine thnF hb1 fun _ sc ⟨x, Hc, Ic, rc, yc, stc, nc⟩ => ?_
      refine thnF (pg.run _ sc _ Hc x u _ (Ic.pinned (still Ic nc) (T.there _ _ stc)) rc (step x Hc yc)) fun _ sd ⟨σd, Hd, Id, wd, qd⟩ => ?_
      refine thnF (pt.run _ sd σd Hd _ Id qd) fun b se ⟨He, Ie, qe⟩ => ?_
      have fin : ∀ (sz : Shared) (Hz : Hp), Inv (X.blk sC HC scope ce fp) ([] ++ pinsAt fp sc.heap) σd Hz sz → Nx Hz → ∃ m, m < n ∧ ∃ i Ha, Inv (X.blk sC HC scope ce fp) [] (L2.wipe σ (own.map (·.2))) Ha sz ∧ tn i sz.heap ∧ (∀ b ∈ fp, Ha b = none) ∧ Wv i m Ha := by
        intro sz Hz Iz nx
        obtain ⟨m', hm, wz⟩ := hNx Hz nx
        have pin : ∀ b ∈ fp, ∀ o, sc.heap.get? b = some o → sz.heap.get? b = some o ∧ Hz b = none := by
          intro b hb o e
          have z := Iz.pin (b, o) (List.mem_append_right _ (List.mem_append_right _ (mem_pinsAt hb e)))
          exact ⟨z.1, z.2.1⟩
        have hl : (L2.wipe σ (own.map (·.2))).length = σd.length := by rw [← wd, wipe_length]
        refine ⟨m', hm, i + 1, Hz, (Iz.unpinned (pins := [])).weak hl (fun j v e => ?_), T.stays _ _ _ stc fun b hb o e => (pin b hb o e).1, fun b hb => ?_, wz⟩
        · rw [← wd] at e
          exact (wipe_some e).1
        · obtain ⟨o, e, _⟩ := T.there _ _ stc b hb
          exact (pin b hb o e).2
      cases b with
      | false =>
        simp only [Bool.false_eq_true, if_false] at qe ⊢
        exact fin _ _ Ie qe
      | true =>
        simp only [if_true] at qe ⊢
        refine thnF (pb.run _ se σd He _ Ie qe) fun z sf ⟨yv, Hf, If, rf, acc, d1, d2, nx⟩ => ?_
        exact app_ok (X := X.blk sC HC scope ce fp) If d1 d2 rf fun sz Iz => fin sz _ Iz nx
  exact codeAny_compStart_list run (T.iter X.A 0 _ _ _ stD run)
theorem pe_lcP (hot : HotP q X) (hN : X.N.Nodup) (hi : PIq q X tg iter wi) (ok : BlkOk X.N X.env.scope scope own)
    (hg : ∀ s H C cl fp, HotP q (Cbk X s H scope C cl fp) → PG (Cbk X s H scope C cl fp) tg g) (ht : ∀ s H C cl fp, HotP q (Cbk X s H scope C cl fp) → PTs (Cbk X s H scope C cl fp) ifs tt) (he : ∀ s H C cl fp, HotP q (Cbk X s H scope C cl fp) → PE (Cbk X s H scope C cl fp) elt te)
    (hs : ∀ x, foldedSetIterable iter X.env x = pure x) : PE X (.ListComp elt [⟨tg, iter, ifs, 0⟩] scope pos) (tLc wi g tt te (own.map (·.2))) := by
  refine ⟨fun pins s σ H Q I h => ?_⟩
  rw [eval_ListComp]
  refine lcP_core (use := none) (Qf := fun v s' => EP X pins σ Q v s') hot hN I hi ok hg ht he hs h fun D C s' m H' I' qq hn f => ⟨m, hn, fun g1 sb => ?_⟩
  obtain ⟨f0, f1, f2, f3, f4, f5⟩ := f
  exact ⟨.ref D, H', I'.turned (t' := s'.toks) (fun b o hb e => (sb.2 b hb).trans e) f0 f1 f3 f4 f5, rfl, qq⟩
theorem ps_setLcP {i : Nat} {y : Str} {py spos : Pos} (hot : HotP q X) (hN : X.N.Nodup) (hy : X.N[i]? = some y) (hl : X.env.scope.names.lookup y = some .local)
    (hw : swapsWith (.ListComp elt [⟨tg, iter, ifs, 0⟩] scope pos) (some (.Name y py)) spos.line X.env = pure true) (hi : PIq q X tg iter wi) (ok : BlkOk X.N X.env.scope scope own)
    (hg : ∀ s H C cl fp, HotP q (Cbk X s H scope C cl fp) → PG (Cbk X s H scope C cl fp) tg g) (ht : ∀ s H C cl fp, HotP q (Cbk X s H scope C cl fp) → PTs (Cbk X s H scope C cl fp) ifs tt) (he : ∀ s H C cl fp, HotP q (Cbk X s H scope C cl fp) → PE (Cbk X s H scope C cl fp) elt te)
    (hs : ∀ x, foldedSetIterable iter X.env x = pure x) : PS X (.Assign [.Name y py] (.ListComp elt [⟨tg, iter, ifs, 0⟩] scope pos) spos) (tAsg (tLc wi g tt te (own.map (·.2))) (gName i)) := by
  refine ⟨fun pins s σ H D I h => ?_⟩
  rw [exec_Assign_Name_used _ _ _ _ hw]
  refine wpAny_bind (wpAny_standAt (wpAny_bind ?_))
  show wpAny _ X.A (do let _ ← comprehension (.ListComp elt [⟨tg, iter, ifs, 0⟩] scope pos) scope X.env (firstIterPos [⟨tg, iter, ifs, 0⟩] pos) (PySem.newList []) false (eval iter X.env) (some (assign (.Name y py) X.env))) _ _ _
  have h : tLc wi g tt te (own.map (·.2)) σ H (fun x H1 => gName i x σ H1 D.nx) := h
  refine wpAny_bind (thn (lcP_core (use := some (assign (.Name y py) X.env)) (Qf := fun _ s' => SP X pins D .next s') hot hN I hi ok hg ht he hs h fun L C s' m H' I' qq hn f => ?_) fun _ s' hq => wpAny_pure (wpAny_pure hq))
  show wpAny _ _ (assign (.Name y py) X.env (.ref L)) _ _ _
  refine wpAny_assign_Name (store_ok2 (v := V.ref L) I' hN hy (.inl hl) rfl (fun s2 I2 ⟨a, sb, ha⟩ => ?_) (.inr hl))
  obtain ⟨f0, f1, f2, f3, f4, f5⟩ := f
  have ne : C ≠ a := by
    rcases ha with z | z
    · exact z ▸ f1
    · exact fun e => f4 y a z e.symm
  exact ⟨m, hn.sameBut sb ne, fun h3 sb3 => ⟨_, H', I2.turned (t' := s2.toks) (fun b o hb e => (sb3.2 b hb).trans e) f0 f1 f3 f4 f5, qq⟩⟩
end
section
variable {T : Tab} {Y : Ctx} {W : Wish} {C : Nat → List MV → MH → R MV} {CX : CXT} {lv : Nat} {inB : Bool} {N : List Str} {sc : Scope} {X : Cx}
variable {a : Expr} {ma : En → MH → R MV} {q : Addr × Obj}
/-- lists, while an exception is handled -/
theorem i_exL (g : Good T Y W C CX lv inB N sc X) {tg : Expr} (ha : PE X a (rdE Y W ma)) : PIq q X tg a (rdI Y W fun σ h => (ma σ h).bind fun x h1 => itLM x h1) := by
  refine (piP_list ha).conv fun σ H R q => ?_
  obtain ⟨f, ms, h, r, sr, q⟩ := q
  refine ⟨f, ms, h, r, sr, q.bind.mono fun v h1 f1 H1 _ x1 r1 g1 x rx => ?_⟩
  unfold itLM at g1
  split at g1
  · rename_i l el
    obtain ⟨p, vs, rfl, sq, t⟩ := listOf_sq r1 rx el
    unfold itM itOf at g1
    cases v with
    | ref n =>
      simp only at g1
      rw [el] at g1
      obtain ⟨hn, e2⟩ := rx.ref_inv
      cases e2
      exact ⟨_, rfl, ⟨vs, g.K ▸ sq⟩, g.K ▸ G.ok r1 g1 _ ⟨hn, rfl⟩⟩
    | kl l =>
      obtain ⟨p, vs, e3, sq, t⟩ := rx.kl_inv
      cases e3
      exact ⟨_, rfl, ⟨vs, g.K ▸ sq.sq⟩, g.K ▸ G.ok r1 g1 _ (walk_of r1 t (walk_l sq))⟩
    | _ => unfold listOf at el; cases el
  · exact g1.elim
end
end DM
set_option Elab.async false
set_option linter.all false
set_option maxRecDepth 100000
set_option maxHeartbeats 4000000
/-! S10: comprehensions, statements. -/
namespace DM
open PySem L2 PyProof.Rows PySem.Spec
section
variable {T : Tab} {Y : Ctx} {W : Wish} {C : Nat → List MV → MH → R MV} {CX : CXT} {lv : Nat} {inB : Bool} {N : List Str} {sc : Scope} {X : Cx}
variable {σ : L2.St} {H H' : Hp} {f f' : Nat → Addr} {h h' : MH} {ms : En}
variable {a b c e : Expr} {ma mb mc : En → MH → R MV} {p pos : Pos} {es : List Expr} {me mk : En → MH → R (List MV)}
theorem noEx_ok {α : Type} {r : R α} {a : α} {h : MH} (e : r.noEx = .ok a h) : r = .ok a h := by
  cases r <;> first | exact e | cases e
theorem noEx_no {α : Type} {r : R α} {c : Nat} {l : List MV} {h : MH} (e : r.noEx = .ex c l h) : False := by
  cases r <;> cases e
theorem lcl_noex {body : MV → MH → R (Option MV)} {t : DM.It} (hb : ∀ v h c l h', body v h ≠ .ex c l h') : ∀ (n i : Nat) (acc : List MV) (h : MH) (c : Nat) (l : List MV) (h' : MH), lcl body t n i acc h ≠ .ex c l h'
  | 0, i, acc, h, c, l, h', e => by
    unfold lcl at e
    split at e <;> cases e
  | n + 1, i, acc, h, c, l, h', e => by
    unfold lcl at e
    split at e
    · cases e
    · rename_i v _
      cases hv : body v h with
      | ex c l h2 => exact hb v h c l h2 hv
      | stk => rw [hv] at e; cases e
      | ok o h2 =>
        rw [hv] at e
        have e : (match o with
          | some x => if acc.length < LIM then lcl body t n (i + 1) (acc ++ [x]) h2 else .stk
          | none => lcl body t n (i + 1) acc h2) = .ex c l h' := e
        split at e
        · split at e
          · exact lcl_noex hb n _ _ _ _ _ _ e
          · cases e
        · exact lcl_noex hb n _ _ _ _ _ _ e
    · cases e
theorem Ext.keepD {N N' : Nat} (x : Ext f N H f' N' H') {D : Addr} {o : HO} (hD : H D = some o) (hn : ∀ n, n < N → f n ≠ D) : H' D = some o ∧ ∀ n, n < N' → f' n ≠ D := by
  refine ⟨x.fr D o hD hn, fun n h2 z => ?_⟩
  by_cases hc : n < N
  · exact hn n hc (by rw [← x.ag n hc]; exact z)
  · have := x.nw n (by omega) h2
    rw [z, hD] at this
    cases this
theorem Ext.updD {N N' : Nat} (x : Ext f N H f' N' H') {D : Addr} {u : HO} (hD : H D = none) : Ext f N H f' N' (upd H' D u) := ⟨x.sz, x.ag, fun a o q hq => by
  rw [upd_ne (ne_of_none q hD)]
  exact x.fr a o q hq, x.nw, fun a q => by
    by_cases z : a = D
    · rw [z]; exact hD
    · rw [upd_ne z] at q; exact x.dm a q, fun a o v q => by
  rw [upd_ne (ne_of_none q hD)]
  exact x.fz a o v q⟩
theorem v_lc {mi : En → MH → R DM.It} {mg : MV → En → MH → R En} {mt : En → MH → R Bool} {mx : En → MH → R MV} {o own : List Nat} (ho : ∀ j ∈ o, j ∈ own) {σ : L2.St} {H : Hp} {Q : VK}
    (q : rdE Y W (lcM mi mg mt mx own) σ H Q) : tLc (rdI Y W mi) (rdG Y NoW mg o) (rdT Y NoW mt) (rdE Y NoW mx) own σ H Q := by
  obtain ⟨f, ms, h, r, sr, q⟩ := q
  unfold lcM at q
  refine ⟨f, ms, h, r, sr, q.bind.mono fun t h1 f1 H1 _ x1 r1 g1 J j D hD => ?_⟩
  have sr1 := r.sr x1 sr
  cases hlen : t.len h1 with
  | none => rw [hlen] at g1; exact g1.elim
  | some n =>
    rw [hlen] at g1
    simp only at g1
    cases e : lcl (lcB mg mt mx own ms) t n 0 [] h1 with
    | stk => rw [e] at g1; exact g1.elim
    | ex c l h2 => exact (lcl_noex (fun v h c l h' e => noEx_no e) _ _ _ _ _ _ _ e).elim
    | ok l h2 =>
      rw [e] at g1
      have g1 : G Y W σ f1 h1 H1 (newList h2 l) _ := g1
      have fin : ∀ (f : Nat → Addr) (H : Hp) (aV : List V), Ext f1 h1.size H1 f h2.size H → Rl Y.K Y.Z f h2 H → (∀ n, n < h2.size → f n ≠ D) → H D = some (.lst aV) → VRs Y.K f h2.size H l aV → Q (.ref D) H := by
        intro f H aV x r hn hd rv
        unfold newList at g1
        split at g1
        · have ex : Ext f1 h1.size H1 (nxt f h2.size D) (h2.push (.lst l)).size H := by
            rw [MH.size_push]
            refine ⟨Nat.le_succ_of_le x.sz, fun n hl => (nxt_lt (Nat.lt_of_lt_of_le hl x.sz)).trans (x.ag n hl), x.fr, fun n l1 l2 => ?_, x.dm, x.fz⟩
            by_cases z : n = h2.size
            · rw [z, nxt_at]; exact hD
            · rw [nxt_lt (by omega)]
              exact x.nw n l1 (by omega)
          refine g1 _ _ ex (r.name hd hn rv) _ ?_
          have e3 : nxt f h2.size D h2.size = D := nxt_at
          have := VR.ref (K := Y.K) (f := nxt f h2.size D) (H := H) (N := (h2.push (.lst l)).size) (n := h2.size) (by rw [MH.size_push]; omega)
          rwa [e3] at this
        · exact g1.elim
      refine ⟨fun i m H' => ∃ f h acc aV, Ext f1 h1.size H1 f h.size H' ∧ Rl Y.K Y.Z f h H' ∧ (∀ n, n < h.size → f n ≠ D) ∧ H' D = some (.lst aV) ∧ VRs Y.K f h.size H' acc aV ∧ lcl (lcB mg mt mx own ms) t m i acc h = .ok l h2,
        ⟨n, f1, h1, [], [], Ext.aside hD, r1.aside hD, fun k hk z => (r1.named hk).2 (z ▸ hD), upd_same, .nil, e⟩, ?_⟩
      rintro i m H' ⟨f, h, acc, aV, x, r, hn, hd, rv, el⟩
      have stop : t.at h i = some none → acc = l → h = h2 → J.stop i H' ∧ Q (.ref D) H' := fun ea e1 e2 => by
        subst e1 e2
        exact ⟨j.step r1 x r ea, fin f H' aV x r hn hd rv⟩
      cases m with
      | zero =>
        unfold lcl at el
        split at el
        · rename_i ea
          cases el
          exact .inl (stop ea rfl rfl)
        · cases el
      | succ m =>
        unfold lcl at el
        split at el
        · rename_i ea
          cases el
          exact .inl (stop ea rfl rfl)
        · rename_i v ea
          obtain ⟨go, yl⟩ := j.step r1 x r ea
          obtain ⟨ov, h5, e5, el⟩ := bind_ok el
          have e5 := noEx_ok e5
          obtain ⟨ms3, h3, ea3, e5⟩ := bind_ok e5
          obtain ⟨bt, h4, eb4, e5⟩ := bind_ok e5
          refine .inr ⟨go, _, fun H'' w => ⟨m, Nat.lt_succ_self m, w⟩, fun y H'' yy => ?_⟩
          obtain ⟨xi, ri, ry⟩ := yl y H'' yy
          obtain ⟨hd, hn⟩ := xi.keepD hd hn
          replace rv := r.vrs xi rv
          replace x := x.trans xi
          clear go yl
          replace r := ri
          refine ⟨f, DM.wipe ms own, h, v, r, SR.wipe (r1.sr x sr1) own, ry, ?_⟩
          rw [ea3]
          intro f3 H3 x3 r3 σ3 sr3 same3
          refine ⟨wipe_same same3 ho, f3, ms3, h3, r3, sr3, ?_⟩
          rw [eb4]
          intro f4 H4 x4 r4
          obtain ⟨d3, n3⟩ := x3.keepD hd hn
          obtain ⟨d4, n4⟩ := x4.keepD d3 n3
          have x34 := x3.trans x4
          cases bt with
          | false =>
            simp only [Bool.false_eq_true, if_false] at e5 ⊢
            cases e5
            exact ⟨f4, _, acc, aV, x.trans x34, r4, n4, d4, r.vrs x34 rv, el⟩
          | true =>
            simp only [if_true] at e5 ⊢
            obtain ⟨xv, h6, ex6, e5⟩ := bind_ok e5
            cases e5
            refine ⟨f4, ms3, h4, r4, r3.sr x4 sr3, ?_⟩
            rw [ex6]
            intro f5 H5 x5 r5 z rz
            obtain ⟨d5, n5⟩ := x5.keepD d4 n4
            simp only at el
            split at el
            · rename_i hl
              have rv5 := r4.vrs x5 (r.vrs x34 rv)
              refine ⟨aV, d5, by rw [← rv.length, ← LIM_eq]; exact hl, f5, _, acc ++ [xv], aV ++ [z], ((x.trans x34).trans x5).updD hD, r5.updD d5 n5, n5, upd_same, ?_, el⟩
              exact VRs.mono (Nat.le_refl _) (fun _ _ => rfl) (r5.fxD d5) _ _ (rv5.append (.cons rz .nil))
            · cases el
        · cases el
theorem Good.blkT (g : Good T Y W C CX lv inB N sc X) {s : Shared} {H : Hp} {scope : Scope} {A : Addr} {cl : List (Str × Addr)} {fp : List Addr} (hb : T.hot = true → HotP (Y.ea, Y.eo) (X.blk s H scope (compEnvC scope cl A X.env) fp)) : Good T Y NoW C CX lv true N (relS scope sc) (X.blk s H scope (compEnvC scope cl A X.env) fp) where
  eN := g.eN
  nd := g.nd
  eS := by rw [← g.eS]; rfl
  K := g.K
  Wo := g.Wo
  calm := g.calm
  gd := g.gd
  room := g.room
  rmH := g.rmH
  es := g.es
  hot := fun h => ⟨hb h, (g.hot h).2⟩
  hes := g.hes
  cxe := g.cxe
  fn := fun x e => by
    unfold locB at e
    split at e
    · exact .inr (by assumption)
    · cases e
    · cases e
  pass := fun σ pins H s e s' I c => g.fc.cx _ _ _ _ _ c
  tk := fun u s' ⟨_, _, _, _, _, _, _, _, _, _, _, _, _, _, _, _, w⟩ => w.elim
  fc := g.fc
theorem Good.blk (g : Good T Y W C CX lv inB N sc X) (hh : T.hot = false) {s : Shared} {H : Hp} {scope : Scope} {A : Addr} {cl : List (Str × Addr)} {fp : List Addr} : Good T Y NoW C CX lv true N (relS scope sc) (X.blk s H scope (compEnvC scope cl A X.env) fp) :=
  g.blkT fun h => absurd (hh.symm.trans h) Bool.false_ne_true
theorem noSet {iter : Expr} {env : Env} {x : Value} (h : isSet iter = false) : foldedSetIterable iter env x = pure x := by
  unfold foldedSetIterable
  cases iter <;> first | rfl | cases h
section
variable {tg iter elt : Expr} {ifs : List Expr} {scope : Scope} {ow : List (Str × Nat)} {mi : En → MH → R DM.It} {mg : MV → En → MH → R En} {mt : En → MH → R Bool} {mx : En → MH → R MV} {o own : List Nat}
theorem _root_.L2.PTs.conv {X : Cx} {e : List Expr} {t t' : TT} (p : PTs X e t) (k : ∀ σ H Q, t' σ H Q → t σ H Q) : PTs X e t' := ⟨fun pins s σ H Q I q => p.run pins s σ H Q I (k σ H Q q)⟩
theorem ts_no : PTs X [] (rdT Y W fun σ h => .ok true h) := by
  refine pts_nil.conv fun σ H Q q => ?_
  obtain ⟨f, ms, h, r, sr, q⟩ := q
  exact G.ok r q
theorem c_lc (g : Good T Y W C CX lv inB N sc X) (hh : T.hot = false) (hi : PI X tg iter (rdI Y W mi)) (ok : BlkOk N sc scope ow) (hg : ∀ X', Good T Y NoW C CX lv true N (relS scope sc) X' → PG X' tg (rdG Y NoW mg o))
    (ht : ∀ X', Good T Y NoW C CX lv true N (relS scope sc) X' → PTs X' ifs (rdT Y NoW mt)) (he : ∀ X', Good T Y NoW C CX lv true N (relS scope sc) X' → PE X' elt (rdE Y NoW mx)) (ho : ∀ j ∈ o, j ∈ ow.map (·.2)) (hs : isSet iter = false) :
    PE X (.ListComp elt [⟨tg, iter, ifs, 0⟩] scope p) (rdE Y W (lcM mi mg mt mx (ow.map (·.2)))) :=
  (pe_lc (g.calm hh) (g.eN ▸ g.nd) hi (by rw [g.eN, g.eS]; exact ok) (fun s H A cl fp => hg _ (g.blk hh)) (fun s H A cl fp => ht _ (g.blk hh)) (fun s H A cl fp => he _ (g.blk hh)) (fun x => noSet hs)).conv fun σ H Q q => v_lc ho q
theorem c_lcH (g : Good T Y W C CX lv inB N sc X) (hh : T.hot = true) (hi : PIq (Y.ea, Y.eo) X tg iter (rdI Y W mi)) (ok : BlkOk N sc scope ow) (hg : ∀ X', Good T Y NoW C CX lv true N (relS scope sc) X' → PG X' tg (rdG Y NoW mg o))
    (ht : ∀ X', Good T Y NoW C CX lv true N (relS scope sc) X' → PTs X' ifs (rdT Y NoW mt)) (he : ∀ X', Good T Y NoW C CX lv true N (relS scope sc) X' → PE X' elt (rdE Y NoW mx)) (ho : ∀ j ∈ o, j ∈ ow.map (·.2)) (hs : isSet iter = false) :
    PE X (.ListComp elt [⟨tg, iter, ifs, 0⟩] scope p) (rdE Y W (lcM mi mg mt mx (ow.map (·.2)))) :=
  (pe_lcP (g.hot hh).1 (g.eN ▸ g.nd) hi (by rw [g.eN, g.eS]; exact ok) (fun s H A cl fp hb => hg _ (g.blkT fun _ => hb)) (fun s H A cl fp hb => ht _ (g.blkT fun _ => hb)) (fun s H A cl fp hb => he _ (g.blkT fun _ => hb)) (fun x => noSet hs)).conv fun σ H Q q => v_lc ho q
end

/-! ### statements -/
def GS (Y : Ctx) (W : Wish) (f : Nat → Addr) (h : MH) (H : Hp) (r : RS) (D : Ends) : Prop := match r with
  | .nx ms h' => ∀ f' H' σ', Ext f h.size H f' h'.size H' → Rl Y.K Y.Z f' h' H' → SR Y f' h'.size H' ms σ' → D.nx σ' H'
  | .bk ms h' => ∀ f' H' σ', Ext f h.size H f' h'.size H' → Rl Y.K Y.Z f' h' H' → SR Y f' h'.size H' ms σ' → D.bk σ' H'
  | .ct ms h' => ∀ f' H' σ', Ext f h.size H f' h'.size H' → Rl Y.K Y.Z f' h' H' → SR Y f' h'.size H' ms σ' → D.ct σ' H'
  | .rt v h' => ∀ f' H' x, Ext f h.size H f' h'.size H' → Rl Y.K Y.Z f' h' H' → VR Y.K f' h'.size H' v x → D.rt x H'
  | .ex c l ms h' => ∀ f' H' σ' cls d, Ext f h.size H f' h'.size H' → Rl Y.K Y.Z f' h' H' → SR Y f' h'.size H' ms σ' → XR Y.K Y.xc Y.xf f' h'.size H' c l cls d → W cls d σ' H'
  | .stk => False
variable {D D' : Ends} {r : RS}
theorem GS.shift (e : Ext f h.size H f' h'.size H') (g : GS Y W f h H r D) : GS Y W f' h' H' r D := by
  cases r with
  | nx ms h2 => exact fun f2 H2 σ2 e2 => g f2 H2 σ2 (e.trans e2)
  | bk ms h2 => exact fun f2 H2 σ2 e2 => g f2 H2 σ2 (e.trans e2)
  | ct ms h2 => exact fun f2 H2 σ2 e2 => g f2 H2 σ2 (e.trans e2)
  | rt v h2 => exact fun f2 H2 σ2 e2 => g f2 H2 σ2 (e.trans e2)
  | ex c l ms h2 => exact fun f2 H2 σ2 cls d e2 => g f2 H2 σ2 cls d (e.trans e2)
  | stk => exact g
theorem GS.go {α : Type} {m : R α} {k : α → MH → RS} (r : Rl Y.K Y.Z f h H) (sr : SR Y f h.size H ms σ) (g : GS Y W f h H (m.go ms k) D) : G Y W σ f h H m fun a f' h' H' => GS Y W f' h' H' (k a h') D := by
  cases m with
  | ok a h1 => exact fun f1 H1 e1 r1 => GS.shift e1 (show GS Y W f h H (k a h1) D from g)
  | ex c l h1 => exact fun f1 H1 cls d e1 r1 x => g f1 H1 σ cls d e1 r1 (r.sr e1 sr) x
  | stk => exact g
def rdS (Y : Ctx) (W : Wish) (m : En → MH → RS) : TS := fun D σ H => ∃ f ms h, Rl Y.K Y.Z f h H ∧ SR Y f h.size H ms σ ∧ GS Y W f h H (m ms h) D
variable {mS m1 m2 : En → MH → RS} {st : Stmt} {sts l1 l2 : List Stmt}
theorem s_nil : PSs X [] (rdS Y W fun σ h => .nx σ h) := by
  refine pss_nil.conv fun D σ H q => ?_
  obtain ⟨f, ms, h, r, sr, q⟩ := q
  exact q f H σ (.refl _ _ _) r sr
def seqM (m1 m2 : En → MH → RS) (σ : En) (h : MH) : RS := match m1 σ h with
  | .nx σ1 h1 => m2 σ1 h1
  | x => x
theorem s_cons (h1 : PS X st (rdS Y W m1)) (h2 : PSs X sts (rdS Y W m2)) : PSs X (st :: sts) (rdS Y W (seqM m1 m2)) := by
  refine (pss_cons h1 h2).conv fun D σ H q => ?_
  obtain ⟨f, ms, h, r, sr, q⟩ := q
  refine ⟨f, ms, h, r, sr, ?_⟩
  unfold seqM at q
  cases e : m1 ms h with
  | nx ms1 h1 =>
    rw [e] at q
    exact fun f1 H1 σ1 e1 r1 sr1 => ⟨f1, ms1, h1, r1, sr1, GS.shift e1 q⟩
  | bk ms1 h1 => rw [e] at q; exact q
  | ct ms1 h1 => rw [e] at q; exact q
  | rt v h1 => rw [e] at q; exact q
  | ex c l ms1 h1 => rw [e] at q; exact q
  | stk => rw [e] at q; exact q.elim
theorem s_pass : PS X (.Pass p) (rdS Y W fun σ h => .nx σ h) := by
  refine ps_pass.conv fun D σ H q => ?_
  obtain ⟨f, ms, h, r, sr, q⟩ := q
  exact q f H σ (.refl _ _ _) r sr
theorem s_brk : PS X (.Break p) (rdS Y W fun σ h => .bk σ h) := by
  refine ps_break.conv fun D σ H q => ?_
  obtain ⟨f, ms, h, r, sr, q⟩ := q
  exact q f H σ (.refl _ _ _) r sr
theorem s_cont : PS X (.Continue p) (rdS Y W fun σ h => .ct σ h) := by
  refine ps_continue.conv fun D σ H q => ?_
  obtain ⟨f, ms, h, r, sr, q⟩ := q
  exact q f H σ (.refl _ _ _) r sr
def isComp : Expr → Bool
  | .ListComp _ _ _ _ => true
  | .SetComp _ _ _ _ => true
  | .DictComp _ _ _ _ _ => true
  | _ => false
theorem noComp {e : Expr} {t : Option Expr} {l : Nat} {env : Env} (h : isComp e = false) : swapsWith e t l env = pure false := by
  unfold swapsWith
  cases e <;> first | rfl | cases h
theorem s_exp (ha : PE X a (rdE Y W ma)) (hc : isComp a = false) : PS X (.Expr a p) (rdS Y W fun σ h => (ma σ h).go σ fun _ h1 => .nx σ h1) := by
  refine (ps_expr ha (noComp hc)).conv fun D σ H q => ?_
  obtain ⟨f, ms, h, r, sr, q⟩ := q
  exact ⟨f, ms, h, r, sr, (GS.go r sr q).mono fun v h1 f1 H1 _ x1 r1 g1 x rx => g1 f1 H1 σ (.refl _ _ _) r1 (r.sr x1 sr)⟩
theorem s_ret (ha : PE X a (rdE Y W ma)) : PS X (.Return (some a) p) (rdS Y W fun σ h => (ma σ h).go σ fun v h1 => .rt v h1) := by
  refine (ps_ret ha).conv fun D σ H q => ?_
  obtain ⟨f, ms, h, r, sr, q⟩ := q
  exact ⟨f, ms, h, r, sr, (GS.go r sr q).mono fun v h1 f1 H1 _ x1 r1 g1 x rx => g1 f1 H1 x (.refl _ _ _) r1 rx⟩
theorem s_retN : PS X (.Return none p) (rdS Y W fun σ h => .rt .non h) := by
  refine ps_retN.conv fun D σ H q => ?_
  obtain ⟨f, ms, h, r, sr, q⟩ := q
  exact q f H _ (.refl _ _ _) r .non
theorem s_if {tc : En → MH → R Bool} (hc : PT X c (rdT Y W tc)) (h1 : PSs X l1 (rdS Y W m1)) (h2 : PSs X l2 (rdS Y W m2)) : PS X (.If c l1 l2 p) (rdS Y W fun σ h => (tc σ h).go σ fun d h1 => if d then m1 σ h1 else m2 σ h1) := by
  refine (ps_if hc h1 h2).conv fun D σ H q => ?_
  obtain ⟨f, ms, h, r, sr, q⟩ := q
  refine ⟨f, ms, h, r, sr, (GS.go r sr q).mono fun d h1 f1 H1 _ x1 r1 g1 => ?_⟩
  cases d with
  | true => exact ⟨f1, ms, h1, r1, r.sr x1 sr, g1⟩
  | false => exact ⟨f1, ms, h1, r1, r.sr x1 sr, g1⟩
def setS (ma : En → MH → R MV) (mg : MV → En → MH → R En) (σ : En) (h : MH) : RS := (ma σ h).go σ fun v h1 => (mg v σ h1).go σ fun σ2 h2 => .nx σ2 h2
theorem v_set {mg : MV → En → MH → R En} {o : List Nat} {σ : L2.St} {H : Hp} (q : rdS Y W (setS ma mg) D σ H) : tAsg (rdE Y W ma) (rdG Y W mg o) D σ H := by
  obtain ⟨f, ms, h, r, sr, q⟩ := q
  refine ⟨f, ms, h, r, sr, (GS.go r sr q).mono fun v h1 f1 H1 _ x1 r1 g1 x rx => ?_⟩
  have sr1 := r.sr x1 sr
  refine ⟨f1, ms, h1, v, r1, sr1, rx, (GS.go r1 sr1 g1).mono fun ms2 h2 f2 H2 _ x2 r2 g2 σ2 sr2 _ => ?_⟩
  exact g2 f2 H2 σ2 (.refl _ _ _) r2 sr2
/-- where the pair that is stored is no pair of a display -/
def swB (sc : Scope) : Expr → Expr → Bool
  | .Tuple ts _ _, .Tuple vs _ _ => !(ts.length == 2 || ts.length == 3) || ts.any fun
    | .Name x _ => !(sc.names.lookup x == some .local)
    | _ => true
  | .List _ _, _ => false
  | _, _ => true
theorem filterMap_lt {α β : Type} {f : α → Option β} : ∀ {l : List α}, (∃ x ∈ l, f x = none) → (l.filterMap f).length < l.length
  | [], ⟨x, hx, _⟩ => by cases hx
  | y :: r, ⟨x, hx, e⟩ => by
    have le : (r.filterMap f).length ≤ r.length := List.length_filterMap_le ..
    cases hy : f y with
    | none =>
      rw [List.filterMap_cons_none hy, List.length_cons]
      omega
    | some b =>
      rw [List.filterMap_cons_some hy, List.length_cons, List.length_cons]
      rcases List.mem_cons.mp hx with rfl | hx
      · rw [hy] at e; cases e
      · have := filterMap_lt (l := r) ⟨x, hx, e⟩
        omega
end
end DM
set_option Elab.async false
set_option linter.all false
set_option maxRecDepth 100000
set_option maxHeartbeats 4000000
/-! S10b: comprehensions over a dict's items. -/
namespace DM
open PySem L2 PyProof.Rows PySem.Spec
section
variable {T : Tab} {Y : Ctx} {W : Wish} {C : Nat → List MV → MH → R MV} {CX : CXT} {lv : Nat} {inB : Bool} {N : List Str} {sc : Scope} {X : Cx}
variable {σ : L2.St} {H H' : Hp} {f f' : Nat → Addr} {h h' : MH} {ms : En}
variable {a b c e : Expr} {ma mb mc : En → MH → R MV} {p pos : Pos} {es : List Expr} {me mk : En → MH → R (List MV)}
/-! ### a lock, taken and given back -/
theorem Rl.lock (r : Rl Y.K Y.Z f h H) {n : Nat} {l : List (MV × MV)} {kvs : List (Key × V)} (en : h.get n = some (.dct false false l)) (d1 : H (f n) = some (.dK kvs)) (d2 : DKr Y.K f h.size H l kvs) (od : Obj) :
    Ext f h.size H f h.size (upd H (f n) (.frz od (.dK kvs))) ∧ Rl Y.K Y.Z f (h.put n (.dct false true l)) (upd H (f n) (.frz od (.dK kvs))) := by
  have ex0 := Ext.put (f := f) (H := H) (u := .frz od (.dK kvs)) (MH.get_lt en) (r.nofz en rfl)
  have q := r.put (o' := .dct false true l) (u := .frz od (.dK kvs)) en (fun _ q => by cases q) ⟨kvs, ⟨od, upd_same⟩, DKr.mono (Nat.le_refl _) (fun _ _ => rfl) (r.text ex0) _ _ d2⟩
  rw [MH.size_put] at q
  exact q
theorem Rl.unlock (r : Rl Y.K Y.Z f h H) {n : Nat} {l : List (MV × MV)} {kvs : List (Key × V)} {od : Obj} (en : h.get n = some (.dct false true l)) (d1 : H (f n) = some (.frz od (.dK kvs))) :
    Rl Y.K Y.Z f (h.put n (.dct false false l)) (upd H (f n) (.dK kvs)) := by
  have hn := MH.get_lt en
  have fx : Fx Y.K H (upd H (f n) (.dK kvs)) := by
    refine ⟨?_, ?_⟩
    · rintro a xs ((q | ⟨o, q⟩) | q)
      · have : a ≠ f n := fun z => by rw [z, d1] at q; cases q
        exact .inl (.inl (by rw [upd_ne this]; exact q))
      · have : a ≠ f n := fun z => by rw [z, d1] at q; cases q
        exact .inl (.inr ⟨o, by rw [upd_ne this]; exact q⟩)
      · exact .inr q
    · rintro a xs (⟨o, q⟩ | q)
      · have : a ≠ f n := fun z => by rw [z, d1] at q; cases q
        exact .inl ⟨o, by rw [upd_ne this]; exact q⟩
      · exact .inr q
  refine ⟨fun m x q => ?_, fun m k h1 h2 => r.inj m k (by rw [MH.size_put] at h1; exact h1) (by rw [MH.size_put] at h2; exact h2)⟩
  rw [MH.size_put]
  by_cases hm : m = n
  · subst hm
    rw [MH.get_put_same en] at q
    cases q
    obtain ⟨kvs', ⟨o, e1⟩, e2⟩ := r.ob _ _ en
    rw [d1] at e1
    cases e1
    exact ⟨kvs, upd_same, DKr.mono (Nat.le_refl _) (fun _ _ => rfl) fx _ _ e2⟩
  · rw [MH.get_put_ne hm] at q
    have hm' := MH.get_lt q
    have hne : f m ≠ f n := fun z => hm (r.inj m n hm' hn z)
    exact (r.ob m x q).mono (Nat.le_refl _) (fun _ _ => rfl) fx (upd_ne hne)
theorem Ext.unlock {N N' : Nat} {n : Nat} {od : Obj} {u : HO} (hn : n < N) (h0 : H (f n) = some u) (hu : ∀ o v, u ≠ .frz o v) (x : Ext f N (upd H (f n) (.frz od u)) f' N' H') : Ext f N H f' N' (upd H' (f n) u) where
  sz := x.sz
  ag := x.ag
  fr := fun a o q hq => by
    have ne : a ≠ f n := fun z => hq n hn z.symm
    rw [upd_ne ne]
    exact x.fr a o (by rw [upd_ne ne]; exact q) hq
  nw := fun m h1 h2 => by
    have z := x.nw m h1 h2
    by_cases e : f' m = f n
    · rw [e, upd_same] at z; cases z
    · rw [upd_ne e] at z; exact z
  dm := fun a q => by
    by_cases e : a = f n
    · rw [e, upd_same] at q; cases q
    · rw [upd_ne e] at q
      have z := x.dm a q
      rw [upd_ne e] at z
      exact z
  fz := fun a o v q => by
    have ne : a ≠ f n := fun z => by rw [z, h0] at q; exact hu o v (Option.some.inj q)
    rw [upd_ne ne]
    exact x.fz a o v (by rw [upd_ne ne]; exact q)

/-! ### paths -/
theorem attM_ok {P : Prog} {x : MV} {i : Nat} {h h' : MH} {v : MV} (e : attM P x i h = .ok v h') : h' = h := by
  unfold attM at e
  split at e
  · split at e
    · split at e
      · split at e <;> first | (cases e; rfl) | cases e
      · cases e
    · cases e
  · cases e
theorem subM_ok {x y : MV} {h h' : MH} {v : MV} (e : subM x y h = .ok v h') : h' = h := by
  unfold subM at e
  split at e
  · split at e
    · split at e
      · cases e; rfl
      · cases e
    · cases e
  · split at e
    · cases e; rfl
    · cases e
  · split at e
    · cases e; rfl
    · cases e
  · split at e
    · cases e; rfl
    · cases e
  · split at e
    · split at e
      · cases e; rfl
      · cases e
    · split at e
      · split at e
        · cases e; rfl
        · cases e
      · cases e
    · cases e
  · cases e
theorem attV_some {P : Prog} {x : MV} {i : Nat} {h : MH} {v : MV} (e : attV P x i h = some v) : attM P x i h = .ok v h := by
  unfold attV at e
  split at e
  · rename_i w h' q
    cases e
    rw [q, attM_ok q]
  · cases e
theorem subV_some {x y : MV} {h : MH} {v : MV} (e : subV x y h = some v) : subM x y h = .ok v h := by
  unfold subV at e
  split at e
  · rename_i w h' q
    cases e
    rw [q, subM_ok q]
  · cases e
theorem pth_ev {P : Prog} {C : Nat → List MV → MH → R MV} {h : MH} : ∀ (e : Ex) (σ : En) (v : MV), pthV P e σ h = some v → ev P C e σ h = .ok v h
  | .var i, σ, v, q => by
    unfold pthV at q
    split at q
    · rename_i w ew
      cases q
      unfold ev
      rw [ew]
    · cases q
  | .att e i, σ, v, q => by
    unfold pthV at q
    obtain ⟨x, q1, q2⟩ := Option.bind_eq_some_iff.mp q
    unfold ev
    rw [pth_ev e σ x q1]
    exact attV_some q2
  | .sub e i, σ, v, q => by
    unfold pthV at q
    split at q
    · rename_i s
      obtain ⟨x, q1, q2⟩ := Option.bind_eq_some_iff.mp q
      unfold ev
      rw [pth_ev e σ x q1]
      show (ev P C (.str s) σ h).bind (fun y h2 => subM x y h2) = _
      unfold ev
      exact subV_some q2
    · rename_i j
      obtain ⟨x, q1, q2⟩ := Option.bind_eq_some_iff.mp q
      unfold ev
      rw [pth_ev e σ x q1]
      split at q2
      · rename_i w ew
        show (ev P C (.var j) σ h).bind (fun y h2 => subM x y h2) = _
        unfold ev
        rw [ew]
        exact subV_some q2
      · cases q2
    · cases q
  | .non, _, _, q => by unfold pthV at q; cases q
  | .bl _, _, _, q => by unfold pthV at q; cases q
  | .int _, _, _, q => by unfold pthV at q; cases q
  | .str _, _, _, q => by unfold pthV at q; cases q
  | .gl _, _, _, q => by unfold pthV at q; cases q
  | .bin _ _ _, _, _, q => by unfold pthV at q; cases q
  | .neg _, _, _, q => by unfold pthV at q; cases q
  | .not_ _, _, _, q => by unfold pthV at q; cases q
  | .cmp _ _ _, _, _, q => by unfold pthV at q; cases q
  | .isN _, _, _, q => by unfold pthV at q; cases q
  | .isNt _, _, _, q => by unfold pthV at q; cases q
  | .ch _ _ _ _ _, _, _, q => by unfold pthV at q; cases q
  | .and_ _ _, _, _, q => by unfold pthV at q; cases q
  | .or_ _ _, _, _, q => by unfold pthV at q; cases q
  | .ife _ _ _, _, _, q => by unfold pthV at q; cases q
  | .sl _ _ _, _, _, q => by unfold pthV at q; cases q
  | .rev _, _, _, q => by unfold pthV at q; cases q
  | .tup _, _, _, q => by unfold pthV at q; cases q
  | .lst _, _, _, q => by unfold pthV at q; cases q
  | .dct _, _, _, q => by unfold pthV at q; cases q
  | .call _ _ _ _ _, _, _, q => by unfold pthV at q; cases q
  | .bif _ _, _, _, q => by unfold pthV at q; cases q
  | .isX _ _, _, _, q => by unfold pthV at q; cases q
  | .attX _ _, _, _, q => by unfold pthV at q; cases q
  | .callX _ _, _, _, q => by unfold pthV at q; cases q
  | .isi _ _, _, _, q => by unfold pthV at q; cases q
  | .met _ _ _ _ _ _, _, _, q => by unfold pthV at q; cases q
  | .mk _ _ _ _ _, _, _, q => by unfold pthV at q; cases q
  | .lc _ _ _ _ _, _, _, q => by unfold pthV at q; cases q
  | .dm1 _ _ _, _, _, q => by unfold pthV at q; cases q
  | .dm2 _ _ _ _, _, _, q => by unfold pthV at q; cases q
  | .sortk _, _, _, q => by unfold pthV at q; cases q
  | .lenO _ _, _, _, q => by unfold pthV at q; cases q
  | .lci _ _ _ _ _, _, _, q => by unfold pthV at q; cases q
  | .sci _ _ _ _ _, _, _, q => by unfold pthV at q; cases q
  | .dci _ _ _ _ _ _, _, _, q => by unfold pthV at q; cases q
  | .dcT _ _ _ _ _ _, _, _, q => by unfold pthV at q; cases q
  | .dsT _ _ _, _, _, q => by unfold pthV at q; cases q
  | .fst _, _, _, q => by unfold pthV at q; cases q
  | .nev, _, _, q => by unfold pthV at q; cases q
theorem get_lock {n m : Nat} {t t' : Bool} {l : List (MV × MV)} (en : h.get n = some (.dct t false l)) : (h.put n (.dct t' true l)).get m = if m = n then some (.dct t' true l) else h.get m := by
  by_cases e : m = n
  · subst e
    rw [if_pos rfl, MH.get_put_same en]
  · rw [if_neg e, MH.get_put_ne e]
theorem attV_lock {P : Prog} {x : MV} {i n : Nat} {t t' : Bool} {l : List (MV × MV)} (en : h.get n = some (.dct t false l)) : attV P x i (h.put n (.dct t' true l)) = attV P x i h := by
  unfold attV attM
  cases x with
  | ref m =>
    simp only [get_lock en]
    by_cases e : m = n
    · subst e
      rw [if_pos rfl, en]
    · rw [if_neg e]
      cases h.get m with
      | none => rfl
      | some o =>
        cases o with
        | ins c fs =>
          simp only
          cases fld i fs with
          | none => rfl
          | some v =>
            simp only
            cases (P.cls c).att i <;> rfl
        | _ => rfl
  | _ => rfl
theorem okV {o : Option MV} {h h' : MH} : (match (match o with
    | some v => R.ok v h
    | none => R.stk) with
    | R.ok v _ => some v
    | _ => none) = (match (match o with
    | some v => R.ok v h'
    | none => R.stk) with
    | R.ok v _ => some v
    | _ => none) := by cases o <;> rfl
theorem subV_lock {x y : MV} {n : Nat} {t t' : Bool} {l : List (MV × MV)} (ht : t' = t ∨ l = []) (en : h.get n = some (.dct t false l)) : subV x y (h.put n (.dct t' true l)) = subV x y h := by
  cases x with
  | ref m =>
    unfold subV subM dget
    simp only [get_lock en]
    by_cases e : m = n
    · subst e
      simp only [if_pos, en]
      rcases ht with rfl | rfl
      · cases t' with
        | true => rfl
        | false =>
          simp only
          cases kOk false y with
          | false => rfl
          | true =>
            simp only [if_true]
            cases lookK y l <;> rfl
      · cases t <;> cases t' <;> simp only <;> cases kOk false y <;> rfl
    · simp only [if_neg e]
      cases h.get m with
      | none => rfl
      | some o =>
        cases o with
        | dct t2 lk2 l2 =>
          cases t2 with
          | true => rfl
          | false =>
            simp only
            cases kOk false y with
            | false => rfl
            | true =>
              simp only [if_true]
              cases lookK y l2 <;> rfl
        | lst l2 =>
          cases y with
          | int j =>
            simp only
            cases atL l2 j <;> rfl
          | _ => rfl
        | _ => rfl
  | str s =>
    cases y with
    | int j =>
      unfold subV subM
      simp only
      cases DM.ixN j s.length with
      | none => rfl
      | some k =>
        simp only
        cases s[k]? <;> rfl
    | _ => rfl
  | tup s =>
    cases y with
    | int j =>
      unfold subV subM
      simp only
      cases atL s j <;> rfl
    | _ => rfl
  | kl s =>
    cases y with
    | int j =>
      unfold subV subM
      simp only
      cases atL s j <;> rfl
    | _ => rfl
  | kd s =>
    unfold subV subM dget
    cases y with
    | str z =>
      simp only
      cases lookK (.str z) s <;> rfl
    | _ => rfl
  | _ => rfl
theorem pth_lock {P : Prog} {n : Nat} {t t' : Bool} {l : List (MV × MV)} (ht : t' = t ∨ l = []) (en : h.get n = some (.dct t false l)) : ∀ (e : Ex) (σ : En), pthV P e σ (h.put n (.dct t' true l)) = pthV P e σ h
  | .var i, σ => by unfold pthV; rfl
  | .att e i, σ => by
    unfold pthV
    rw [pth_lock ht en e σ]
    congr 1
    funext x
    exact attV_lock en
  | .sub e i, σ => by
    unfold pthV
    rw [pth_lock ht en e σ]
    split
    · congr 1
      funext x
      exact subV_lock ht en
    · congr 1
      funext x
      split
      · exact subV_lock ht en
      · rfl
    · rfl
  | .non, _ => rfl
  | .bl _, _ => rfl
  | .int _, _ => rfl
  | .str _, _ => rfl
  | .gl _, _ => rfl
  | .bin _ _ _, _ => rfl
  | .neg _, _ => rfl
  | .not_ _, _ => rfl
  | .cmp _ _ _, _ => rfl
  | .isN _, _ => rfl
  | .isNt _, _ => rfl
  | .ch _ _ _ _ _, _ => rfl
  | .and_ _ _, _ => rfl
  | .or_ _ _, _ => rfl
  | .ife _ _ _, _ => rfl
  | .sl _ _ _, _ => rfl
  | .rev _, _ => rfl
  | .tup _, _ => rfl
  | .lst _, _ => rfl
  | .dct _, _ => rfl
  | .call _ _ _ _ _, _ => rfl
  | .bif _ _, _ => rfl
  | .isX _ _, _ => rfl
  | .attX _ _, _ => rfl
  | .callX _ _, _ => rfl
  | .isi _ _, _ => rfl
  | .met _ _ _ _ _ _, _ => rfl
  | .mk _ _ _ _ _, _ => rfl
  | .lc _ _ _ _ _, _ => rfl
  | .dm1 _ _ _, _ => rfl
  | .dm2 _ _ _ _, _ => rfl
  | .sortk _, _ => rfl
  | .lenO _ _, _ => rfl
  | .lci _ _ _ _ _, _ => rfl
  | .sci _ _ _ _ _, _ => rfl
  | .dci _ _ _ _ _ _, _ => rfl
  | .dcT _ _ _ _ _ _, _ => rfl
  | .dsT _ _ _, _ => rfl
  | .fst _, _ => rfl
  | .nev, _ => rfl

/-! ### the items of a locked dict -/
theorem DKr.get {K : KW} {N : Nat} : ∀ {l : List (MV × MV)} {kvs : List (Key × V)} {i : Nat} {q : MV × MV}, DKr K f N H l kvs → l[i]? = some q → ∃ k v, kvs[i]? = some (k, v) ∧ KR q.1 k ∧ VR K f N H q.2 v
  | [], _, i, q, _, e => by simp at e
  | p :: r, kvs, 0, q, ⟨k, v, ys, e1, c, rv, b⟩, e => by
    cases e
    subst e1
    exact ⟨k, v, rfl, c, rv⟩
  | p :: r, kvs, i + 1, q, ⟨k, v, ys, e1, c, rv, b⟩, e => by
    subst e1
    exact DKr.get (i := i) b e
theorem KR.vr {K : KW} {N : Nat} {m : MV} {k : Key} (c : KR m k) : VR K f N H m (kV k) := by
  cases m <;> first | (cases c; done) | skip
  · rename_i i
    rw [show k = Sum.inl i from c]
    exact .int
  · rename_i s
    obtain ⟨e, t⟩ : k = Sum.inr ⟨s.toArray⟩ ∧ TxOk s := c
    rw [e]
    exact .str t
theorem jr_items {n : Nat} {l : List (MV × MV)} {kvs : List (Key × V)} {od : Obj} (r : Rl Y.K Y.Z f h H) (d1 : H (f n) = some (.frz od (.dK kvs))) (d2 : DKr Y.K f h.size H l kvs) : JR Y f h H (.items (l.map pairT)) (Iti (f n) od kvs) := by
  intro f' h' H' x r' i
  have hd := x.fz _ _ _ d1
  have dd := DKr.mono x.sz x.ag (r.text x) _ _ d2
  refine ⟨fun hl => ⟨hd, by rw [← d2.len]; rw [List.length_map] at hl; exact hl⟩, fun m em => ?_⟩
  rw [List.getElem?_map] at em
  obtain ⟨q, eq, em⟩ := Option.map_eq_some_iff.mp em
  subst em
  obtain ⟨k, v, ek, c, rv⟩ := dd.get eq
  refine ⟨⟨hd, (List.getElem?_eq_some_iff.mp ek).1⟩, ?_⟩
  rintro y H2 ⟨T, k', v', e1, rfl, hT, rfl⟩
  rw [ek] at e1
  cases e1
  exact r'.laidT hT (.cons c.vr (.cons rv .nil))

/-! ### turns that gather -/
/-- what is gathered at D, beside all named things -/
structure Gat (Y : Ctx) (D : Addr) (U : List MV → (Nat → Addr) → Nat → Hp → Prop) : Prop where
  at_ : ∀ acc f N H, U acc f N H → ∃ o, H D = some o
  mono : ∀ acc f h H f' N' H', Rl Y.K Y.Z f h H → Ext f h.size H f' N' H' → (∀ n, n < h.size → f n ≠ D) → U acc f h.size H → U acc f' N' H'
theorem v_gen {t : DM.It} {J : L2.It} {mg : MV → En → MH → R En} {mt : En → MH → R Bool} {mx : En → MH → R MV} {o own : List Nat} (ho : ∀ j ∈ o, j ∈ own) {σ : L2.St} {H1 : Hp} {f1 : Nat → Addr} {h1 h2 : MH} {l : List MV} {n : Nat}
    (j : JR Y f1 h1 H1 t J) (r1 : Rl Y.K Y.Z f1 h1 H1) (sr1 : SR Y f1 h1.size H1 ms σ) {D : Addr} (hD : H1 D = none) {u0 : HO} {U : List MV → (Nat → Addr) → Nat → Hp → Prop} (gt : Gat Y D U) (U0 : U [] f1 h1.size (upd H1 D u0))
    (e : lcl (lcB mg mt mx own ms) t n 0 [] h1 = .ok l h2) {Fin : Hp → Prop} (fin : ∀ f H, Ext f1 h1.size H1 f h2.size H → Rl Y.K Y.Z f h2 H → (∀ n, n < h2.size → f n ≠ D) → U l f h2.size H → Fin H)
    {BODY : L2.St → Hp → (Hp → Prop) → Prop}
    (body : ∀ (f : Nat → Addr) (ms : En) (h : MH) (H : Hp) (σ : L2.St) (acc : List MV) (xv : MV) (h6 : MH) (Nx : Hp → Prop), (∃ i v hz, acc.length ≤ i ∧ t.at hz i = some (some v)) → Ext f1 h1.size H1 f h.size H → Rl Y.K Y.Z f h H → SR Y f h.size H ms σ → (∀ n, n < h.size → f n ≠ D) → U acc f h.size H → acc.length < LIM → mx ms h = .ok xv h6 →
      (∀ f5 H5, Ext f1 h1.size H1 f5 h6.size H5 → Rl Y.K Y.Z f5 h6 H5 → (∀ n, n < h6.size → f5 n ≠ D) → U (acc ++ [xv]) f5 h6.size H5 → Nx H5) → BODY σ H Nx) :
    ∃ Wv : Nat → Nat → Hp → Prop, (∃ m, Wv 0 m (upd H1 D u0)) ∧ ∀ i m H', Wv i m H' → (J.stop i H' ∧ Fin H') ∨ (J.go i H' ∧ ∃ Nx : Hp → Prop, (∀ H', Nx H' → ∃ m', m' < m ∧ Wv (i + 1) m' H') ∧
      ∀ y H'', J.yld i H' y H'' → rdG Y NoW mg o y (L2.wipe σ own) H'' fun σ3 H3 => L2.wipe σ3 own = L2.wipe σ own ∧ rdT Y NoW mt σ3 H3 fun b H4 => if b = true then BODY σ3 H4 Nx else Nx H4) := by
  refine ⟨fun i m H' => ∃ f h acc, Ext f1 h1.size H1 f h.size H' ∧ Rl Y.K Y.Z f h H' ∧ (∀ n, n < h.size → f n ≠ D) ∧ U acc f h.size H' ∧ acc.length ≤ i ∧ lcl (lcB mg mt mx own ms) t m i acc h = .ok l h2,
    ⟨n, f1, h1, [], Ext.aside hD, r1.aside hD, fun k hk z => (r1.named hk).2 (z ▸ hD), U0, Nat.le_refl _, e⟩, ?_⟩
  rintro i m H' ⟨f, h, acc, x, r, hn, hu, hi, el⟩
  have stop : t.at h i = some none → acc = l → h = h2 → J.stop i H' ∧ Fin H' := fun ea e1 e2 => by
    subst e1 e2
    exact ⟨j.step r1 x r ea, fin f H' x r hn hu⟩
  cases m with
  | zero =>
    unfold lcl at el
    split at el
    · rename_i ea
      cases el
      exact .inl (stop ea rfl rfl)
    · cases el
  | succ m =>
    unfold lcl at el
    split at el
    · rename_i ea
      cases el
      exact .inl (stop ea rfl rfl)
    · rename_i v ea
      obtain ⟨go, yl⟩ := j.step r1 x r ea
      obtain ⟨ov, h5, e5, el⟩ := bind_ok el
      have e5 := noEx_ok e5
      obtain ⟨ms3, h3, ea3, e5⟩ := bind_ok e5
      obtain ⟨bt, h4, eb4, e5⟩ := bind_ok e5
      refine .inr ⟨go, fun H'' => ∃ f h acc, Ext f1 h1.size H1 f h.size H'' ∧ Rl Y.K Y.Z f h H'' ∧ (∀ n, n < h.size → f n ≠ D) ∧ U acc f h.size H'' ∧ acc.length ≤ i + 1 ∧ lcl (lcB mg mt mx own ms) t m (i + 1) acc h = .ok l h2, fun H'' w => ⟨m, Nat.lt_succ_self m, w⟩, fun y H'' yy => ?_⟩
      obtain ⟨xi, ri, ry⟩ := yl y H'' yy
      obtain ⟨u1, hd1⟩ := gt.at_ _ _ _ _ hu
      obtain ⟨hd, hn'⟩ := xi.keepD hd1 hn
      replace hu := gt.mono _ _ _ _ _ _ _ r xi hn hu
      replace x := x.trans xi
      refine ⟨f, DM.wipe ms own, h, v, ri, SR.wipe (r1.sr x sr1) own, ry, ?_⟩
      rw [ea3]
      intro f3 H3 x3 r3 σ3 sr3 same3
      refine ⟨wipe_same same3 ho, f3, ms3, h3, r3, sr3, ?_⟩
      rw [eb4]
      intro f4 H4 x4 r4
      obtain ⟨d3, n3⟩ := x3.keepD hd hn'
      obtain ⟨d4, n4⟩ := x4.keepD d3 n3
      have x34 := x3.trans x4
      have hu4 := gt.mono _ _ _ _ _ _ _ ri x34 hn' hu
      cases bt with
      | false =>
        simp only [Bool.false_eq_true, if_false] at e5 ⊢
        cases e5
        exact ⟨f4, _, acc, x.trans x34, r4, n4, hu4, Nat.le_succ_of_le hi, el⟩
      | true =>
        simp only [if_true] at e5 ⊢
        obtain ⟨xv, h6, ex6, e5⟩ := bind_ok e5
        cases e5
        simp only at el
        split at el
        · rename_i hl
          exact body f4 ms3 h4 H4 σ3 acc xv _ _ ⟨i, v, h, hi, ea⟩ (x.trans x34) r4 (r3.sr x4 sr3) n4 hu4 hl ex6 fun f5 H5 x5 r5 n5 u5 => ⟨f5, _, acc ++ [xv], x5, r5, n5, u5, by rw [List.length_append]; exact Nat.succ_le_succ hi, el⟩
        · cases el
    · cases el
/-- a new list, gathered -/
def UL (Y : Ctx) (D : Addr) : List MV → (Nat → Addr) → Nat → Hp → Prop := fun acc f N H => ∃ aV, H D = some (.lst aV) ∧ VRs Y.K f N H acc aV
theorem gat_L {D : Addr} : Gat Y D (UL Y D) := ⟨fun acc f N H ⟨aV, e, _⟩ => ⟨_, e⟩, fun acc f h H f' N' H' r x hn ⟨aV, e, rv⟩ => ⟨aV, (x.keepD e hn).1, r.vrs x rv⟩⟩

/-! ### what a walk over a dict comes to -/
theorem walkD_inv {bd : Nat} {mp : En → MH → Option MV} {body : En → MV → MH → R (Option MV)} {ms : En} {h h' : MH} {l : List MV} (e : walkD bd mp body ms h = .ok l h') :
    ∃ n ps l2 h2, mp ms h = some (.ref n) ∧ h.get n = some (.dct false false ps) ∧ ps.length < bd ∧ lcl (body ms) (.items (ps.map pairT)) ps.length 0 [] (h.put n (.dct false true ps)) = .ok l h2 ∧ h2.get n = some (.dct false true l2) ∧ h' = h2.put n (.dct false false l2) := by
  unfold walkD at e
  split at e
  · rename_i n en
    split at e
    · rename_i ps ep
      split at e
      · rename_i hb
        obtain ⟨acc, h2, e1, e2⟩ := bind_ok e
        split at e2
        · rename_i l2 e3
          cases e2
          exact ⟨n, ps, l2, h2, en, ep, hb, e1, e3, rfl⟩
        · cases e2
      · cases e
    · cases e
  · cases e
theorem walkD_noex {bd : Nat} {mp : En → MH → Option MV} {mg : MV → En → MH → R En} {mt : En → MH → R Bool} {mx : En → MH → R MV} {own : List Nat} {ms : En} {h h' : MH} {k : Nat} {l : List MV} (e : walkD bd mp (lcB mg mt mx own) ms h = .ex k l h') : False := by
  unfold walkD at e
  split at e
  · rename_i n en
    split at e
    · rename_i ps _
      split at e
      · cases e1 : lcl (lcB mg mt mx own ms) (.items (ps.map pairT)) ps.length 0 [] (h.put n (.dct false true ps)) with
        | ok acc h2 =>
          rw [e1] at e
          have e : (match h2.get n with
            | some (.dct false true l2) => R.ok acc (h2.put n (.dct false false l2))
            | _ => .stk) = .ex k l h' := e
          split at e <;> cases e
        | ex c l h2 => exact lcl_noex (fun v h c l h' e => noEx_no e) _ _ _ _ _ _ _ e1
        | stk => rw [e1] at e; cases e
      · cases e
    · cases e
  · cases e
theorem Ext.name {N N' : Nat} (x : Ext f N H f' N' H') {D : Addr} (hD : H D = none) : Ext f N H (nxt f' N' D) (N' + 1) H' where
  sz := Nat.le_succ_of_le x.sz
  ag := fun n hl => (nxt_lt (Nat.lt_of_lt_of_le hl x.sz)).trans (x.ag n hl)
  fr := x.fr
  nw := fun n l1 l2 => by
    by_cases z : n = N'
    · rw [z, nxt_at]; exact hD
    · rw [nxt_lt (by omega)]
      exact x.nw n l1 (by omega)
  dm := x.dm
  fz := x.fz
theorem items_bd {ps : List (MV × MV)} {acc : List MV} {i bd : Nat} {v : MV} (hi : acc.length ≤ i) (ea : (DM.It.items (ps.map pairT)).at h i = some (some v)) (hb : ps.length < bd) : acc.length + 1 < bd + 1 := by
  have e : (ps.map pairT)[i]? = some v := Option.some.inj ea
  have := (List.getElem?_eq_some_iff.mp e).1
  rw [List.length_map] at this
  omega
/-- where the walk over a dict is read: the dict locked, its items walked, what is gathered at D told by the rest -/
theorem v_walk {bd : Nat} {pe : Ex} {mg : MV → En → MH → R En} {mt : En → MH → R Bool} {mx : En → MH → R MV} {o own : List Nat} (ho : ∀ j ∈ o, j ∈ own) {k : List MV → MH → R MV} {σ : L2.St} {H : Hp} {Q : VK}
    (q : rdE Y W (fun σ h => (walkD bd (pthV T.P pe) (lcB mg mt mx own) σ h).bind k) σ H Q) (u0 : Addr → HO) (U : Addr → List MV → (Nat → Addr) → Nat → Hp → Prop) (gt : ∀ D, Gat Y D (U D)) (U0 : ∀ D f h H, Rl Y.K Y.Z f h H → H D = none → U D [] f h.size (upd H D (u0 D)))
    (BODY : Addr → L2.St → Hp → (Hp → Prop) → Prop)
    (body : ∀ (D : Addr) (f : Nat → Addr) (ms : En) (h : MH) (H : Hp) (σ : L2.St) (acc : List MV) (xv : MV) (h6 : MH) (Nx : Hp → Prop) (f1 : Nat → Addr) (h1 : MH) (H1 : Hp), acc.length + 1 < bd + 1 → H1 D = none → Ext f1 h1.size H1 f h.size H → Rl Y.K Y.Z f h H → SR Y f h.size H ms σ → (∀ n, n < h.size → f n ≠ D) → U D acc f h.size H → acc.length < LIM → mx ms h = .ok xv h6 →
      (∀ f5 H5, Ext f1 h1.size H1 f5 h6.size H5 → Rl Y.K Y.Z f5 h6 H5 → (∀ n, n < h6.size → f5 n ≠ D) → U D (acc ++ [xv]) f5 h6.size H5 → Nx H5) → BODY D σ H Nx)
    (Z : Addr → Hp → Prop) (fin : ∀ (D : Addr) (f' : Nat → Addr) (h' : MH) (H' : Hp) (l : List MV) (f : Nat → Addr) (h : MH) (H : Hp), H D = none → Ext f h.size H f' h'.size H' → Rl Y.K Y.Z f' h' H' → (∀ n, n < h'.size → f' n ≠ D) → U D l f' h'.size H' → G Y W σ f h H (k l h') (fun v f' h' H' => ∀ z, VR Y.K f' h'.size H' v z → Q z H') → Z D H')
    (UF : ∀ D l f N (H : Hp) (d : Addr) od (kvs : List (Key × V)), H d = some (.frz od (.dK kvs)) → d ≠ D → U D l f N H → U D l f N (upd H d (.dK kvs))) :
    ∃ d kvs, H d = some (.dK kvs) ∧ ∀ od, rdE Y W (ev T.P C pe) σ (upd H d (.frz od (.dK kvs))) fun x H2 => x = .ref d ∧ H2 d = some (.frz od (.dK kvs)) ∧ ∀ D, H2 D = none → ∃ Wv : Nat → Nat → Hp → Prop, (∃ m, Wv 0 m (upd H2 D (u0 D))) ∧ ∀ i m H', Wv i m H' →
      ((Iti d od kvs).stop i H' ∧ (H' d = some (.frz od (.dK kvs)) ∧ Z D (upd H' d (.dK kvs)))) ∨ ((Iti d od kvs).go i H' ∧ ∃ Nx : Hp → Prop, (∀ H', Nx H' → ∃ m', m' < m ∧ Wv (i + 1) m' H') ∧
        ∀ y H'', (Iti d od kvs).yld i H' y H'' → rdG Y NoW mg o y (L2.wipe σ own) H'' fun σ3 H3 => L2.wipe σ3 own = L2.wipe σ own ∧ rdT Y NoW mt σ3 H3 fun b H4 => if b = true then BODY D σ3 H4 Nx else Nx H4) := by
  obtain ⟨f, ms, h, r, sr, q⟩ := q
  replace q : G Y W σ f h H ((walkD bd (pthV T.P pe) (lcB mg mt mx own) ms h).bind k) fun v f' h' H' => ∀ z, VR Y.K f' h'.size H' v z → Q z H' := q
  cases e : walkD bd (pthV T.P pe) (lcB mg mt mx own) ms h with
  | stk => rw [e] at q; exact q.elim
  | ex c l h2 => exact (walkD_noex e).elim
  | ok l h' =>
    obtain ⟨n, ps, l2, h2, ep, en, hbd, el, en2, eh⟩ := walkD_inv e
    rw [e] at q
    have q : G Y W σ f h H (k l h') _ := q
    obtain ⟨kvs, d1, d2⟩ := r.ob _ _ en
    have d1 : H (f n) = some (.dK kvs) := d1
    have hn := MH.get_lt en
    refine ⟨f n, kvs, d1, fun od => ?_⟩
    obtain ⟨x1, r1⟩ := r.lock en d1 d2 od
    have sr1 : SR Y f (h.put n (.dct false true ps)).size (upd H (f n) (.frz od (.dK kvs))) ms σ := by
      rw [MH.size_put]
      exact r.sr x1 sr
    refine ⟨f, ms, h.put n (.dct false true ps), r1, sr1, ?_⟩
    rw [pth_ev pe ms (.ref n) (by rw [pth_lock (.inl rfl) en]; exact ep)]
    intro f2 H2 x2 r2 x rx
    obtain ⟨hn2, rfl⟩ := rx.ref_inv
    have en1 : (h.put n (.dct false true ps)).get n = some (.dct false true ps) := MH.get_put_same en
    have ea : f2 n = f n := x2.ag n (by rw [MH.size_put]; exact hn)
    have dz : H2 (f n) = some (.frz od (.dK kvs)) := x2.fz _ _ _ upd_same
    refine ⟨by rw [ea], dz, fun D hD => ?_⟩
    have hD1 : upd H (f n) (.frz od (.dK kvs)) D = none := x2.dm D hD
    have neD : f n ≠ D := fun z => by rw [← z, upd_same] at hD1; cases hD1
    have hD0 : H D = none := by rw [upd_ne neD.symm] at hD1; exact hD1
    have dk2 : DKr Y.K f2 (h.put n (.dct false true ps)).size H2 ps kvs := by
      obtain ⟨kvs', ⟨o', z1⟩, z2⟩ := r2.ob _ _ en1
      rw [ea, dz] at z1
      cases z1
      exact z2
    have jr := jr_items (n := n) (od := od) (l := ps) r2 (by rw [ea]; exact dz) dk2
    rw [ea] at jr
    refine v_gen ho jr r2 (r1.sr x2 sr1) hD (gt D) (U0 D _ _ _ r2 hD) el (fun f3 H3 x3 r3 n3 u3 => ?_) fun f4 ms4 h4 H4 σ4 acc xv h6 Nx ⟨i, v, hz, hi, ea⟩ x4 r4 sr4 n4 u4 hl ex nx => body D f4 ms4 h4 H4 σ4 acc xv h6 Nx _ _ _ (items_bd hi ea hbd) hD x4 r4 sr4 n4 u4 hl ex nx
    have dz3 := x3.fz _ _ _ dz
    refine ⟨dz3, ?_⟩
    have x23 := x2.trans x3
    have ea3 : f3 n = f n := x23.ag n (by rw [MH.size_put]; exact hn)
    obtain ⟨kvs', ⟨o', z1⟩, z2⟩ := r3.ob _ _ en2
    have r4 := r3.unlock en2 (by rw [ea3]; exact dz3)
    rw [ea3] at r4
    have x13 : Ext f h.size (upd H (f n) (.frz od (.dK kvs))) f3 h2.size H3 := by
      have := x23
      rwa [MH.size_put] at this
    have x4 := Ext.unlock (u := .dK kvs) hn d1 (fun o v z => by cases z) x13
    have hs : h'.size = h2.size := by rw [eh, MH.size_put]
    refine fin D f3 h' (upd H3 (f n) (.dK kvs)) l f h H hD0 (by rw [hs]; exact x4) (by rw [eh]; exact r4) (by rw [hs]; exact n3) (by rw [hs]; exact UF D l f3 _ H3 (f n) od kvs dz3 neD u3) q
section
variable {tg elt : Expr} {ifs : List Expr} {scope : Scope} {ow : List (Str × Nat)} {mg : MV → En → MH → R En} {mt : En → MH → R Bool} {mx : En → MH → R MV} {o : List Nat} {pe : Ex} {ap p2 : Pos} {y : Str}
theorem frz_fx {d : Addr} {od : Obj} {kvs : List (Key × V)} (d1 : H d = some (.frz od (.dK kvs))) {u : HO} : Fx Y.K H (upd H d u) := by
  refine ⟨?_, ?_⟩
  · rintro a xs ((q | ⟨o, q⟩) | q)
    · have : a ≠ d := fun z => by rw [z, d1] at q; cases q
      exact .inl (.inl (by rw [upd_ne this]; exact q))
    · have : a ≠ d := fun z => by rw [z, d1] at q; cases q
      exact .inl (.inr ⟨o, by rw [upd_ne this]; exact q⟩)
    · exact .inr q
  · rintro a xs (⟨o, q⟩ | q)
    · have : a ≠ d := fun z => by rw [z, d1] at q; cases q
      exact .inl ⟨o, by rw [upd_ne this]; exact q⟩
    · exact .inr q
/-- [elt for .. in d.items() if ..] -/
theorem c_lci (g : Good T Y W C CX lv inB N sc X) (hh : T.hot = false) (ha : PE X a (rdE Y W (ev T.P C pe))) (hb : noSup a = true) (hl : (ap.endLine == p2.line) = true) (ht0 : isTup tg = true) (ey : y = "items") (ok : BlkOk N sc scope ow) (hg : ∀ X', Good T Y NoW C CX lv true N (relS scope sc) X' → PG X' tg (rdG Y NoW mg o))
    (ht : ∀ X', Good T Y NoW C CX lv true N (relS scope sc) X' → PTs X' ifs (rdT Y NoW mt)) (he : ∀ X', Good T Y NoW C CX lv true N (relS scope sc) X' → PE X' elt (rdE Y NoW mx)) (ho : ∀ j ∈ o, j ∈ ow.map (·.2)) :
    PE X (.ListComp elt [⟨tg, .Call (.Attribute a y ap) [] [] p2, ifs, 0⟩] scope p) (rdE Y W fun σ h => (walkD LIM (pthV T.P pe) (lcB mg mt mx (ow.map (·.2))) σ h).bind fun l h1 => newList h1 l) := by
  subst ey
  obtain ⟨t1, t2, t3, rfl⟩ := isTup_ok ht0
  refine (pe_lock (pe_lc (g.calm hh) (g.eN ▸ g.nd) (pi_items ha (noSup_base hb) hl) (by rw [g.eN, g.eS]; exact ok) (fun s H A cl fp => hg _ (g.blk hh)) (fun s H A cl fp => ht _ (g.blk hh)) (fun s H A cl fp => he _ (g.blk hh)) (fun x => noSet rfl))).conv fun σ H Q q => ?_
  obtain ⟨d, kvs, d1, k⟩ := v_walk (C := C) ho q (fun _ => .lst []) (UL Y) (fun D => gat_L) (fun D f h H r hD => ⟨[], upd_same, .nil⟩)
    (fun D σ3 H4 Nx => rdE Y NoW mx σ3 H4 fun y H5 => ∃ acc, H5 D = some (.lst acc) ∧ acc.length < sizeLine ∧ Nx (upd H5 D (.lst (acc ++ [y]))))
    (fun D f ms h H σ acc xv h6 Nx f1 h1 H1 hbd hD x r sr hn ⟨aV, hd, rv⟩ hlim ex nx => by
      refine ⟨f, ms, h, r, sr, ?_⟩
      rw [ex]
      intro f5 H5 x5 r5 z rz
      obtain ⟨d5, n5⟩ := x5.keepD hd hn
      have rv5 := r.vrs x5 rv
      refine ⟨aV, d5, by rw [← rv.length, ← LIM_eq]; exact hlim, nx f5 _ ((x.trans x5).updD hD) (r5.updD d5 n5) n5 ⟨aV ++ [z], upd_same, ?_⟩⟩
      exact VRs.mono (Nat.le_refl _) (fun _ _ => rfl) (r5.fxD d5) _ _ (rv5.append (.cons rz .nil)))
    (fun D H' => Q (.ref D) H')
    (fun D f' h' H' l f h H hD x r hn ⟨aV, hd, rv⟩ g1 => by
      unfold newList at g1
      split at g1
      · refine g1 (nxt f' h'.size D) H' (by rw [MH.size_push]; exact x.name hD) (r.name hd hn rv) _ ?_
        have e3 : nxt f' h'.size D h'.size = D := nxt_at
        have := VR.ref (K := Y.K) (f := nxt f' h'.size D) (H := H') (N := (h'.push (.lst l)).size) (n := h'.size) (by rw [MH.size_push]; omega)
        rwa [e3] at this
      · exact g1.elim)
    (fun D l f N H d od kvs hd ne ⟨aV, e1, rv⟩ => ⟨aV, by rw [upd_ne ne.symm]; exact e1, VRs.mono (Nat.le_refl _) (fun _ _ => rfl) (frz_fx hd) _ _ rv⟩)
  refine ⟨d, .dK kvs, d1, trivial, fun od => ?_⟩
  exact (k od).mono fun x H2 ⟨e1, e2, e3⟩ => ⟨d, od, kvs, e1, e2, e3⟩
/-- {k: v for .. in d.items() if ..}, keys ints and texts -/
theorem foldK_bad {x : MV} (hx : ∀ k v, x ≠ .tup [k, v]) (r : List MV) (b : List (MV × MV)) : foldK (x :: r) b = none := by
  unfold foldK
  split
  · rename_i h
    cases h
  · rename_i h
    cases h
    exact (hx _ _ rfl).elim
  · rfl
theorem foldK_snoc {k v : MV} : ∀ (l : List MV) (b : List (MV × MV)), foldK (l ++ [.tup [k, v]]) b = (foldK l b).map (DM.putK k v)
  | [], b => rfl
  | x :: r, b => by
    by_cases hx : ∃ k' v', x = .tup [k', v']
    · obtain ⟨k', v', rfl⟩ := hx
      exact foldK_snoc r _
    · have hx' : ∀ k v, x ≠ .tup [k, v] := fun k v e => hx ⟨k, v, e⟩
      rw [List.cons_append, foldK_bad hx', foldK_bad hx']
      rfl
theorem putK_le {k v : MV} {l : List (MV × MV)} : (DM.putK k v l).length ≤ l.length + 1 := by
  unfold DM.putK
  split
  · rw [List.length_map]
    exact Nat.le_succ _
  · rw [List.length_append]
    exact Nat.le_refl _
/-- a new dict, gathered -/
def UD (Y : Ctx) (D : Addr) : List MV → (Nat → Addr) → Nat → Hp → Prop := fun acc f N H => ∃ r kvs, foldK acc [] = some r ∧ H D = some (.dK kvs) ∧ DKr Y.K f N H r kvs ∧ r.length ≤ acc.length
theorem gat_D {D : Addr} : Gat Y D (UD Y D) := ⟨fun acc f N H ⟨_, _, _, e, _⟩ => ⟨_, e⟩, fun acc f h H f' N' H' r x hn ⟨a, kvs, ea, e, rv, el⟩ => ⟨a, kvs, ea, (x.keepD e hn).1, DKr.mono x.sz x.ag (r.text x) _ _ rv, el⟩⟩
theorem kvM_inv {t : Bool} {mk mv : En → MH → R MV} {ms : En} {h h' : MH} {x : MV} (e : kvM t mk mv ms h = .ok x h') : ∃ k v h1, mk ms h = .ok k h1 ∧ mv ms h1 = .ok v h' ∧ kOk t k = true ∧ x = .tup [k, v] := by
  unfold kvM at e
  obtain ⟨k, h1, e1, e⟩ := bind_ok e
  obtain ⟨v, h2, e2, e⟩ := bind_ok e
  split at e
  · rename_i hk
    cases e
    exact ⟨k, v, h1, e1, e2, hk, rfl⟩
  · cases e
theorem dK_fx {d : Addr} {kvs : List (Key × V)} (d1 : H d = some (.dK kvs)) {u : HO} : Fx Y.K H (upd H d u) := by
  refine ⟨?_, ?_⟩
  · rintro a xs ((q | ⟨o, q⟩) | q)
    · have : a ≠ d := fun z => by rw [z, d1] at q; cases q
      exact .inl (.inl (by rw [upd_ne this]; exact q))
    · have : a ≠ d := fun z => by rw [z, d1] at q; cases q
      exact .inl (.inr ⟨o, by rw [upd_ne this]; exact q⟩)
    · exact .inr q
  · rintro a xs (⟨o, q⟩ | q)
    · have : a ≠ d := fun z => by rw [z, d1] at q; cases q
      exact .inl ⟨o, by rw [upd_ne this]; exact q⟩
    · exact .inr q
theorem Rl.updU (r : Rl Y.K Y.Z f h H) {D : Addr} {u : HO} (fx : Fx Y.K H (upd H D u)) (hn : ∀ n, n < h.size → f n ≠ D) : Rl Y.K Y.Z f h (upd H D u) :=
  ⟨fun n o q => (r.ob n o q).mono (Nat.le_refl _) (fun _ _ => rfl) fx (upd_ne (hn n (MH.get_lt q))), r.inj⟩
/-- what was gathered gets its number -/
theorem Rl.nameU (r : Rl Y.K Y.Z f h H) {D : Addr} {o : MO} (hn : ∀ n, n < h.size → f n ≠ D) (ho : OR Y.K Y.Z (nxt f h.size D) (h.size + 1) H D o) : Rl Y.K Y.Z (nxt f h.size D) (h.push o) H := by
  refine ⟨fun n x q => ?_, fun n m h1 h2 e => ?_⟩
  · have hn' : n < h.size + 1 := by rw [← MH.size_push h o]; exact MH.get_lt q
    rw [MH.size_push]
    by_cases z : n = h.size
    · subst z
      rw [MH.get_push_size] at q
      cases q
      rw [nxt_at]
      exact ho
    · have hn2 : n < h.size := by omega
      rw [MH.get_push_lt hn2] at q
      rw [nxt_lt hn2]
      exact (r.ob n x q).mono (Nat.le_succ _) (fun n hn => nxt_lt hn) ⟨fun _ _ z => z, fun _ _ z => z⟩ rfl
  · rw [MH.size_push] at h1 h2
    by_cases z1 : n = h.size
    · by_cases z2 : m = h.size
      · rw [z1, z2]
      · exfalso
        have hm : m < h.size := by omega
        rw [z1, nxt_at, nxt_lt hm] at e
        exact hn m hm e.symm
    · have hn2 : n < h.size := by omega
      by_cases z2 : m = h.size
      · exfalso
        rw [z2, nxt_at, nxt_lt hn2] at e
        exact hn n hn2 e
      · have hm : m < h.size := by omega
        rw [nxt_lt hn2, nxt_lt hm] at e
        exact r.inj n m hn2 hm e
theorem c_dci (g : Good T Y W C CX lv inB N sc X) (hh : T.hot = false) {vx : Expr} {mv : En → MH → R MV} (ha : PE X a (rdE Y W (ev T.P C pe))) (hb : noSup a = true) (hl : (ap.endLine == p2.line) = true) (ht0 : isTup tg = true) (ey : y = "items") (ok : BlkOk N sc scope ow) (hg : ∀ X', Good T Y NoW C CX lv true N (relS scope sc) X' → PG X' tg (rdG Y NoW mg o))
    (ht : ∀ X', Good T Y NoW C CX lv true N (relS scope sc) X' → PTs X' ifs (rdT Y NoW mt)) (he : ∀ X', Good T Y NoW C CX lv true N (relS scope sc) X' → PE X' elt (rdE Y NoW mx)) (hv : ∀ X', Good T Y NoW C CX lv true N (relS scope sc) X' → PE X' vx (rdE Y NoW mv)) (ho : ∀ j ∈ o, j ∈ ow.map (·.2)) :
    PE X (.DictComp elt vx [⟨tg, .Call (.Attribute a y ap) [] [] p2, ifs, 0⟩] scope p) (rdE Y W fun σ h => (walkD LIM (pthV T.P pe) (lcB mg mt (kvM false mx mv) (ow.map (·.2))) σ h).bind fun l h1 => mkDct false l h1) := by
  subst ey
  obtain ⟨t1, t2, t3, rfl⟩ := isTup_ok ht0
  refine (pe_lock (pe_dc (g.calm hh) (g.eN ▸ g.nd) (pi_items ha (noSup_base hb) hl) (by rw [g.eN, g.eS]; exact ok) (fun s H A cl fp => hg _ (g.blk hh)) (fun s H A cl fp => ht _ (g.blk hh)) (fun s H A cl fp => he _ (g.blk hh)) (fun s H A cl fp => hv _ (g.blk hh)) (fun x => noSet rfl))).conv fun σ H Q q => ?_
  obtain ⟨d, kvs, d1, k⟩ := v_walk (C := C) ho q (fun _ => .dK []) (UD Y) (fun D => gat_D) (fun D f h H r hD => ⟨[], [], rfl, upd_same, rfl, Nat.le_refl _⟩)
    (fun D σ3 H4 Nx => rdE Y NoW mx σ3 H4 fun y H5 => rdE Y NoW mv σ3 H5 fun z H6 => ∃ kvs k, y = kV k ∧ H6 D = some (.dK kvs) ∧ kvs.length < sizeLine ∧ Nx (upd H6 D (.dK (L2.putK kvs k z))))
    (fun D f ms h H σ acc xv h6 Nx f1 h1 H1 hbd hD x r sr hn ⟨a, kvs, ea, hd, rv, el⟩ hlim ex nx => by
      obtain ⟨k, v, h5, e1, e2, hk, rfl⟩ := kvM_inv ex
      refine ⟨f, ms, h, r, sr, ?_⟩
      rw [e1]
      intro f5 H5 x5 r5 y ry
      refine ⟨f5, ms, h5, r5, r.sr x5 sr, ?_⟩
      rw [e2]
      intro f6 H6 x6 r6 z rz
      obtain ⟨ky, ck, rfl⟩ := KR.kOk hk ry
      obtain ⟨d5, n5⟩ := x5.keepD hd hn
      obtain ⟨d6, n6⟩ := x6.keepD d5 n5
      have x56 := x5.trans x6
      have rv6 := DKr.mono x56.sz x56.ag (r.text x56) _ _ rv
      refine ⟨kvs, ky, rfl, d6, by rw [← rv.len, ← LIM_eq]; omega, nx f6 _ ((x.trans x56).updD hD) (r6.updU (dK_fx d6) n6) n6 ⟨_, _, by rw [foldK_snoc, ea]; rfl, upd_same, ?_, ?_⟩⟩
      · exact DKr.mono (Nat.le_refl _) (fun _ _ => rfl) (dK_fx d6) _ _ (rv6.put ck rz)
      · rw [List.length_append]
        exact Nat.le_trans putK_le (Nat.succ_le_succ el))
    (fun D H' => Q (.ref D) H')
    (fun D f' h' H' l f h H hD x r hn ⟨a, kvs, ea, hd, rv, el⟩ g1 => by
      unfold mkDct at g1
      rw [ea] at g1
      have up : DKr Y.K (nxt f' h'.size D) (h'.size + 1) H' a kvs := DKr.mono (Nat.le_succ _) (fun n hn => nxt_lt hn) ⟨fun _ _ z => z, fun _ _ z => z⟩ _ _ rv
      refine g1 (nxt f' h'.size D) H' (by rw [MH.size_push]; exact x.name hD) (r.nameU hn ⟨kvs, hd, up⟩) _ ?_
      have e3 : nxt f' h'.size D h'.size = D := nxt_at
      have := VR.ref (K := Y.K) (f := nxt f' h'.size D) (H := H') (N := (h'.push (.dct false false a)).size) (n := h'.size) (by rw [MH.size_push]; omega)
      rwa [e3] at this)
    (fun D l f N H d od kvs hd ne ⟨a, ks, ea, e1, rv, el⟩ => ⟨a, ks, ea, by rw [upd_ne ne.symm]; exact e1, DKr.mono (Nat.le_refl _) (fun _ _ => rfl) (frz_fx hd) _ _ rv, el⟩)
  refine ⟨d, .dK kvs, d1, trivial, fun od => ?_⟩
  exact (k od).mono fun x H2 ⟨e1, e2, e3⟩ => ⟨d, od, kvs, e1, e2, e3⟩
end
end
end DM
set_option Elab.async false
set_option linter.all false
set_option maxRecDepth 100000
set_option maxHeartbeats 4000000
/-! S10c: comprehensions that gather into any new thing. -/
namespace DM
open PySem L2 PyProof.Rows PySem.Spec
section
variable {X : Cx} {e0 tg iter : Expr} {ifs : List Expr} {scope : Scope} {own : List (Str × Nat)} {pos pos' : Pos} {wi : TI} {g : TG} {tt : TT} {newAcc : Sem Value} {ob : Obj} {u0 : Addr → HO}
/-- the last act of a turn -/
abbrev Act := Around → Env → Addr → (Shared → Prop) → (Value → Shared → Prop) → Shared → Prop
/-- a turn's tests, then its act -/
abbrev Turned (P : Program) (w : World) (A : Around) (R : Result → Shared → Prop) (tg : Expr) (ifs : List Expr) (act : Act) (env : Env) (it : Value) (D : Addr) (Kp : Nat → Shared → Prop) (n : Nat) (s : Shared) : Prop :=
  wpAny (model P w) A (pyNext it) (fun r s1 => match r with
    | none => R (.ok .next) s1
    | some v => wpAny (model P w) A (letOwnedTupleGo tg it v) (fun _ s2 => wpAny (model P w) A (assign tg env v) (fun _ s3 =>
        wpAny (model P w) A (forIn ifs true fun c r => if r = true then do let ok ← isTrue c env (eval c env); pure (ForInStep.yield ok) else pure (ForInStep.yield r)) (fun ok s4 =>
          if ok = true then act A env D (fun s5 => ∃ m, m < n ∧ Kp m s5) (notedBy (model P w) A env fun e s' => R (.error e) s') s4
          else ∃ m, m < n ∧ Kp m s4) (notedBy (model P w) A env fun e s' => R (.error e) s') s3) (notedBy (model P w) A env fun e s' => R (.error e) s') s2) (notedBy (model P w) A env fun e s' => R (.error e) s') s1) (notedBy (model P w) A env fun e s' => R (.error e) s') s
/-- a form of comprehension: what it makes, how its turns go -/
structure Form0 (P : Program) (w : World) (e0 tg iter : Expr) (ifs : List Expr) (newAcc : Sem Value) (ob : Obj) (u0 : Addr → HO) (act : Act) : Prop where
  cl : clausesOf e0 = [⟨tg, iter, ifs, 0⟩]
  new : ∀ (A : Around) (E Q : Value → Shared → Prop) (s : Shared), Q (.ref s.heap.objs.size) { s with heap := s.heap.push ob } → wpAny (model P w) A newAcc Q E s
  laid : ∀ (H : Hp) (h : Heap), sysModules < h.objs.size → ObjOk P w H (h.push ob) h.objs.size (u0 h.objs.size)
  loop : ∀ (A : Around) (R : Result → Shared → Prop) (env : Env) (it : Value) (D : Addr) (Kp : Nat → Shared → Prop), (∀ n s, Kp n s → Turned P w A R tg ifs act env it D Kp n s) → ∀ n s, Kp n s → codeAny (model P w) A (.compLoop e0 0 it (.ref D) env) R s
  start : ∀ (A : Around) (R : Result → Shared → Prop) (env : Env) (it : Value) (D : Addr) (s : Shared), codeAny (model P w) A (.compLoop e0 0 it (.ref D) env) R s →
    wpAny (model P w) A (pyIter it) (fun i2 s' => codeAny (model P w) A (.compLoop e0 0 i2 (.ref D) env) R s') (notedBy (model P w) A env fun x s' => R (.error x) s') s → codeAny (model P w) A (.compStart e0 0 it (.ref D) env) R s
/-- what is to be told of the walk -/
def tCp (u0 : Addr → HO) (wi : TI) (g : TG) (tt : TT) (B : Addr → L2.St → Hp → (Hp → Prop) → Prop) (vs : List Nat) : TE := fun σ H Q => wi σ H fun J H1 => ∀ D, H1 D = none → ∃ Wv : Nat → Nat → Hp → Prop, (∃ m, Wv 0 m (upd H1 D (u0 D))) ∧ ∀ i m H2, Wv i m H2 →
  (J.stop i H2 ∧ Q (.ref D) H2) ∨ (J.go i H2 ∧ ∃ Nx : Hp → Prop, (∀ H3, Nx H3 → ∃ m', m' < m ∧ Wv (i + 1) m' H3) ∧
    ∀ y H3, J.yld i H2 y H3 → g y (L2.wipe σ vs) H3 fun σ2 H4 => L2.wipe σ2 vs = L2.wipe σ vs ∧ tt σ2 H4 fun b H5 => if b = true then B D σ2 H5 Nx else Nx H5)
abbrev Cx.cb (X : Cx) (s : Shared) (H : Hp) (scope : Scope) (C : Addr) (cl : List (Str × Addr)) (fp : List Addr) : Cx := X.blk s H scope (compEnvC scope cl C X.env) fp
theorem pe_cp {act : Act} {B : Addr → L2.St → Hp → (Hp → Prop) → Prop} (F : Form0 X.prog X.w e0 tg iter ifs newAcc ob u0 act) (he0 : eval e0 X.env = comprehension e0 scope X.env pos' newAcc false (eval iter X.env)) (hc : X.calm = true) (hN : X.N.Nodup) (hi : PI X tg iter wi) (ok : BlkOk X.N X.env.scope scope own)
    (hg : ∀ s H C cl fp, PG (Cx.cb X s H scope C cl fp) tg g) (ht : ∀ s H C cl fp, PTs (Cx.cb X s H scope C cl fp) ifs tt)
    (hb : ∀ s H C cl fp D pins (sa : Shared) σ' Ha (Nx : Hp → Prop) (Kp : Shared → Prop) (E : Value → Shared → Prop), Inv (Cx.cb X s H scope C cl fp) pins σ' Ha sa → B D σ' Ha Nx → (∀ sb Hb, Inv (Cx.cb X s H scope C cl fp) pins σ' Hb sb → Nx Hb → Kp sb) → act X.A (compEnvC scope cl C X.env) D Kp E sa)
    (hs : ∀ x, foldedSetIterable iter X.env x = pure x) : PE X e0 (tCp u0 wi g tt B (own.map (·.2))) := by
  refine ⟨fun pins s σ H Q I h => ?_⟩
  rw [he0]
  have free : ∀ y ∈ scope.names, y.2 = .free → ∃ c, X.env.cells.lookup y.1 = some c := by
    intro y hy e
    rcases ok.free y hy e with k | k
    · exact I.ok.has _ (.inl k)
    · exact I.ok.has _ (.inr k)
  refine wpAny_comprehension_free (use := none) F.cl hs (closure_ok free) ok.kind (fun y hy e => by rw [ok.uniq y hy, e]) (thn (hi.run pins s σ H _ I h) fun xv sA hx => thn hx fun itv sB hB => ?_)
  obtain ⟨it, fp, tn, J, HB, rfl, IB, T, stB, fB, q⟩ := hB
  refine F.new _ _ _ _ (newEnv_comp ?_)
  obtain ⟨D, hD⟩ : ∃ D, sB.heap.objs.size = D := ⟨_, rfl⟩
  rw [hD]
  have DB : HB D = none := IB.hok.fresh (Nat.le_of_eq hD)
  obtain ⟨Wv, ⟨m0, w0⟩, turn⟩ := q D DB
  obtain ⟨sC, hsC⟩ : ∃ sC : Shared, sC = { sB with heap := sB.heap.push ob } := ⟨_, rfl⟩
  have hC : sC.heap = sB.heap.push ob := by rw [hsC]
  have IC : Inv X pins σ (upd HB D (u0 D)) sC := by
    rw [hsC]
    refine IB.laid (t' := sB.toks) (fun b o e => Heap.get?_push_of_some _ e) (Nat.le_of_eq hD) ?_
    rw [← hD]
    exact F.laid _ _ IB.big
  have below : ∀ b ∈ fp, b < sB.heap.objs.size := by
    intro b hb
    obtain ⟨o, e, _⟩ := T.obj _ _ stB b hb
    exact Heap.lt_size e
  have fC : ∀ b ∈ fp, FpOk X pins (upd HB D (u0 D)) b ∧ b < sC.heap.objs.size := by
    intro b hb
    have lt := below b hb
    have ne : b ≠ D := by rw [← hD]; exact Nat.ne_of_lt lt
    exact ⟨⟨by rw [upd_ne ne]; exact (fB b hb).1, (fB b hb).2⟩, by rw [hC, Heap.size_push]; exact Nat.lt_succ_of_lt lt⟩
  have stC : tn 0 sC.heap := T.keep _ _ _ stB fun b _ o e => by rw [hC]; exact Heap.get?_push_of_some _ e
  have ID := block_start IC ok hN fC
  rw [← hsC]
  obtain ⟨cl, hcl⟩ : ∃ cl, cl = cellsFrom (sC.heap.objs.size + 1) scope.names (cloFrom X.env.cells scope.names []) := ⟨_, rfl⟩
  rw [← hcl] at ID
  obtain ⟨ce, hce⟩ : ∃ ce, ce = compEnvC scope cl sC.heap.objs.size X.env := ⟨_, rfl⟩
  obtain ⟨HC, hHC⟩ : ∃ HC, HC = upd HB D (u0 D) := ⟨_, rfl⟩
  obtain ⟨sD, hsD⟩ : ∃ sD : Shared, sD = { sC with heap := pushCells (sC.heap.push { cls := .type "dict", data := .dict #[] }) scope.names } := ⟨_, rfl⟩
  have pg := hg sC HC sC.heap.objs.size cl fp
  have pt := ht sC HC sC.heap.objs.size cl fp
  have pb := hb sC HC sC.heap.objs.size cl fp D
  unfold Cx.cb at pg pt pb
  show codeAny _ _ (.compStart e0 0 (.ref it) (.ref D) (compEnvC scope (cellsFrom (sC.heap.objs.size + 1) scope.names (cloFrom X.env.cells scope.names [])) sC.heap.objs.size X.env)) (compPost (model X.prog X.w) X.A X.xe none (fun v s' => EP X pins σ Q v s') (.ref D) sC.heap.objs.size) { sC with heap := pushCells (sC.heap.push { cls := .type "dict", data := .dict #[] }) scope.names }
  rw [← hcl]
  have cL : ce.locals = sC.heap.objs.size := by rw [hce]; rfl
  rw [← hce] at pg pt pb ID ⊢
  rw [← hsD] at ID ⊢
  rw [← hHC] at ID IC fC w0
  have nfp : ∀ b ∈ fp, HC b = none := fun b hb => (fC b hb).1.1
  have stD : tn 0 sD.heap := T.keep _ _ _ stC fun b _ o e => by rw [hsD]; exact pushCells_keeps _ _ _ _ (Heap.get?_push_of_some _ e)
  obtain ⟨X1, hX1⟩ : ∃ X1, X1 = X.blk sC HC scope ce fp := ⟨_, rfl⟩
  have still : ∀ {σ' : L2.St} {Ha : Hp} {sa : Shared}, Inv (X.blk sC HC scope ce fp) [] σ' Ha sa → (∀ b ∈ fp, Ha b = none) → ∀ b ∈ fp, FpOk (X.blk sC HC scope ce fp) [] Ha b := by
    intro σ' Ha sa Ia hn b hb
    exact ⟨hn b hb, (Ia.ok.exf b hb).1, Ia.ok.exfs b hb, .inl hb, fun x c e => (Ia.ok.exf b hb).2 x c e, fun p hp => absurd (show p ∈ ([] : List (Addr × Obj)) ++ [] from hp) (by simp)⟩
  have run : codeAny (model X.prog X.w) X.A (.compLoop e0 0 (.ref it) (.ref D) ce) (compPost (model X.prog X.w) X.A X.xe none (fun v s' => EP X pins σ Q v s') (.ref D) sC.heap.objs.size) sD := by
    refine F.loop _ _ _ _ _ (fun n sa => ∃ i Ha, Inv (X.blk sC HC scope ce fp) [] (L2.wipe σ (own.map (·.2))) Ha sa ∧ tn i sa.heap ∧ (∀ b ∈ fp, Ha b = none) ∧ Wv i n Ha) ?_ m0 _ ⟨0, HC, ID, stD, nfp, w0⟩
    rintro n sa ⟨i, Ha, Ia, sta, na, wa⟩
    rcases turn i n Ha wa with ⟨stop, qq⟩ | ⟨go, Nx, hNx, step⟩
    · refine thnF (T.done (X.blk sC HC scope ce fp) rfl rfl rfl hc i [] sa _ Ha (fun _ _ => False) Ia (still Ia na) sta stop) fun r sb ⟨hr, Ib⟩ => ?_
      subst hr
      have Ix : Inv X pins σ Ha sb := IC.call' (ch := fp) Ib.os Ib.base Ib.hok Ib.bare fun b hb => ⟨(fC b hb).1.2.2.2.1, (fC b hb).1.2.1, (fC b hb).1.2.2.2.2.1, (fC b hb).1.2.2.2.2.2⟩
      have nC : Ha sC.heap.objs.size = none := by
        have z : Ha ce.locals = none := Ib.free
        rwa [cL] at z
      obtain ⟨m, hm, _⟩ := Ib.loc
      have hm : sb.heap.Ns ce.locals m := hm
      rw [cL] at hm
      obtain ⟨f0, f1, f2, f3, f4, f5⟩ := IC.fpOk (Nat.le_refl _) nC
      exact ⟨m, hm, fun h' sbut => ⟨.ref D, Ha, Ix.turned (t' := sb.toks) (fun b o hb e => (sbut.2 b hb).trans e) f0 f1 f3 f4 f5, rfl, qq⟩⟩
    · refine thnF (T.item (X.blk sC HC scope ce fp) rfl rfl rfl hc i [] sa _ Ha (fun _ _ => False) Ia (still Ia na) sta go) fun r sb ⟨u, hr, hb1⟩ => ?_
      subst hr
      refine thnF hb1 fun _ sc ⟨x, Hc, Ic, rc, yc, stc, nc⟩ => ?_
      refine thnF (pg.run _ sc _ Hc x u _ (Ic.pinned (still Ic nc) (T.obj _ _ stc)) rc (step x Hc yc)) fun _ sd ⟨σd, Hd, Id, wd, qd⟩ => ?_
      refine thnF (pt.run _ sd σd Hd _ Id qd) fun b se ⟨He, Ie, qe⟩ => ?_
      have fin : ∀ (sz : Shared) (Hz : Hp), Inv (X.blk sC HC scope ce fp) ([] ++ pinsAt fp sc.heap) σd Hz sz → Nx Hz → ∃ m, m < n ∧ ∃ i Ha, Inv (X.blk sC HC scope ce fp) [] (L2.wipe σ (own.map (·.2))) Ha sz ∧ tn i sz.heap ∧ (∀ b ∈ fp, Ha b = none) ∧ Wv i m Ha := by
        intro sz Hz Iz nx
        obtain ⟨m', hm, wz⟩ := hNx Hz nx
        have pin : ∀ b ∈ fp, ∀ o, sc.heap.get? b = some o → sz.heap.get? b = some o ∧ Hz b = none := by
          intro b hb o e
          have z := Iz.pin (b, o) (List.mem_append_right _ (List.mem_append_right _ (mem_pinsAt hb e)))
          exact ⟨z.1, z.2.1⟩
        have hl : (L2.wipe σ (own.map (·.2))).length = σd.length := by rw [← wd, wipe_length]
        refine ⟨m', hm, i + 1, Hz, (Iz.unpinned (pins := [])).weak hl (fun j v e => ?_), T.keep _ _ _ stc fun b hb o e => (pin b hb o e).1, fun b hb => ?_, wz⟩
        · rw [← wd] at e
          exact (wipe_some e).1
        · obtain ⟨o, e, _⟩ := T.obj _ _ stc b hb
          exact (pin b hb o e).2
      cases b with
      | false =>
        simp only [Bool.false_eq_true, if_false] at qe ⊢
        exact fin _ _ Ie qe
      | true =>
        simp only [if_true] at qe ⊢
        exact pb _ se σd He Nx _ _ Ie qe fin
  exact F.start _ _ _ _ _ _ run (T.self X.A 0 _ _ _ stD run)
end

/-! ### sets of ints -/
def actS (P : Program) (w : World) (elt : Expr) : Act := fun A env D K E s => wpAny (model P w) A (eval elt env) (fun x s4 => wpAny (model P w) A (call (.builtin "set.add") [.ref D, x]) (fun _ s5 => K s5) E s4) E s
theorem form_set {P : Program} {w : World} {elt tg iter : Expr} {ifs : List Expr} {scope : Scope} {pos : Pos} :
    Form0 P w (.SetComp elt [⟨tg, iter, ifs, 0⟩] scope pos) tg iter ifs (newSet (.type "set")) { cls := .type "set", dict := none, data := .set #[] 0 (.fresh 0 0 (!w.params.followText "set-order")) } (fun D => SetO w D (fun _ => false) 0) (actS P w elt) where
  cl := rfl
  new := fun A E Q s q => PpSet.newSet_ok q
  laid := fun H h hb => setO_new (setR_fresh w)
  loop := fun A R env it D Kp turn n s q => PpSet.compLoopS_any Kp turn n q
  start := fun A R env it D s q1 q2 => PpSet.codeAny_compStart_set q1 q2
theorem uniI_snoc (ns : List Int) (k : Int) : uniI (ns ++ [k]) = if k ∈ uniI ns then uniI ns else uniI ns ++ [k] := by
  unfold uniI
  rw [List.foldl_append]
  rfl
theorem uniF_mem (k : Int) : ∀ (l a : List Int), k ∈ l.foldl uniS a ↔ k ∈ a ∨ k ∈ l
  | [], a => by simp
  | x :: r, a => by
    rw [List.foldl_cons, uniF_mem k r]
    unfold uniS
    split
    · rename_i h
      constructor
      · rintro (q | q)
        · exact .inl q
        · exact .inr (List.mem_cons_of_mem _ q)
      · rintro (q | q)
        · exact .inl q
        · rcases List.mem_cons.mp q with rfl | q
          · exact .inl h
          · exact .inr q
    · constructor
      · rintro (q | q)
        · rcases List.mem_append.mp q with q | q
          · exact .inl q
          · rw [List.mem_singleton.mp q]; exact .inr List.mem_cons_self
        · exact .inr (List.mem_cons_of_mem _ q)
      · rintro (q | q)
        · exact .inl (List.mem_append_left _ q)
        · rcases List.mem_cons.mp q with rfl | q
          · exact .inl (List.mem_append_right _ (List.mem_singleton_self _))
          · exact .inr q
theorem uniI_mem {k : Int} {l : List Int} : k ∈ uniI l ↔ k ∈ l := by
  unfold uniI
  rw [uniF_mem]
  simp
theorem uniF_nodup : ∀ (l a : List Int), a.Nodup → (l.foldl uniS a).Nodup
  | [], a, h => h
  | x :: r, a, h => by
    rw [List.foldl_cons]
    refine uniF_nodup r _ ?_
    unfold uniS
    split
    · exact h
    · rename_i q
      rw [List.nodup_append]
      refine ⟨h, by simp, fun a ha b hb => ?_⟩
      rw [List.mem_singleton.mp hb]
      exact fun e => q (e ▸ ha)
theorem uniI_nodup (l : List Int) : (uniI l).Nodup := uniF_nodup l [] List.nodup_nil
theorem uniF_le : ∀ (l a : List Int), (l.foldl uniS a).length ≤ a.length + l.length
  | [], a => Nat.le_refl _
  | x :: r, a => by
    rw [List.foldl_cons]
    refine Nat.le_trans (uniF_le r _) ?_
    unfold uniS
    split
    · rw [List.length_cons]; omega
    · rw [List.length_append, List.length_cons]; simp; omega
theorem uniI_le (l : List Int) : (uniI l).length ≤ l.length := by
  have := uniF_le l []
  rw [List.length_nil, Nat.zero_add] at this
  exact this
theorem uni_sorted {ks ns : List Int} (h1 : ks.Pairwise (· < ·)) (h2 : ∀ k, k ∈ ks ↔ k ∈ ns) : ks = srtI (uniI ns) := by
  refine srtI_eq ?_ (h1.imp fun h => Int.le_of_lt h)
  rw [List.perm_ext_iff_of_nodup (h1.imp fun h => Int.ne_of_lt h) (uniI_nodup ns)]
  exact fun k => (h2 k).trans uniI_mem.symm
section
variable {T : Tab} {Y : Ctx} {W : Wish} {C : Nat → List MV → MH → R MV} {CX : CXT} {lv : Nat} {inB : Bool} {N : List Str} {sc : Scope} {X : Cx}
variable {σ : L2.St} {H H' : Hp} {f f' : Nat → Addr} {h h' : MH} {ms : En}
variable {a b c e : Expr} {p pos : Pos}
variable {tg elt : Expr} {ifs : List Expr} {scope : Scope} {ow : List (Str × Nat)} {mg : MV → En → MH → R En} {mt : En → MH → R Bool} {mx : En → MH → R MV} {o : List Nat} {pe : Ex} {ap p2 p3 : Pos} {y z : Str}
def USet (w : World) (D : Addr) : List MV → (Nat → Addr) → Nat → Hp → Prop := fun acc _ _ H => ∃ ns : List Int, acc = ns.map .int ∧ H D = some (SetO w D (fun k => decide (k ∈ ns)) (uniI ns).length)
theorem gat_Set {w : World} {D : Addr} : Gat Y D (USet w D) := ⟨fun acc f N H ⟨_, _, e⟩ => ⟨_, e⟩, fun acc f h H f' N' H' r x hn ⟨ns, ea, e⟩ => ⟨ns, ea, (x.keepD e hn).1⟩⟩
theorem setO_fx {w : World} {d : Addr} {S : Int → Bool} {n : Nat} (d1 : H d = some (SetO w d S n)) {u : HO} : Fx Y.K H (upd H d u) := by
  refine ⟨?_, ?_⟩
  · rintro a xs ((q | ⟨o, q⟩) | q)
    · have : a ≠ d := fun z => by rw [z, d1] at q; cases q
      exact .inl (.inl (by rw [upd_ne this]; exact q))
    · have : a ≠ d := fun z => by rw [z, d1] at q; cases q
      exact .inl (.inr ⟨o, by rw [upd_ne this]; exact q⟩)
    · exact .inr q
  · rintro a xs (⟨o, q⟩ | q)
    · have : a ≠ d := fun z => by rw [z, d1] at q; cases q
      exact .inl ⟨o, by rw [upd_ne this]; exact q⟩
    · exact .inr q
theorem intM_inv {m : En → MH → R MV} {ms : En} {h h' : MH} {x : MV} (e : intM m ms h = .ok x h') : ∃ i, m ms h = .ok (.int i) h' ∧ x = .int i := by
  unfold intM at e
  obtain ⟨k, h1, e1, e⟩ := bind_ok e
  cases k <;> first | (cases e; done) | skip
  cases e
  exact ⟨_, e1, rfl⟩
theorem intL_map : ∀ ns : List Int, intL (ns.map .int) = some ns
  | [] => rfl
  | i :: r => by
    rw [List.map_cons]
    unfold intL
    rw [intL_map r]
    rfl
/-- sorted({elt for .. in d.items() if ..}) -/
theorem c_sci (g : Good T Y W C CX lv inB N sc X) (hh : T.hot = false) (ha : PE X a (rdE Y W (ev T.P C pe))) (hb : noSup a = true) (hl : (ap.endLine == p2.line) = true) (ht0 : isTup tg = true) (ey : y = "items") (ez : z = "sorted") (hz : glB sc z = true) (ok : BlkOk N sc scope ow) (hg : ∀ X', Good T Y NoW C CX lv true N (relS scope sc) X' → PG X' tg (rdG Y NoW mg o))
    (ht : ∀ X', Good T Y NoW C CX lv true N (relS scope sc) X' → PTs X' ifs (rdT Y NoW mt)) (he : ∀ X', Good T Y NoW C CX lv true N (relS scope sc) X' → PE X' elt (rdE Y NoW mx)) (ho : ∀ j ∈ o, j ∈ ow.map (·.2)) {p4 : Pos} :
    PE X (.Call (.Name z p4) [.SetComp elt [⟨tg, .Call (.Attribute a y ap) [] [] p2, ifs, 0⟩] scope p3] [] p) (rdE Y W fun σ h => (walkD 4000 (pthV T.P pe) (lcB mg mt (intM mx) (ow.map (·.2))) σ h).bind fun l h1 => mkSet l h1) := by
  subst ey ez
  obtain ⟨t1, t2, t3, rfl⟩ := isTup_ok ht0
  have F := form_set (P := X.prog) (w := X.w) (elt := elt) (tg := .Tuple t1 t2 t3) (iter := .Call (.Attribute a "items" ap) [] [] p2) (ifs := ifs) (scope := scope) (pos := p3)
  have sc1 : PE X (.SetComp elt [⟨.Tuple t1 t2 t3, .Call (.Attribute a "items" ap) [] [] p2, ifs, 0⟩] scope p3) (tCp (fun D => SetO X.w D (fun _ => false) 0) (iItems (rdE Y W (ev T.P C pe))) (rdG Y NoW mg o) (rdT Y NoW mt)
      (fun D σ' Ha Nx => rdE Y NoW mx σ' Ha fun y H5 => ∃ (k : Int) (S : Int → Bool) (n : Nat), y = .int k ∧ H5 D = some (SetO X.w D S n) ∧ n + 1 < scanBound ∧ Nx (upd H5 D (SetO X.w D (fun j => S j || decide (j = k)) (if S k = true then n else n + 1)))) (ow.map (·.2))) := by
    refine pe_cp F rfl (g.calm hh) (g.eN ▸ g.nd) (pi_items ha (noSup_base hb) hl) (by rw [g.eN, g.eS]; exact ok) (fun s H A cl fp => hg _ (g.blk hh)) (fun s H A cl fp => ht _ (g.blk hh)) (fun s H A cl fp D pins sa σ' Ha Nx Kp E Ia bb fin => ?_) (fun x => noSet rfl)
    have pe1 := he _ (g.blk hh (s := s) (H := H) (scope := scope) (A := A) (cl := cl) (fp := fp))
    unfold actS
    refine thnF (pe1.run pins sa σ' Ha _ Ia bb) fun u sb ⟨v, Hb, Ib, rb, k, S, n, ev_, hD, hn, nx⟩ => ?_
    subst ev_
    obtain ⟨tk, rfl⟩ := rb
    have R0 := setO_get Ib hD
    refine setR_add R0 hn fun h' sbut new => fin _ _ (Ib.write (e := D) (t' := sb.toks + 1) (by rw [hD]; trivial) (.inl rfl) (fun b u hb hu => (sbut.2 b hb).trans hu) ?_ (setO_new new)) nx
    have ⟨o, _, _, _, ho, _⟩ := new
    exact ⟨o, ho⟩
  have hs : starEach [Expr.SetComp elt [⟨.Tuple t1 t2 t3, .Call (.Attribute a "items" ap) [] [] p2, ifs, 0⟩] scope p3] X.env = [(false, eval (.SetComp elt [⟨.Tuple t1 t2 t3, .Call (.Attribute a "items" ap) [] [] p2, ifs, 0⟩] scope p3) X.env)] := star_cons rfl
  refine (pe_callB (cr_sortedSet (g.calm hh)) (g.gl hz) (g.bt (by decide)) (by decide +kernel) (pa_cons (pe_lock sc1) pa_nil hs) (by decide) (by decide) hs rfl).conv fun σ H Q q => ?_
  obtain ⟨d, kvs, d1, k⟩ := v_walk (C := C) ho q (fun D => SetO X.w D (fun _ => false) 0) (USet X.w) (fun D => gat_Set) (fun D f h H r hD => ⟨[], rfl, upd_same⟩)
    (fun D σ' Ha Nx => rdE Y NoW mx σ' Ha fun y H5 => ∃ (k : Int) (S : Int → Bool) (n : Nat), y = .int k ∧ H5 D = some (SetO X.w D S n) ∧ n + 1 < scanBound ∧ Nx (upd H5 D (SetO X.w D (fun j => S j || decide (j = k)) (if S k = true then n else n + 1))))
    (fun D f ms h H σ acc xv h6 Nx f1 h1 H1 hbd hD x r sr hn ⟨ns, ea, hd⟩ hlim ex nx => by
      obtain ⟨i, e1, rfl⟩ := intM_inv ex
      refine ⟨f, ms, h, r, sr, ?_⟩
      rw [e1]
      intro f5 H5 x5 r5 z rz
      cases rz.int_inv
      obtain ⟨d5, n5⟩ := x5.keepD hd hn
      have hl := uniI_le ns
      rw [ea, List.length_map] at hbd
      refine ⟨i, _, _, rfl, d5, by unfold scanBound; omega, nx f5 _ ((x.trans x5).updD hD) (r5.updU (setO_fx d5) n5) n5 ⟨ns ++ [i], by rw [ea, List.map_append]; rfl, ?_⟩⟩
      rw [upd_same]
      have e2 : (fun j => decide (j ∈ ns) || decide (j = i)) = fun j => decide (j ∈ ns ++ [i]) := by
        funext j
        rw [Bool.eq_iff_iff]
        simp
      have e3 : (if decide (i ∈ ns) = true then (uniI ns).length else (uniI ns).length + 1) = (uniI (ns ++ [i])).length := by
        rw [uniI_snoc]
        by_cases q : i ∈ ns
        · rw [if_pos (decide_eq_true q), if_pos (uniI_mem.mpr q)]
        · rw [if_neg (by simpa using q), if_neg (fun z => q (uniI_mem.mp z)), List.length_append]
          rfl
      rw [e2, e3])
    (fun D H' => ∃ (S : Int → Bool) (n : Nat), H' D = some (SetO X.w D S n) ∧ n < 64 ∧ ∀ (ns : List Int) (p : Addr), ns.Pairwise (· < ·) → (∀ k : Int, k ∈ ns ↔ S k = true) → ns.length = n → H' p = none → Q (.ref p) (upd H' p (.lst (ns.map V.int))))
    (fun D f' h' H' l f h H hD x r hn ⟨ns, ea, hd⟩ g1 => by
      unfold mkSet at g1
      rw [ea, intL_map] at g1
      simp only at g1
      split at g1
      · rename_i h64
        refine ⟨_, _, hd, h64, fun ks p h1 h2 h3 hp => ?_⟩
        have ek : ks = srtI (uniI ns) := uni_sorted h1 fun k => (h2 k).trans decide_eq_true_iff
        subst ek
        obtain ⟨_, f2, q2, e2⟩ := GP.newList (l := (srtI (uniI ns)).map .int) r ⟨W, _, g1.shift x⟩ VRs.ints hp
        exact q2 _ (by rw [← e2]; exact .ref (by rw [MH.size_push]; omega))
      · exact g1.elim)
    (fun D l f N H d od kvs hd ne ⟨ns, ea, e1⟩ => ⟨ns, ea, by rw [upd_ne ne.symm]; exact e1⟩)
  refine ⟨d, .dK kvs, d1, trivial, fun od => ?_⟩
  refine (k od).mono fun x H2 ⟨e1, e2, e3⟩ => ⟨d, od, kvs, e1, e2, fun D hD => ?_⟩
  obtain ⟨Wv, w0, step⟩ := e3 D hD
  refine ⟨Wv, w0, fun i m H' hw => ?_⟩
  rcases step i m H' hw with ⟨s1, s2, S, n, s3, s4, s5⟩ | s
  · exact .inl ⟨s1, s2, D, S, n, rfl, s3, s4, s5⟩
  · exact .inr s
end
end DM
set_option Elab.async false
set_option linter.all false
set_option maxRecDepth 100000
set_option maxHeartbeats 4000000
/-! S10d: dicts whose keys are tuples. -/
namespace DM
open PySem L2 PyProof.Rows PySem.Spec
/-! ### keys -/
theorem lfH_eq {P : Program} {w : World} (ls : List Leaf) : (tupleKind (leafKind P w)).hash ls = lfH w ls := rfl
theorem leaf_eq {a b : MV} {x y : Leaf} (ha : leafM a = some x) (hb : leafM b = some y) : eqA a b = decide (x = y) := by
  cases a <;> first | (cases ha; done) | skip
  all_goals cases b <;> first | (cases hb; done) | skip
  all_goals (cases ha; cases hb)
  · rename_i i j; cases i <;> cases j <;> rfl
  · rename_i i j
    show decide (j = if i then 1 else 0) = _
    by_cases e : j = if i then 1 else 0
    · rw [decide_eq_true e, e]
      exact (decide_eq_true rfl).symm
    · rw [decide_eq_false e, decide_eq_false fun q => e (Leaf.num.inj q).symm]
  · exact (decide_eq_false fun q => nomatch q).symm
  · rename_i i j
    show decide (i = if j then 1 else 0) = _
    by_cases e : i = if j then 1 else 0
    · rw [decide_eq_true e, e]
      exact (decide_eq_true rfl).symm
    · rw [decide_eq_false e, decide_eq_false fun q => e (Leaf.num.inj q)]
  · rename_i i j
    show decide (i = j) = _
    by_cases e : i = j
    · rw [decide_eq_true e, e]
      exact (decide_eq_true rfl).symm
    · rw [decide_eq_false e, decide_eq_false fun q => e (Leaf.num.inj q)]
  · exact (decide_eq_false fun q => nomatch q).symm
  · exact (decide_eq_false fun q => nomatch q).symm
  · exact (decide_eq_false fun q => nomatch q).symm
  · rename_i i j
    show decide (i = j) = _
    by_cases e : i = j
    · rw [decide_eq_true e, e]
      exact (decide_eq_true rfl).symm
    · rw [decide_eq_false e, decide_eq_false fun q => e (by
        have z := Leaf.text.inj q
        have := congrArg (fun s : Str => s.cps.toList) z
        simpa using this)]
theorem leaves_cons {x : MV} {r : List MV} {l : List Leaf} (h : leavesM (x :: r) = some l) : ∃ k t, leafM x = some k ∧ leavesM r = some t ∧ l = k :: t := by
  unfold leavesM at h
  split at h
  · rename_i k t e1 e2
    cases h
    exact ⟨k, t, e1, e2, rfl⟩
  · cases h
theorem leaves_eq : ∀ {a b : List MV} {x y : List Leaf}, leavesM a = some x → leavesM b = some y → eqAs a b = decide (x = y)
  | [], [], x, y, ha, hb => by cases ha; cases hb; rfl
  | [], _ :: _, x, y, ha, hb => by
    obtain ⟨k, t, _, _, rfl⟩ := leaves_cons hb
    cases ha
    exact (decide_eq_false fun q => nomatch q).symm
  | _ :: _, [], x, y, ha, hb => by
    obtain ⟨k, t, _, _, rfl⟩ := leaves_cons ha
    cases hb
    exact (decide_eq_false fun q => nomatch q).symm
  | a :: r, b :: s, x, y, ha, hb => by
    obtain ⟨k, t, e1, e2, rfl⟩ := leaves_cons ha
    obtain ⟨k', t', e3, e4, rfl⟩ := leaves_cons hb
    unfold eqAs
    rw [leaf_eq e1 e3, leaves_eq e2 e4, Bool.eq_iff_iff]
    simp
theorem aOk_leaf {x : MV} (h : aOk x = true) : ∃ k, leafM x = some k := by
  cases x <;> first | (cases h; done) | exact ⟨_, rfl⟩
theorem kOk_leaves {y : MV} (h : kOk true y = true) : ∃ ks ls, y = .tup ks ∧ leavesM ks = some ls := by
  cases y <;> first | (cases h; done) | skip
  rename_i l
  refine ⟨l, ?_⟩
  have h : l.all aOk = true := by
    have : (true && l.all aOk) = true := h
    simpa using this
  induction l with
  | nil => exact ⟨[], rfl, rfl⟩
  | cons x r ih =>
    rw [List.all_cons, Bool.and_eq_true] at h
    obtain ⟨k, e1⟩ := aOk_leaf h.1
    obtain ⟨t, _, e2⟩ := ih h.2 h.2
    exact ⟨k :: t, rfl, by unfold leavesM; rw [e1, e2]⟩
section
variable {Y : Ctx} {f : Nat → Addr} {N : Nat} {h : MH} {H : Hp} {X : Cx} {pins : List (Addr × Obj)} {σ : L2.St} {s : Shared}
theorem leaves_are {P : Program} {w : World} : ∀ {ks : List MV} {ls : List Leaf} {vs : List V} {us : List Value}, leavesM ks = some ls → VRs Y.K f N H ks vs → Vals vs us → ItemsAre (leafKind P w) ls us
  | [], ls, vs, us, e, r, v => by
    cases e
    rw [r.nil_inv] at v
    cases v
    exact .nil
  | x :: r, ls, vs, us, e, q, v => by
    obtain ⟨k, t, e1, e2, rfl⟩ := leaves_cons e
    obtain ⟨y, ys, rfl, a, b⟩ := q.cons_inv
    cases v with
    | cons rv tv =>
      refine .cons ?_ (leaves_are e2 b tv)
      cases x <;> first | (cases e1; done) | skip
      all_goals cases e1
      · cases a.bl_inv
        rename_i c
        cases (show _ = Value.bool c from rv)
        cases c <;> rfl
      · cases a.int_inv
        obtain ⟨tk, rfl⟩ := rv
        exact decide_eq_true rfl
      · obtain ⟨rfl, _⟩ := a.str_inv
        obtain ⟨tk, rfl⟩ := rv
        show ((_ : Str) == _) = true
        exact beq_self_eq_true _
theorem tup_key {ks : List MV} {ls : List Leaf} {vs : List V} {q : Addr} (hK : X.K = Y.K) (I : Inv X pins σ H s) (e : leavesM ks = some ls) (sq : SqT Y.K H q vs) (r : VRs Y.K f N H ks vs) : (tupleKind (leafKind X.prog X.w)).is s.heap ls q := by
  obtain ⟨its, rv, hl, hz⟩ := I.tuple (hK ▸ sq : SqT X.K H q vs)
  obtain ⟨o, ho, hc, n, hd⟩ := hl
  exact ⟨o, its.toArray, n, ho, hc, hd, by simpa using leaves_are e r rv⟩

/-! ### tables -/
def atE (ents : List EntT) (k : List Leaf) : Option V := (ents.find? fun x => decide (x.1 = k)).map (·.2.2)
def storeE (ents : List EntT) (k : List Leaf) (a : Addr) (v : V) : List EntT := if (atE ents k).isSome then ents.map (fun x => if x.1 = k then (x.1, x.2.1, v) else x) else ents ++ [(k, a, v)]
theorem atE_cons {x : EntT} {r : List EntT} {k : List Leaf} : atE (x :: r) k = if x.1 = k then some x.2.2 else atE r k := by
  unfold atE
  rw [List.find?_cons]
  by_cases e : x.1 = k
  · rw [decide_eq_true e, if_pos e]
    rfl
  · rw [decide_eq_false e, if_neg e]
theorem storeE_cons {x : EntT} {r : List EntT} {k : List Leaf} {a : Addr} {v : V} (e : x.1 ≠ k) : storeE (x :: r) k a v = x :: storeE r k a v := by
  unfold storeE
  rw [atE_cons, if_neg e]
  split
  · rw [List.map_cons, if_neg e]
  · rfl
/-- the library's table beside ours -/
abbrev XE (xs : List (List Leaf × Addr × Value)) (ents : List EntT) : Prop := Paired (fun (x : List Leaf × Addr × Value) (q : EntT) => x.1 = q.1 ∧ x.2.1 = q.2.1 ∧ RelV q.2.2 x.2.2) xs ents
theorem xe_of {P : Program} {w : World} : ∀ {es : List DictEntry} {ents : List EntT}, Paired (fun (e : DictEntry) (q : EntT) => e.hash = lfH w q.1 ∧ e.key = .ref q.2.1 ∧ RelV q.2.2 e.val) es ents →
    ∃ xs, es = xs.map (entryOfKey (tupleKind (leafKind P w))) ∧ XE xs ents
  | _, _, .nil => ⟨[], rfl, .nil⟩
  | _, _, .cons (a := e) (b := q) h t => by
    obtain ⟨xs, e1, e2⟩ := xe_of (P := P) t
    refine ⟨(q.1, q.2.1, e.val) :: xs, ?_, .cons ⟨rfl, rfl, h.2.2⟩ e2⟩
    rw [List.map_cons, ← e1]
    obtain ⟨h1, h2, h3⟩ := h
    cases e
    simp only at h1 h2
    subst h1 h2
    rfl
theorem of_xe {P : Program} {w : World} : ∀ {xs : List (List Leaf × Addr × Value)} {ents : List EntT}, XE xs ents → Paired (fun (e : DictEntry) (q : EntT) => e.hash = lfH w q.1 ∧ e.key = .ref q.2.1 ∧ RelV q.2.2 e.val) (xs.map (entryOfKey (tupleKind (leafKind P w)))) ents
  | _, _, .nil => .nil
  | _, _, .cons h t => by
    rw [List.map_cons]
    refine .cons ⟨?_, ?_, h.2.2⟩ (of_xe t)
    · rw [← h.1]; rfl
    · rw [← h.2.1]; rfl
theorem XE.keys : ∀ {xs : List (List Leaf × Addr × Value)} {ents : List EntT}, XE xs ents → xs.map (·.1) = ents.map (·.1)
  | _, _, .nil => rfl
  | _, _, .cons h t => by rw [List.map_cons, List.map_cons, XE.keys t, h.1]
theorem XE.at {k : List Leaf} : ∀ {xs : List (List Leaf × Addr × Value)} {ents : List EntT}, XE xs ents → (atKey xs k = none ∧ atE ents k = none) ∨ ∃ p v, atKey xs k = some p ∧ atE ents k = some v ∧ RelV v p.2
  | _, _, .nil => .inl ⟨rfl, rfl⟩
  | _, _, .cons (a := x) (b := q) h t => by
    rw [atE_cons]
    unfold atKey
    rw [List.find?_cons]
    by_cases e : x.1 = k
    · rw [decide_eq_true e, if_pos (h.1 ▸ e)]
      exact .inr ⟨_, _, rfl, rfl, h.2.2⟩
    · rw [decide_eq_false e, if_neg fun z => e (h.1.trans z)]
      exact XE.at t
theorem XE.store {k : List Leaf} {a : Addr} {v : V} {u : Value} (ru : RelV v u) {xs : List (List Leaf × Addr × Value)} {ents : List EntT} (x : XE xs ents) : XE (storedH xs k a u) (storeE ents k a v) := by
  have m : ∀ {xs : List (List Leaf × Addr × Value)} {ents : List EntT}, XE xs ents → XE (xs.map (putAt k u)) (ents.map fun x => if x.1 = k then (x.1, x.2.1, v) else x) := by
    intro xs ents x
    induction x with
    | nil => exact .nil
    | @cons p q ps qs h t ih =>
      rw [List.map_cons, List.map_cons]
      refine .cons ?_ ih
      unfold putAt
      by_cases e : p.1 = k
      · rw [if_pos e, if_pos (h.1 ▸ e)]
        exact ⟨h.1, h.2.1, ru⟩
      · rw [if_neg e, if_neg fun z => e (h.1.trans z)]
        exact h
  unfold storedH storeE
  rcases x.at (k := k) with ⟨e1, e2⟩ | ⟨p, w, e1, e2, _⟩
  · rw [e1, e2]
    exact Paired.snoc x ⟨rfl, rfl, ru⟩
  · rw [e1, e2]
    exact m x
theorem TabT.dict {a : Addr} {ents : List EntT} (t : TabT X.w s.heap a ents) (hk : ∀ q ∈ ents, (tupleKind (leafKind X.prog X.w)).is s.heap q.1 q.2.1) (nd : (ents.map (·.1)).Nodup) : ∃ xs, s.heap.DictOfH (tupleKind (leafKind X.prog X.w)) a xs ∧ XE xs ents := by
  obtain ⟨z, lo, o, es, ep, ho, hx, hd, pr⟩ := t
  obtain ⟨xs, e1, e2⟩ := xe_of (P := X.prog) pr
  refine ⟨xs, ⟨o, es, ep, ho, hx, hd, e1, fun x hx => ?_, by rw [e2.keys]; exact nd⟩, e2⟩
  have go : ∀ {xs : List (List Leaf × Addr × Value)} {l : List EntT}, XE xs l → (∀ q ∈ l, (tupleKind (leafKind X.prog X.w)).is s.heap q.1 q.2.1) → ∀ x ∈ xs, (tupleKind (leafKind X.prog X.w)).is s.heap x.1 x.2.1 := by
    intro xs l x
    induction x with
    | nil => intro _ x hx; exact nomatch hx
    | @cons p q ps qs h t ih =>
      intro hq x hx
      rcases List.mem_cons.mp hx with e | hx
      · subst e
        rw [h.1, h.2.1]
        exact hq q List.mem_cons_self
      · exact ih (fun q hq' => hq q (List.mem_cons_of_mem _ hq')) x hx
  exact go e2 hk x hx
theorem TabT.of {a : Addr} {xs : List (List Leaf × Addr × Value)} {ents : List EntT} {P : Program} {w : World} {h : Heap} (d : h.DictOfH (tupleKind (leafKind P w)) a xs) (x : XE xs ents) (z : ents.length ≤ sizeLine) (lo : (a == sysModules) = false) : TabT w h a ents := by
  obtain ⟨o, es, ep, ho, hx, hd, e1, _, _⟩ := d
  exact ⟨z, lo, o, es, ep, ho, hx, hd, by rw [e1]; exact of_xe x⟩
theorem DTo.ok {P : Program} {w : World} {H : Hp} {h : Heap} {a : Addr} {ents : List EntT} (t : TabT w h a ents) : ObjOk P w H h a (DTo w a ents) := by
  have ⟨_, _, o, _, _, ho, _⟩ := t
  exact ⟨t, ⟨o, ho⟩, fun h1 h2 ⟨z, lo, o, es, ep, ho, r⟩ k => ⟨z, lo, o, es, ep, k o ho, r⟩⟩
theorem TKr.len {K : KW} : ∀ {l : List (MV × MV)} {ents : List EntT}, TKr K f N H l ents → l.length = ents.length
  | [], _, e => by rw [show _ = [] from e]; rfl
  | _ :: r, _, ⟨_, _, _, _, _, ys, e, _, _, _, _, _, t⟩ => by rw [e, List.length_cons, List.length_cons, TKr.len t]
theorem TKr.key (hK : X.K = Y.K) (I : Inv X pins σ H s) : ∀ {l : List (MV × MV)} {ents : List EntT}, TKr Y.K f N H l ents → ∀ q ∈ ents, (tupleKind (leafKind X.prog X.w)).is s.heap q.1 q.2.1
  | [], _, e, q, hq => by rw [show _ = [] from e] at hq; exact nomatch hq
  | _ :: r, _, ⟨ks, ls, vs, p, v, ys, e, e1, e2, sq, rv, _, t⟩, q, hq => by
    rw [e] at hq
    rcases List.mem_cons.mp hq with rfl | hq
    · exact tup_key hK I e2 sq rv
    · exact TKr.key hK I t q hq
theorem TKr.look {K : KW} {ks : List MV} {ls : List Leaf} (hk : leavesM ks = some ls) : ∀ {l : List (MV × MV)} {ents : List EntT}, TKr K f N H l ents → RO K f N H (lookK (.tup ks) l) (atE ents ls)
  | [], _, e => by rw [show _ = [] from e]; exact True.intro
  | (k, m) :: r, _, ⟨ks', ls', vs, p, v, ys, e, e1, e2, sq, rv, rm, t⟩ => by
    rw [e, atE_cons]
    have e1 : k = .tup ks' := e1
    subst e1
    unfold lookK
    have q : eqK (.tup ks') (.tup ks) = decide (ls' = ls) := leaves_eq e2 hk
    rw [q]
    by_cases z : ls' = ls
    · rw [decide_eq_true z, if_pos z]
      exact rm
    · rw [decide_eq_false z, if_neg z]
      exact TKr.look hk t
theorem TKr.has {K : KW} {ks : List MV} {ls : List Leaf} (hk : leavesM ks = some ls) : ∀ {l : List (MV × MV)} {ents : List EntT}, TKr K f N H l ents → hasK (.tup ks) l = (atE ents ls).isSome
  | [], _, e => by rw [show _ = [] from e]; rfl
  | (k, m) :: r, _, ⟨ks', ls', vs, p, v, ys, e, e1, e2, sq, rv, rm, t⟩ => by
    rw [e, atE_cons]
    have e1 : k = .tup ks' := e1
    subst e1
    unfold hasK
    have q : eqK (.tup ks') (.tup ks) = decide (ls' = ls) := leaves_eq e2 hk
    rw [q]
    by_cases z : ls' = ls
    · rw [decide_eq_true z, if_pos z]
      rfl
    · rw [decide_eq_false z, if_neg z, Bool.false_or]
      exact TKr.has hk t
theorem TKr.put {K : KW} {ks : List MV} {ls : List Leaf} {vs : List V} {q : Addr} {m : MV} {v : V} (hk : leavesM ks = some ls) (sq : SqT K H q vs) (rk : VRs K f N H ks vs) (rm : VR K f N H m v) {l : List (MV × MV)} {ents : List EntT} (t : TKr K f N H l ents) :
    TKr K f N H (DM.putK (.tup ks) m l) (storeE ents ls q v) := by
  unfold DM.putK storeE
  rw [t.has hk]
  cases (atE ents ls).isSome with
  | true =>
    simp only [if_true]
    have go : ∀ {l : List (MV × MV)} {ents : List EntT}, TKr K f N H l ents → TKr K f N H (l.map fun p => if eqK p.1 (.tup ks) then (p.1, m) else p) (ents.map fun x => if x.1 = ls then (x.1, x.2.1, v) else x) := by
      intro l
      induction l with
      | nil => intro ents e; rw [show ents = [] from e]; rfl
      | cons p r ih =>
        rintro ents ⟨ks', ls', vs', p', v', ys, e, e1, e2, sq', rv', rm', t'⟩
        rw [e, List.map_cons, List.map_cons]
        have z : eqK p.1 (.tup ks) = decide (ls' = ls) := by rw [e1]; exact leaves_eq e2 hk
        by_cases y : ls' = ls
        · rw [if_pos (show eqK p.1 (.tup ks) = true by rw [z, decide_eq_true y]), if_pos y]
          exact ⟨ks', ls', vs', p', v, _, rfl, e1, e2, sq', rv', rm, ih t'⟩
        · rw [if_neg (show ¬ eqK p.1 (.tup ks) = true by rw [z, decide_eq_false y]; exact Bool.false_ne_true), if_neg y]
          exact ⟨ks', ls', vs', p', v', _, rfl, e1, e2, sq', rv', rm', ih t'⟩
    exact go t
  | false =>
    simp only [Bool.false_eq_true, if_false]
    have go : ∀ {l : List (MV × MV)} {ents : List EntT}, TKr K f N H l ents → TKr K f N H (l ++ [(.tup ks, m)]) (ents ++ [(ls, q, v)]) := by
      intro l
      induction l with
      | nil => intro ents e; rw [show ents = [] from e]; exact ⟨ks, ls, vs, q, v, [], rfl, rfl, hk, sq, rk, rm, rfl⟩
      | cons p r ih =>
        rintro ents ⟨ks', ls', vs', p', v', ys, e, e1, e2, sq', rv', rm', t'⟩
        rw [e]
        exact ⟨ks', ls', vs', p', v', _, rfl, e1, e2, sq', rv', rm', ih t'⟩
    exact go t
theorem storeE_nodup {ents : List EntT} {k : List Leaf} {a : Addr} {v : V} (nd : (ents.map (·.1)).Nodup) : ((storeE ents k a v).map (·.1)).Nodup := by
  have ne : atE ents k = none → ∀ x ∈ ents, x.1 ≠ k := by
    intro h x hx e
    unfold atE at h
    cases q : ents.find? fun x => decide (x.1 = k) with
    | some y => rw [q] at h; cases h
    | none =>
      have := List.find?_eq_none.mp q x hx
      exact this (decide_eq_true e)
  unfold storeE
  cases h : atE ents k with
  | some w =>
    simp only [Option.isSome_some, if_true]
    rw [List.map_map]
    have e : ((fun x : EntT => x.1) ∘ fun x : EntT => if x.1 = k then (x.1, x.2.1, v) else x) = fun x => x.1 := by
      funext x
      show (if x.1 = k then (x.1, x.2.1, v) else x).1 = x.1
      split <;> rfl
    rw [e]
    exact nd
  | none =>
    simp only [Option.isSome_none, Bool.false_eq_true, if_false]
    rw [List.map_append, List.nodup_append]
    refine ⟨nd, by simp, fun x hx y hy => ?_⟩
    obtain ⟨q, hq, rfl⟩ := List.mem_map.mp hx
    have : y = k := by simpa using hy
    rw [this]
    exact ne h q hq
theorem storeE_le {ents : List EntT} {k : List Leaf} {a : Addr} {v : V} : (storeE ents k a v).length ≤ ents.length + 1 := by
  unfold storeE
  split
  · rw [List.length_map]; exact Nat.le_succ _
  · rw [List.length_append]; exact Nat.le_refl _
end
section
variable {T : Tab} {Y : Ctx} {W : Wish} {C : Nat → List MV → MH → R MV} {CX : CXT} {lv : Nat} {inB : Bool} {N : List Str} {sc : Scope} {X : Cx}
variable {σ : L2.St} {H H' : Hp} {f f' : Nat → Addr} {h h' : MH} {ms : En} {s : Shared} {pins : List (Addr × Obj)}
variable {a b c e : Expr} {ma mb mc : En → MH → R MV} {p pos : Pos} {es : List Expr} {me mk : En → MH → R (List MV)}
theorem Rl.tab (g : Good T Y W C CX lv inB N sc X) (r : Rl Y.K Y.Z f h H) (I : Inv X pins σ H s) {n : Nat} {t lk : Bool} {l : List (MV × MV)} (en : h.get n = some (.dct t lk l)) (ht : t = true ∨ l = []) :
    ∃ ents, TabT X.w s.heap (f n) ents ∧ TKr Y.K f h.size H l ents ∧ (ents.map (·.1)).Nodup ∧ ((lk = false ∧ Mut (H (f n))) ∨ (lk = true ∧ ∃ o u, H (f n) = some (.frz o u))) := by
  have ho := r.ob _ _ en
  cases t with
  | true =>
    obtain ⟨ents, e1, e2, e3⟩ := ho
    cases lk with
    | false =>
      have e1 : H (f n) = some (DTo Y.K.w (f n) ents) := e1
      have q : TabT Y.K.w s.heap (f n) ents := (I.hok _ _ e1).1
      exact ⟨ents, g.Wo ▸ q, e2, e3, .inl ⟨rfl, by rw [e1]; trivial⟩⟩
    | true =>
      obtain ⟨o, e1⟩ := e1
      have q : TabT Y.K.w s.heap (f n) ents := (I.hok _ _ e1).2.1
      exact ⟨ents, g.Wo ▸ q, e2, e3, .inr ⟨rfl, o, _, e1⟩⟩
  | false =>
    have hl : l = [] := ht.resolve_left (fun z => by cases z)
    subst hl
    obtain ⟨kvs, e1, e2⟩ := ho
    have e2 : kvs = [] := e2
    subst e2
    obtain ⟨z, lo, vs, rel, dd⟩ := dk_rd I.hok (DAt.rd e1)
    cases rel
    obtain ⟨ep, hat⟩ := dd.dictAt
    obtain ⟨o, es, ho, hc, hdat, _, hp, _⟩ := hat
    have he : es.toList = [] := List.length_eq_zero_iff.mp (hp.length)
    refine ⟨[], ⟨Nat.zero_le _, lo, o, es, ep, ho, hc, hdat, by rw [he]; exact .nil⟩, rfl, List.nodup_nil, ?_⟩
    cases lk with
    | false => exact .inl ⟨rfl, by rw [show H (f n) = some (.dK []) from e1]; trivial⟩
    | true =>
      obtain ⟨o, e1⟩ := e1
      exact .inr ⟨rfl, o, _, e1⟩
theorem TabT.type {w : World} {a : Addr} {ents : List EntT} (t : TabT w s.heap a ents) : s.TypeIs (.ref a) "dict" ∧ ∀ b, Value.ref a = .ref b → ∃ ob, s.heap.get? b = some ob ∧ ob.dict = none := by
  obtain ⟨_, _, o, es, ep, ho, hx, _⟩ := t
  refine ⟨⟨o, ho, hx.1⟩, fun b q => ?_⟩
  cases q
  exact ⟨o, ho, hx.2.1⟩
theorem dct_type (g : Good T Y W C CX lv inB N sc X) (r : Rl Y.K Y.Z f h H) (I : Inv X pins σ H s) {n : Nat} {t lk : Bool} {l : List (MV × MV)} (en : h.get n = some (.dct t lk l)) :
    s.TypeIs (.ref (f n)) "dict" ∧ ∀ b, Value.ref (f n) = .ref b → ∃ ob, s.heap.get? b = some ob ∧ ob.dict = none := by
  cases t with
  | true =>
    obtain ⟨ents, q, _⟩ := r.tab g I en (.inl rfl)
    exact q.type
  | false =>
    obtain ⟨t1, t2, _⟩ := isD_at I (r.isD en)
    exact ⟨t1, t2⟩
theorem isDT_inv {x : MV} {h h' : MH} {u : Unit} (e : isDT x h = .ok u h') : h' = h ∧ ∃ n t l, x = .ref n ∧ h.get n = some (.dct t false l) := by
  unfold isDT at e
  split at e
  · rename_i n
    split at e
    · rename_i t l en
      cases e
      exact ⟨rfl, n, t, l, rfl, en⟩
    · cases e
  · cases e
theorem isDT_noex {x : MV} {h h' : MH} {k : Nat} {l : List MV} (e : isDT x h = .ex k l h') : False := by
  unfold isDT at e
  split at e
  · split at e <;> cases e
  · cases e
theorem G.isDT {α : Type} {x : MV} {k : MH → R α} {Tt : α → (Nat → Addr) → MH → Hp → Prop} (g : G Y W σ f h H ((DM.isDT x h).bind fun _ h2 => k h2) Tt) : (∃ n t l, x = .ref n ∧ h.get n = some (.dct t false l)) ∧ G Y W σ f h H (k h) Tt := by
  cases e : DM.isDT x h with
  | ok u h1 =>
    obtain ⟨rfl, n, t, l, ex, en⟩ := isDT_inv e
    rw [e] at g
    exact ⟨⟨n, t, l, ex, en⟩, g⟩
  | ex c l h1 => exact (isDT_noex e).elim
  | stk => rw [e] at g; exact g.elim
/-- an unlocked dict becomes one of tuple keys -/
theorem Rl.putT (r : Rl Y.K Y.Z f h H) {n : Nat} {t : Bool} {l l' : List (MV × MV)} {ents : List EntT} (en : h.get n = some (.dct t false l)) (tk : ∀ H', Fx Y.K H H' → TKr Y.K f h.size H' l' ents) (nd : (ents.map (·.1)).Nodup) :
    Ext f h.size H f (h.put n (.dct true false l')).size (upd H (f n) (DTo Y.K.w (f n) ents)) ∧ Rl Y.K Y.Z f (h.put n (.dct true false l')) (upd H (f n) (DTo Y.K.w (f n) ents)) := by
  have ex0 := Ext.put (f := f) (H := H) (u := DTo Y.K.w (f n) ents) (MH.get_lt en) (r.nofz en rfl)
  exact r.put (o' := .dct true false l') (u := DTo Y.K.w (f n) ents) en (fun _ q => by cases q) ⟨ents, upd_same, tk _ (r.text ex0), nd⟩
/-- d.setdefault(k, x), k a tuple -/
theorem c_dsT (g : Good T Y W C CX lv inB N sc X) {m : Str} {ap : Pos} (em : m = "setdefault") (ho : PE X a (rdE Y W ma)) (hy : PE X b (rdE Y W mb)) (hz : PE X c (rdE Y W mc)) (hb : noSup a = true) (hs : isStar b = false) (ht : isStar c = false) (hl : (ap.endLine == p.line) = true) :
    PE X (.Call (.Attribute a m ap) [b, c] [] p) (rdE Y W fun σ h => (ma σ h).bind fun x h1 => (DM.isDT x h1).bind fun _ h2 => (mb σ h2).bind fun y h3 => (mc σ h3).bind fun z h4 => dsTM x y z h4) := by
  subst em
  have M := m2_of g (m := "setdefault") hb hs ht hl
  have hu : X.A.in1.units < cLine := by
    have := g.un
    show X.A.units + 1 < _
    omega
  refine ⟨fun pins s σ H Q I q => ?_⟩
  obtain ⟨f, ms, h, r, sr, q⟩ := q
  refine wpAny_Call_method M.base M.few M.line PySem.F.plainAttrs_dict PySem.F.slot_dict_setdefault PySem.F.type_dict_setdefault (thn (ho.run pins s σ H (fun o H1 => ∃ f1 h1 n t l, Ext f h.size H f1 h1.size H1 ∧ Rl Y.K Y.Z f1 h1 H1 ∧ o = .ref (f1 n) ∧ h1.get n = some (.dct t false l) ∧
      G Y W σ f1 h1 H1 ((mb ms h1).bind fun y h3 => (mc ms h3).bind fun z h4 => dsTM (.ref n) y z h4) fun v f' h' H' => ∀ z, VR Y.K f' h'.size H' v z → Q z H') I
    ⟨f, ms, h, r, sr, q.bind.mono fun x h1 f1 H1 _ x1 r1 g1 o ro => by
      obtain ⟨⟨n, t, l, rfl, en⟩, g1⟩ := g1.isDT
      obtain ⟨hn, rfl⟩ := ro.ref_inv
      exact ⟨f1, h1, n, t, l, x1, r1, rfl, en, g1⟩⟩) fun u s1 ⟨x, H1, I1, rx, f1, h1, n, t, l, x1, r1, ex, en, g1⟩ => ?_)
  subst ex
  obtain rfl : u = Value.ref (f1 n) := rx
  obtain ⟨t1, t2⟩ := dct_type g r1 I1 en
  refine ⟨t1, t2, ?_⟩
  rw [M.trees]
  have sr1 := r.sr x1 sr
  refine Calls.callWith_builtin rfl (Calls.evalArgs_plain (Calls.spliced_cons (thn (hy.run pins s1 σ H1 (fun o H2 => ∃ f2 h2 y, Ext f1 h1.size H1 f2 h2.size H2 ∧ Rl Y.K Y.Z f2 h2 H2 ∧ VR Y.K f2 h2.size H2 y o ∧
      G Y W σ f2 h2 H2 ((mc ms h2).bind fun z h4 => dsTM (.ref n) y z h4) fun v f' h' H' => ∀ z, VR Y.K f' h'.size H' v z → Q z H') I1 ⟨f1, ms, h1, r1, sr1, g1.bind.mono fun y h2 f2 H2 _ x2 r2 g2 o ro => ⟨f2, h2, y, x2, r2, ro, g2⟩⟩) fun iv s2 ⟨yv, H2, I2, ry, f2, h2, y, x2, r2, vy, g2⟩ =>
    Calls.spliced_cons (thn (hz.run pins s2 σ H2 (fun o H3 => ∃ f3 h3 z, Ext f2 h2.size H2 f3 h3.size H3 ∧ Rl Y.K Y.Z f3 h3 H3 ∧ VR Y.K f3 h3.size H3 z o ∧
      G Y W σ f3 h3 H3 (dsTM (.ref n) y z h3) fun v f' h' H' => ∀ z, VR Y.K f' h'.size H' v z → Q z H') I2 ⟨f2, ms, h2, r2, r1.sr x2 sr1, g2.bind.mono fun y h2 f2 H2 _ x2 r2 g2 o ro => ⟨f2, h2, y, x2, r2, ro, g2⟩⟩) fun fv s3 ⟨zv, H3, I3, rz, f3, h3, z, x3, r3, vz, g3⟩ => Calls.spliced_nil ?_))))
  have hn1 := MH.get_lt en
  have x13 := x2.trans x3
  have ea : f3 n = f1 n := x13.ag n hn1
  rw [← ea]
  have vy := r2.vr x3 vy
  unfold dsTM at g3
  simp only at g3
  split at g3
  · rename_i t' l' en3
    split at g3
    · rename_i hc
      obtain ⟨h0, hk, hlt⟩ := hc
      obtain ⟨ks, ls, rfl, el⟩ := kOk_leaves hk
      obtain ⟨q, vs, rfl, sq, rk⟩ := vy.tup_inv
      obtain rfl : iv = Value.ref q := ry
      obtain ⟨ents, tb, tk, nd, mu⟩ := r3.tab g I3 en3 h0
      obtain ⟨xs, dh, xe⟩ := tb.dict (tk.key g.K I3) nd
      have lx : xs.length ≤ sizeLine := by
        rw [Paired.length xe]
        exact tb.1
      have mu : Mut (H3 (f3 n)) := by
        rcases mu with ⟨_, mu⟩ | ⟨z, _⟩
        · exact mu
        · cases z
      have lo := tk.look el
      refine call_setdefault_heap (hsz := lx) (knd := tupleKind (leafKind X.prog X.w)) hu (tup_key g.K I3 el sq rk) tb.2.1 dh (fun p0 hp => ?_) (fun hn h' dd' hs' => ?_)
      · rcases xe.at (k := ls) with ⟨z1, _⟩ | ⟨p1, v1, z1, z2, z3⟩
        · rw [z1] at hp; cases hp
        · rw [z1] at hp
          cases hp
          rw [z2] at lo
          cases e3 : lookK (.tup ks) l' with
          | none => rw [e3] at lo; exact lo.elim
          | some w =>
            rw [e3] at lo g3
            exact ⟨v1, H3, I3.tok _, z3, G.ok r3 g3 _ lo⟩
      · rcases xe.at (k := ls) with ⟨_, z2⟩ | ⟨p1, v1, z1, _, _⟩
        · rw [z2] at lo
          cases e3 : lookK (.tup ks) l' with
          | some w => rw [e3] at lo; exact lo.elim
          | none =>
            rw [e3] at g3
            have le : (storeE ents ls q zv).length ≤ sizeLine := by
              have h1 := storeE_le (ents := ents) (k := ls) (a := q) (v := zv)
              have h2 := tk.len
              rw [← LIM_eq]
              omega
            obtain ⟨ex', rl'⟩ := r3.putT (l' := DM.putK (.tup ks) z l') (ents := storeE ents ls q zv) en3 (fun H' fx => by
              have tk' := TKr.mono (Nat.le_refl _) (fun _ _ => rfl) fx _ _ tk
              exact tk'.put el (fx.t _ _ sq) (VRs.mono (Nat.le_refl _) (fun _ _ => rfl) fx _ _ rk) (VR.mono (Nat.le_refl _) (fun _ _ => rfl) fx _ _ vz)) (storeE_nodup nd)
            have new : ObjOk X.prog X.w (upd H3 (f3 n) (DTo X.w (f3 n) (storeE ents ls q zv))) h' (f3 n) (DTo X.w (f3 n) (storeE ents ls q zv)) := DTo.ok (TabT.of dd' (xe.store rz) le tb.2.1)
            have he : ∃ q, h'.get? (f3 n) = some q := let ⟨q, _, _, hq, _⟩ := dd'; ⟨q, hq⟩
            have I4 := d_write (t' := s3.toks + (tupleKind (leafKind X.prog X.w)).draws ls) I3 mu hs' he new
            refine ⟨zv, _, I4, rz, ?_⟩
            rw [g.Wo]
            exact g3 _ _ ex' rl' _ (r3.vr ex' vz)
        · rw [z1] at hn; cases hn
    · exact g3.elim
  · exact g3.elim

/-! ### the items of a locked one -/
def ItT (w : World) (d : Addr) (o : Obj) (ents : List EntT) : L2.It :=
  ⟨fun i H => H d = some (.frz o (DTo w d ents)) ∧ i < ents.length, fun i H x H' => ∃ A ls q v, ents[i]? = some (ls, q, v) ∧ x = .ref A ∧ H A = none ∧ H' = upd H A (.tup [.ref q, v]), fun i H => H d = some (.frz o (DTo w d ents)) ∧ ents.length ≤ i⟩
theorem Inv.tabZ {d : Addr} {o : Obj} {ents : List EntT} (I : Inv X pins σ H s) (hd : H d = some (.frz o (DTo X.w d ents))) : (d == sysModules) = false ∧ s.heap.get? d = some o ∧ ∃ es ep, o.ExactDict ∧ o.data = .dict es ep ∧ es.size = ents.length ∧
    Paired (fun (e : DictEntry) (q : EntT) => e.hash = lfH X.w q.1 ∧ e.key = .ref q.2.1 ∧ RelV q.2.2 e.val) es.toList ents := by
  obtain ⟨e1, ⟨z, lo, o', es, ep, ho, hx, hdt, pr⟩, _⟩ := I.hok d _ hd
  rw [e1] at ho
  cases ho
  exact ⟨lo, e1, es, ep, hx, hdt, by rw [← Paired.length pr]; simp, pr⟩
theorem turn_itemsT {P : Program} {w : World} {K : PySem.W.Frag} {d : Addr} {o : Obj} {ents : List EntT} {es : Array DictEntry} {ep : Nat} {elts : List Expr} {kk : Nat} {tpos : Pos} (it : Addr) (hod : o.data = .dict es ep) :
    Turn P w K (.Tuple elts kk tpos) (ItT w d o ents) [it] it (fun i h => ∃ ok ov, IsItemIter h it d i es.size ep ok ov) where
  mem := List.mem_singleton_self _
  obj := fun i h st b hb => by
    rw [List.mem_singleton.mp hb]
    obtain ⟨ok, ov, e⟩ := st
    exact ⟨_, e, fun v z => nomatch z⟩
  keep := fun i h h' ⟨ok, ov, e⟩ k => ⟨ok, ov, k it (List.mem_singleton_self _) _ e⟩
  item := by
    intro X hP hw hK hc i pins s σ H E I hf ⟨ok, ov, he⟩ ⟨hd, hi⟩
    subst hP hw hK
    obtain ⟨lo, hg, es', ep', hx, hdt, hsz, pr⟩ := Inv.tabZ I hd
    obtain ⟨rfl, rfl⟩ := dict_ep hod hdt
    have hlt : it < s.heap.objs.size := Heap.lt_size he
    have hi' : i < es'.size := by rw [hsz]; exact hi
    obtain ⟨⟨ls, q, v⟩, eq, hq1, hq2, hq3⟩ := paired_get pr (i := i) (a := es'[i]) (by rw [Array.getElem?_toList]; exact Array.getElem?_eq_getElem hi')
    refine DT.nextI he ⟨o, hg, hx, hdt⟩ hi' fun h' hout hT hz hk => ⟨_, rfl, wpAny_letOwnedTupleGo_items (s := { s with heap := h' }) hout fun h'' he' sb => ?_⟩
    have hT2 := (sb.2 _ (Nat.ne_of_gt hlt)).trans hT
    rw [hq2] at hT2
    have new : ObjOk X.prog X.w (upd H s.heap.objs.size (.tup [.ref q, v])) h'' s.heap.objs.size (.tup [.ref q, v]) :=
      ⟨by show 2 ≤ sizeLine; decide, [.ref q, es'[i].val], .cons rfl (.cons hq3 .nil), ⟨_, hT2, rfl, _, rfl⟩⟩
    have I1 : Inv X pins σ (upd H s.heap.objs.size (.tup [.ref q, v])) { s with heap := h'' } :=
      I.turnedNew (t' := s.toks) (ch := [it]) (fun b ob hb e => (sb.2 b (by simpa using hb)).trans (hk b ob (by simpa using hb) e)) hf (Nat.le_refl _) new
    refine ⟨.ref s.heap.objs.size, _, I1, rfl, ⟨_, ls, q, v, eq, rfl, I.hok.fresh (Nat.le_refl _), rfl⟩, ⟨_, _, he'⟩, fun b hb => ?_⟩
    rw [List.mem_singleton.mp hb, upd_ne (Nat.ne_of_lt hlt)]
    exact (hf it (List.mem_singleton_self _)).1
  done := by
    intro X hP hw hK hc i pins s σ H E I hf ⟨ok, ov, he⟩ ⟨hd, hi⟩
    subst hP hw hK
    obtain ⟨f0, f1, f2, f3, f4, f5⟩ := hf it (List.mem_singleton_self _)
    obtain ⟨lo, hg, es', ep', hx, hdt, hsz, pr⟩ := Inv.tabZ I hd
    obtain ⟨rfl, rfl⟩ := dict_ep hod hdt
    exact DT.endI (I.ok.hd hc) he ⟨o, hg, hx, hdt⟩ (by rw [hsz]; exact hi) fun h' eb => ⟨rfl, I.turned (t' := s.toks) (fun b ob hb e => eb b ob hb e) f0 f1 f3 f4 f5⟩
  self := fun A i s Q E ⟨_, _, e⟩ h => PySem.W.kcp_self e h
def iItemsT (w : World) (td : TE) : TI := fun σ H R => td σ H fun x H1 => ∃ d o ents, x = .ref d ∧ H1 d = some (.frz o (DTo w d ents)) ∧ R (ItT w d o ents) H1
theorem pi_itemsT {td : TE} {ap cp : Pos} {elts : List Expr} {kk : Nat} {tpos : Pos} (he : PE X e td) (hbase : attributeBase e "items" X.env (eval e X.env) = eval e X.env) (hline : (ap.endLine == cp.line) = true) :
    PI X (.Tuple elts kk tpos) (.Call (.Attribute e "items" ap) [] [] cp) (iItemsT X.w td) := by
  refine ⟨fun pins s σ H R I h => ?_⟩
  refine wpAny_Call_method (T := "dict") (id := "dict.items") hbase rfl hline F.plainAttrs_dict F.slot_dict_items F.type_dict_items (thn (he.run pins s σ H _ I h) fun u s1 ⟨x, H1, I1, rx, d, o, ents, ex, hd, q⟩ => ?_)
  subst ex
  obtain rfl : u = Value.ref d := rx
  obtain ⟨lo, hg, es, ep, hx, hdt, hsz, pr⟩ := Inv.tabZ I1 hd
  have raw : DT.Raw s1.heap d es ep := ⟨o, hg, hx, hdt⟩
  refine ⟨raw.typeIs, fun b q => ?_, ?_⟩
  · cases q
    exact ⟨o, hg, hx.2.1⟩
  have I2 : Inv X pins σ H1 { s1 with heap := s1.heap.push { cls := .type "dict_items", data := .fields #[.ref d] } } := I1.kept (t' := s1.toks) fun b ob q => Heap.get?_push_of_some _ q
  have fin : wpAny (model X.prog X.w) X.A (pyIter (.ref s1.heap.objs.size)) (PIE X pins σ (.Tuple elts kk tpos) R) X.xe { s1 with heap := s1.heap.push { cls := .type "dict_items", data := .fields #[.ref d] } } := by
    refine DT.iterI (d := d) ⟨_, Heap.get?_push_size _ rfl, rfl, rfl⟩ (raw.push _) (pi_one (tk := s1.toks) I2 _ (turn_itemsT _ hdt) ⟨.none, .none, Heap.get?_push_size _ rfl⟩ q)
  show wpAny _ _ (callWith cp (.builtin "dict.items") [.ref d] [] []) _ X.xe s1
  exact Calls.callWith_builtin rfl (PySem.evalArgs_none (DT.callItems lo raw fin))
theorem TKr.get {K : KW} {N : Nat} : ∀ {l : List (MV × MV)} {ents : List EntT} {i : Nat} {q : MV × MV}, TKr K f N H l ents → l[i]? = some q → ∃ ls a v, ents[i]? = some (ls, a, v) ∧ VR K f N H q.1 (.ref a) ∧ VR K f N H q.2 v
  | [], _, i, q, _, e => by simp at e
  | p :: r, _, 0, q, ⟨ks, ls, vs, a, v, ys, e1, e2, e3, sq, rv, rm, t⟩, e => by
    cases e
    subst e1
    refine ⟨ls, a, v, rfl, ?_, rm⟩
    rw [e2]
    exact .tup sq rv
  | p :: r, _, i + 1, q, ⟨ks, ls, vs, a, v, ys, e1, e2, e3, sq, rv, rm, t⟩, e => by
    subst e1
    exact TKr.get (i := i) t e
theorem jr_itemsT {n : Nat} {l : List (MV × MV)} {ents : List EntT} {od : Obj} (r : Rl Y.K Y.Z f h H) (d1 : H (f n) = some (.frz od (DTo Y.K.w (f n) ents))) (d2 : TKr Y.K f h.size H l ents) : JR Y f h H (.items (l.map pairT)) (ItT Y.K.w (f n) od ents) := by
  intro f' h' H' x r' i
  have hd := x.fz _ _ _ d1
  have dd := TKr.mono x.sz x.ag (r.text x) _ _ d2
  refine ⟨fun hl => ⟨hd, by rw [← d2.len]; rw [List.length_map] at hl; exact hl⟩, fun m em => ?_⟩
  rw [List.getElem?_map] at em
  obtain ⟨q, eq, em⟩ := Option.map_eq_some_iff.mp em
  subst em
  obtain ⟨ls, a, v, ek, rk, rv⟩ := dd.get eq
  refine ⟨⟨hd, (List.getElem?_eq_some_iff.mp ek).1⟩, ?_⟩
  rintro y H2 ⟨A, ls', a', v', e1, rfl, hA, rfl⟩
  rw [ek] at e1
  cases e1
  exact r'.laidT hA (.cons rk (.cons rv .nil))
theorem frzT_fx {w : World} {d : Addr} {od : Obj} {ents : List EntT} (d1 : H d = some (.frz od (DTo w d ents))) {u : HO} : Fx Y.K H (upd H d u) := by
  refine ⟨?_, ?_⟩
  · rintro a xs ((q | ⟨o, q⟩) | q)
    · have : a ≠ d := fun z => by rw [z, d1] at q; cases q
      exact .inl (.inl (by rw [upd_ne this]; exact q))
    · have : a ≠ d := fun z => by rw [z, d1] at q; cases q
      exact .inl (.inr ⟨o, by rw [upd_ne this]; exact q⟩)
    · exact .inr q
  · rintro a xs (⟨o, q⟩ | q)
    · have : a ≠ d := fun z => by rw [z, d1] at q; cases q
      exact .inl ⟨o, by rw [upd_ne this]; exact q⟩
    · exact .inr q
theorem dT_fx {w : World} {d : Addr} {ents : List EntT} (d1 : H d = some (DTo w d ents)) {u : HO} : Fx Y.K H (upd H d u) := by
  refine ⟨?_, ?_⟩
  · rintro a xs ((q | ⟨o, q⟩) | q)
    · have : a ≠ d := fun z => by rw [z, d1] at q; cases q
      exact .inl (.inl (by rw [upd_ne this]; exact q))
    · have : a ≠ d := fun z => by rw [z, d1] at q; cases q
      exact .inl (.inr ⟨o, by rw [upd_ne this]; exact q⟩)
    · exact .inr q
  · rintro a xs (⟨o, q⟩ | q)
    · have : a ≠ d := fun z => by rw [z, d1] at q; cases q
      exact .inl ⟨o, by rw [upd_ne this]; exact q⟩
    · exact .inr q
theorem Rl.lockT (r : Rl Y.K Y.Z f h H) {n : Nat} {l : List (MV × MV)} {ents : List EntT} (en : h.get n = some (.dct true false l)) (d1 : H (f n) = some (DTo Y.K.w (f n) ents)) (d2 : TKr Y.K f h.size H l ents) (nd : (ents.map (·.1)).Nodup) (od : Obj) :
    Ext f h.size H f h.size (upd H (f n) (.frz od (DTo Y.K.w (f n) ents))) ∧ Rl Y.K Y.Z f (h.put n (.dct true true l)) (upd H (f n) (.frz od (DTo Y.K.w (f n) ents))) := by
  have ex0 := Ext.put (f := f) (H := H) (u := .frz od (DTo Y.K.w (f n) ents)) (MH.get_lt en) (r.nofz en rfl)
  have q := r.put (o' := .dct true true l) (u := .frz od (DTo Y.K.w (f n) ents)) en (fun _ q => by cases q) ⟨ents, ⟨od, upd_same⟩, TKr.mono (Nat.le_refl _) (fun _ _ => rfl) (r.text ex0) _ _ d2, nd⟩
  rw [MH.size_put] at q
  exact q
theorem Rl.unlockT (r : Rl Y.K Y.Z f h H) {n : Nat} {l : List (MV × MV)} {ents : List EntT} {od : Obj} (en : h.get n = some (.dct true true l)) (d1 : H (f n) = some (.frz od (DTo Y.K.w (f n) ents))) :
    Rl Y.K Y.Z f (h.put n (.dct true false l)) (upd H (f n) (DTo Y.K.w (f n) ents)) := by
  have fx : Fx Y.K H (upd H (f n) (DTo Y.K.w (f n) ents)) := frzT_fx d1
  refine ⟨fun m x q => ?_, fun m k h1 h2 => r.inj m k (by rw [MH.size_put] at h1; exact h1) (by rw [MH.size_put] at h2; exact h2)⟩
  rw [MH.size_put]
  by_cases hm : m = n
  · subst hm
    rw [MH.get_put_same en] at q
    cases q
    obtain ⟨ents', ⟨o, e1⟩, e2, e3⟩ := r.ob _ _ en
    rw [d1] at e1
    have e1' : HO.frz od (DTo Y.K.w (f m) ents) = .frz o (DTo Y.K.w (f m) ents') := Option.some.inj e1
    have e4 : DTo Y.K.w (f m) ents = DTo Y.K.w (f m) ents' := (HO.frz.inj e1').2
    exact ⟨ents', by rw [e4]; exact upd_same, TKr.mono (Nat.le_refl _) (fun _ _ => rfl) fx _ _ e2, e3⟩
  · rw [MH.get_put_ne hm] at q
    have hm' := MH.get_lt q
    have hne : f m ≠ f n := fun z => hm (r.inj m n hm' (MH.get_lt en) z)
    exact (r.ob m x q).mono (Nat.le_refl _) (fun _ _ => rfl) fx (upd_ne hne)
theorem v_walkT {bd : Nat} {pe : Ex} {mg : MV → En → MH → R En} {mt : En → MH → R Bool} {mx : En → MH → R MV} {o own : List Nat} (ho : ∀ j ∈ o, j ∈ own) {k : List MV → MH → R MV} {σ : L2.St} {H : Hp} {Q : VK}
    {f : Nat → Addr} {ms : En} {h : MH} (r : Rl Y.K Y.Z f h H) (sr : SR Y f h.size H ms σ) {n : Nat} {ps : List (MV × MV)} {l l2 : List (MV × MV)} {al : List MV} {h2 h' : MH} (ep : pthV T.P pe ms h = some (.ref n)) (en : h.get n = some (.dct true false ps)) (hbd : ps.length < bd)
    (el : lcl (lcB mg mt mx own ms) (.items (ps.map pairT)) ps.length 0 [] (h.put n (.dct true true ps)) = .ok al h2) (en2 : h2.get n = some (.dct true true l2)) (eh : h' = h2.put n (.dct true false l2))
    (q : G Y W σ f h H (k al h') fun v f' h' H' => ∀ z, VR Y.K f' h'.size H' v z → Q z H') (u0 : Addr → HO) (U : Addr → List MV → (Nat → Addr) → Nat → Hp → Prop) (gt : ∀ D, Gat Y D (U D)) (U0 : ∀ D f h H, Rl Y.K Y.Z f h H → H D = none → U D [] f h.size (upd H D (u0 D)))
    (BODY : Addr → L2.St → Hp → (Hp → Prop) → Prop)
    (body : ∀ (D : Addr) (f : Nat → Addr) (ms : En) (h : MH) (H : Hp) (σ : L2.St) (acc : List MV) (xv : MV) (h6 : MH) (Nx : Hp → Prop) (f1 : Nat → Addr) (h1 : MH) (H1 : Hp), acc.length + 1 < bd + 1 → H1 D = none → Ext f1 h1.size H1 f h.size H → Rl Y.K Y.Z f h H → SR Y f h.size H ms σ → (∀ n, n < h.size → f n ≠ D) → U D acc f h.size H → acc.length < LIM → mx ms h = .ok xv h6 →
      (∀ f5 H5, Ext f1 h1.size H1 f5 h6.size H5 → Rl Y.K Y.Z f5 h6 H5 → (∀ n, n < h6.size → f5 n ≠ D) → U D (acc ++ [xv]) f5 h6.size H5 → Nx H5) → BODY D σ H Nx)
    (Z : Addr → Hp → Prop) (fin : ∀ (D : Addr) (f' : Nat → Addr) (h' : MH) (H' : Hp) (l : List MV) (f : Nat → Addr) (h : MH) (H : Hp), H D = none → Ext f h.size H f' h'.size H' → Rl Y.K Y.Z f' h' H' → (∀ n, n < h'.size → f' n ≠ D) → U D l f' h'.size H' → G Y W σ f h H (k l h') (fun v f' h' H' => ∀ z, VR Y.K f' h'.size H' v z → Q z H') → Z D H')
    (UF : ∀ D l f N (H : Hp) (d : Addr) od (ents : List EntT), H d = some (.frz od (DTo Y.K.w d ents)) → d ≠ D → U D l f N H → U D l f N (upd H d (DTo Y.K.w d ents))) :
    ∃ d ents, H d = some (DTo Y.K.w d ents) ∧ ∀ od, rdE Y W (ev T.P C pe) σ (upd H d (.frz od (DTo Y.K.w d ents))) fun x H2 => x = .ref d ∧ H2 d = some (.frz od (DTo Y.K.w d ents)) ∧ ∀ D, H2 D = none → ∃ Wv : Nat → Nat → Hp → Prop, (∃ m, Wv 0 m (upd H2 D (u0 D))) ∧ ∀ i m H', Wv i m H' →
      ((ItT Y.K.w d od ents).stop i H' ∧ (H' d = some (.frz od (DTo Y.K.w d ents)) ∧ Z D (upd H' d (DTo Y.K.w d ents)))) ∨ ((ItT Y.K.w d od ents).go i H' ∧ ∃ Nx : Hp → Prop, (∀ H', Nx H' → ∃ m', m' < m ∧ Wv (i + 1) m' H') ∧
        ∀ y H'', (ItT Y.K.w d od ents).yld i H' y H'' → rdG Y NoW mg o y (L2.wipe σ own) H'' fun σ3 H3 => L2.wipe σ3 own = L2.wipe σ own ∧ rdT Y NoW mt σ3 H3 fun b H4 => if b = true then BODY D σ3 H4 Nx else Nx H4) := by
  obtain ⟨ents, d1, d2, nd⟩ := r.ob _ _ en
  have d1 : H (f n) = some (DTo Y.K.w (f n) ents) := d1
  have hn := MH.get_lt en
  refine ⟨f n, ents, d1, fun od => ?_⟩
  obtain ⟨x1, r1⟩ := r.lockT en d1 d2 nd od
  have sr1 : SR Y f (h.put n (.dct true true ps)).size (upd H (f n) (.frz od (DTo Y.K.w (f n) ents))) ms σ := by
    rw [MH.size_put]
    exact r.sr x1 sr
  refine ⟨f, ms, h.put n (.dct true true ps), r1, sr1, ?_⟩
  rw [pth_ev pe ms (.ref n) (by rw [pth_lock (.inl rfl) en]; exact ep)]
  intro f2 H2 x2 r2 x rx
  obtain ⟨hn2, rfl⟩ := rx.ref_inv
  have en1 : (h.put n (.dct true true ps)).get n = some (.dct true true ps) := MH.get_put_same en
  have ea : f2 n = f n := x2.ag n (by rw [MH.size_put]; exact hn)
  have dz : H2 (f n) = some (.frz od (DTo Y.K.w (f n) ents)) := x2.fz _ _ _ upd_same
  refine ⟨by rw [ea], dz, fun D hD => ?_⟩
  have hD1 : upd H (f n) (.frz od (DTo Y.K.w (f n) ents)) D = none := x2.dm D hD
  have neD : f n ≠ D := fun z => by rw [← z, upd_same] at hD1; cases hD1
  have hD0 : H D = none := by rw [upd_ne neD.symm] at hD1; exact hD1
  have dk2 : TKr Y.K f2 (h.put n (.dct true true ps)).size H2 ps ents := by
    have z2 := TKr.mono x2.sz x2.ag (r1.text x2) _ _ (TKr.mono (f' := f) (N' := (h.put n (.dct true true ps)).size) (by rw [MH.size_put]; exact Nat.le_refl _) (fun _ _ => rfl) (r.text x1) _ _ d2)
    exact z2
  have jr := jr_itemsT (n := n) (od := od) (l := ps) r2 (by rw [ea]; exact dz) dk2
  rw [ea] at jr
  refine v_gen ho jr r2 (r1.sr x2 sr1) hD (gt D) (U0 D _ _ _ r2 hD) el (fun f3 H3 x3 r3 n3 u3 => ?_) fun f4 ms4 h4 H4 σ4 acc xv h6 Nx ⟨i, v, hz, hi, ea⟩ x4 r4 sr4 n4 u4 hl ex nx => body D f4 ms4 h4 H4 σ4 acc xv h6 Nx _ _ _ (items_bd hi ea hbd) hD x4 r4 sr4 n4 u4 hl ex nx
  have dz3 := x3.fz _ _ _ dz
  refine ⟨dz3, ?_⟩
  have x23 := x2.trans x3
  have ea3 : f3 n = f n := x23.ag n (by rw [MH.size_put]; exact hn)
  have r4 := r3.unlockT en2 (by rw [ea3]; exact dz3)
  rw [ea3] at r4
  have x13 : Ext f h.size (upd H (f n) (.frz od (DTo Y.K.w (f n) ents))) f3 h2.size H3 := by
    have := x23
    rwa [MH.size_put] at this
  have x4 := Ext.unlock (u := DTo Y.K.w (f n) ents) hn d1 (fun o v z => by cases z) x13
  have hs : h'.size = h2.size := by rw [eh, MH.size_put]
  refine fin D f3 h' (upd H3 (f n) (DTo Y.K.w (f n) ents)) al f h H hD0 (by rw [hs]; exact x4) (by rw [eh]; exact r4) (by rw [hs]; exact n3) (by rw [hs]; exact UF D al f3 _ H3 (f n) od ents dz3 neD u3) q
end
end DM
set_option Elab.async false
set_option linter.all false
set_option maxRecDepth 100000
set_option maxHeartbeats 4000000
/-! S10e: dict comprehensions whose keys are tuples. -/
namespace DM
open PySem L2 PyProof.Rows PySem.Spec
/-! ### the form -/
def actD (P : Program) (w : World) (kx vx : Expr) : Act := fun A env D K E s => wpAny (model P w) A (eval kx env) (fun kv s4 => wpAny (model P w) A (eval vx env) (fun vv s5 => wpAny (model P w) A (dictSet D kv vv) (fun _ s6 => K s6) E s5) E s4) E s
theorem dT_empty {P : Program} {w : World} {H : Hp} (h : Heap) (hb : sysModules < h.objs.size) : ObjOk P w H (h.push { cls := .type "dict", data := .dict #[] }) h.objs.size (DTo w h.objs.size []) :=
  DTo.ok ⟨Nat.zero_le _, beq_eq_false_iff_ne.mpr (Ne.symm (Nat.ne_of_lt hb)), _, #[], 0, Heap.get?_push_size _ rfl, ⟨rfl, rfl, rfl⟩, rfl, .nil⟩
theorem form_dct {P : Program} {w : World} {kx vx tg iter : Expr} {ifs : List Expr} {scope : Scope} {pos : Pos} :
    Form0 P w (.DictComp kx vx [⟨tg, iter, ifs, 0⟩] scope pos) tg iter ifs newDict { cls := .type "dict", data := .dict #[] } (fun D => DTo w D []) (actD P w kx vx) where
  cl := rfl
  new := fun A E Q s q => wpAny_newObj_type q (Nat.zero_le _)
  laid := fun H h hb => dT_empty h hb
  loop := fun A R env it D Kp turn n s q => compLoop_anyD Kp turn n q
  start := fun A R env it D s q1 q2 => codeAny_compStart_dict q1 q2
theorem pi_or {X : Cx} {tg iter : Expr} {a b : TI} (ha : PI X tg iter a) (hb : PI X tg iter b) : PI X tg iter fun σ H R => a σ H R ∨ b σ H R :=
  ⟨fun pins s σ H R I q => q.elim (fun q => ha.run pins s σ H R I q) fun q => hb.run pins s σ H R I q⟩
/-! ### the walk -/
theorem walkT_cases {bd : Nat} {mp : En → MH → Option MV} {body : En → MV → MH → R (Option MV)} {ms : En} {h : MH} : (∃ n l, mp ms h = some (.ref n) ∧ h.get n = some (.dct true false l)) ∨ walkT bd mp body ms h = walkD bd mp body ms h := by
  unfold walkT
  split
  · rename_i n en
    split
    · rename_i l el
      exact .inl ⟨n, l, en, el⟩
    · exact .inr rfl
  · rename_i hn
    refine .inr ?_
    unfold walkD
    split
    · rename_i n en
      exact (hn _ en).elim
    · rfl
theorem walkT_at {bd : Nat} {mp : En → MH → Option MV} {body : En → MV → MH → R (Option MV)} {ms : En} {h : MH} {n : Nat} {l : List (MV × MV)} (en : mp ms h = some (.ref n)) (el : h.get n = some (.dct true false l)) :
    walkT bd mp body ms h = if l.length < bd then (lcl (body ms) (.items (l.map pairT)) l.length 0 [] (h.put n (.dct true true l))).bind fun acc h2 => match h2.get n with
      | some (.dct true true l2) => .ok acc (h2.put n (.dct true false l2))
      | _ => .stk
      else .stk := by
  unfold walkT
  rw [en]
  simp only
  rw [el] <;> rfl
section
variable {T : Tab} {Y : Ctx} {W : Wish} {C : Nat → List MV → MH → R MV} {CX : CXT} {lv : Nat} {inB : Bool} {N : List Str} {sc : Scope} {X : Cx}
variable {σ : L2.St} {H H' : Hp} {f f' : Nat → Addr} {h h' : MH} {ms : En} {s : Shared} {pins : List (Addr × Obj)}
variable {a b c e kx vx tg : Expr} {ma mb mc mx mv : En → MH → R MV} {p p2 pos ap : Pos} {pe : Ex} {ifs : List Expr} {scope : Scope} {ow : List (Str × Nat)} {mg : MV → En → MH → R En} {mt : En → MH → R Bool} {o : List Nat} {y : Str}
/-- a new dict of tuple keys, gathered -/
def UT (Y : Ctx) (D : Addr) : List MV → (Nat → Addr) → Nat → Hp → Prop := fun acc f N H => ∃ r ents, foldK acc [] = some r ∧ H D = some (DTo Y.K.w D ents) ∧ TKr Y.K f N H r ents ∧ (ents.map (·.1)).Nodup ∧ r.length ≤ acc.length
theorem gat_T {D : Addr} : Gat Y D (UT Y D) := ⟨fun acc f N H ⟨_, _, _, e, _⟩ => ⟨_, e⟩, fun acc f h H f' N' H' r x hn ⟨a, es, ea, e, rv, nd, el⟩ => ⟨a, es, ea, (x.keepD e hn).1, TKr.mono x.sz x.ag (r.text x) _ _ rv, nd, el⟩⟩
/-- one more stored -/
def BT (Y : Ctx) (mx mv : En → MH → R MV) : Addr → L2.St → Hp → (Hp → Prop) → Prop := fun D σ H4 Nx => rdE Y NoW mx σ H4 fun y H5 => rdE Y NoW mv σ H5 fun z H6 =>
  ∃ f N r ents ks ls vs q, y = .ref q ∧ leavesM ks = some ls ∧ SqT Y.K H6 q vs ∧ VRs Y.K f N H6 ks vs ∧ H6 D = some (DTo Y.K.w D ents) ∧ TKr Y.K f N H6 r ents ∧ (ents.map (·.1)).Nodup ∧ ents.length < sizeLine ∧ Nx (upd H6 D (DTo Y.K.w D (storeE ents ls q z)))
theorem bt_body {D : Addr} {acc : List MV} {xv : MV} {h6 : MH} {Nx : Hp → Prop} {f1 : Nat → Addr} {h1 : MH} {H1 : Hp} (hD : H1 D = none) (x : Ext f1 h1.size H1 f h.size H) (r : Rl Y.K Y.Z f h H) (sr : SR Y f h.size H ms σ) (hn : ∀ n, n < h.size → f n ≠ D) (u : UT Y D acc f h.size H)
    (hlim : acc.length < LIM) (ex : kvM true mx mv ms h = .ok xv h6) (nx : ∀ f5 H5, Ext f1 h1.size H1 f5 h6.size H5 → Rl Y.K Y.Z f5 h6 H5 → (∀ n, n < h6.size → f5 n ≠ D) → UT Y D (acc ++ [xv]) f5 h6.size H5 → Nx H5) : BT Y mx mv D σ H Nx := by
  obtain ⟨a, es, ea, hd, rv, nd, el⟩ := u
  obtain ⟨k, v, h5, e1, e2, hk, rfl⟩ := kvM_inv ex
  refine ⟨f, ms, h, r, sr, ?_⟩
  rw [e1]
  intro f5 H5 x5 r5 y ry
  refine ⟨f5, ms, h5, r5, r.sr x5 sr, ?_⟩
  rw [e2]
  intro f6 H6 x6 r6 z rz
  obtain ⟨ks, ls, rfl, el2⟩ := kOk_leaves hk
  obtain ⟨q, vs, rfl, sq, rk⟩ := (r5.vr x6 ry).tup_inv
  obtain ⟨d5, n5⟩ := x5.keepD hd hn
  obtain ⟨d6, n6⟩ := x6.keepD d5 n5
  have x56 := x5.trans x6
  have rv6 := TKr.mono x56.sz x56.ag (r.text x56) _ _ rv
  have fx : Fx Y.K H6 (upd H6 D (DTo Y.K.w D (storeE es ls q z))) := dT_fx d6
  have hl := rv.len
  refine ⟨f6, _, a, es, ks, ls, vs, q, rfl, el2, sq, rk, d6, rv6, nd, by rw [← LIM_eq]; omega, nx f6 _ ((x.trans x56).updD hD) (r6.updU fx n6) n6 ⟨_, _, by rw [foldK_snoc, ea]; rfl, upd_same, ?_, storeE_nodup nd, ?_⟩⟩
  · exact (TKr.mono (Nat.le_refl _) (fun _ _ => rfl) fx _ _ rv6).put el2 (fx.t _ _ sq) (VRs.mono (Nat.le_refl _) (fun _ _ => rfl) fx _ _ rk) (VR.mono (Nat.le_refl _) (fun _ _ => rfl) fx _ _ rz)
  · rw [List.length_append]
    exact Nat.le_trans putK_le (Nat.succ_le_succ el)
theorem bt_fin {Q : VK} {D : Addr} {l : List MV} (hD : H D = none) (x : Ext f h.size H f' h'.size H') (r : Rl Y.K Y.Z f' h' H') (hn : ∀ n, n < h'.size → f' n ≠ D) (u : UT Y D l f' h'.size H') (g1 : G Y W σ f h H (mkDct true l h') fun v f' h' H' => ∀ z, VR Y.K f' h'.size H' v z → Q z H') : Q (.ref D) H' := by
  obtain ⟨a, es, ea, hd, rv, nd, el⟩ := u
  unfold mkDct at g1
  rw [ea] at g1
  have up : TKr Y.K (nxt f' h'.size D) (h'.size + 1) H' a es := TKr.mono (Nat.le_succ _) (fun n hn => nxt_lt hn) ⟨fun _ _ z => z, fun _ _ z => z⟩ _ _ rv
  refine g1 (nxt f' h'.size D) H' (by rw [MH.size_push]; exact x.name hD) (r.nameU hn ⟨es, hd, up, nd⟩) _ ?_
  have e3 : nxt f' h'.size D h'.size = D := nxt_at
  have := VR.ref (K := Y.K) (f := nxt f' h'.size D) (H := H') (N := (h'.push (.dct true false a)).size) (n := h'.size) (by rw [MH.size_push]; omega)
  rwa [e3] at this
/-- {k: v for .. in d.items() if ..}, keys tuples -/
theorem c_dcT (g : Good T Y W C CX lv inB N sc X) (hh : T.hot = false) (ha : PE X a (rdE Y W (ev T.P C pe))) (hb : noSup a = true) (hl : (ap.endLine == p2.line) = true) (ht0 : isTup tg = true) (ey : y = "items") (ok : BlkOk N sc scope ow) (hg : ∀ X', Good T Y NoW C CX lv true N (relS scope sc) X' → PG X' tg (rdG Y NoW mg o))
    (ht : ∀ X', Good T Y NoW C CX lv true N (relS scope sc) X' → PTs X' ifs (rdT Y NoW mt)) (he : ∀ X', Good T Y NoW C CX lv true N (relS scope sc) X' → PE X' kx (rdE Y NoW mx)) (hv : ∀ X', Good T Y NoW C CX lv true N (relS scope sc) X' → PE X' vx (rdE Y NoW mv)) (ho : ∀ j ∈ o, j ∈ ow.map (·.2)) :
    PE X (.DictComp kx vx [⟨tg, .Call (.Attribute a y ap) [] [] p2, ifs, 0⟩] scope p) (rdE Y W fun σ h => (walkT LIM (pthV T.P pe) (lcB mg mt (kvM true mx mv) (ow.map (·.2))) σ h).bind fun l h1 => mkDct true l h1) := by
  subst ey
  obtain ⟨t1, t2, t3, rfl⟩ := isTup_ok ht0
  have F := form_dct (P := X.prog) (w := X.w) (kx := kx) (vx := vx) (tg := .Tuple t1 t2 t3) (iter := .Call (.Attribute a "items" ap) [] [] p2) (ifs := ifs) (scope := scope) (pos := p)
  have sc1 : PE X (.DictComp kx vx [⟨.Tuple t1 t2 t3, .Call (.Attribute a "items" ap) [] [] p2, ifs, 0⟩] scope p) (tCp (fun D => DTo X.w D []) (fun σ H R => iItems (rdE Y W (ev T.P C pe)) σ H R ∨ iItemsT X.w (rdE Y W (ev T.P C pe)) σ H R) (rdG Y NoW mg o) (rdT Y NoW mt) (BT Y mx mv) (ow.map (·.2))) := by
    refine pe_cp F rfl (g.calm hh) (g.eN ▸ g.nd) (pi_or (pi_items ha (noSup_base hb) hl) (pi_itemsT ha (noSup_base hb) hl)) (by rw [g.eN, g.eS]; exact ok) (fun s H A cl fp => hg _ (g.blk hh)) (fun s H A cl fp => ht _ (g.blk hh)) (fun s H A cl fp D pins sa σ' Ha Nx Kp E Ia bb fin => ?_) (fun x => noSet rfl)
    have gb := g.blk hh (s := s) (H := H) (scope := scope) (A := A) (cl := cl) (fp := fp)
    have pe1 := he _ gb
    have pe2 := hv _ gb
    unfold actD
    refine thnF (pe1.run pins sa σ' Ha _ Ia bb) fun u sb ⟨v, Hb, Ib, rb, bb⟩ => ?_
    refine thnF (pe2.run pins sb σ' Hb _ Ib bb) fun uz sc ⟨z, Hc, Ic, rz, f, N, r, ents, ks, ls, vs, q, ey, el, sq, rk, hd, tk, nd, lz, nx⟩ => ?_
    subst ey
    obtain rfl : u = Value.ref q := rb
    have e0 : Y.K.w = (Cx.cb X s H scope A cl fp).w := g.Wo.symm
    have tb : TabT (Cx.cb X s H scope A cl fp).w sc.heap D ents := by
      have := (Ic.hok _ _ hd).1
      rw [← e0]
      exact this
    obtain ⟨xs, dh, xe⟩ := tb.dict (tk.key gb.K Ic) nd
    have lx : xs.length ≤ sizeLine := by
      rw [Paired.length xe]
      exact tb.1
    have hu : X.A.units < cLine := by
      have := g.un
      omega
    refine wpAny_dictSet_heap (hsz := lx) (knd := tupleKind (leafKind X.prog X.w)) hu (tup_key (X := Cx.cb X s H scope A cl fp) gb.K Ic el sq rk) dh fun h' dd' hs' => ?_
    have le : (storeE ents ls q z).length ≤ sizeLine := by
      have h1 := storeE_le (ents := ents) (k := ls) (a := q) (v := z)
      omega
    have new : ObjOk X.prog X.w (upd Hc D (DTo X.w D (storeE ents ls q z))) h' D (DTo X.w D (storeE ents ls q z)) := DTo.ok (TabT.of dd' (xe.store rz) le tb.2.1)
    have hee : ∃ q, h'.get? D = some q := let ⟨q, _, _, hq, _⟩ := dd'; ⟨q, hq⟩
    have I4 := d_write (t' := sc.toks + (tupleKind (leafKind X.prog X.w)).draws ls) Ic (by rw [hd]; trivial) hs' hee new
    refine fin _ _ I4 ?_
    rw [g.Wo]
    exact nx
  refine (pe_lock sc1).conv fun σ H Q q => ?_
  obtain ⟨f, ms, h, r, sr, q0⟩ := q
  rcases walkT_cases (bd := LIM) (mp := pthV T.P pe) (body := lcB mg mt (kvM true mx mv) (ow.map (·.2))) (ms := ms) (h := h) with ⟨n, l, en, el⟩ | ew
  · replace q0 : G Y W σ f h H ((walkT LIM (pthV T.P pe) (lcB mg mt (kvM true mx mv) (ow.map (·.2))) ms h).bind fun l h1 => mkDct true l h1) fun v f' h' H' => ∀ z, VR Y.K f' h'.size H' v z → Q z H' := q0
    rw [walkT_at en el] at q0
    split at q0
    · rename_i hbd
      cases e1 : lcl (lcB mg mt (kvM true mx mv) (ow.map (·.2)) ms) (.items (l.map pairT)) l.length 0 [] (h.put n (.dct true true l)) with
      | stk => rw [e1] at q0; exact q0.elim
      | ex k l2 h2 => exact (lcl_noex (fun v h c l h' e => noEx_no e) _ _ _ _ _ _ _ e1).elim
      | ok al h2 =>
        rw [e1] at q0
        replace q0 : G Y W σ f h H (R.bind (match h2.get n with
          | some (.dct true true l2) => R.ok al (h2.put n (.dct true false l2))
          | _ => .stk) fun l h1 => mkDct true l h1) fun v f' h' H' => ∀ z, VR Y.K f' h'.size H' v z → Q z H' := q0
        split at q0
        · rename_i l2 en2
          obtain ⟨d, ents, d1, k⟩ := v_walkT (C := C) (W := W) (o := o) (l := l) ho (k := fun l h1 => mkDct true l h1) r sr en el hbd e1 en2 rfl q0 (fun D => DTo X.w D []) (UT Y) (fun D => gat_T)
            (fun D f h H r hD => ⟨[], [], rfl, by rw [upd_same, g.Wo], rfl, List.nodup_nil, Nat.le_refl _⟩) (BT Y mx mv)
            (fun D f ms h H σ acc xv h6 Nx f1 h1 H1 hbd hD x r sr hn u hlim ex nx => bt_body hD x r sr hn u hlim ex nx)
            (fun D H' => Q (.ref D) H') (fun D f' h' H' l f h H hD x r hn u g1 => bt_fin hD x r hn u g1)
            (fun D l f N H d od ents hd ne ⟨a, es, ea, e1, rv, nd, el⟩ => ⟨a, es, ea, by rw [upd_ne ne.symm]; exact e1, TKr.mono (Nat.le_refl _) (fun _ _ => rfl) (frzT_fx hd) _ _ rv, nd, el⟩)
          refine ⟨d, DTo Y.K.w d ents, d1, trivial, fun od => .inr ?_⟩
          refine (k od).mono fun x H2 ⟨e1, e2, e3⟩ => ⟨d, od, ents, e1, by rw [g.Wo]; exact e2, ?_⟩
          rw [g.Wo] at e3 ⊢
          exact e3
        · exact q0.elim
    · exact q0.elim
  · have q : rdE Y W (fun σ h => (walkD LIM (pthV T.P pe) (lcB mg mt (kvM true mx mv) (ow.map (·.2))) σ h).bind fun l h1 => mkDct true l h1) σ H Q := ⟨f, ms, h, r, sr, by
      show G Y W σ f h H ((walkD LIM (pthV T.P pe) (lcB mg mt (kvM true mx mv) (ow.map (·.2))) ms h).bind fun l h1 => mkDct true l h1) _
      rw [← ew]
      exact q0⟩
    obtain ⟨d, kvs, d1, k⟩ := v_walk (C := C) ho q (fun D => DTo X.w D []) (UT Y) (fun D => gat_T) (fun D f h H r hD => ⟨[], [], rfl, by rw [upd_same, g.Wo], rfl, List.nodup_nil, Nat.le_refl _⟩) (BT Y mx mv)
      (fun D f ms h H σ acc xv h6 Nx f1 h1 H1 hbd hD x r sr hn u hlim ex nx => bt_body hD x r sr hn u hlim ex nx)
      (fun D H' => Q (.ref D) H') (fun D f' h' H' l f h H hD x r hn u g1 => bt_fin hD x r hn u g1)
      (fun D l f N H d od kvs hd ne ⟨a, es, ea, e1, rv, nd, el⟩ => ⟨a, es, ea, by rw [upd_ne ne.symm]; exact e1, TKr.mono (Nat.le_refl _) (fun _ _ => rfl) (frz_fx hd) _ _ rv, nd, el⟩)
    refine ⟨d, .dK kvs, d1, trivial, fun od => .inl ?_⟩
    exact (k od).mono fun x H2 ⟨e1, e2, e3⟩ => ⟨d, od, kvs, e1, e2, e3⟩
end
end DM
set_option Elab.async false
set_option linter.all false
set_option maxRecDepth 100000
set_option maxHeartbeats 4000000
/-! S11: stores, loops. -/
namespace DM
open PySem L2 PyProof.Rows PySem.Spec
section
variable {T : Tab} {Y : Ctx} {W : Wish} {C : Nat → List MV → MH → R MV} {CX : CXT} {lv : Nat} {inB : Bool} {N : List Str} {sc : Scope} {X : Cx}
variable {σ : L2.St} {H H' : Hp} {f f' : Nat → Addr} {h h' : MH} {ms : En}
variable {a b c e : Expr} {ma mb mc : En → MH → R MV} {p pos : Pos} {es : List Expr} {me mk : En → MH → R (List MV)}
variable {D D' : Ends} {r : RS} {mS m1 m2 : En → MH → RS} {st : Stmt} {sts l1 l2 : List Stmt}
theorem sw_none {sc : Scope} {t v : Expr} {env : Env} (hs : env.scope = sc) (h : swB sc t v = true) : swappedStores [t] v env = pure none := by
  unfold swappedStores
  cases t <;> first | rfl | (cases v <;> first | rfl | (cases h; done) | skip)
  rename_i ts k1 p1 vs k2 p2
  simp only [pure_bind]
  unfold swB at h
  simp only [Bool.or_eq_true] at h
  split
  · rfl
  · rename_i h1
    split
    · rfl
    · rcases h with h | h
      · exfalso
        apply h1
        rw [h]
        rfl
      · have hlt : ∀ (q : Expr → Option Str), (∀ x ∈ ts, (match x with
            | .Name x _ => !(sc.names.lookup x == some .local)
            | _ => true) = true → q x = none) → (ts.filterMap q).length ≠ ts.length := fun q hq => by
          obtain ⟨x, hx, e⟩ := List.any_eq_true.mp h
          exact Nat.ne_of_lt (filterMap_lt ⟨x, hx, hq x hx e⟩)
        rw [if_pos]
        rw [Bool.or_eq_true]
        left
        rw [bne_iff_ne]
        refine hlt _ fun x hx e => ?_
        cases x <;> first | rfl | skip
        rename_i n q
        simp only at e ⊢
        rw [if_neg]
        intro z
        rw [Bool.and_eq_true] at z
        have z1 : (env.scope.names.lookup n == some NameKind.local) = true := z.1
        rw [hs] at z1
        rw [z1] at e
        cases e
theorem s_set {t : Expr} {mg : MV → En → MH → R En} {o : List Nat} (g : Good T Y W C CX lv inB N sc X) (ha : PE X a (rdE Y W ma)) (hg : PG X t (rdG Y W mg o)) (hc : isComp a = false) (hw : swB sc t a = true) (hst : isStar t = false) :
    PS X (.Assign [t] a p) (rdS Y W (setS ma mg)) :=
  (ps_asg ha hg (noComp hc) (sw_none g.eS hw) (asg_cons hst)).conv fun D σ H q => v_set q
theorem s_setF {o : Expr} {x : Str} {px : Pos} {mg : MV → En → MH → R En} {q : List Nat} (g : Good T Y W C CX lv inB N sc X) (ha : PE X a (rdE Y W ma)) (hg : PG X (.Attribute o x px) (rdG Y W mg q)) :
    PS X (.Assign [.Attribute o x px] a p) (rdS Y W (setS ma mg)) :=
  (ps_asg ha hg (by unfold swapsWithSole swapsWith; cases a <;> rfl) rfl rfl).conv fun D σ H q => v_set q
/-- a comprehension whose target is read anew -/
def lcSw (sc : Scope) (t v : Expr) : Bool := match t, v with
  | .Name y py, .ListComp _ _ scope pv => (match sc.names.lookup y with
    | some .local => true
    | _ => false) && (py.line == pv.line) && !(scope.names.any fun (n, k) => n == y && (k == .local || k == .cell))
  | _, _ => false
theorem s_setLc {tg iter elt : Expr} {ifs : List Expr} {scope : Scope} {ow : List (Str × Nat)} {mi : En → MH → R DM.It} {mg : MV → En → MH → R En} {mt : En → MH → R Bool} {mx : En → MH → R MV} {o : List Nat} {i : Nat} {y : Str} {py : Pos}
    (g : Good T Y W C CX lv inB N sc X) (hh : T.hot = false) (e1 : nmB N i y = true) (hsw : lcSw sc (.Name y py) (.ListComp elt [⟨tg, iter, ifs, 0⟩] scope p) = true)
    (hi : PI X tg iter (rdI Y W mi)) (ok : BlkOk N sc scope ow) (hg : ∀ X', Good T Y NoW C CX lv true N (relS scope sc) X' → PG X' tg (rdG Y NoW mg o))
    (ht : ∀ X', Good T Y NoW C CX lv true N (relS scope sc) X' → PTs X' ifs (rdT Y NoW mt)) (he : ∀ X', Good T Y NoW C CX lv true N (relS scope sc) X' → PE X' elt (rdE Y NoW mx)) (ho : ∀ j ∈ o, j ∈ ow.map (·.2)) (hs : isSet iter = false)
    (hk : X.env.scope.kind = .function) : PS X (.Assign [.Name y py] (.ListComp elt [⟨tg, iter, ifs, 0⟩] scope p) pos) (rdS Y W (setS (lcM mi mg mt mx (ow.map (·.2))) (setM i))) := by
  unfold nmB at e1
  simp only [Bool.and_eq_true, decide_eq_true_eq, Bool.not_eq_true'] at e1
  unfold lcSw at hsw
  simp only [Bool.and_eq_true, Bool.not_eq_true'] at hsw
  obtain ⟨⟨h1, h2⟩, h3⟩ := hsw
  have hy : X.env.scope.names.lookup y = some .local := by
    rw [g.eS]
    split at h1
    · assumption
    · cases h1
  refine (ps_setLc (i := i) (g.calm hh) (g.eN ▸ g.nd) (by rw [g.eN]; exact e1.1.1) hy (sw_true hk hy h2 h3) hi (by rw [g.eN, g.eS]; exact ok) (fun s H A cl fp => hg _ (g.blk hh)) (fun s H A cl fp => ht _ (g.blk hh)) (fun s H A cl fp => he _ (g.blk hh)) (fun x => noSet hs)).conv fun D σ H q => ?_
  obtain ⟨f, ms, h, r, sr, q⟩ := q
  refine v_lc (W := W) (Y := Y) ho ⟨f, ms, h, r, sr, (GS.go r sr q).mono fun v h1 f1 H1 _ x1 r1 g1 x rx => ?_⟩
  have sr1 := r.sr x1 sr
  exact G.ok r1 (GS.go r1 sr1 g1) f1 H1 _ (.refl _ _ _) r1 (sr1.set rx i)
theorem s_setLcH {tg iter elt : Expr} {ifs : List Expr} {scope : Scope} {ow : List (Str × Nat)} {mi : En → MH → R DM.It} {mg : MV → En → MH → R En} {mt : En → MH → R Bool} {mx : En → MH → R MV} {o : List Nat} {i : Nat} {y : Str} {py : Pos}
    (g : Good T Y W C CX lv inB N sc X) (hh : T.hot = true) (e1 : nmB N i y = true) (hsw : lcSw sc (.Name y py) (.ListComp elt [⟨tg, iter, ifs, 0⟩] scope p) = true)
    (hi : PIq (Y.ea, Y.eo) X tg iter (rdI Y W mi)) (ok : BlkOk N sc scope ow) (hg : ∀ X', Good T Y NoW C CX lv true N (relS scope sc) X' → PG X' tg (rdG Y NoW mg o))
    (ht : ∀ X', Good T Y NoW C CX lv true N (relS scope sc) X' → PTs X' ifs (rdT Y NoW mt)) (he : ∀ X', Good T Y NoW C CX lv true N (relS scope sc) X' → PE X' elt (rdE Y NoW mx)) (ho : ∀ j ∈ o, j ∈ ow.map (·.2)) (hs : isSet iter = false)
    (hk : X.env.scope.kind = .function) : PS X (.Assign [.Name y py] (.ListComp elt [⟨tg, iter, ifs, 0⟩] scope p) pos) (rdS Y W (setS (lcM mi mg mt mx (ow.map (·.2))) (setM i))) := by
  unfold nmB at e1
  simp only [Bool.and_eq_true, decide_eq_true_eq, Bool.not_eq_true'] at e1
  unfold lcSw at hsw
  simp only [Bool.and_eq_true, Bool.not_eq_true'] at hsw
  obtain ⟨⟨h1, h2⟩, h3⟩ := hsw
  have hy : X.env.scope.names.lookup y = some .local := by
    rw [g.eS]
    split at h1
    · assumption
    · cases h1
  refine (ps_setLcP (i := i) (g.hot hh).1 (g.eN ▸ g.nd) (by rw [g.eN]; exact e1.1.1) hy (sw_true hk hy h2 h3) hi (by rw [g.eN, g.eS]; exact ok) (fun s H A cl fp hb => hg _ (g.blkT fun _ => hb)) (fun s H A cl fp hb => ht _ (g.blkT fun _ => hb)) (fun s H A cl fp hb => he _ (g.blkT fun _ => hb)) (fun x => noSet hs)).conv fun D σ H q => ?_
  obtain ⟨f, ms, h, r, sr, q⟩ := q
  refine v_lc (W := W) (Y := Y) ho ⟨f, ms, h, r, sr, (GS.go r sr q).mono fun v h1 f1 H1 _ x1 r1 g1 x rx => ?_⟩
  have sr1 := r.sr x1 sr
  exact G.ok r1 (GS.go r1 sr1 g1) f1 H1 _ (.refl _ _ _) r1 (sr1.set rx i)
/-! ### a, b = x, y -/
def parM (is : List Nat) (me : En → MH → R (List MV)) (σ : En) (h : MH) : RS := (me σ h).go σ fun vs h1 => match upds σ is vs with
  | some σ1 => .nx σ1 h1
  | none => .stk
def lcl2 (sc : Scope) (x : Str) : Bool := match sc.names.lookup x with
  | some .local => true
  | _ => false
theorem lcl2_ok {x : Str} (h : lcl2 sc x = true) : sc.names.lookup x = some .local := by
  unfold lcl2 at h
  split at h
  · assumption
  · cases h
def par2B (sc : Scope) (x y : Str) (px py : Pos) (a b : Expr) : Bool := lcl2 sc x && lcl2 sc y && (px.line == py.line) && !(x == y) && !([a, b].all (foldedForSure 8)) && !([a, b].all (constantsAlone 8)) && !isStar a && !isStar b
theorem sw_par {x y : Str} {px py pt pt2 : Pos} {kt k2} {env : Env} (hs : env.scope = sc) (hk : env.scope.kind = .function) (h : par2B sc x y px py a b = true) : swappedStores [.Tuple [.Name x px, .Name y py] kt pt] (.Tuple [a, b] k2 pt2) env = pure (some [x, y]) := by
  unfold par2B at h
  simp only [Bool.and_eq_true, Bool.not_eq_true'] at h
  obtain ⟨⟨⟨⟨⟨⟨⟨h1, h2⟩, h3⟩, h4⟩, h5⟩, h6⟩, h7⟩, h8⟩ := h
  have kx : env.kindOf x = some .local := by show env.scope.names.lookup x = _; rw [hs]; exact lcl2_ok h1
  have ky : env.kindOf y = some .local := by show env.scope.names.lookup y = _; rw [hs]; exact lcl2_ok h2
  have hb : env.blockKind = .function := by unfold Env.blockKind; rw [hk]; rfl
  have l2 : (py.line == px.line) = true := by rw [beq_iff_eq] at h3 ⊢; exact h3.symm
  have hne : x ≠ y := fun z => by rw [z, beq_self_eq_true] at h4; cases h4
  unfold swappedStores
  simp only [pure_bind]
  rw [if_neg (by rw [hb]; simp)]
  rw [if_neg (by
    cases a <;> first | (cases h7; done) | skip
    all_goals (cases b <;> first | (cases h8; done) | simp))]
  generalize hnm : List.filterMap _ [Expr.Name x px, Expr.Name y py] = nm
  have e1 : nm = [x, y] := by
    rw [← hnm]
    have p1 : (px.line == px.line) = true := beq_self_eq_true _
    simp only [List.filterMap_cons, List.filterMap_nil, List.head?_cons, Option.map_some, Option.getD_some, Expr.pos, kx, ky, l2, p1, beq_self_eq_true, Bool.and_self, if_true]
  subst e1
  have dd : [x, y].eraseDups.length = 2 := by
    have e2 : (y == x) = false := by rw [beq_eq_false_iff_ne]; exact fun z => hne z.symm
    simp [List.eraseDups_cons, e2]
  rw [if_neg (by rw [dd]; simp), if_neg (by rw [h5]; simp), if_neg (by rw [h6]; simp)]
theorem s_par {i j : Nat} {x y : Str} {px py pt pt2 : Pos} {kt k2} (g : Good T Y W C CX lv inB N sc X) (hh : T.hot = false) (e1 : nmB N i x = true) (e2 : nmB N j y = true) (ha : PA X [a, b] (rdA Y W me)) (h : par2B sc x y px py a b = true) (hk : X.env.scope.kind = .function) :
    PS X (.Assign [.Tuple [.Name x px, .Name y py] kt pt] (.Tuple [a, b] k2 pt2) pos) (rdS Y W (parM [i, j] me)) := by
  unfold nmB at e1 e2
  simp only [Bool.and_eq_true, decide_eq_true_eq, Bool.not_eq_true'] at e1 e2
  have h' := h
  unfold par2B at h'
  simp only [Bool.and_eq_true, Bool.not_eq_true'] at h'
  obtain ⟨⟨⟨⟨⟨⟨⟨h1, h2⟩, h3⟩, h4⟩, h5⟩, h6⟩, h7⟩, h8⟩ := h'
  have hij : i ≠ j := fun z => by
    rw [z, e2.1.1] at e1
    have : y = x := Option.some.inj e1.1.1
    rw [this, beq_self_eq_true] at h4
    cases h4
  refine (ps_par (i := i) (j := j) (g.calm hh) (g.eN ▸ g.nd) (by rw [g.eN]; exact e1.1.1) (by rw [g.eN]; exact e2.1.1) hij (by rw [g.eS]; exact lcl2_ok h1) (by rw [g.eS]; exact lcl2_ok h2) ha (sw_par g.eS hk h) rfl).conv fun D σ H q => ?_
  obtain ⟨f, ms, h, r, sr, q⟩ := q
  refine ⟨f, ms, h, r, sr, (GS.go r sr q).mono fun l h1 f1 H1 _ x1 r1 g1 xs rl => ?_⟩
  unfold upds at g1
  cases l with
  | nil => exact g1.elim
  | cons u l =>
    obtain ⟨v, vs, rfl, a1, a2⟩ := rl.cons_inv
    simp only at g1
    unfold upds at g1
    cases l with
    | nil => exact g1.elim
    | cons u2 l =>
      obtain ⟨w, ws, rfl, b1, b2⟩ := a2.cons_inv
      simp only at g1
      unfold upds at g1
      cases l with
      | nil =>
        have := b2.nil_inv
        subst this
        exact ⟨v, w, rfl, g1 f1 H1 _ (.refl _ _ _) r1 (((r.sr x1 sr).set a1 i).set b1 j)⟩
      | cons _ _ => exact g1.elim
def par3B (sc : Scope) (x y z : Str) (px py pz : Pos) (a b c : Expr) : Bool := lcl2 sc x && lcl2 sc y && lcl2 sc z && (px.line == py.line) && (px.line == pz.line) && !(x == y) && !(x == z) && !(y == z) && !([a, b, c].all (foldedForSure 8)) && !([a, b, c].all (constantsAlone 8)) && !isStar a && !isStar b && !isStar c
theorem sw_par3 {x y z : Str} {px py pz pt pt2 : Pos} {kt k2} {env : Env} (hs : env.scope = sc) (hk : env.scope.kind = .function) (h : par3B sc x y z px py pz a b c = true) :
    swappedStores [.Tuple [.Name x px, .Name y py, .Name z pz] kt pt] (.Tuple [a, b, c] k2 pt2) env = pure (some [x, y, z]) := by
  unfold par3B at h
  simp only [Bool.and_eq_true, Bool.not_eq_true'] at h
  obtain ⟨⟨⟨⟨⟨⟨⟨⟨⟨⟨⟨⟨h1, h2⟩, h2'⟩, h3⟩, h3'⟩, h4⟩, h4'⟩, h4''⟩, h5⟩, h6⟩, h7⟩, h8⟩, h9⟩ := h
  have kx : env.kindOf x = some .local := by show env.scope.names.lookup x = _; rw [hs]; exact lcl2_ok h1
  have ky : env.kindOf y = some .local := by show env.scope.names.lookup y = _; rw [hs]; exact lcl2_ok h2
  have kz : env.kindOf z = some .local := by show env.scope.names.lookup z = _; rw [hs]; exact lcl2_ok h2'
  have hb : env.blockKind = .function := by unfold Env.blockKind; rw [hk]; rfl
  have l2 : (py.line == px.line) = true := by rw [beq_iff_eq] at h3 ⊢; exact h3.symm
  have l3 : (pz.line == px.line) = true := by rw [beq_iff_eq] at h3' ⊢; exact h3'.symm
  unfold swappedStores
  simp only [pure_bind]
  rw [if_neg (by rw [hb]; simp)]
  rw [if_neg (by
    show ¬ ([a, b, c].any isStar) = true
    simp [h7, h8, h9])]
  generalize hnm : List.filterMap _ [Expr.Name x px, Expr.Name y py, Expr.Name z pz] = nm
  have e1 : nm = [x, y, z] := by
    rw [← hnm]
    have p1 : (px.line == px.line) = true := beq_self_eq_true _
    simp only [List.filterMap_cons, List.filterMap_nil, List.head?_cons, Option.map_some, Option.getD_some, Expr.pos, kx, ky, kz, l2, l3, p1, beq_self_eq_true, Bool.and_self, if_true]
  subst e1
  have ne1 : x ≠ y := fun q => by rw [q, beq_self_eq_true] at h4; cases h4
  have ne2 : x ≠ z := fun q => by rw [q, beq_self_eq_true] at h4'; cases h4'
  have ne3 : y ≠ z := fun q => by rw [q, beq_self_eq_true] at h4''; cases h4''
  have dd : [x, y, z].eraseDups.length = 3 := by
    have e2 : (y == x) = false := by rw [beq_eq_false_iff_ne]; exact fun z => ne1 z.symm
    have e3 : (z == x) = false := by rw [beq_eq_false_iff_ne]; exact fun z => ne2 z.symm
    have e4 : (z == y) = false := by rw [beq_eq_false_iff_ne]; exact fun z => ne3 z.symm
    simp [List.eraseDups_cons, e2, e3, e4]
  rw [if_neg (by rw [dd]; simp), if_neg (by rw [h5]; simp), if_neg (by rw [h6]; simp)]
theorem s_par3 {i j l : Nat} {x y z : Str} {px py pz pt pt2 : Pos} {kt k2} (g : Good T Y W C CX lv inB N sc X) (hh : T.hot = false) (e1 : nmB N i x = true) (e2 : nmB N j y = true) (e3 : nmB N l z = true) (ha : PA X [a, b, c] (rdA Y W me)) (h : par3B sc x y z px py pz a b c = true) (hk : X.env.scope.kind = .function) :
    PS X (.Assign [.Tuple [.Name x px, .Name y py, .Name z pz] kt pt] (.Tuple [a, b, c] k2 pt2) pos) (rdS Y W (parM [i, j, l] me)) := by
  unfold nmB at e1 e2 e3
  simp only [Bool.and_eq_true, decide_eq_true_eq, Bool.not_eq_true'] at e1 e2 e3
  have h' := h
  unfold par3B at h'
  simp only [Bool.and_eq_true, Bool.not_eq_true'] at h'
  obtain ⟨⟨⟨⟨⟨⟨⟨⟨⟨⟨⟨⟨h1, h2⟩, h2'⟩, h3⟩, h3'⟩, h4⟩, h4'⟩, h4''⟩, h5⟩, h6⟩, h7⟩, h8⟩, h9⟩ := h'
  have dif : ∀ {i j : Nat} {x y : Str}, N[i]? = some x → N[j]? = some y → (x == y) = false → i ≠ j := fun {i j x y} a1 a2 a3 z => by
    rw [z, a2] at a1
    have : y = x := Option.some.inj a1
    rw [this, beq_self_eq_true] at a3
    cases a3
  refine (ps_par3 (i := i) (j := j) (l := l) (g.calm hh) (g.eN ▸ g.nd) (by rw [g.eN]; exact e1.1.1) (by rw [g.eN]; exact e2.1.1) (by rw [g.eN]; exact e3.1.1) (dif e1.1.1 e2.1.1 h4) (dif e1.1.1 e3.1.1 h4') (dif e2.1.1 e3.1.1 h4'') (by rw [g.eS]; exact lcl2_ok h1) (by rw [g.eS]; exact lcl2_ok h2) (by rw [g.eS]; exact lcl2_ok h2') ha (sw_par3 g.eS hk h) rfl).conv fun D σ H q => ?_
  obtain ⟨f, ms, h, r, sr, q⟩ := q
  refine ⟨f, ms, h, r, sr, (GS.go r sr q).mono fun l0 h1 f1 H1 _ x1 r1 g1 xs rl => ?_⟩
  unfold upds at g1
  cases l0 with
  | nil => exact g1.elim
  | cons u l1 =>
    obtain ⟨v, vs, rfl, a1, a2⟩ := rl.cons_inv
    simp only at g1
    unfold upds at g1
    cases l1 with
    | nil => exact g1.elim
    | cons u2 l2 =>
      obtain ⟨w, ws, rfl, b1, b2⟩ := a2.cons_inv
      simp only at g1
      unfold upds at g1
      cases l2 with
      | nil => exact g1.elim
      | cons u3 l3 =>
        obtain ⟨w3, ws3, rfl, c1, c2⟩ := b2.cons_inv
        simp only at g1
        unfold upds at g1
        cases l3 with
        | nil =>
          have := c2.nil_inv
          subst this
          exact ⟨v, w, w3, rfl, g1 f1 H1 _ (.refl _ _ _) r1 ((((r.sr x1 sr).set a1 i).set b1 j).set c1 l)⟩
        | cons _ _ => exact g1.elim
/-! ### x op= e -/
theorem ip_aug (op : BOp) : PIp X (bo op) (rB Y (augM op)) := by
  intro pins s σ H x y v u Q I rx ry ⟨f, h, a, b, r, ra, rb, g⟩
  unfold augM at g
  split at g
  · cases ra.int_inv; cases rb.int_inv
    exact iop_add pins s σ H _ _ v u Q I rx ry ⟨_, _, rfl, rfl, GP.here r g _ .int⟩
  · cases ra.int_inv; cases rb.int_inv
    exact iop_sub pins s σ H _ _ v u Q I rx ry ⟨_, _, rfl, rfl, GP.here r g _ .int⟩
  · cases ra.int_inv; cases rb.int_inv
    split at g
    · rename_i hl
      refine iop_mul pins s σ H _ _ v u Q I rx ry ⟨_, _, rfl, rfl, ?_, GP.here r g _ .int⟩
      rcases Bool.or_eq_true_iff.mp hl with q | q
      · exact .inl (small_of q)
      · exact .inr (small_of q)
    · exact g.elim
  · cases ra.int_inv; cases rb.int_inv
    split at g
    · rename_i hl
      exact iop_mod pins s σ H _ _ v u Q I rx ry ⟨_, _, rfl, rfl, hl, GP.here r g _ .int⟩
    · exact g.elim
  · cases ra.int_inv; cases rb.int_inv
    split at g
    · rename_i hl
      exact iop_fdiv pins s σ H _ _ v u Q I rx ry ⟨_, _, rfl, rfl, hl, GP.here r g _ .int⟩
    · exact g.elim
  · rename_i a b
    obtain ⟨rfl, ta⟩ := ra.str_inv
    obtain ⟨rfl, tb⟩ := rb.str_inv
    split at g
    · rename_i hl
      refine iop_add_str pins s σ H _ _ v u Q I rx ry ⟨_, _, rfl, rfl, ?_, ?_⟩
      · rw [← LIM_eq]
        show a.toArray.size + b.toArray.size ≤ _
        simpa using hl
      · rw [str_app]
        exact GP.here r g _ (.str (ta.app tb hl))
    · exact g.elim
  · exact g.elim
def augS (op : BOp) (i : Nat) (ma : En → MH → R MV) (σ : En) (h : MH) : RS := match σ[i]? with
  | some (some x) => (ma σ h).go σ fun y h1 => (augM op x y h1).go σ fun z h2 => .nx (σ.set i (some z)) h2
  | _ => .stk
theorem s_aug (g : Good T Y W C CX lv inB N sc X) {i : Nat} {x : Str} {px : Pos} (op : BOp) (e1 : nmB N i x = true) (e2 : locB inB sc x = true) (e3 : T.es ≠ some i) (ha : PE X a (rdE Y W ma)) : PS X (.AugAssign (.Name x px) (bo op) a p) (rdS Y W (augS op i ma)) := by
  unfold nmB at e1
  simp only [Bool.and_eq_true, decide_eq_true_eq, Bool.not_eq_true'] at e1
  obtain ⟨l1, l2⟩ := g.loc e2
  refine (ps_aug (i := i) (g.eN ▸ g.nd) (by rw [g.eN]; exact e1.1.1) l1 ha (ip_aug (Y := Y) op) l2).conv fun D σ H q => ?_
  obtain ⟨f, ms, h, r, sr, q⟩ := q
  unfold augS at q
  split at q
  · rename_i v ev
    obtain ⟨y, ey, ry⟩ := sr.get ev (g.es ▸ e3)
    refine ⟨y, ey, f, ms, h, r, sr, (GS.go r sr q).mono fun w h1 f1 H1 _ x1 r1 g1 z rz => ?_⟩
    have sr1 := r.sr x1 sr
    exact ⟨f1, h1, v, w, r1, r.vr x1 ry, rz, W, σ, (GS.go r1 sr1 g1).mono fun u h2 f2 H2 _ x2 r2 g2 t rt => g2 f2 H2 _ (.refl _ _ _) r2 ((r1.sr x2 sr1).set rt i)⟩
  · exact q.elim
def augAS (P : Prog) (op : BOp) (i : Nat) (k : Int) (ma : En → MH → R MV) (σ : En) (h : MH) : RS := (ma σ h).go σ fun x h1 => (attM P x i h1).go σ fun y h2 => (augM op y (.int k) h2).go σ fun w h4 => (setA P x i w h4).go σ fun _ h5 => .nx σ h5
theorem augM_int {op : BOp} {y : MV} {k : Int} {h : MH} {w : MV} {h' : MH} (e : augM op y (.int k) h = .ok w h') : h' = h ∧ ∃ j, w = .int j := by
  unfold augM at e
  split at e <;> first | (rename_i hq; cases hq; done) | (cases e; exact ⟨rfl, _, rfl⟩) | (split at e <;> first | (cases e; exact ⟨rfl, _, rfl⟩) | (cases e; done)) | (cases e; done)
theorem augM_noex {op : BOp} {y z : MV} {h : MH} {c : Nat} {l : List MV} {h' : MH} (e : augM op y z h = .ex c l h') : False := by
  unfold augM at e
  split at e <;> first | (cases e; done) | (split at e <;> cases e)
theorem s_augA (g : Good T Y W C CX lv inB N sc X) {i : Nat} {x : Str} {px p2 : Pos} {k : Int} {j : Nat} (op : BOp) (e1 : x = T.fnm i) (ha : PE X a (rdE Y W ma)) : PS X (.AugAssign (.Attribute a x px) (bo op) (.Constant (.int k) j p2) p) (rdS Y W (augAS T.P op i k ma)) := by
  subst e1
  refine (ps_fldaug ha pe_int (ip_aug (Y := Y) op)).conv fun D σ H q => ?_
  obtain ⟨f, ms, h, r, sr, q⟩ := q
  refine ⟨f, ms, h, r, sr, (GS.go r sr q).mono fun o h1 f1 H1 eo x1 r1 g1 x rx => ?_⟩
  have sr1 := r.sr x1 sr
  cases ha1 : attM T.P o i h1 with
  | stk => rw [ha1] at g1; exact g1.elim
  | ex c l h2 =>
    exfalso
    unfold attM at ha1
    split at ha1
    · split at ha1
      · split at ha1
        · split at ha1 <;> cases ha1
        · cases ha1
      · cases ha1
    · cases ha1
  | ok y h2 =>
    rw [ha1] at g1
    unfold attM at ha1
    clear eo
    split at ha1
    · rename_i n
      obtain ⟨hn, rfl⟩ := rx.ref_inv
      split at ha1
      · rename_i c fs en
        split at ha1
        · rename_i v ev1
          split at ha1
          · rename_i hat
            cases ha1
            obtain ⟨dx, gs, e2, fr, kn⟩ := r1.ob _ _ en
            obtain ⟨c1, c2, c3⟩ := g.fc.at_ c i hat
            have inj : ∀ f g, Y.Z.kn f = true → Y.Z.kn g = true → Y.Z.fnm f = Y.Z.fnm g → f = g := by rw [g.fc.Z]; exact g.fc.kn
            obtain ⟨y', l1, l2⟩ := (fld_look inj c3 fr kn).1 y ev1
            rw [g.fc.Z] at l1
            refine ⟨_, _, dx, gs, y', rfl, e2, g.K ▸ c1, g.K ▸ c2, l1, ?_⟩
            have g1 : GS Y W f1 h1 H1 ((augM op y (.int k) h1).go ms fun w h4 => (setA T.P (.ref n) i w h4).go ms fun _ h5 => .nx ms h5) D := g1
            cases eg : augM op y (.int k) h1 with
            | stk => rw [eg] at g1; exact g1.elim
            | ex c l h4 => exact (augM_noex eg).elim
            | ok w h4 =>
              obtain ⟨rfl, jj, rfl⟩ := augM_int eg
              rw [eg] at g1
              refine ⟨f1, h4, y, .int k, r1, l2, .int, W, σ, ?_⟩
              rw [eg]
              intro f5 H5 x5 r5 z rz
              have g2 : GS Y W f1 h4 H1 ((setA T.P (.ref n) i (.int jj) h4).go ms fun _ h5 => .nx ms h5) D := g1
              have ef : f5 n = f1 n := x5.ag n hn
              obtain ⟨dx', gs', e5, fr', kn'⟩ := r5.ob _ _ en
              unfold setA at g2
              simp only [en] at g2
              split at g2
              · rename_i hat5
                have hn5 : n < h4.size := hn
                have ex0 := Ext.put (f := f5) (H := H5) (u := .ins (Y.Z.ca c) dx' (L2.putF (Y.Z.fnm i) z gs')) hn5 (r5.nofz en rfl)
                obtain ⟨p1, p2, p3⟩ := putFld_put (K := Y.K) (f := f5) (N := h4.size) (H := upd H5 (f5 n) (.ins (Y.Z.ca c) dx' (L2.putF (Y.Z.fnm i) z gs'))) inj c3 (r5.vr ex0 rz) (FRs.mono (Nat.le_refl _) (fun _ _ => rfl) (r5.text ex0) _ _ fr') kn'
                obtain ⟨ex', rl'⟩ := r5.put (o' := .ins c (putFld i (.int jj) fs)) (u := .ins (Y.Z.ca c) dx' (L2.putF (Y.Z.fnm i) z gs')) en (fun _ q => by cases q) ⟨dx', _, upd_same, p1, p2⟩
                rw [ef] at e5
                refine ⟨dx', gs', e5, by rw [p3]; exact hat5.1, ?_⟩
                have g3 := g2 f5 _ σ (x5.trans ex') rl' ((r5.sr ex' (r1.sr x5 sr1)))
                rw [ef, g.fc.Z] at g3
                exact g3
              · exact g2.elim
          · cases ha1
        · cases ha1
      · cases ha1
    · cases ha1
/-! ### for -/
def forM (mi : En → MH → R DM.It) (mg : MV → En → MH → R En) (mb : En → MH → RS) (σ : En) (h : MH) : RS := (mi σ h).go σ fun t h1 => match t.len h1 with
  | some n => loop (fun v σ2 h2 => (mg v σ2 h2).go σ2 fun σ3 h3 => mb σ3 h3) t n 0 σ h1
  | none => .stk
theorem s_for (g : Good T Y W C CX lv inB N sc X) (hh : T.hot = false) {tg iter : Expr} {body : List Stmt} {mi : En → MH → R DM.It} {mg : MV → En → MH → R En} {mb : En → MH → RS} {o : List Nat} (hp : PassesOwn (model X.prog X.w) X.A X.env X.xe)
    (hi : PI X tg iter (rdI Y W mi)) (hg : PG X tg (rdG Y W mg o)) (hb : PSs X body (rdS Y W mb)) (hs : isSet iter = false) : PS X (.For tg iter body [] p) (rdS Y W (forM mi mg mb)) := by
  refine (ps_for hp (g.calm hh) hi hg hb (fun x => noSet hs)).conv fun D σ H q => ?_
  obtain ⟨f, ms, h, r, sr, q⟩ := q
  refine ⟨f, ms, h, r, sr, (GS.go r sr q).mono fun t h1 f1 H1 _ x1 r1 g1 J j => ?_⟩
  have sr1 := r.sr x1 sr
  cases hlen : t.len h1 with
  | none => rw [hlen] at g1; exact g1.elim
  | some n =>
    rw [hlen] at g1
    simp only at g1
    generalize hB : (fun (v : MV) (σ2 : En) (h2 : MH) => (mg v σ2 h2).go σ2 fun σ3 h3 => mb σ3 h3) = B at g1
    refine ⟨fun i m σ H => ∃ f ms h, Ext f1 h1.size H1 f h.size H ∧ Rl Y.K Y.Z f h H ∧ SR Y f h.size H ms σ ∧ GS Y W f h H (loop B t m i ms h) D, ⟨n, f1, ms, h1, .refl _ _ _, r1, sr1, g1⟩, ?_⟩
    rintro i m σ H ⟨f, ms, h, x, r, sr, gl⟩
    have stop : t.at h i = some none → GS Y W f h H (.nx ms h) D → J.stop i H ∧ D.nx σ H := fun ea g0 => ⟨j.step r1 x r ea, g0 f H σ (.refl _ _ _) r sr⟩
    cases m with
    | zero =>
      unfold loop at gl
      split at gl
      · rename_i ea
        exact .inl (stop ea gl)
      · exact gl.elim
    | succ m =>
      unfold loop at gl
      split at gl
      · rename_i ea
        exact .inl (stop ea gl)
      · rename_i v ea
        obtain ⟨go, yl⟩ := j.step r1 x r ea
        refine .inr ⟨go, _, fun σ' H' w => ⟨m, Nat.lt_succ_self m, w⟩, fun y H'' yy => ?_⟩
        obtain ⟨xi, ri, ry⟩ := yl y H'' yy
        replace sr := r.sr xi sr
        replace gl := GS.shift xi gl
        replace x := x.trans xi
        clear stop
        replace r := ri
        refine ⟨f, ms, h, v, r, sr, ry, ?_⟩
        rw [← hB] at gl
        simp only at gl
        cases eg : mg v ms h with
        | stk => rw [eg] at gl; exact gl.elim
        | ex c l h2 =>
          rw [eg] at gl
          have gl : GS Y W f h H'' (.ex c l ms h2) D := gl
          exact fun f3 H3 cls d e3 r3 x3 => gl f3 H3 σ cls d e3 r3 (r.sr e3 sr) x3
        | ok ms3 h3 =>
          intro f3 H3 x3 r3 σ3 sr3 _
          refine ⟨f3, ms3, h3, r3, sr3, ?_⟩
          rw [eg] at gl
          have gl : GS Y W f h H'' (match mb ms3 h3 with
            | .nx σ' h' => loop _ t m (i + 1) σ' h'
            | .ct σ' h' => loop _ t m (i + 1) σ' h'
            | .bk σ' h' => .nx σ' h'
            | r => r) D := gl
          have x03 := x.trans x3
          cases eb : mb ms3 h3 with
          | nx ms4 h4 =>
            rw [eb] at gl
            exact fun f4 H4 σ4 x4 r4 sr4 => ⟨f4, ms4, h4, x03.trans x4, r4, sr4, by rw [← hB]; exact GS.shift (x3.trans x4) gl⟩
          | ct ms4 h4 =>
            rw [eb] at gl
            exact fun f4 H4 σ4 x4 r4 sr4 => ⟨f4, ms4, h4, x03.trans x4, r4, sr4, by rw [← hB]; exact GS.shift (x3.trans x4) gl⟩
          | bk ms4 h4 =>
            rw [eb] at gl
            exact fun f4 H4 σ4 x4 r4 sr4 => gl f4 H4 σ4 (x3.trans x4) r4 sr4
          | rt v h4 =>
            rw [eb] at gl
            exact fun f4 H4 σ4 x4 r4 sr4 => gl f4 H4 σ4 (x3.trans x4) r4 sr4
          | ex c l ms4 h4 =>
            rw [eb] at gl
            exact fun f4 H4 σ4 cls d x4 r4 sr4 => gl f4 H4 σ4 cls d (x3.trans x4) r4 sr4
          | stk => rw [eb] at gl; exact gl.elim
      · exact gl.elim
theorem sw2_none {t1 t2 v : Expr} {env : Env} : swappedStores [t1, t2] v env = pure none := by
  cases t1 <;> rfl
theorem sw3_none {t1 t2 t3 v : Expr} {env : Env} : swappedStores [t1, t2, t3] v env = pure none := by
  cases t1 <;> rfl
section
variable {t1 t2 t3 o i : Expr} {g1 g2 g3 : MV → En → MH → R En} {o1 o2 o3 : List Nat} {tpos : Pos}
theorem s_set2 (ha : PE X a (rdE Y W ma)) (h1 : PG X t1 (rdG Y W g1 o1)) (h2 : PG X t2 (rdG Y W g2 o2)) (s1 : isStar t1 = false) (s2 : isStar t2 = false) :
    PS X (.Assign [t1, t2] a p) (rdS Y W fun σ h => (ma σ h).go σ fun v h1 => (g1 v σ h1).go σ fun σ2 h2 => (g2 v σ2 h2).go σ2 fun σ3 h3 => .nx σ3 h3) := by
  refine (ps_asg2 ha h1 h2 (by rw [asg_cons s1, asg_cons s2]; rfl) sw2_none).conv fun D σ H q => ?_
  obtain ⟨f, ms, h, r, sr, q⟩ := q
  refine ⟨f, ms, h, r, sr, (GS.go r sr q).mono fun v h1 f1 H1 _ x1 r1 q1 x rx => ?_⟩
  have sr1 := r.sr x1 sr
  refine ⟨f1, ms, h1, v, r1, sr1, rx, (GS.go r1 sr1 q1).mono fun ms2 h2 f2 H2 _ x2 r2 q2 σ2 sr2 _ => ?_⟩
  exact ⟨f2, ms2, h2, v, r2, sr2, r1.vr x2 rx, (GS.go r2 sr2 q2).mono fun ms3 h3 f3 H3 _ x3 r3 q3 σ3 sr3 _ => q3 f3 H3 σ3 (.refl _ _ _) r3 sr3⟩
theorem s_set3 (ha : PE X a (rdE Y W ma)) (h1 : PG X t1 (rdG Y W g1 o1)) (h2 : PG X t2 (rdG Y W g2 o2)) (h3 : PG X t3 (rdG Y W g3 o3)) (s1 : isStar t1 = false) (s2 : isStar t2 = false) (s3 : isStar t3 = false) :
    PS X (.Assign [t1, t2, t3] a p) (rdS Y W fun σ h => (ma σ h).go σ fun v h1 => (g1 v σ h1).go σ fun σ2 h2 => (g2 v σ2 h2).go σ2 fun σ3 h3 => (g3 v σ3 h3).go σ3 fun σ4 h4 => .nx σ4 h4) := by
  refine (ps_asg3 ha h1 h2 h3 (by rw [asg_cons s1, asg_cons s2, asg_cons s3]; rfl) sw3_none).conv fun D σ H q => ?_
  obtain ⟨f, ms, h, r, sr, q⟩ := q
  refine ⟨f, ms, h, r, sr, (GS.go r sr q).mono fun v h1 f1 H1 _ x1 r1 q1 x rx => ?_⟩
  have sr1 := r.sr x1 sr
  refine ⟨f1, ms, h1, v, r1, sr1, rx, (GS.go r1 sr1 q1).mono fun ms2 h2 f2 H2 _ x2 r2 q2 σ2 sr2 _ => ?_⟩
  have rx2 := r1.vr x2 rx
  refine ⟨f2, ms2, h2, v, r2, sr2, rx2, (GS.go r2 sr2 q2).mono fun ms3 h3 f3 H3 _ x3 r3 q3 σ3 sr3 _ => ?_⟩
  exact ⟨f3, ms3, h3, v, r3, sr3, r2.vr x3 rx2, (GS.go r3 sr3 q3).mono fun ms4 h4 f4 H4 _ x4 r4 q4 σ4 sr4 _ => q4 f4 H4 σ4 (.refl _ _ _) r4 sr4⟩
theorem s_del (ho : PE X o (rdE Y W ma)) (hi : PE X i (rdE Y W mb)) :
    PS X (.Delete [.Subscript o i tpos] p) (rdS Y W fun σ h => (ma σ h).go σ fun x h1 => (mb σ h1).go σ fun y h2 => (delM x y h2).go σ fun _ h3 => .nx σ h3) := by
  refine (ps_ddel ho hi).conv fun D σ H q => ?_
  obtain ⟨f, ms, h, r, sr, q⟩ := q
  refine ⟨f, ms, h, r, sr, (GS.go r sr q).mono fun v h1 f1 H1 ee x1 r1 q1 x rx => ?_⟩
  clear ee
  have sr1 := r.sr x1 sr
  refine ⟨f1, ms, h1, r1, sr1, (GS.go r1 sr1 q1).mono fun y h2 f2 H2 ee x2 r2 q2 z rz => ?_⟩
  clear ee
  have sr2 := r1.sr x2 sr1
  have rx2 := r1.vr x2 rx
  unfold delM at q2
  split at q2
  · rename_i n
    obtain ⟨hn, rfl⟩ := rx2.ref_inv
    split at q2
    · rename_i l en
      split at q2
      · rename_i hc
        obtain ⟨kvs, d1, d2⟩ := r2.ob _ _ en
        have d1 : H2 (f2 n) = some (.dK kvs) := d1
        obtain ⟨yk, c1, rfl⟩ := KR.kOk hc.1 rz
        have hs := DKr.has c1 d2
        rw [hc.2, valV_any] at hs
        have ex0 := Ext.put (f := f2) (H := H2) (u := .dK (L2.dropK kvs yk)) hn (r2.nofz en rfl)
        obtain ⟨ex', rl'⟩ := r2.put (o' := .dct false false (DM.dropK y l)) (u := .dK (L2.dropK kvs yk)) en (fun _ q => by cases q) ⟨_, upd_same, DKr.mono (Nat.le_refl _) (fun _ _ => rfl) (r2.text ex0) _ _ (d2.drop c1)⟩
        exact ⟨_, kvs, yk, rfl, d1, rfl, hs.symm, q2 _ _ σ ex' rl' (r2.sr ex' sr2)⟩
      · exact q2.elim
    · exact q2.elim
  · exact q2.elim
end
end
end DM
set_option Elab.async false
set_option linter.all false
set_option maxRecDepth 100000
set_option maxHeartbeats 4000000
/-! S11b: raise, try. -/
namespace DM
open PySem L2 PyProof.Rows PySem.Spec
/-- the tables, the context of an except suite -/
abbrev Tab.suite (T : Tab) (i : Option Nat) : Tab := { T with hot := true, es := i }
abbrev Ctx.suite (Y : Ctx) (i : Option Nat) (a : Addr) (oe : Obj) : Ctx := { Y with es := i, ea := a, eo := oe }
section
variable {T : Tab} {Y : Ctx} {W : Wish} {C : Nat → List MV → MH → R MV} {CX : CXT} {lv : Nat} {N : List Str} {sc : Scope} {X : Cx}
theorem Fcts.suite {P0 : Program} {w : World} {mg : Str → Option Value} {base : Heap} (fc : Fcts T Y C CX lv P0 w mg base) (i : Option Nat) (a : Addr) (oe : Obj) : Fcts (T.suite i) (Y.suite i a oe) C CX lv P0 w mg base :=
  ⟨fc.shw, fc.Z, fc.kn, fc.gl, fc.fd, fc.at_, fc.me, fc.mkc, fc.isf, fc.bt, ⟨fc.xf.nm, fc.xf.isc, fc.xf.sub, fc.xf.mk_⟩, fc.hf, fc.cx⟩
theorem Good.tr (g : Good T Y W C CX lv false N sc X) (hh : T.hot = false) {W' : Wish} {pn : List (Addr × Obj)} {xe : Value → Shared → Prop} (tk : L2N.Takes (X.tr pn xe) W') : Good T Y W' C CX lv false N sc (X.tr pn xe) where
  eN := g.eN
  nd := g.nd
  eS := g.eS
  K := g.K
  Wo := g.Wo
  calm := g.calm
  gd := g.gd
  room := g.room
  rmH := g.rmH
  es := g.es
  hot := fun h => absurd (hh.symm.trans h) Bool.false_ne_true
  hes := g.hes
  cxe := g.cxe
  fn := g.fn
  pass := fun σ => by rw [g.cxe]; exact L2N.passAt (X := X.tr pn xe) tk σ
  tk := tk
  fc := g.fc
theorem Good.suite (g : Good T Y W C CX lv false N sc X) (hh : T.hot = false) {cls : Value} {d : Option Addr} {a : Addr} {oe : Obj} {pn : List (Addr × Obj)} (i : Option Nat) (hz : L2N.Zn cls d oe) (hv : ∃ vs : Array Value, oe.data = .fields vs) :
    Good (T.suite i) (Y.suite i a oe) NoW C CX lv false N sc (X.suite a ((a, oe) :: pn)) where
  eN := g.eN
  nd := g.nd
  eS := g.eS
  K := g.K
  Wo := g.Wo
  calm := fun h => Bool.noConfusion (show true = false from h)
  gd := g.gd
  room := fun h => Bool.noConfusion (show true = false from h)
  rmH := ⟨(g.room hh).dp, (g.room hh).un⟩
  es := rfl
  hot := fun _ => by
    obtain ⟨vs, e⟩ := hv
    exact ⟨⟨⟨rfl, vs, e, hz.2.2 vs e⟩, .inl List.mem_cons_self⟩, vs, e⟩
  hes := fun h => Bool.noConfusion (show true = false from h)
  cxe := g.cxe
  fn := g.fn
  pass := fun σ pins H s e s' I c => g.fc.cx _ _ _ _ _ c
  tk := fun u s' ⟨_, _, _, _, _, _, _, _, _, _, _, _, _, _, _, _, w⟩ => w.elim
  fc := g.fc.suite i a oe
theorem s_rse (g : Good T Y W C CX lv false N sc X) (hh : T.hot = false) {c : Nat} {x m : Str} {z : Tx} {j : Nat} {p p2 pos pos' : Pos} (e1 : x = T.xname c) (e2 : T.xmk c = true) (e3 : glB sc x = true) :
    PS X (.Raise (some (.Call (.Name x p) [.Constant (.str m) j p2] [] pos)) none pos') (rdS Y W (exec T.P C (.rse c (.cons (.str z) .nil)))) := by
  subst e1
  obtain ⟨xa, db, A, eA, gC, q, kC, sB, tC⟩ := g.fc.xf.mk_ c e2
  have r : Raises X (.ref A) := raises_own (g.K ▸ sB) (g.K ▸ tC)
  refine (L2N.ps_raise (g.calm hh) g.tk (L2N.pmk_own PySem.F.excBase_ValueError (g.K ▸ q) gC (g.K ▸ kC) r (g.gl e3) db)).conv fun D σ H q => ?_
  obtain ⟨f, ms, h, rl, sr, q⟩ := q
  have e : exec T.P C (.rse c (.cons (.str z) .nil)) ms h = .ex c [] ms h := by
    unfold exec evs ev evs
    show rseM T.P c [.str z] ms h = _
    unfold rseM
    rw [if_pos xa]
  rw [e] at q
  exact q f H σ (.ref A) none (.refl _ _ _) rl sr ⟨eA.symm, ⟨A, rfl⟩, rfl⟩
theorem SR.hot {f : Nat → Addr} {n : Nat} {H : Hp} {ms : En} {σ : L2.St} (sr : SR Y f n H ms σ) (hn : Y.es = none) {i c : Nat} {l : List MV} {a : Addr} {oe : Obj} (x : XR Y.K Y.xc Y.xf f n H c l oe.cls oe.dict) :
    SR (Y.suite (some i) a oe) f n H (ms.set i (some (.exc c l))) (σ.set i (some (.ref a))) := by
  refine ⟨by rw [List.length_set, List.length_set]; exact sr.1, fun j w q => ?_⟩
  by_cases hj : j = i
  · subst hj
    have hl : j < ms.length := by
      have := (List.getElem?_eq_some_iff.mp q).1
      rwa [List.length_set] at this
    rw [List.getElem?_set_self hl] at q
    cases q
    exact ⟨_, List.getElem?_set_self (sr.1 ▸ hl), .inr ⟨rfl, c, l, rfl, rfl, x⟩⟩
  · rw [List.getElem?_set_ne (fun z => hj z.symm)] at q
    obtain ⟨y, e1, e2⟩ := sr.get q (by rw [hn]; exact fun z => nomatch z)
    exact ⟨y, by rw [List.getElem?_set_ne (fun z => hj z.symm)]; exact e1, .inl e2⟩
theorem SR.hotN {f : Nat → Addr} {n : Nat} {H : Hp} {ms : En} {σ : L2.St} (sr : SR Y f n H ms σ) (hn : Y.es = none) {a : Addr} {oe : Obj} : SR (Y.suite none a oe) f n H ms σ := by
  refine ⟨sr.1, fun j w q => ?_⟩
  obtain ⟨y, e1, e2⟩ := sr.get q (by rw [hn]; exact fun z => nomatch z)
  exact ⟨y, e1, .inl e2⟩
theorem SR.unhot {f : Nat → Addr} {n : Nat} {H : Hp} {ms : En} {σ : L2.St} {i : Nat} {a : Addr} {oe : Obj} (sr : SR (Y.suite (some i) a oe) f n H ms σ) : SR Y f n H (ms.set i none) (σ.set i none) := by
  have w := sr.wipe1 i
  refine ⟨w.1, fun j v q => ?_⟩
  have hj : j ≠ i := by
    rintro rfl
    have hl : j < ms.length := by
      have := (List.getElem?_eq_some_iff.mp q).1
      rwa [List.length_set] at this
    rw [List.getElem?_set_self hl] at q
    cases q
  obtain ⟨y, e1, e2⟩ := w.get q (fun z => hj (Option.some.inj z).symm)
  exact ⟨y, e1, .inl e2⟩
theorem SR.unhotN {f : Nat → Addr} {n : Nat} {H : Hp} {ms : En} {σ : L2.St} {a : Addr} {oe : Obj} (sr : SR (Y.suite none a oe) f n H ms σ) : SR Y f n H ms σ := by
  refine ⟨sr.1, fun j v q => ?_⟩
  obtain ⟨y, e1, e2⟩ := sr.get q (fun z => nomatch z)
  exact ⟨y, e1, .inl e2⟩
theorem Good.names (g : Good T Y W C CX lv false N sc X) {d : Nat} {x : Str} (e1 : x = T.xname d) (e2 : glB sc x = true) (e3 : T.xok d = true) : Names X x (Y.xc d) := by
  subst e1
  obtain ⟨h1, h2, _⟩ := g.fc.xf.nm d e3
  exact ⟨g.gl e2, h1, h2⟩
/-- try: b; except D as n: s -/
theorem s_try (g : Good T Y W C CX lv false N sc X) (hh : T.hot = false) (hs : X.stack = X.env :: X.outer) (hf : X.env.frame = some X.env.locals) {d i : Nat} {x n : Str} {np pos pos' : Pos} {body suite : List Stmt} {b₀ : Stmt} {b s : Ss} (e1 : x = T.xname d) (e2 : glB sc x = true) (e3 : T.xok d = true)
    (e4 : N[i]? = some n) (e5 : sc.names.lookup n = some .local)
    (hb : ∀ W' X', Good T Y W' C CX lv false N sc X' → PassesOwn (model X'.prog X'.w) X'.A X'.env X'.xe → X'.env = X.env → X'.stack = X.stack → X'.outer = X.outer → PSs X' body (rdS Y W' (execs T.P C b)))
    (hsu : ∀ a oe X', Good (T.suite (some i)) (Y.suite (some i) a oe) NoW C CX lv false N sc X' → X'.env = X.env → X'.stack = X.stack → X'.outer = X.outer → X'.xe = (fun _ _ => False) → PSs X' (b₀ :: suite) (rdS (Y.suite (some i) a oe) NoW (execs T.P C s))) :
    PS X (.Try body [.ExceptHandler (some (.Name x np)) (some n) (b₀ :: suite) pos'] [] [] pos) (rdS Y W (exec T.P C (.try_ b d i s))) := by
  have hn : Y.es = none := g.es.trans (g.hes hh)
  have kn : X.env.kindOf n = some .local := by
    show X.env.scope.names.lookup n = _
    rw [g.eS]
    exact e5
  refine (L2N.ps_try_as (i := i) (tb := fun W' => rdS Y W' (execs T.P C b)) (ts := fun a cls dd D σ H => ∀ oe, L2N.Zn cls dd oe → (∃ vs : Array Value, oe.data = .fields vs) → rdS (Y.suite (some i) a oe) NoW (execs T.P C s) D σ H) hs hf (g.eN ▸ g.nd) (by rw [g.eN]; exact e4) kn (g.names e1 e2 e3) g.tk
    (fun W' pn xe tk hp => hb W' _ (g.tr hh tk) hp rfl rfl rfl) (fun a oe cls dd pn hz hv => ?_)).conv fun D σ H q => ?_
  · refine ⟨fun pins s σ H D I q => ?_⟩
    exact (hsu a oe _ (g.suite hh (some i) hz hv) rfl rfl rfl rfl).run pins s σ H D I (q oe hz hv)
  obtain ⟨f, ms, h, rl, sr, q⟩ := q
  refine ⟨f, ms, h, rl, sr, ?_⟩
  unfold exec at q
  cases e : execs T.P C b ms h with
  | nx ms1 h1 => rw [e] at q; exact q
  | bk ms1 h1 => rw [e] at q; exact q
  | ct ms1 h1 => rw [e] at q; exact q
  | rt v h1 => rw [e] at q; exact q
  | stk => rw [e] at q; exact q.elim
  | ex c l ms1 h1 =>
    rw [e] at q
    intro f1 H1 σ1 cls dd x1 r1 sr1 xr
    obtain ⟨A, hA⟩ := xr.2.1
    obtain ⟨k1, _⟩ := g.fc.xf.sub c A d (xr.1.symm.trans hA) e3
    refine ⟨T.P.xsub c d, by rw [hA, g.K]; exact k1, fun hb a na oe hz hv => ?_, fun hb => ?_⟩
    · simp only [hb, if_true] at q
      have xr' : XR Y.K Y.xc Y.xf f1 h1.size H1 c l oe.cls oe.dict := by rw [hz.1, hz.2.1]; exact xr
      refine ⟨f1, ms1.set i (some (.exc c l)), h1, r1, sr1.hot hn xr', ?_⟩
      have q := GS.shift x1 q
      cases e2 : execs T.P C s (ms1.set i (some (.exc c l))) h1 with
      | nx ms2 h2 => rw [e2] at q; exact fun f2 H2 σ2 x2 r2 sr2 => q f2 H2 _ x2 r2 sr2.unhot
      | bk ms2 h2 => rw [e2] at q; exact fun f2 H2 σ2 x2 r2 sr2 => q f2 H2 _ x2 r2 sr2.unhot
      | ct ms2 h2 => rw [e2] at q; exact fun f2 H2 σ2 x2 r2 sr2 => q f2 H2 _ x2 r2 sr2.unhot
      | rt v h2 => rw [e2] at q; exact fun f2 H2 y x2 r2 rv => q f2 H2 y x2 r2 rv
      | ex _ _ _ _ => rw [e2] at q; exact q.elim
      | stk => rw [e2] at q; exact q.elim
    · simp only [hb, Bool.false_eq_true, if_false] at q
      exact q f1 H1 σ1 cls dd x1 r1 sr1 xr
/-- try: b; except D: s -/
theorem s_tryN (g : Good T Y W C CX lv false N sc X) (hh : T.hot = false) (hs : X.stack = X.env :: X.outer) (hf : X.env.frame = some X.env.locals) {d : Nat} {x : Str} {np pos pos' : Pos} {body suite : List Stmt} {b₀ : Stmt} {b s : Ss} (e1 : x = T.xname d) (e2 : glB sc x = true) (e3 : T.xok d = true)
    (hb : ∀ W' X', Good T Y W' C CX lv false N sc X' → PassesOwn (model X'.prog X'.w) X'.A X'.env X'.xe → X'.env = X.env → X'.stack = X.stack → X'.outer = X.outer → PSs X' body (rdS Y W' (execs T.P C b)))
    (hsu : ∀ a oe X', Good (T.suite none) (Y.suite none a oe) NoW C CX lv false N sc X' → X'.env = X.env → X'.stack = X.stack → X'.outer = X.outer → X'.xe = (fun _ _ => False) → PSs X' (b₀ :: suite) (rdS (Y.suite none a oe) NoW (execs T.P C s))) :
    PS X (.Try body [.ExceptHandler (some (.Name x np)) none (b₀ :: suite) pos'] [] [] pos) (rdS Y W (exec T.P C (.tryN b [d] s))) := by
  have hn : Y.es = none := g.es.trans (g.hes hh)
  let ts : Addr → Value → Option Addr → TS := fun a cls dd D σ H => ∀ oe, L2N.Zn cls dd oe → (∃ vs : Array Value, oe.data = .fields vs) → rdS (Y.suite none a oe) NoW (execs T.P C s) D σ H
  refine (L2N.ps_try_many (tb := fun W' => rdS Y W' (execs T.P C b)) (l := [(Y.xc d, ts)]) hs hf g.tk
    (fun W' pn xe tk hp => hb W' _ (g.tr hh tk) hp rfl rfl rfl) (.cons (g.names e1 e2 e3) (fun a oe cls dd pn hz hv => ?_) .nil)).conv fun D σ H q => ?_
  · refine ⟨fun pins s σ H D I q => ?_⟩
    exact (hsu a oe _ (g.suite hh none hz hv) rfl rfl rfl rfl).run pins s σ H D I (q oe hz hv)
  obtain ⟨f, ms, h, rl, sr, q⟩ := q
  refine ⟨f, ms, h, rl, sr, ?_⟩
  unfold exec at q
  cases e : execs T.P C b ms h with
  | nx ms1 h1 => rw [e] at q; exact q
  | bk ms1 h1 => rw [e] at q; exact q
  | ct ms1 h1 => rw [e] at q; exact q
  | rt v h1 => rw [e] at q; exact q
  | stk => rw [e] at q; exact q.elim
  | ex c l ms1 h1 =>
    rw [e] at q
    intro f1 H1 σ1 cls dd x1 r1 sr1 xr
    obtain ⟨A, hA⟩ := xr.2.1
    obtain ⟨k1, _⟩ := g.fc.xf.sub c A d (xr.1.symm.trans hA) e3
    refine ⟨T.P.xsub c d, by rw [hA, g.K]; exact k1, fun hb a na oe hz hv => ?_, fun hb => ?_⟩
    · simp only [hb, List.any_cons, Bool.true_or, if_true] at q
      refine ⟨f1, ms1, h1, r1, sr1.hotN hn, ?_⟩
      have q := GS.shift x1 q
      cases e2 : execs T.P C s ms1 h1 with
      | nx ms2 h2 => rw [e2] at q; exact fun f2 H2 σ2 x2 r2 sr2 => q f2 H2 _ x2 r2 sr2.unhotN
      | bk ms2 h2 => rw [e2] at q; exact fun f2 H2 σ2 x2 r2 sr2 => q f2 H2 _ x2 r2 sr2.unhotN
      | ct ms2 h2 => rw [e2] at q; exact fun f2 H2 σ2 x2 r2 sr2 => q f2 H2 _ x2 r2 sr2.unhotN
      | rt v h2 => rw [e2] at q; exact fun f2 H2 y x2 r2 rv => q f2 H2 y x2 r2 rv
      | ex _ _ _ _ => rw [e2] at q; exact q.elim
      | stk => rw [e2] at q; exact q.elim
    · simp only [hb, List.any_cons, List.any_nil, Bool.false_or, Bool.false_eq_true, if_false] at q
      exact q f1 H1 σ1 cls dd x1 r1 sr1 xr
end
end DM
set_option Elab.async false
set_option linter.all false
set_option maxRecDepth 100000
set_option maxHeartbeats 4000000
/-! S12: the interpreter is sound for the texts that it matches. -/
namespace DM
open PySem L2 PyProof.Rows PySem.Spec
mutual
def mS (T : Tab) (N : List Str) (sc : Scope) : St → Stmt → Bool
  | .pass, e => match e with
    | .Pass _ => true
    | _ => false
  | .exp i, e => match e with
    | .Expr x _ => mE T N sc i x && !isComp x
    | _ => false
  | .ret i, e => match e with
    | .Return (some x) _ => mE T N sc i x
    | _ => false
  | .retN, e => match e with
    | .Return none _ => true
    | _ => false
  | .set tg i, e => match e with
    | .Assign [t] v _ => mE T N sc i v && mG T N false sc tg t && !isStar t && (if isComp v then (match tg, i with
      | .nm _, .lc _ _ _ _ _ => lcSw sc t v
      | .att _ _, _ => true
      | _, _ => false) else swB sc t v)
    | _ => false
  | .par is es, e => match e with
    | .Assign [.Tuple [.Name x px, .Name y py] _ _] (.Tuple [a, b] _ _) _ => (match is with
      | [i, j] => nmB N i x && nmB N j y && mEs T N sc es [a, b] && par2B sc x y px py a b && !T.hot
      | _ => false)
    | .Assign [.Tuple [.Name x px, .Name y py, .Name z pz] _ _] (.Tuple [a, b, c] _ _) _ => (match is with
      | [i, j, l] => nmB N i x && nmB N j y && nmB N l z && mEs T N sc es [a, b, c] && par3B sc x y z px py pz a b c && !T.hot
      | _ => false)
    | _ => false
  | .aug i op v, e => match e with
    | .AugAssign (.Name x _) o w _ => nmB N i x && locB false sc x && decide (bo op = o) && mE T N sc v w && decide (T.es ≠ some i)
    | _ => false
  | .augA o f op k, e => match e with
    | .AugAssign (.Attribute v x _) q (.Constant (.int j) _ _) _ => decide (x = T.fnm f) && decide (bo op = q) && decide (k = j) && mE T N sc o v
    | _ => false
  | .set2 t1 t2 i, e => match e with
    | .Assign [a, b] v _ => mE T N sc i v && mG T N false sc t1 a && !isStar a && mG T N false sc t2 b && !isStar b
    | _ => false
  | .set3 t1 t2 t3 i, e => match e with
    | .Assign [a, b, c] v _ => mE T N sc i v && mG T N false sc t1 a && !isStar a && mG T N false sc t2 b && !isStar b && mG T N false sc t3 c && !isStar c
    | _ => false
  | .del_ o i, e => match e with
    | .Delete [.Subscript v j _] _ => mE T N sc o v && mE T N sc i j
    | _ => false
  | .nev, _ => true
  | .ite c a b, e => match e with
    | .If t x y _ => mT T N sc c t && mSs T N sc a x && mSs T N sc b y
    | _ => false
  | .for_ tg it b, e => match e with
    | .For t i x [] _ => mI T N sc it i t && mG T N false sc tg t && mSs T N sc b x && !isSet i && !T.hot
    | _ => false
  | .rse c es, e => match e with
    | .Raise (some (.Call (.Name x _) [.Constant (.str _) _ _] [] _)) none _ => decide (x = T.xname c) && T.xmk c && glB sc x && !T.hot && (match es with
      | .cons (.str _) .nil => true
      | _ => false)
    | _ => false
  | .try_ b d i s, e => match e with
    | .Try body [.ExceptHandler (some (.Name x _)) (some n) (b0 :: suite) _] [] [] _ => decide (x = T.xname d) && glB sc x && T.xok d && decide (N[i]? = some n) && lcl2 sc n && !T.hot && mSs T N sc b body && mSs (T.suite (some i)) N sc s (b0 :: suite)
    | _ => false
  | .tryN b ds s, e => match e with
    | .Try body [.ExceptHandler (some (.Name x _)) none (b0 :: suite) _] [] [] _ => (match ds with
      | [d] => decide (x = T.xname d) && glB sc x && T.xok d && !T.hot && mSs T N sc b body && mSs (T.suite none) N sc s (b0 :: suite)
      | _ => false)
    | _ => false
  | .brk, e => match e with
    | .Break _ => true
    | _ => false
  | .cont, e => match e with
    | .Continue _ => true
    | _ => false
def mSs (T : Tab) (N : List Str) (sc : Scope) : Ss → List Stmt → Bool
  | .nil, l => l.isEmpty
  | .cons s r, l => match l with
    | x :: xs => mS T N sc s x && mSs T N sc r xs
    | [] => false
end
def Es.len : Es → Nat
  | .nil => 0
  | .cons _ r => r.len + 1
def Tgs.len : Tgs → Nat
  | .nil => 0
  | .cons _ r => r.len + 1
section
variable {T : Tab} {Y : Ctx} {W : Wish} {C : Nat → List MV → MH → R MV} {CX : CXT} {lv : Nat} {inB : Bool} {N : List Str} {sc : Scope} {X : Cx}
theorem evs_nil {P : Prog} {σ : En} {h : MH} : evs P C .nil σ h = .ok [] h := by
  unfold evs
  rfl
theorem evs_len {P : Prog} : ∀ {es : Es} {σ : En} {h : MH} {l : List MV} {h' : MH}, evs P C es σ h = .ok l h' → l.length = es.len
  | .nil, σ, h, l, h', e => by
    unfold evs at e
    cases e
    rfl
  | .cons x r, σ, h, l, h', e => by
    unfold evs at e
    obtain ⟨v, h1, e1, e⟩ := bind_ok e
    obtain ⟨w, h2, e2, e⟩ := bind_ok e
    cases e
    rw [List.length_cons, evs_len e2]
    rfl
theorem mEs_len : ∀ {es : Es} {xs : List Expr}, mEs T N sc es xs = true → es.len = xs.length ∧ noStars xs = true
  | .nil, xs, h => by
    unfold mEs at h
    cases xs with
    | nil => exact ⟨rfl, rfl⟩
    | cons _ _ => cases h
  | .cons x r, xs, h => by
    cases xs with
    | nil => unfold mEs at h; cases h
    | cons y ys =>
      unfold mEs at h
      simp only [Bool.and_eq_true, Bool.not_eq_true'] at h
      obtain ⟨a, b⟩ := mEs_len h.2
      refine ⟨congrArg Nat.succ a, ?_⟩
      unfold noStars at b ⊢
      rw [List.all_cons, b, h.1.2]
      rfl
theorem mKs_len : ∀ {es : Es} {kn : List Nat} {ks : List Keyword}, mKs T N sc es kn ks = true → es.len = kn.length ∧ (ks.all fun k => k.1.isSome) = true ∧ ks.filterMap (·.1) = kn.map T.fnm
  | .nil, kn, ks, h => by
    unfold mKs at h
    cases kn <;> cases ks <;> first | exact ⟨rfl, rfl, rfl⟩ | cases h
  | .cons x r, kn, ks, h => by
    unfold mKs at h
    cases kn with
    | nil => cases h
    | cons k kr =>
      cases ks with
      | nil => cases h
      | cons q qs =>
        obtain ⟨nm, e, kp⟩ := q
        cases nm with
        | none => cases h
        | some y =>
          simp only [Bool.and_eq_true, decide_eq_true_eq] at h
          obtain ⟨a, b, c⟩ := mKs_len h.2
          refine ⟨congrArg Nat.succ a, b, ?_⟩
          show y :: qs.filterMap (·.1) = _
          rw [c, h.1.1]
          rfl
theorem asgs_len {P : Prog} : ∀ {l : Tgs} {vs : List MV} {σ : En} {h : MH} {σ' : En} {h' : MH}, asgs P C l vs σ h = .ok σ' h' → vs.length = l.len
  | .nil, [], σ, h, _, _, _ => rfl
  | .nil, _ :: _, σ, h, _, _, e => by unfold asgs at e; cases e
  | .cons _ _, [], σ, h, _, _, e => by unfold asgs at e; cases e
  | .cons t r, v :: vs, σ, h, σ', h', e => by
    unfold asgs at e
    obtain ⟨a, h1, e1, e⟩ := bind_ok e
    exact congrArg Nat.succ (asgs_len e)
theorem mGs_len : ∀ {l : Tgs} {xs : List Expr}, mGs T N inB sc l xs = true → l.len = xs.length ∧ noStars xs = true
  | .nil, xs, h => by
    unfold mGs at h
    cases xs with
    | nil => exact ⟨rfl, rfl⟩
    | cons _ _ => cases h
  | .cons x r, xs, h => by
    cases xs with
    | nil => unfold mGs at h; cases h
    | cons y ys =>
      unfold mGs at h
      simp only [Bool.and_eq_true, Bool.not_eq_true'] at h
      obtain ⟨a, b⟩ := mGs_len h.2
      refine ⟨congrArg Nat.succ a, ?_⟩
      unfold noStars at b ⊢
      rw [List.all_cons, b, h.1.2]
      rfl
theorem boolAnd {rest : List Expr} {b : Expr} {p : Pos} {i : Ex} (h : (match rest with
      | [] => mE T N sc i b
      | _ => mE T N sc i (.BoolOp .And (b :: rest) p)) = true) (k : ∀ e, mE T N sc i e = true → PE X e (rdE Y W (ev T.P C i))) : PE X (.BoolOp .And (b :: rest) p) (rdE Y W (ev T.P C i)) := by
  cases rest with
  | nil => exact pe_one (k _ h)
  | cons r rs => exact k _ h
theorem boolOr {rest : List Expr} {b : Expr} {p : Pos} {i : Ex} (h : (match rest with
      | [] => mE T N sc i b
      | _ => mE T N sc i (.BoolOp .Or (b :: rest) p)) = true) (k : ∀ e, mE T N sc i e = true → PE X e (rdE Y W (ev T.P C i))) : PE X (.BoolOp .Or (b :: rest) p) (rdE Y W (ev T.P C i)) := by
  cases rest with
  | nil => exact pe_one (k _ h)
  | cons r rs => exact k _ h
theorem fm_len {α : Type} : ∀ {l : List (Option α)}, l.all (·.isSome) = true → (l.filterMap id).length = l.length
  | [], _ => rfl
  | none :: r, h => by cases h
  | some a :: r, h => by
    have : r.all (·.isSome) = true := by simpa using h
    exact congrArg Nat.succ (fm_len this)
def isBO : Expr → Bool
  | .BoolOp _ _ _ => true
  | _ => false
theorem tAnd' {rest : List Expr} {b : Expr} {p : Pos} {i : Te} (h : (match rest with
      | [] => mT T N sc i b
      | _ => mT T N sc i (.BoolOp .And (b :: rest) p)) = true) (k : ∀ e, mT T N sc i e = true → PT X e (rdT Y W (tv T.P C i)) ∧ (isBO e = true → PW X e (rdT Y W (tv T.P C i)))) : PW X (.BoolOp .And (b :: rest) p) (rdT Y W (tv T.P C i)) := by
  cases rest with
  | nil => exact pw_and1 (k _ h).1
  | cons r rs => exact (k _ h).2 rfl
theorem tOr' {rest : List Expr} {b : Expr} {p : Pos} {i : Te} (h : (match rest with
      | [] => mT T N sc i b
      | _ => mT T N sc i (.BoolOp .Or (b :: rest) p)) = true) (k : ∀ e, mT T N sc i e = true → PT X e (rdT Y W (tv T.P C i)) ∧ (isBO e = true → PW X e (rdT Y W (tv T.P C i)))) : PW X (.BoolOp .Or (b :: rest) p) (rdT Y W (tv T.P C i)) := by
  cases rest with
  | nil => exact pw_or1 (k _ h).1
  | cons r rs => exact (k _ h).2 rfl
end

section
variable {T : Tab} {Y : Ctx} {C : Nat → List MV → MH → R MV} {CX : CXT} {lv : Nat} {N : List Str}
mutual
theorem sE : ∀ (i : Ex) {W : Wish} {inB : Bool} {sc : Scope} {X : Cx} {e : Expr}, Good T Y W C CX lv inB N sc X → mE T N sc i e = true → PE X e (rdE Y W (ev T.P C i))
  | .var i, W, inB, sc, X, e, g, h => by
    unfold mE at h
    split at h
    · simp only [Bool.and_eq_true, decide_eq_true_eq] at h
      exact c_var g h.1.1 h.1.2 h.2
    · cases h
  | .non, W, inB, sc, X, e, g, h => by
    unfold mE at h
    split at h
    · exact c_const pe_non (fun _ _ => by simp only [ev]) fun _ _ _ => .non
    · cases h
  | .bl b, W, inB, sc, X, e, g, h => by
    unfold mE at h
    split at h
    · rw [beq_iff_eq] at h
      subst h
      exact c_const pe_bl (fun _ _ => by simp only [ev]) fun _ _ _ => .bl
    · cases h
  | .int b, W, inB, sc, X, e, g, h => by
    unfold mE at h
    split at h
    · have h := of_decide_eq_true h
      subst h
      exact c_const pe_int (fun _ _ => by simp only [ev]) fun _ _ _ => .int
    · cases h
  | .str s, W, inB, sc, X, e, g, h => by
    unfold mE at h
    split at h
    · simp only [Bool.and_eq_true, decide_eq_true_eq] at h
      obtain ⟨h1, h2⟩ := h
      subst h1
      exact c_const pe_str (fun _ _ => by simp only [ev]) fun _ _ _ => .str (txB_ok h2)
    · cases h
  | .gl i, W, inB, sc, X, e, g, h => by
    unfold mE at h
    split at h
    · simp only [Bool.and_eq_true, decide_eq_true_eq, Bool.not_eq_true'] at h
      exact c_gl g h.1.1.1 h.1.1.2 h.1.2 h.2
    · cases h
  | .bin op a b, W, inB, sc, X, e, g, h => by
    unfold mE at h
    split at h
    · simp only [Bool.and_eq_true, decide_eq_true_eq] at h
      obtain ⟨⟨h1, h2⟩, h3⟩ := h
      subst h1
      exact c_bin g op (sE a g h2) (sE b g h3)
    · cases h
  | .neg a, W, inB, sc, X, e, g, h => by
    unfold mE at h
    split at h
    · exact c_neg g (sE a g h)
    · cases h
  | .not_ a, W, inB, sc, X, e, g, h => by
    unfold mE at h
    split at h
    · exact c_not g (sE a g h)
    · cases h
  | .cmp op a b, W, inB, sc, X, e, g, h => by
    unfold mE at h
    split at h
    · simp only [Bool.and_eq_true, decide_eq_true_eq, Bool.not_eq_true'] at h
      obtain ⟨⟨⟨h1, h2⟩, h3⟩, h4⟩ := h
      subst h1
      exact c_cmp g op (sE a g h3) (sE b g h4) h2
    · cases h
  | .isN a, W, inB, sc, X, e, g, h => by
    unfold mE at h
    split at h
    · exact c_isN (sE a g h)
    · cases h
  | .isNt a, W, inB, sc, X, e, g, h => by
    unfold mE at h
    split at h
    · exact c_isNt (sE a g h)
    · cases h
  | .ch o1 o2 a b c, W, inB, sc, X, e, g, h => by
    unfold mE at h
    split at h
    · simp only [Bool.and_eq_true, decide_eq_true_eq, Bool.not_eq_true'] at h
      obtain ⟨⟨⟨⟨⟨h1, h2⟩, h3⟩, h4⟩, h5⟩, h6⟩ := h
      subst h1 h2
      exact c_ch g o1 o2 (sE a g h4) (sE b g h5) (sE c g h6) h3
    · cases h
  | .and_ a b, W, inB, sc, X, e, g, h => by
    unfold mE at h
    split at h
    · rw [Bool.and_eq_true] at h
      exact c_and g (sE a g h.1) (boolAnd h.2 fun e h => sE b g h)
    · cases h
  | .or_ a b, W, inB, sc, X, e, g, h => by
    unfold mE at h
    split at h
    · rw [Bool.and_eq_true] at h
      exact c_or g (sE a g h.1) (boolOr h.2 fun e h => sE b g h)
    · cases h
  | .ife c a b, W, inB, sc, X, e, g, h => by
    unfold mE at h
    split at h
    · simp only [Bool.and_eq_true] at h
      exact c_ife (sT c g h.1.1).1 (sE a g h.1.2) (sE b g h.2)
    · cases h
  | .att a f, W, inB, sc, X, e, g, h => by
    unfold mE at h
    split at h
    · simp only [Bool.and_eq_true, decide_eq_true_eq] at h
      exact c_att g h.1.1 (sE a g h.1.2) (noSup_base h.2)
    · cases h
  | .nev, W, inB, sc, X, e, g, h => ⟨fun pins s σ H Q I q => by
    obtain ⟨f, ms, h, r, sr, q⟩ := q
    unfold ev at q
    exact q.elim⟩
  | .sub a i, W, inB, sc, X, e, g, h => by
    unfold mE at h
    split at h
    · simp only [Bool.and_eq_true, Bool.not_eq_true'] at h
      exact c_sub g (sE a g h.1.1) (sE i g h.1.2) h.2
    · cases h
  | .sl a lo hi, W, inB, sc, X, e, g, h => by
    unfold mE at h
    split at h
    · simp only [Bool.and_eq_true] at h
      exact c_sl g (sE a g h.1.1) (sO lo g h.1.2) (sO hi g h.2)
    · cases h
  | .rev a, W, inB, sc, X, e, g, h => by
    unfold mE at h
    split at h
    · exact c_rev g (sE a g h)
    · cases h
  | .tup es, W, inB, sc, X, e, g, h => by
    unfold mE at h
    split at h
    · exact c_tup (sA es g h)
    · cases h
  | .lst es, W, inB, sc, X, e, g, h => by
    unfold mE at h
    split at h
    · exact c_lst (sA es g h)
    · cases h
  | .dct es, W, inB, sc, X, e, g, h => by
    unfold mE at h
    split at h
    · rename_i ks vs p
      rw [Bool.and_eq_true, decide_eq_true_eq] at h
      obtain ⟨h1, h2⟩ := h
      cases es with
      | nil =>
        unfold mDs at h1
        rw [Bool.and_eq_true, List.isEmpty_iff, List.isEmpty_iff] at h1
        refine (c_dct0 (C := C) (T := T) (Y := Y) (W := W) h1.1 h1.2).conv fun σ H Q q => ?_
        unfold ev at q
        exact q
      | cons k r =>
        obtain ⟨q1, q2, q3, q4⟩ := sD (p := p) (.cons k r) g h1
        exact c_dct g q1 q2 q3 q4 (fun z => by subst z; unfold mDs at h1; cases r <;> cases h1) h2
    · cases h
  | .call f es ks kn sh, W, inB, sc, X, e, g, h => by
    unfold mE at h
    split at h
    · rename_i x px args kws pp
      simp only [Bool.and_eq_true, decide_eq_true_eq, Bool.not_eq_true'] at h
      obtain ⟨⟨⟨⟨⟨⟨⟨h1, h2⟩, h3⟩, h4⟩, h5⟩, h6⟩, h7⟩, hh⟩ := h
      obtain ⟨l1, l2⟩ := mEs_len h5
      obtain ⟨k1, k2, k3⟩ := mKs_len h6
      cases args with
      | nil =>
        cases es with
        | nil =>
          refine (c_call0 g hh h1 h2 h3 h4 (sK ks g h6) k2 k3 h7 (fun ms h l h' e => by rw [evs_len e, k1])).conv fun σ H Q q => ?_
          unfold evs at q
          exact q
        | cons _ _ => unfold mEs at h5; cases h5
      | cons a as => exact c_call g hh h1 h2 h3 h4 (sA es g h5) (sK ks g h6) l2 k2 k3 h7 (fun ms h l h' e => by rw [evs_len e, l1]) (fun ms h l h' e => by rw [evs_len e, k1])
    · cases h
  | .bif b es, W, inB, sc, X, e, g, h => by
    unfold mE at h
    split at h
    · simp only [Bool.and_eq_true, decide_eq_true_eq, Bool.or_eq_true, Bool.not_eq_true'] at h
      exact c_bif g b h.2 h.1.1.1 h.1.1.2 (sA es g h.1.2) (mEs_len h.1.2).2
    · cases h
  | .isi a t, W, inB, sc, X, e, g, h => by
    unfold mE at h
    split at h
    · simp only [Bool.and_eq_true, decide_eq_true_eq, Bool.not_eq_true'] at h
      obtain ⟨⟨⟨⟨⟨h1, h2⟩, h3⟩, h4⟩, h6⟩, h5⟩ := h
      split at h5
      · simp only [Bool.and_eq_true, decide_eq_true_eq, Bool.not_eq_true'] at h5
        exact c_isiO g h5.1.2 h1 h2 h5.1.1 h6 h5.2 (sE a g h3) h4
      · rw [Bool.and_eq_true, decide_eq_true_eq] at h5
        obtain ⟨S, et⟩ := Option.isSome_iff_exists.mp h5.2
        exact c_isi g et h1 h2 h5.1 h6 (sE a g h3) h4
    · cases h
  | .met m o es ks kn sh, W, inB, sc, X, e, g, h => by
    unfold mE at h
    split at h
    · rename_i v0 x0 ap0 args kws p0
      split at h
      · simp only [Bool.and_eq_true, decide_eq_true_eq] at h
        obtain ⟨⟨⟨⟨⟨⟨⟨h0, h1⟩, h2⟩, h3⟩, h4⟩, h5⟩, h6⟩, h7⟩ := h
        rename_i e1
        subst h1
        cases ks with
        | nil =>
          refine (c_bm (sh := sh) g e1 (sE o g h2) (sA es g h4) h3 (mEs_len h4).2 (beq_iff_eq.mpr h5) h6).conv fun σ H Q q => ?_
          unfold ev at q
          exact q
        | cons _ _ => cases h7
      · simp only [Bool.and_eq_true, decide_eq_true_eq] at h
        obtain ⟨⟨⟨⟨⟨h0, h1⟩, h2⟩, h3⟩, h5⟩, h7⟩ := h
        rename_i e1
        subst h0 h1
        cases es with
        | cons _ _ => cases h7
        | nil =>
          cases ks with
          | cons _ _ => cases h7
          | nil =>
            refine (c_bm0 (sh := sh) g e1 (sE o g h2) h3 (beq_iff_eq.mpr h5)).conv fun σ H Q q => ?_
            obtain ⟨f, ms, h, r, sr, q⟩ := q
            unfold ev at q
            simp only [evs_nil] at q
            exact ⟨f, ms, h, r, sr, q⟩
      · cases h
      · simp only [Bool.and_eq_true, decide_eq_true_eq, Bool.not_eq_true'] at h
        rename_i kws args _ _ _ _
        obtain ⟨⟨⟨⟨⟨⟨⟨⟨⟨⟨h1, h2⟩, h3⟩, h4⟩, h5⟩, h6⟩, h7⟩, h8⟩, h9⟩, h10⟩, hh⟩ := h
        obtain ⟨l1, l2⟩ := mEs_len h5
        obtain ⟨k1, k2, k3⟩ := mKs_len h6
        cases args with
        | nil =>
          cases es with
          | nil =>
            refine (c_own0 (sh := sh) g hh h1 h2 (sE o g h3) (sK ks g h6) h4 k2 k3 h7 (beq_iff_eq.mpr h8) h10 (fun ms h l h' e => by rw [evs_len e, k1])).conv fun σ H Q q => ?_
            obtain ⟨f, ms, h, r, sr, q⟩ := q
            unfold ev at q
            simp only [evs_nil] at q
            exact ⟨f, ms, h, r, sr, q⟩
          | cons _ _ => unfold mEs at h5; cases h5
        | cons a as =>
          refine (c_own (sh := sh) g hh h1 h2 (sE o g h3) (sA es g h5) (sK ks g h6) h4 l2 k2 k3 h7 (beq_iff_eq.mpr h8) h9 h10 (fun ms h l h' e => by rw [evs_len e, l1]) (fun ms h l h' e => by rw [evs_len e, k1])).conv fun σ H Q q => ?_
          unfold ev at q
          exact q
    · cases h
  | .mk c es ks kn sh, W, inB, sc, X, e, g, h => by
    unfold mE at h
    split at h
    · rename_i x px args kws pp
      simp only [Bool.and_eq_true, decide_eq_true_eq, Bool.not_eq_true'] at h
      obtain ⟨⟨⟨⟨⟨⟨⟨h1, h2⟩, h3⟩, h4⟩, h5⟩, h6⟩, h7⟩, hh⟩ := h
      obtain ⟨l1, l2⟩ := mEs_len h5
      obtain ⟨k1, k2, k3⟩ := mKs_len h6
      cases args with
      | nil =>
        cases es with
        | nil =>
          refine (c_mk0 g hh h1 h2 h3 h4 (sK ks g h6) k2 k3 h7 (fun ms h l h' e => by rw [evs_len e, k1])).conv fun σ H Q q => ?_
          obtain ⟨f, ms, h, r, sr, q⟩ := q
          unfold ev at q
          simp only [evs_nil] at q
          exact ⟨f, ms, h, r, sr, q⟩
        | cons _ _ => unfold mEs at h5; cases h5
      | cons a as =>
        refine (c_mk g hh h1 h2 h3 h4 (sA es g h5) (sK ks g h6) l2 k2 k3 h7 (fun ms h l h' e => by rw [evs_len e, l1]) (fun ms h l h' e => by rw [evs_len e, k1])).conv fun σ H Q q => ?_
        unfold ev at q
        exact q
    · cases h
  | .lc elt own tg it c, W, inB, sc, X, e, g, h => by
    unfold mE at h
    split at h
    · rename_i x t i ifs scope pp
      simp only [Bool.and_eq_true, Bool.not_eq_true', Bool.or_eq_true] at h
      obtain ⟨⟨⟨⟨⟨⟨⟨⟨h0, h1⟩, h2⟩, h3⟩, h4⟩, h5⟩, h6⟩, h7⟩, hL⟩ := h
      have how : (((own.map fun k => N[k]?).filterMap id).zip own).map (·.2) = own := by
        refine List.map_snd_zip ?_
        rw [fm_len h0, List.length_map]
        exact Nat.le_refl _
      have hj : ∀ j ∈ tgS tg, j ∈ (((own.map fun k => N[k]?).filterMap id).zip own).map (·.2) := fun j hj => by
        rw [how]
        have := List.all_eq_true.mp h4 j hj
        exact List.contains_iff_mem.mp this
      have hl : PE X (.ListComp x [⟨t, i, ifs, 0⟩] scope pp) (rdE Y W (lcM (itv T.P C it) (asg T.P C tg) (ct T.P C c) (ev T.P C elt) ((((own.map fun k => N[k]?).filterMap id).zip own).map (·.2)))) := by
        cases hh : T.hot with
        | false => exact c_lc (p := pp) (o := tgS tg) g hh (sI it g hh h2) (blkOk_by h1) (fun X' g' => sG tg g' h3) (fun X' g' => sC c g' h6) (fun X' g' => sE elt g' h5) hj h7
        | true => exact c_lcH (p := pp) (o := tgS tg) g hh (sIH it g hh h2) (blkOk_by h1) (fun X' g' => sG tg g' h3) (fun X' g' => sC c g' h6) (fun X' g' => sE elt g' h5) hj h7
      rw [how] at hl
      exact hl
    · cases h
  | .dm1 k o a, W, inB, sc, X, e, g, h => by
    unfold mE at h
    split at h
    · simp only [Bool.and_eq_true, decide_eq_true_eq, Bool.not_eq_true'] at h
      obtain ⟨⟨⟨⟨⟨h1, h2⟩, h3⟩, h4⟩, h5⟩, h6⟩ := h
      refine (c_dm1 g h1 (sE o g h2) (sE a g h4) h3 h5 (beq_iff_eq.mpr h6)).conv fun σ H Q q => ?_
      unfold ev at q
      exact q
    · cases h
  | .dm2 k o a b, W, inB, sc, X, e, g, h => by
    unfold mE at h
    split at h
    · simp only [Bool.and_eq_true, decide_eq_true_eq, Bool.not_eq_true'] at h
      obtain ⟨⟨⟨⟨⟨⟨⟨h1, h2⟩, h3⟩, h4⟩, h5⟩, h6⟩, h7⟩, h8⟩ := h
      refine (c_dm2 g h1 (sE o g h2) (sE a g h4) (sE b g h6) h3 h5 h7 (beq_iff_eq.mpr h8)).conv fun σ H Q q => ?_
      unfold ev at q
      exact q
    · cases h
  | .dsT o a b, W, inB, sc, X, e, g, h => by
    unfold mE at h
    split at h
    · simp only [Bool.and_eq_true, decide_eq_true_eq, Bool.not_eq_true'] at h
      obtain ⟨⟨⟨⟨⟨⟨⟨h1, h2⟩, h3⟩, h4⟩, h5⟩, h6⟩, h7⟩, h8⟩ := h
      refine (c_dsT g h1 (sE o g h2) (sE a g h4) (sE b g h6) h3 h5 h7 (beq_iff_eq.mpr h8)).conv fun σ H Q q => ?_
      unfold ev at q
      exact q
    · cases h
  | .sortk o, W, inB, sc, X, e, g, h => by
    unfold mE at h
    split at h
    · simp only [Bool.and_eq_true, decide_eq_true_eq, Bool.not_eq_true'] at h
      obtain ⟨⟨⟨⟨⟨⟨h1, h2⟩, h3⟩, h4⟩, h5⟩, h6⟩, hh⟩ := h
      refine (c_sortk g hh h1 h2 h3 (sE o g h4) h5 (beq_iff_eq.mpr h6)).conv fun σ H Q q => ?_
      unfold ev at q
      exact q
    · cases h
  | .lenO m o, W, inB, sc, X, e, g, h => by
    unfold mE at h
    split at h
    · simp only [Bool.and_eq_true, decide_eq_true_eq, Bool.not_eq_true'] at h
      obtain ⟨⟨⟨⟨⟨⟨⟨h1, h2⟩, h3⟩, h4⟩, h5⟩, h6⟩, h7⟩, hh⟩ := h
      refine (c_lenO g hh h1 h2 h5 h6 h7 (sE o g h3) h4).conv fun σ H Q q => ?_
      unfold ev at q
      exact q
    · cases h
  | .lci elt own tg pe c, W, inB, sc, X, e, g, h => by
    unfold mE at h
    split at h
    · rename_i x t v y ap p2 ifs scope pp
      simp only [Bool.and_eq_true, decide_eq_true_eq, Bool.not_eq_true'] at h
      obtain ⟨⟨⟨⟨⟨⟨⟨⟨⟨⟨h1, h2⟩, h3⟩, h4⟩, h5⟩, h0, h6⟩, h7⟩, h8⟩, h9⟩, hx⟩, hh⟩ := h
      have how : (((own.map fun k => N[k]?).filterMap id).zip own).map (·.2) = own := by
        refine List.map_snd_zip ?_
        rw [fm_len h0, List.length_map]
        exact Nat.le_refl _
      have hl := c_lci (p := pp) (pe := pe) (o := tgS tg) g hh (sE pe g h2) h3 (beq_iff_eq.mpr h4) h5 h1 (blkOk_by h6) (fun X' g' => sG tg g' h7) (fun X' g' => sC c g' h9) (fun X' g' => sE elt g' hx) (fun j hj => by
        rw [how]
        have := List.all_eq_true.mp h8 j hj
        exact List.contains_iff_mem.mp this)
      rw [how] at hl
      refine hl.conv fun σ H Q q => ?_
      unfold ev at q
      exact q
    · cases h
  | .sci elt own tg pe c, W, inB, sc, X, e, g, h => by
    unfold mE at h
    split at h
    · rename_i z pz x t v y ap p2 ifs scope p3 pp
      simp only [Bool.and_eq_true, decide_eq_true_eq, Bool.not_eq_true'] at h
      obtain ⟨⟨⟨⟨⟨⟨⟨⟨⟨⟨⟨⟨hz1, hz2⟩, h1⟩, h2⟩, h3⟩, h4⟩, h5⟩, h0, h6⟩, h7⟩, h8⟩, h9⟩, hx⟩, hh⟩ := h
      have how : (((own.map fun k => N[k]?).filterMap id).zip own).map (·.2) = own := by
        refine List.map_snd_zip ?_
        rw [fm_len h0, List.length_map]
        exact Nat.le_refl _
      have hl := c_sci (p := pp) (p3 := p3) (p4 := pz) (pe := pe) (o := tgS tg) g hh (sE pe g h2) h3 (beq_iff_eq.mpr h4) h5 h1 hz1 hz2 (blkOk_by h6) (fun X' g' => sG tg g' h7) (fun X' g' => sC c g' h9) (fun X' g' => sE elt g' hx) (fun j hj => by
        rw [how]
        have := List.all_eq_true.mp h8 j hj
        exact List.contains_iff_mem.mp this)
      rw [how] at hl
      refine hl.conv fun σ H Q q => ?_
      unfold ev at q
      exact q
    · cases h
  | .dci kx vx own tg pe c, W, inB, sc, X, e, g, h => by
    unfold mE at h
    split at h
    · rename_i x w t v y ap p2 ifs scope pp
      simp only [Bool.and_eq_true, decide_eq_true_eq, Bool.not_eq_true'] at h
      obtain ⟨⟨⟨⟨⟨⟨⟨⟨⟨⟨⟨h1, h2⟩, h3⟩, h4⟩, h5⟩, h0, h6⟩, h7⟩, h8⟩, h9⟩, hx⟩, hy⟩, hh⟩ := h
      have how : (((own.map fun k => N[k]?).filterMap id).zip own).map (·.2) = own := by
        refine List.map_snd_zip ?_
        rw [fm_len h0, List.length_map]
        exact Nat.le_refl _
      have hl := c_dci (p := pp) (pe := pe) (o := tgS tg) g hh (sE pe g h2) h3 (beq_iff_eq.mpr h4) h5 h1 (blkOk_by h6) (fun X' g' => sG tg g' h7) (fun X' g' => sC c g' h9) (fun X' g' => sE kx g' hx) (fun X' g' => sE vx g' hy) (fun j hj => by
        rw [how]
        have := List.all_eq_true.mp h8 j hj
        exact List.contains_iff_mem.mp this)
      rw [how] at hl
      refine hl.conv fun σ H Q q => ?_
      unfold ev at q
      exact q
    · cases h
  | .dcT kx vx own tg pe c, W, inB, sc, X, e, g, h => by
    unfold mE at h
    split at h
    · rename_i x w t v y ap p2 ifs scope pp
      simp only [Bool.and_eq_true, decide_eq_true_eq, Bool.not_eq_true'] at h
      obtain ⟨⟨⟨⟨⟨⟨⟨⟨⟨⟨⟨h1, h2⟩, h3⟩, h4⟩, h5⟩, h0, h6⟩, h7⟩, h8⟩, h9⟩, hx⟩, hy⟩, hh⟩ := h
      have how : (((own.map fun k => N[k]?).filterMap id).zip own).map (·.2) = own := by
        refine List.map_snd_zip ?_
        rw [fm_len h0, List.length_map]
        exact Nat.le_refl _
      have hl := c_dcT (p := pp) (pe := pe) (o := tgS tg) g hh (sE pe g h2) h3 (beq_iff_eq.mpr h4) h5 h1 (blkOk_by h6) (fun X' g' => sG tg g' h7) (fun X' g' => sC c g' h9) (fun X' g' => sE kx g' hx) (fun X' g' => sE vx g' hy) (fun j hj => by
        rw [how]
        have := List.all_eq_true.mp h8 j hj
        exact List.contains_iff_mem.mp this)
      rw [how] at hl
      refine hl.conv fun σ H Q q => ?_
      unfold ev at q
      exact q
    · cases h
  | .fst _, W, inB, sc, X, e, g, h => by
    unfold mE at h
    cases h
  | .isX i d, W, inB, sc, X, e, g, h => by
    unfold mE at h
    split at h
    · simp only [Bool.and_eq_true, decide_eq_true_eq, Bool.not_eq_true'] at h
      obtain ⟨⟨⟨⟨⟨⟨⟨⟨⟨h1, h2⟩, h3⟩, h4⟩, h5⟩, h6⟩, h7⟩, h8⟩, h9⟩, h10⟩ := h
      refine (c_isX g h1 h2 h3 h4 h6 h7 h8 h10).conv fun σ H Q q => ?_
      unfold ev at q
      exact q
    · cases h
  | .attX i f, W, inB, sc, X, e, g, h => by
    unfold mE at h
    split at h
    · rw [Bool.and_false] at h
      cases h
    · cases h
  | .callX f i, W, inB, sc, X, e, g, h => by
    unfold mE at h
    split at h
    · simp only [Bool.and_eq_true, decide_eq_true_eq, Bool.not_eq_true'] at h
      obtain ⟨⟨⟨⟨⟨⟨⟨h1, h2⟩, h3⟩, h4⟩, h5⟩, h6⟩, h7⟩, h8⟩ := h
      refine (c_callX g h1 h2 h3 h4 h5 h6 h8).conv fun σ H Q q => ?_
      unfold ev at q
      exact q
    · cases h
theorem sT : ∀ (i : Te) {W : Wish} {inB : Bool} {sc : Scope} {X : Cx} {e : Expr}, Good T Y W C CX lv inB N sc X → mT T N sc i e = true → PT X e (rdT Y W (tv T.P C i)) ∧ (isBO e = true → PW X e (rdT Y W (tv T.P C i)))
  | .vl i, W, inB, sc, X, e, g, h => by
    unfold mT at h
    rw [Bool.and_eq_true, Bool.or_eq_true] at h
    obtain ⟨h1, h2⟩ := h
    have nb : isBO e = true → False := fun z => by
      cases e <;> first | (cases z; done) | skip
      rcases h2 with h2 | h2 <;> cases h2
    refine ⟨?_, fun z => (nb z).elim⟩
    rcases h2 with h2 | h2
    · exact t_val g (sE i g h1) h2
    · cases e <;> first | (cases h2; done) | skip
      cases i with
      | cmp op a b =>
        unfold mE at h1
        split at h1
        · rename_i _ l o r p e0
          cases e0
          simp only [Bool.and_eq_true, decide_eq_true_eq, Bool.not_eq_true'] at h1
          obtain ⟨⟨⟨q1, q2⟩, q3⟩, q4⟩ := h1
          subst q1
          exact t_cmp g op (sE a g q3) (sE b g q4) q2
        · cases h1
      | isN a =>
        unfold mE at h1
        split at h1
        · rename_i _ l _ _ _ e0
          cases e0
          exact t_isN (sE a g h1)
        · cases h1
      | isNt a =>
        unfold mE at h1
        split at h1
        · rename_i _ l _ _ _ e0
          cases e0
          exact t_isNt (sE a g h1)
        · cases h1
      | ch o1 o2 a b c =>
        unfold mE at h1
        split at h1
        · rename_i _ l p1 p2 m r p e0
          cases e0
          simp only [Bool.and_eq_true, decide_eq_true_eq, Bool.not_eq_true'] at h1
          obtain ⟨⟨⟨⟨⟨q1, q2⟩, q3⟩, q4⟩, q5⟩, q6⟩ := h1
          subst q1 q2
          exact t_ch g o1 o2 (sE a g q4) (sE b g q5) (sE c g q6) q3
        · cases h1
      | nev => exact ⟨fun pins s σ H Q I q => by
          obtain ⟨f, ms, h, r, sr, q⟩ := q
          unfold tv ev at q
          exact q.elim⟩
      | _ => unfold mE at h1; cases h1
  | .not_ t, W, inB, sc, X, e, g, h => by
    unfold mT at h
    split at h
    · exact ⟨t_not (sT t g h).1, fun z => by cases z⟩
    · cases h
  | .and_ t u, W, inB, sc, X, e, g, h => by
    unfold mT at h
    split at h
    · rw [Bool.and_eq_true] at h
      have := t_and (sT t g h.1).1 (tAnd' h.2 fun e h => sT u g h)
      exact ⟨this.pt, fun _ => this⟩
    · cases h
  | .or_ t u, W, inB, sc, X, e, g, h => by
    unfold mT at h
    split at h
    · rw [Bool.and_eq_true] at h
      have := t_or (sT t g h.1).1 (tOr' h.2 fun e h => sT u g h)
      exact ⟨this.pt, fun _ => this⟩
    · cases h
theorem sA : ∀ (i : Es) {W : Wish} {inB : Bool} {sc : Scope} {X : Cx} {e : List Expr}, Good T Y W C CX lv inB N sc X → mEs T N sc i e = true → PA X e (rdA Y W (evs T.P C i))
  | .nil, W, inB, sc, X, e, g, h => by
    unfold mEs at h
    cases e with
    | nil => exact a_nil
    | cons _ _ => cases h
  | .cons i r, W, inB, sc, X, e, g, h => by
    cases e with
    | nil => unfold mEs at h; cases h
    | cons x xs =>
      unfold mEs at h
      simp only [Bool.and_eq_true, Bool.not_eq_true'] at h
      exact a_cons (sE i g h.1.1) (sA r g h.2) h.1.2
theorem sD : ∀ (i : Es) {W : Wish} {inB : Bool} {sc : Scope} {X : Cx} {ks : List (Option Expr)} {vs : List Expr} {p : Pos}, Good T Y W C CX lv inB N sc X → mDs T N sc i ks vs = true → i.even = true ∧ PPs X p ks vs (trsOf T.P C Y W i) ∧ ks.all (·.isSome) = true ∧ ks.length = vs.length
  | .nil, W, inB, sc, X, ks, vs, p, g, h => by
    unfold mDs at h
    rw [Bool.and_eq_true, List.isEmpty_iff, List.isEmpty_iff] at h
    obtain ⟨rfl, rfl⟩ := h
    exact ⟨rfl, pps_nil, rfl, rfl⟩
  | .cons k .nil, W, inB, sc, X, ks, vs, p, g, h => by
    unfold mDs at h
    split at h
    · rename_i e; cases e
    · cases h
  | .cons k (.cons v r), W, inB, sc, X, ks, vs, p, g, h => by
    unfold mDs at h
    split at h
    · rename_i x kr v' t e
      cases e
      split at h
      · rename_i y vr
        simp only [Bool.and_eq_true] at h
        obtain ⟨q1, q2, q3, q4⟩ := sD (p := p) r g h.2
        refine ⟨q1, pps_cons (sE k g h.1.1) (sE v g h.1.2) q2, ?_, by rw [List.length_cons, List.length_cons, q4]⟩
        rw [List.all_cons, q3]
        rfl
      · cases h
    · cases h
theorem sK : ∀ (i : Es) {W : Wish} {inB : Bool} {sc : Scope} {X : Cx} {kn : List Nat} {e : List Keyword}, Good T Y W C CX lv inB N sc X → mKs T N sc i kn e = true → PK X e (rdA Y W (evs T.P C i))
  | .nil, W, inB, sc, X, kn, e, g, h => by
    unfold mKs at h
    cases e with
    | nil => exact k_nil
    | cons _ _ => simp at h
  | .cons i r, W, inB, sc, X, kn, e, g, h => by
    unfold mKs at h
    cases kn with
    | nil => cases h
    | cons k kr =>
      cases e with
      | nil => cases h
      | cons q qs =>
        obtain ⟨nm, x, kp⟩ := q
        cases nm with
        | none => cases h
        | some y =>
          simp only [Bool.and_eq_true, decide_eq_true_eq] at h
          exact k_cons (sE i g h.1.2) (sK r g h.2)
theorem sO : ∀ (i : Eo) {W : Wish} {inB : Bool} {sc : Scope} {X : Cx} {e : Option Expr}, Good T Y W C CX lv inB N sc X → mO T N sc i e = true → PO X e (rdO Y W (eo T.P C i))
  | .no, W, inB, sc, X, e, g, h => by
    unfold mO at h
    cases e with
    | none => exact o_no
    | some _ => cases h
  | .so i, W, inB, sc, X, e, g, h => by
    unfold mO at h
    cases e with
    | none => cases h
    | some x => exact o_so (sE i g h)
theorem sC : ∀ (i : Tc) {W : Wish} {inB : Bool} {sc : Scope} {X : Cx} {e : List Expr}, Good T Y W C CX lv inB N sc X → mC T N sc i e = true → PTs X e (rdT Y W (ct T.P C i))
  | .no, W, inB, sc, X, e, g, h => by
    unfold mC at h
    cases e with
    | nil => exact ts_no
    | cons _ _ => cases h
  | .so i, W, inB, sc, X, e, g, h => by
    unfold mC at h
    split at h
    · exact pts_one (sT i g h).1
    · cases h
theorem sG : ∀ (i : Tg) {W : Wish} {inB : Bool} {sc : Scope} {X : Cx} {e : Expr}, Good T Y W C CX lv inB N sc X → mG T N inB sc i e = true → PG X e (rdG Y W (asg T.P C i) (tgS i))
  | .nm i, W, inB, sc, X, e, g, h => by
    unfold mG at h
    split at h
    · rw [Bool.and_eq_true] at h
      exact g_nm g h.1 h.2
    · cases h
  | .tup l, W, inB, sc, X, e, g, h => by
    unfold mG at h
    split at h
    · have := mGs_len h
      exact g_tup g (sGs l g h) this.2 fun l' ms h σ' h' e => by rw [asgs_len e, this.1]
    · cases h
  | .stB i j, W, inB, sc, X, e, g, h => by
    unfold mG at h
    split at h
    · simp only [Bool.and_eq_true, decide_eq_true_eq, Bool.not_eq_true'] at h
      obtain ⟨⟨⟨⟨⟨h1, h2⟩, h3⟩, h4⟩, h5⟩, h6⟩ := h
      refine (g_stB (W := W) g h6 h1 h2 h3 h4 h5).conv fun v σ H Q q => ?_
      obtain ⟨f, ms, h, a, rl, sr, rv, q⟩ := q
      refine ⟨f, ms, h, a, rl, sr, rv, ?_⟩
      unfold asg at q
      cases a <;> exact q
    · cases h
  | .att o f, W, inB, sc, X, e, g, h => by
    unfold mG at h
    split at h
    · simp only [Bool.and_eq_true, decide_eq_true_eq] at h
      exact g_att g h.1.1 (sE o g h.1.2)
    · cases h
  | .sub o i, W, inB, sc, X, e, g, h => by
    unfold mG at h
    split at h
    · simp only [Bool.and_eq_true, Bool.not_eq_true'] at h
      exact g_sub g (sE o g h.1.1) (sE i g h.1.2) h.2
    · cases h
theorem sGs : ∀ (i : Tgs) {W : Wish} {inB : Bool} {sc : Scope} {X : Cx} {e : List Expr}, Good T Y W C CX lv inB N sc X → mGs T N inB sc i e = true → PGs X e (rdGs Y (asgs T.P C i) (tgSs i))
  | .nil, W, inB, sc, X, e, g, h => by
    unfold mGs at h
    cases e with
    | nil =>
      refine (gs_nil (Y := Y)).conv fun v σ H Q q => ?_
      obtain ⟨f, ms, h, l, r, sr, rv, q⟩ := q
      refine ⟨f, ms, h, l, r, sr, rv, ?_⟩
      unfold asgs at q
      cases l <;> exact q
    | cons _ _ => cases h
  | .cons i r, W, inB, sc, X, e, g, h => by
    cases e with
    | nil => unfold mGs at h; cases h
    | cons x xs =>
      unfold mGs at h
      simp only [Bool.and_eq_true, Bool.not_eq_true'] at h
      refine (gs_cons (sG i g h.1.1) (sGs r g h.2) h.1.2).conv fun v σ H Q q => ?_
      obtain ⟨f, ms, h, l, r, sr, rv, q⟩ := q
      refine ⟨f, ms, h, l, r, sr, rv, ?_⟩
      unfold asgs at q
      cases l <;> exact q
theorem sI : ∀ (i : Itx) {W : Wish} {inB : Bool} {sc : Scope} {X : Cx} {e t : Expr}, Good T Y W C CX lv inB N sc X → T.hot = false → mI T N sc i e t = true → PI X t e (rdI Y W (itv T.P C i))
  | .ex i, W, inB, sc, X, e, t, g, hh, h => by
    unfold mI at h
    rw [Bool.and_eq_true] at h
    exact i_ex g (sE i g h.1)
  | .exL i, W, inB, sc, X, e, t, g, hh, h => by
    unfold mI at h
    rw [hh, Bool.and_false] at h
    cases h
  | .rng i, W, inB, sc, X, e, t, g, hh, h => by
    unfold mI at h
    split at h
    · simp only [Bool.and_eq_true, decide_eq_true_eq, Bool.not_eq_true'] at h
      exact i_rng g h.1.1.1.1 h.1.1.1.2 (sE i g h.1.1.2) h.1.2
    · cases h
  | .rng2 i j, W, inB, sc, X, e, t, g, hh, h => by
    unfold mI at h
    split at h
    · simp only [Bool.and_eq_true, decide_eq_true_eq, Bool.not_eq_true'] at h
      obtain ⟨⟨⟨⟨⟨⟨h1, h2⟩, h3⟩, h4⟩, h5⟩, h6⟩, _⟩ := h
      exact i_rng2 g h1 h2 (sE i g h3) h4 (sE j g h5) h6
    · cases h
  | .zip i j, W, inB, sc, X, e, t, g, hh, h => by
    unfold mI at h
    split at h
    · simp only [Bool.and_eq_true, decide_eq_true_eq, Bool.not_eq_true'] at h
      obtain ⟨⟨⟨⟨⟨⟨⟨h1, h2⟩, h3⟩, h4⟩, h5⟩, h6⟩, h7⟩, _⟩ := h
      exact i_zip g h7 h1 h2 (sE i g h3) h4 (sE j g h5) h6
    · cases h
  | .enum i, W, inB, sc, X, e, t, g, hh, h => by
    unfold mI at h
    split at h
    · simp only [Bool.and_eq_true, decide_eq_true_eq, Bool.not_eq_true'] at h
      exact i_enum g h.1.2 h.1.1.1.1.1 h.1.1.1.1.2 (sE i g h.1.1.1.2) h.1.1.2
    · cases h
  | .keys _, W, inB, sc, X, e, t, g, hh, h => by unfold mI at h; cases h
  | .vals _, W, inB, sc, X, e, t, g, hh, h => by unfold mI at h; cases h
  | .items _, W, inB, sc, X, e, t, g, hh, h => by unfold mI at h; cases h
theorem sIH : ∀ (i : Itx) {W : Wish} {inB : Bool} {sc : Scope} {X : Cx} {e t : Expr}, Good T Y W C CX lv inB N sc X → T.hot = true → mI T N sc i e t = true → PIq (Y.ea, Y.eo) X t e (rdI Y W (itv T.P C i))
  | .ex i, W, inB, sc, X, e, t, g, hh, h => by
    unfold mI at h
    rw [hh, Bool.not_true, Bool.and_false] at h
    cases h
  | .exL i, W, inB, sc, X, e, t, g, hh, h => by
    unfold mI at h
    rw [Bool.and_eq_true] at h
    refine (i_exL g (sE i g h.1)).conv fun σ H R q => ?_
    unfold itv at q
    exact q
  | .rng i, W, inB, sc, X, e, t, g, hh, h => by
    unfold mI at h
    split at h
    · rw [hh, Bool.not_true, Bool.and_false] at h
      cases h
    · cases h
  | .rng2 i j, W, inB, sc, X, e, t, g, hh, h => by
    unfold mI at h
    split at h
    · rw [hh, Bool.not_true, Bool.and_false] at h
      cases h
    · cases h
  | .zip i j, W, inB, sc, X, e, t, g, hh, h => by
    unfold mI at h
    split at h
    · rw [hh, Bool.not_true, Bool.and_false] at h
      cases h
    · cases h
  | .enum i, W, inB, sc, X, e, t, g, hh, h => by
    unfold mI at h
    split at h
    · rw [hh, Bool.not_true, Bool.and_false] at h
      cases h
    · cases h
  | .keys _, W, inB, sc, X, e, t, g, hh, h => by unfold mI at h; cases h
  | .vals _, W, inB, sc, X, e, t, g, hh, h => by unfold mI at h; cases h
  | .items _, W, inB, sc, X, e, t, g, hh, h => by unfold mI at h; cases h
end
end
end DM
set_option Elab.async false
set_option linter.all false
set_option maxRecDepth 100000
set_option maxHeartbeats 4000000
/-! S13: statements, functions, the module. -/
namespace DM
open PySem L2 PyProof.Rows PySem.Spec
section
variable {C : Nat → List MV → MH → R MV} {CX : CXT} {lv : Nat} {N : List Str} {sc : Scope}
mutual
theorem sS : ∀ (i : St) {T : Tab} {Y : Ctx} {W : Wish} {X : Cx} {e : Stmt}, Good T Y W C CX lv false N sc X → PassesOwn (model X.prog X.w) X.A X.env X.xe → X.env.scope.kind = .function → X.stack = X.env :: X.outer → X.env.frame = some X.env.locals → mS T N sc i e = true → PS X e (rdS Y W (exec T.P C i))
  | .pass, T, Y, W, X, e, g, hp, hk, ks, kf, h => by
    unfold mS at h
    split at h
    · exact s_pass
    · cases h
  | .exp i, T, Y, W, X, e, g, hp, hk, ks, kf, h => by
    unfold mS at h
    split at h
    · simp only [Bool.and_eq_true, Bool.not_eq_true'] at h
      exact s_exp (sE i g h.1) h.2
    · cases h
  | .ret i, T, Y, W, X, e, g, hp, hk, ks, kf, h => by
    unfold mS at h
    split at h
    · exact s_ret (sE i g h)
    · cases h
  | .retN, T, Y, W, X, e, g, hp, hk, ks, kf, h => by
    unfold mS at h
    split at h
    · exact s_retN
    · cases h
  | .set tg i, T, Y, W, X, e, g, hp, hk, ks, kf, h => by
    unfold mS at h
    split at h
    · rename_i t v p
      simp only [Bool.and_eq_true, Bool.not_eq_true'] at h
      obtain ⟨⟨⟨h1, h2⟩, h3⟩, h4⟩ := h
      cases hc : isComp v with
      | false =>
        rw [hc] at h4
        exact s_set g (sE i g h1) (sG tg g h2) hc h4 h3
      | true =>
        rw [hc] at h4
        simp only [if_true] at h4
        split at h4
        · rename_i k elt own tg it c
          unfold mE at h1
          split at h1
          · rename_i x t2 i2 ifs scope pp
            unfold mG at h2
            split at h2
            · rename_i y py
              rw [Bool.and_eq_true] at h2
              simp only [Bool.and_eq_true, Bool.not_eq_true', Bool.or_eq_true] at h1
              obtain ⟨⟨⟨⟨⟨⟨⟨⟨q0, q1⟩, q2⟩, q3⟩, q4⟩, q5⟩, q6⟩, q7⟩, _⟩ := h1
              have how : (((own.map fun k => N[k]?).filterMap id).zip own).map (·.2) = own := by
                refine List.map_snd_zip ?_
                rw [fm_len q0, List.length_map]
                exact Nat.le_refl _
              have hj : ∀ j ∈ tgS tg, j ∈ (((own.map fun k => N[k]?).filterMap id).zip own).map (·.2) := fun j hj => by
                rw [how]
                have := List.all_eq_true.mp q4 j hj
                exact List.contains_iff_mem.mp this
              have hl : PS X (.Assign [.Name y py] (.ListComp x [⟨t2, i2, ifs, 0⟩] scope pp) p) (rdS Y W (setS (lcM (itv T.P C it) (asg T.P C tg) (ct T.P C c) (ev T.P C elt) ((((own.map fun k => N[k]?).filterMap id).zip own).map (·.2))) (setM k))) := by
                cases hh : T.hot with
                | false => exact s_setLc (p := pp) (pos := p) (o := tgS tg) (i := k) g hh h2.1 h4 (sI it g hh q2) (blkOk_by q1) (fun X' g' => sG tg g' q3) (fun X' g' => sC c g' q6) (fun X' g' => sE elt g' q5) hj q7 hk
                | true => exact s_setLcH (p := pp) (pos := p) (o := tgS tg) (i := k) g hh h2.1 h4 (sIH it g hh q2) (blkOk_by q1) (fun X' g' => sG tg g' q3) (fun X' g' => sC c g' q6) (fun X' g' => sE elt g' q5) hj q7 hk
              rw [how] at hl
              exact hl
            · cases h2
          · cases h1
        · unfold mG at h2
          split at h2
          · simp only [Bool.and_eq_true, decide_eq_true_eq] at h2
            exact s_setF g (sE i g h1) (g_att g h2.1.1 (sE _ g h2.1.2))
          · cases h2
        · cases h4
    · cases h
  | .par is es, T, Y, W, X, e, g, hp, hk, ks, kf, h => by
    unfold mS at h
    split at h
    · split at h
      · simp only [Bool.and_eq_true, Bool.not_eq_true'] at h
        exact s_par g h.2 h.1.1.1.1 h.1.1.1.2 (sA es g h.1.1.2) h.1.2 hk
      · cases h
    · split at h
      · simp only [Bool.and_eq_true, Bool.not_eq_true'] at h
        exact s_par3 g h.2 h.1.1.1.1.1 h.1.1.1.1.2 h.1.1.1.2 (sA es g h.1.1.2) h.1.2 hk
      · cases h
    · cases h
  | .aug i op v, T, Y, W, X, e, g, hp, hk, ks, kf, h => by
    unfold mS at h
    split at h
    · simp only [Bool.and_eq_true, decide_eq_true_eq] at h
      obtain ⟨⟨⟨⟨h1, h2⟩, h3⟩, h4⟩, h5⟩ := h
      subst h3
      exact s_aug g op h1 h2 h5 (sE v g h4)
    · cases h
  | .augA o f op k, T, Y, W, X, e, g, hp, hk, ks, kf, h => by
    unfold mS at h
    split at h
    · simp only [Bool.and_eq_true, decide_eq_true_eq] at h
      obtain ⟨⟨⟨h1, h2⟩, h3⟩, h4⟩ := h
      subst h2 h3
      exact s_augA g op h1 (sE o g h4)
    · cases h
  | .set2 t1 t2 i, T, Y, W, X, e, g, hp, hk, ks, kf, h => by
    unfold mS at h
    split at h
    · simp only [Bool.and_eq_true, Bool.not_eq_true'] at h
      obtain ⟨⟨⟨⟨h1, h2⟩, h3⟩, h4⟩, h5⟩ := h
      refine (s_set2 (sE i g h1) (sG t1 g h2) (sG t2 g h4) h3 h5).conv fun D σ H q => ?_
      unfold exec at q
      exact q
    · cases h
  | .set3 t1 t2 t3 i, T, Y, W, X, e, g, hp, hk, ks, kf, h => by
    unfold mS at h
    split at h
    · simp only [Bool.and_eq_true, Bool.not_eq_true'] at h
      obtain ⟨⟨⟨⟨⟨⟨h1, h2⟩, h3⟩, h4⟩, h5⟩, h6⟩, h7⟩ := h
      refine (s_set3 (sE i g h1) (sG t1 g h2) (sG t2 g h4) (sG t3 g h6) h3 h5 h7).conv fun D σ H q => ?_
      unfold exec at q
      exact q
    · cases h
  | .del_ o i, T, Y, W, X, e, g, hp, hk, ks, kf, h => by
    unfold mS at h
    split at h
    · rw [Bool.and_eq_true] at h
      refine (s_del (sE o g h.1) (sE i g h.2)).conv fun D σ H q => ?_
      unfold exec at q
      exact q
    · cases h
  | .nev, T, Y, W, X, e, g, hp, hk, ks, kf, h => ⟨fun pins s σ H D I q => by
    obtain ⟨f, ms, h, r, sr, q⟩ := q
    unfold exec at q
    exact q.elim⟩
  | .ite c a b, T, Y, W, X, e, g, hp, hk, ks, kf, h => by
    unfold mS at h
    split at h
    · simp only [Bool.and_eq_true] at h
      exact s_if (sT c g h.1.1).1 (sSs a g hp hk ks kf h.1.2) (sSs b g hp hk ks kf h.2)
    · cases h
  | .for_ tg it b, T, Y, W, X, e, g, hp, hk, ks, kf, h => by
    unfold mS at h
    split at h
    · simp only [Bool.and_eq_true, Bool.not_eq_true'] at h
      exact s_for g h.2 hp (sI it g h.2 h.1.1.1.1) (sG tg g h.1.1.1.2) (sSs b g hp hk ks kf h.1.1.2) h.1.2
    · cases h
  | .rse c es, T, Y, W, X, e, g, hp, hk, ks, kf, h => by
    unfold mS at h
    split at h
    · simp only [Bool.and_eq_true, decide_eq_true_eq, Bool.not_eq_true'] at h
      obtain ⟨⟨⟨⟨h1, h2⟩, h3⟩, h4⟩, h5⟩ := h
      split at h5
      · exact s_rse g h4 h1 h2 h3
      · cases h5
    · cases h
  | .try_ b d i s, T, Y, W, X, e, g, hp, hk, ks, kf, h => by
    unfold mS at h
    split at h
    · simp only [Bool.and_eq_true, decide_eq_true_eq, Bool.not_eq_true'] at h
      obtain ⟨⟨⟨⟨⟨⟨⟨h1, h2⟩, h3⟩, h4⟩, h5⟩, h6⟩, h7⟩, h8⟩ := h
      exact s_try g h6 ks kf h1 h2 h3 h4 (lcl2_ok h5) (fun W' X' g' hp' a1 a2 a3 => sSs b g' hp' (by rw [a1]; exact hk) (by rw [a1, a2, a3]; exact ks) (by rw [a1]; exact kf) h7)
        (fun a oe X' g' a1 a2 a3 a4 => sSs (T := T.suite (some i)) s g' (by rw [a4]; exact PassesOwn.never) (by rw [a1]; exact hk) (by rw [a1, a2, a3]; exact ks) (by rw [a1]; exact kf) h8)
    · cases h
  | .tryN b ds s, T, Y, W, X, e, g, hp, hk, ks, kf, h => by
    unfold mS at h
    split at h
    · split at h
      · simp only [Bool.and_eq_true, decide_eq_true_eq, Bool.not_eq_true'] at h
        obtain ⟨⟨⟨⟨⟨h1, h2⟩, h3⟩, h6⟩, h7⟩, h8⟩ := h
        exact s_tryN g h6 ks kf h1 h2 h3 (fun W' X' g' hp' a1 a2 a3 => sSs b g' hp' (by rw [a1]; exact hk) (by rw [a1, a2, a3]; exact ks) (by rw [a1]; exact kf) h7)
          (fun a oe X' g' a1 a2 a3 a4 => sSs (T := T.suite none) s g' (by rw [a4]; exact PassesOwn.never) (by rw [a1]; exact hk) (by rw [a1, a2, a3]; exact ks) (by rw [a1]; exact kf) h8)
      · cases h
    · cases h
  | .brk, T, Y, W, X, e, g, hp, hk, ks, kf, h => by
    unfold mS at h
    split at h
    · exact s_brk
    · cases h
  | .cont, T, Y, W, X, e, g, hp, hk, ks, kf, h => by
    unfold mS at h
    split at h
    · exact s_cont
    · cases h
theorem sSs : ∀ (i : Ss) {T : Tab} {Y : Ctx} {W : Wish} {X : Cx} {e : List Stmt}, Good T Y W C CX lv false N sc X → PassesOwn (model X.prog X.w) X.A X.env X.xe → X.env.scope.kind = .function → X.stack = X.env :: X.outer → X.env.frame = some X.env.locals → mSs T N sc i e = true → PSs X e (rdS Y W (execs T.P C i))
  | .nil, T, Y, W, X, e, g, hp, hk, ks, kf, h => by
    unfold mSs at h
    cases e with
    | nil => exact s_nil
    | cons _ _ => cases h
  | .cons s r, T, Y, W, X, e, g, hp, hk, ks, kf, h => by
    unfold mSs at h
    cases e with
    | nil => cases h
    | cons x xs =>
      simp only [Bool.and_eq_true] at h
      exact s_cons (sS s g hp hk ks kf h.1) (sSs r g hp hk ks kf h.2)
end
end
/-! ### functions -/
theorem SR.start {Y : Ctx} {f : Nat → Addr} {n : Nat} {H : Hp} {N : List Str} {ms : List MV} {vs : List V} {k : Nat} (r : VRs Y.K f n H ms vs) (hk : k = N.length - ms.length) : SR Y f n H (ms.map some ++ List.replicate k none) (L2.start N vs) := by
  have hl := r.length
  unfold L2.start
  subst hk
  refine ⟨by simp [hl], fun i v e => ?_⟩
  by_cases hi : i < ms.length
  · rw [List.getElem?_append_left (by simpa using hi), List.getElem?_map] at e
    obtain ⟨m, e1, e2⟩ := Option.map_eq_some_iff.mp e
    cases e2
    obtain ⟨y, e3, r3⟩ := r.get e1
    refine ⟨y, ?_, .inl r3⟩
    rw [List.getElem?_append_left (by rw [List.length_map, ← hl]; exact hi), List.getElem?_map, e3]
    rfl
  · exfalso
    rw [List.getElem?_append_right (by simp; omega)] at e
    obtain ⟨_, e⟩ := List.getElem?_eq_some_iff.mp e
    rw [List.getElem_replicate] at e
    cases e
/-- the i-th def stands at a -/
structure DefAt (T : Tab) (Y : Ctx) (i : Nat) (a : Addr) (fd : FuncData) : Prop where
  ex : ∃ x qual params body scope dvs kws N, FunD Y.K x qual params body scope dvs kws a fd ∧ FnScope N (T.fps i) scope ∧ (T.P.fn i).np = (T.fps i).length ∧ (T.P.fn i).ns = N.length ∧ mSs T N scope (T.P.fn i).body body = true
/-- the same of a def that is called of an exception -/
structure DefAtH (T : Tab) (Y : Ctx) (i : Nat) (a : Addr) (fd : FuncData) (z : Str) : Prop where
  ex : ∃ x qual params body scope dvs kws N, FunD Y.K x qual params body scope dvs kws a fd ∧ FnScope N [z] scope ∧ (T.P.fn i).np = 1 ∧ (T.P.fn i).ns = N.length ∧ mSs (T.suite (some 0)) N scope (T.P.fn i).body body = true
/-- the module's facts, of no depth -/
structure Stat (T : Tab) (Y : Ctx) (P0 : Program) (w : World) (mg : Str → Option Value) : Prop where
  shw : T.P.shw = shwOf
  Z : Y.Z.fnm = T.fnm
  wo : Y.K.w = w
  kn : ∀ f g, Y.Z.kn f = true → Y.Z.kn g = true → T.fnm f = T.fnm g → f = g
  gl : ∀ g, T.gok g = true → ∃ u v, mg (T.gn g) = some u ∧ RelV v u ∧ ∀ f N H, VR Y.K f N H (T.P.glob g) v
  fd : ∀ i, T.fok i = true → ∃ a fd, mg (T.fname i) = some (.ref a) ∧ DefAt T Y i a fd ∧
    ∀ n kn sh, T.sh i n kn sh = true → ∀ (s : Shared) (us ws : List Value), Y.K.In s.heap → us.length = n → ws.length = kn.length →
      ∃ bs, bs.length = (T.fps i).length ∧ BindsTo s fd ⟨us, (kn.map T.fnm).zip ws⟩ ((T.fps i).zip bs) ∧
        ∀ ms zs vs ys l f N H, pick ms zs sh = some l → Vals vs us → VRs Y.K f N H ms vs → Vals ys ws → VRs Y.K f N H zs ys → ∃ xs, Vals xs bs ∧ VRs Y.K f N H l xs
  at_ : ∀ c f, (T.P.cls c).att f = true → Cls Y.K (Y.Z.ca c) ∧ NoAttr Y.K (Y.Z.ca c) (T.fnm f) ∧ Y.Z.kn f = true
  me : ∀ c m i, fldN m (T.P.cls c).met = some i → Cls Y.K (Y.Z.ca c) ∧ (∀ f, Y.Z.kn f = true → T.fnm f ≠ T.mnm m) ∧ ∃ a fd, Meth Y.K (Y.Z.ca c) (T.mnm m) a ∧ DefAt T Y i a fd ∧
    ∀ n kn sh, T.shm m n kn sh = true → FormS T Y.K i fd n kn sh
  mkc : ∀ c, T.cok c = true → mg (T.cname c) = some (.ref (Y.Z.ca c)) ∧ ∃ a fd, Mk Y.K (Y.Z.ca c) a ∧ DefAt T Y (T.P.cls c).ini a fd ∧
    ∀ n kn sh, T.shc c n kn sh = true → FormS T Y.K (T.P.cls c).ini fd n kn sh
  isf : IsF T.P Y.K Y.Z
  bt : ∀ x ∈ btNames, mg x = none
  xf : XF T Y mg
  hf : ∀ i, T.hok i = true → ∃ a fd z, mg (T.fname i) = some (.ref a) ∧ PySem.W.keepIn Y.K (.ref a) = true ∧ DefAtH T Y i a fd z ∧ ∀ (s : Shared) (u : Value), Y.K.In s.heap → BindsTo s fd ⟨[u], []⟩ [(z, u)]
  hes : T.hot = false ∧ T.es = none ∧ Y.es = none
section
variable {T : Tab} {Y : Ctx} {P0 : Program} {w : World} {mg : Str → Option Value} {base : Heap}
theorem fn_run {k i : Nat} {a : Addr} {fd : FuncData} (Df : DefAt T Y i a fd) (hw : Y.K.w = w) (he : T.hot = false ∧ T.es = none ∧ Y.es = none) (fc : Fcts T Y (callM T.P k) (L2N.CX P0 w) (2 * k) P0 w mg base) :
    FnG P0 w Y.K mg base (L2N.CX P0 w) (2 * k + 2) a fd (T.fps i) (spM Y T (callM T.P (k + 1)) i) := by
  obtain ⟨x, qual, params, body, scope, dvs, kws, N, F, S, h1, h2, hm⟩ := Df.ex
  refine fnG_of F S (fun vs H Q E h => h.1) fun cdv A outer s H vs Q E hr hG hsp => ?_
  have tk : L2N.Takes (cxOf (L2N.CX P0 w) P0 w Y.K mg base N qual scope a cdv A outer s H E) fun cls d _ H => E cls d H := L2N.takes_of rfl rfl rfl rfl
  refine ⟨_, sSs (T := T) (Y := Y) (W := fun c d _ H => E c d H) (C := callM T.P k) (CX := L2N.CX P0 w) (lv := 2 * k) (N := N) (sc := scope) (T.P.fn i).body
    ⟨rfl, S.nd, rfl, rfl, hw.symm, fun _ => rfl, hG, fun _ => hr, ⟨hr.dp, hr.un⟩, he.2.2.trans he.2.1.symm, fun h => absurd (he.1.symm.trans h) Bool.false_ne_true, fun _ => he.2.1, rfl, fun _ _ => .inl rfl, fun σ => L2N.passAt tk σ, tk, fc⟩ (passes_of rfl) S.kind rfl rfl hm, ?_⟩
  obtain ⟨hl, f, h, ms, r, rv, q⟩ := hsp
  have hml : ms.length = (T.P.fn i).np := by rw [rv.length, hl, h1]
  refine ⟨f, _, h, r, SR.start (Y := Y) (ms := ms) (k := (T.P.fn i).ns - (T.P.fn i).np) rv (by rw [h2, hml]), ?_⟩
  have q : G Y (fun c d _ H => E c d H) [] f h H (runFn T.P (callM T.P k) (T.P.fn i) ms h) fun v f' h' H' => ∀ z, VR Y.K f' h'.size H' v z → Q z H' := q
  unfold runFn at q
  rw [if_pos hml] at q
  cases e : execs T.P (callM T.P k) (T.P.fn i).body (ms.map some ++ List.replicate ((T.P.fn i).ns - (T.P.fn i).np) none) h with
  | nx ms1 h1 => rw [e] at q; exact fun f1 H1 σ1 e1 r1 _ => q f1 H1 e1 r1 _ .non
  | rt v h1 => rw [e] at q; exact fun f1 H1 x e1 r1 rx => q f1 H1 e1 r1 x rx
  | ex c l ms1 h1 => rw [e] at q; exact fun f1 H1 σ1 cls d e1 r1 _ x => q f1 H1 cls d e1 r1 x
  | bk ms1 h1 => rw [e] at q; exact q.elim
  | ct ms1 h1 => rw [e] at q; exact q.elim
  | stk => rw [e] at q; exact q.elim
theorem SR.startX {f : Nat → Addr} {n k : Nat} {H : Hp} {N : List Str} {Y : Ctx} {c : Nat} {l : List MV} {a : Addr} {oe : Obj} (x : XR Y.K Y.xc Y.xf f n H c l oe.cls oe.dict) (hk : k + 1 = N.length) :
    SR (Y.suite (some 0) a oe) f n H (some (.exc c l) :: List.replicate k none) (L2.start N [.ref a]) := by
  have e : L2.start N [.ref a] = some (.ref a) :: List.replicate k none := by
    unfold L2.start
    rw [← hk]
    rfl
  rw [e]
  refine ⟨by simp, fun i v q => ?_⟩
  cases i with
  | zero =>
    cases q
    exact ⟨_, rfl, .inr ⟨rfl, c, l, rfl, rfl, x⟩⟩
  | succ i =>
    exfalso
    rw [List.getElem?_cons_succ] at q
    obtain ⟨_, q⟩ := List.getElem?_eq_some_iff.mp q
    rw [List.getElem_replicate] at q
    cases q
theorem fnH_run {k i : Nat} {a : Addr} {fd : FuncData} {z : Str} (Df : DefAtH T Y i a fd z) (hw : Y.K.w = w) (fc : Fcts T Y (callM T.P k) (L2N.CX P0 w) (2 * k) P0 w mg base) :
    FnGH P0 w Y.K mg base (L2N.CX P0 w) (2 * k + 2) a fd [z] (spH Y (callM T.P (k + 1)) i) := by
  obtain ⟨x, qual, params, body, scope, dvs, kws, N, F, S, h1, h2, hm⟩ := Df.ex
  refine fnGH_of F S (fun p vs H Q E h => by rw [h.1]; rfl) fun cdv A outer s H vs Q E p hot hr hG hsp => ?_
  obtain ⟨rfl, hv, f, h, c, l, r, xr, q⟩ := hsp
  refine ⟨_, sSs (T := T.suite (some 0)) (Y := Y.suite (some 0) p.1 p.2) (W := NoW) (C := callM T.P k) (CX := L2N.CX P0 w) (lv := 2 * k) (N := N) (sc := scope) (T.P.fn i).body
    ⟨rfl, S.nd, rfl, rfl, hw.symm, fun h => Bool.noConfusion (show true = false from h), hG, fun h => Bool.noConfusion (show true = false from h), hr, rfl, fun _ => ⟨⟨hot, .inl List.mem_cons_self⟩, hv⟩, fun h => Bool.noConfusion (show true = false from h), rfl, fun _ _ => .inl rfl,
      fun σ pins H s e s' I c => (fc.cx _ _ _ _ _ c).elim, fun u s' ⟨_, _, _, _, _, _, _, _, _, _, _, _, _, _, _, _, w⟩ => w.elim, fc.suite _ _ _⟩ (passes_of rfl) S.kind rfl rfl hm, ?_⟩
  have hN : (T.P.fn i).ns - 1 + 1 = N.length := by
    rw [← h2]
    have : 0 < N.length := by
      have := congrArg List.length S.pre
      rw [List.length_take] at this
      have : min 1 N.length = 1 := this
      omega
    omega
  refine ⟨f, _, h, r, SR.startX xr hN, ?_⟩
  have q : G Y (fun c d _ H => E c d H) [] f h H (runFn T.P (callM T.P k) (T.P.fn i) [.exc c l] h).noEx fun v f' h' H' => ∀ z, VR Y.K f' h'.size H' v z → Q z H' := q
  unfold runFn at q
  rw [if_pos (by rw [h1]; rfl), h1] at q
  have q : G Y (fun c d _ H => E c d H) [] f h H (R.noEx (match execs T.P (callM T.P k) (T.P.fn i).body (some (.exc c l) :: List.replicate ((T.P.fn i).ns - 1) none) h with
    | .nx _ h1 => .ok .non h1
    | .rt v h1 => .ok v h1
    | .ex c l _ h1 => .ex c l h1
    | _ => .stk)) fun v f' h' H' => ∀ z, VR Y.K f' h'.size H' v z → Q z H' := q
  cases e : execs T.P (callM T.P k) (T.P.fn i).body (some (.exc c l) :: List.replicate ((T.P.fn i).ns - 1) none) h with
  | nx ms1 h1 => rw [e] at q; exact fun f1 H1 σ1 e1 r1 _ => q f1 H1 e1 r1 _ .non
  | rt v h1 => rw [e] at q; exact fun f1 H1 x e1 r1 rx => q f1 H1 e1 r1 x rx
  | ex c l ms1 h1 => rw [e] at q; exact q.elim
  | bk ms1 h1 => rw [e] at q; exact q.elim
  | ct ms1 h1 => rw [e] at q; exact q.elim
  | stk => rw [e] at q; exact q.elim
theorem fnH_zero {i k : Nat} {a : Addr} {fd : FuncData} {z : Str} : FnGH P0 w Y.K mg base (L2N.CX P0 w) k a fd [z] (spH Y (callM T.P 0) i) := ⟨fun p vs H Q E h => by rw [h.1]; rfl, fun A outer s H args us vs Q E p _ _ _ _ _ _ _ h => by
  obtain ⟨_, _, f, h, c, l, r, x, q⟩ := h
  exact q.elim⟩
theorem fn_zero {i k : Nat} {a : Addr} {fd : FuncData} : FnG P0 w Y.K mg base (L2N.CX P0 w) k a fd (T.fps i) (spM Y T (callM T.P 0) i) := ⟨fun vs H Q E h => h.1, fun A outer s H args us vs Q E _ _ _ _ _ h => by
  obtain ⟨_, f, h, ms, r, rv, q⟩ := h
  exact q.elim⟩
theorem facts_of {k lv : Nat} (st : Stat T Y P0 w mg) (fn : ∀ i a fd, DefAt T Y i a fd → FnG P0 w Y.K mg base (L2N.CX P0 w) lv a fd (T.fps i) (spM Y T (callM T.P k) i))
    (fnh : ∀ i a fd z, DefAtH T Y i a fd z → FnGH P0 w Y.K mg base (L2N.CX P0 w) lv a fd [z] (spH Y (callM T.P k) i)) : Fcts T Y (callM T.P k) (L2N.CX P0 w) lv P0 w mg base where
  shw := st.shw
  Z := st.Z
  kn := st.kn
  gl := st.gl
  fd := fun i hi => by
    obtain ⟨a, fd, m, D, B⟩ := st.fd i hi
    obtain ⟨x, qual, params, body, scope, dvs, kws, N, F, S, h1, h2, hm⟩ := D.ex
    exact ⟨a, fd, m, F.kp, fn i a fd D, B⟩
  at_ := st.at_
  me := fun c m i e => by
    obtain ⟨c1, c2, a, fd, M, D, B⟩ := st.me c m i e
    exact ⟨c1, c2, a, fd, M, fn i a fd D, B⟩
  mkc := fun c hc => by
    obtain ⟨c1, a, fd, M, D, B⟩ := st.mkc c hc
    exact ⟨c1, a, fd, M, fn _ a fd D, B⟩
  isf := st.isf
  bt := st.bt
  xf := st.xf
  hf := fun i hi => by
    obtain ⟨a, fd, z, m1, m2, D, B⟩ := st.hf i hi
    exact ⟨a, fd, z, m1, m2, fnh i a fd z D, B⟩
  cx := fun outer H s e s' ⟨_, _, _, _, _, _, _, _, _, _, _, _, z⟩ => z.elim
theorem facts_all (st : Stat T Y P0 w mg) : ∀ k, Fcts T Y (callM T.P k) (L2N.CX P0 w) (2 * k) P0 w mg base
  | 0 => facts_of st (fun i a fd _ => fn_zero) fun i a fd z _ => fnH_zero
  | k + 1 => facts_of st (fun i a fd D => fn_run D st.wo st.hes (facts_all st k)) fun i a fd z D => fnH_run D st.wo (facts_all st k)
end
end DM
set_option Elab.async false
set_option linter.all false
set_option maxRecDepth 100000
set_option maxHeartbeats 4000000
/-! S14: a law's end. -/
namespace DM
open PySem L2 PyProof.Rows PySem.Spec
/-! ### forms of calls -/
def mvB : MV → MV → Bool
  | .non, y => match y with
    | .non => true
    | _ => false
  | .bl a, y => match y with
    | .bl b => a == b
    | _ => false
  | .int a, y => match y with
    | .int b => decide (a = b)
    | _ => false
  | .str a, y => match y with
    | .str b => decide (a = b)
    | _ => false
  | .tup l, y => match y with
    | .tup r => l.isEmpty && r.isEmpty
    | _ => false
  | _, _ => false
theorem mvB_eq {a b : MV} (h : mvB a b = true) : a = b := by
  cases a <;> cases b <;> first | rfl | (cases h; done) | skip
  · exact congrArg MV.bl (beq_iff_eq.mp h)
  · exact congrArg MV.int (of_decide_eq_true h)
  · exact congrArg MV.str (of_decide_eq_true h)
  · rename_i l r
    have h : (l.isEmpty && r.isEmpty) = true := h
    rw [Bool.and_eq_true, List.isEmpty_iff, List.isEmpty_iff] at h
    rw [h.1, h.2]
def srcB : Src → Src → Bool
  | .pos i, .pos j => i == j
  | .kw i, .kw j => i == j
  | .dfl a, .dfl b => mvB a b
  | _, _ => false
theorem srcB_eq {a b : Src} (h : srcB a b = true) : a = b := by
  cases a <;> cases b <;> first | (cases h; done) | skip
  · exact congrArg Src.pos (beq_iff_eq.mp h)
  · exact congrArg Src.kw (beq_iff_eq.mp h)
  · exact congrArg Src.dfl (mvB_eq h)
def shB : List Src → List Src → Bool
  | [], [] => true
  | a :: r, b :: t => srcB a b && shB r t
  | _, _ => false
theorem shB_eq : ∀ {l t : List Src}, shB l t = true → l = t
  | [], [], _ => rfl
  | [], _ :: _, h => by cases h
  | _ :: _, [], h => by cases h
  | a :: r, b :: t, h => by
    unfold shB at h
    rw [Bool.and_eq_true] at h
    rw [srcB_eq h.1, shB_eq h.2]
abbrev Form : Type := Nat × List Nat × List Src
def formB (fs : List Form) (n : Nat) (kn : List Nat) (sh : List Src) : Bool := fs.any fun q => (q.1 == n) && (q.2.1 == kn) && shB q.2.2 sh
theorem formB_in {fs : List Form} {n : Nat} {kn : List Nat} {sh : List Src} (h : formB fs n kn sh = true) : (n, kn, sh) ∈ fs := by
  obtain ⟨⟨a, b, c⟩, hq, e⟩ := List.any_eq_true.mp h
  simp only [Bool.and_eq_true, beq_iff_eq] at e
  obtain ⟨⟨rfl, rfl⟩, e⟩ := e
  rw [← shB_eq e]
  exact hq
/-- by place, by name alone -/
def plainSh (n m : Nat) (sh : List Src) : Bool := sh.all fun
  | .pos i => decide (i < n)
  | .kw i => decide (i < m)
  | .dfl _ => false
def pickU (us ws : List Value) (sh : List Src) : List Value := sh.map fun
  | .pos i => us.getD i .none
  | .kw i => ws.getD i .none
  | .dfl _ => .none
theorem pick_ok {K : KW} {us ws : List Value} {ms zs : List MV} {vs ys : List V} {f : Nat → Addr} {N : Nat} {H : Hp} (r1 : Vals vs us) (v1 : VRs K f N H ms vs) (r2 : Vals ys ws) (v2 : VRs K f N H zs ys) :
    ∀ {sh : List Src} {n m : Nat} {l : List MV}, plainSh n m sh = true → pick ms zs sh = some l → ∃ xs, Vals xs (pickU us ws sh) ∧ VRs K f N H l xs
  | [], n, m, l, _, e => by
    cases e
    exact ⟨[], .nil, .nil⟩
  | .pos i :: r, n, m, l, h, e => by
    unfold plainSh at h
    rw [List.all_cons, Bool.and_eq_true] at h
    unfold pick at e
    cases e1 : ms[i]? with
    | none => rw [e1] at e; cases e
    | some v =>
      rw [e1] at e
      cases e2 : pick ms zs r with
      | none => rw [e2] at e; cases e
      | some t =>
        rw [e2] at e
        cases e
        obtain ⟨xs, x1, x2⟩ := pick_ok r1 v1 r2 v2 (n := n) (m := m) h.2 e2
        obtain ⟨y, e3, ry⟩ := v1.get e1
        obtain ⟨u, e4, ru⟩ := r1.get e3
        refine ⟨y :: xs, .cons ?_ x1, .cons ry x2⟩
        show RelV y (us.getD i .none)
        rw [List.getD_eq_getElem?_getD, e4]
        exact ru
  | .kw i :: r, n, m, l, h, e => by
    unfold plainSh at h
    rw [List.all_cons, Bool.and_eq_true] at h
    unfold pick at e
    cases e1 : zs[i]? with
    | none => rw [e1] at e; cases e
    | some v =>
      rw [e1] at e
      cases e2 : pick ms zs r with
      | none => rw [e2] at e; cases e
      | some t =>
        rw [e2] at e
        cases e
        obtain ⟨xs, x1, x2⟩ := pick_ok r1 v1 r2 v2 (n := n) (m := m) h.2 e2
        obtain ⟨y, e3, ry⟩ := v2.get e1
        obtain ⟨u, e4, ru⟩ := r2.get e3
        refine ⟨y :: xs, .cons ?_ x1, .cons ry x2⟩
        show RelV y (ws.getD i .none)
        rw [List.getD_eq_getElem?_getD, e4]
        exact ru
  | .dfl _ :: r, n, m, l, h, e => by
    unfold plainSh at h
    rw [List.all_cons, Bool.and_eq_true] at h
    cases h.1
/-- what is wanted of a form -/
def FormOk (T : Tab) (K : KW) (i : Nat) (fd : FuncData) (q : Form) : Prop := ∀ (s : Shared) (us ws : List Value), K.In s.heap → us.length = q.1 → ws.length = q.2.1.length →
      ∃ bs, bs.length = (T.fps i).length ∧ BindsTo s fd ⟨us, (q.2.1.map T.fnm).zip ws⟩ ((T.fps i).zip bs) ∧
        ∀ ms zs vs ys l f N H, pick ms zs q.2.2 = some l → Vals vs us → VRs K f N H ms vs → Vals ys ws → VRs K f N H zs ys → ∃ xs, Vals xs bs ∧ VRs K f N H l xs
theorem FormOk.plain {T : Tab} {K : KW} {i : Nat} {fd : FuncData} {q : Form} (h : plainSh q.1 q.2.1.length q.2.2 = true) (hl : q.2.2.length = (T.fps i).length)
    (hb : ∀ (us ws : List Value), us.length = q.1 → ws.length = q.2.1.length → bindArgs fd ⟨us, (q.2.1.map T.fnm).zip ws⟩ = pure ((T.fps i).zip (pickU us ws q.2.2))) : FormOk T K i fd q :=
  fun s us ws _ l1 l2 => ⟨pickU us ws q.2.2, by unfold pickU; rw [List.length_map]; exact hl, .of_eq (hb us ws l1 l2), fun ms zs vs ys l f N H e r1 v1 r2 v2 => pick_ok r1 v1 r2 v2 h e⟩
theorem FormS.plain {T : Tab} {K : KW} {i n : Nat} {kn : List Nat} {sh : List Src} {fd : FuncData} (h : plainSh n kn.length sh = true) (hl : sh.length + 1 = (T.fps i).length)
    (hb : ∀ (u : Value) (us ws : List Value), us.length = n → ws.length = kn.length → bindArgs fd ⟨u :: us, (kn.map T.fnm).zip ws⟩ = pure ((T.fps i).zip (u :: pickU us ws sh))) : FormS T K i fd n kn sh :=
  fun us ws l1 l2 => ⟨pickU us ws sh, by unfold pickU; rw [List.length_map]; exact hl, fun s u _ => .of_eq (hb u us ws l1 l2), fun ms zs vs ys l f N H e r1 v1 r2 v2 => pick_ok r1 v1 r2 v2 h e⟩
/-! forms with defaults -/
def selG {α : Type} (us mz ws : List α) : Nat → List Src → List α
  | _, [] => []
  | j, .pos i :: r => us[i]?.toList ++ selG us mz ws j r
  | j, .kw i :: r => ws[i]?.toList ++ selG us mz ws j r
  | j, .dfl _ :: r => mz[j]?.toList ++ selG us mz ws (j + 1) r
theorem vals_opt {vs : List V} {us : List Value} (r : Vals vs us) (i : Nat) : Vals vs[i]?.toList us[i]?.toList := by
  cases e : vs[i]? with
  | some v =>
    obtain ⟨u, e2, ru⟩ := r.get e
    rw [e2]
    exact .cons ru .nil
  | none =>
    rw [Vals.none_of r e]
    exact .nil
theorem selG_vals {vs mz zs : List V} {us mv ws : List Value} (r1 : Vals vs us) (r2 : Vals mz mv) (r3 : Vals zs ws) : ∀ (sh : List Src) (j : Nat), Vals (selG vs mz zs j sh) (selG us mv ws j sh)
  | [], _ => .nil
  | .pos i :: r, j => .append (vals_opt r1 i) (selG_vals r1 r2 r3 r j)
  | .kw i :: r, j => .append (vals_opt r3 i) (selG_vals r1 r2 r3 r j)
  | .dfl _ :: r, j => .append (vals_opt r2 j) (selG_vals r1 r2 r3 r (j + 1))
/-- the defaults of a form, in order -/
def dfls : List Src → List MV
  | [] => []
  | .dfl v :: r => v :: dfls r
  | _ :: r => dfls r
theorem vrs_opt {K : KW} {f : Nat → Addr} {N : Nat} {H : Hp} {ms : List MV} {vs : List V} (r : VRs K f N H ms vs) {i : Nat} {v : MV} {l : List MV} {xs : List V} (e : ms[i]? = some v) (t : VRs K f N H l xs) : VRs K f N H (v :: l) (vs[i]?.toList ++ xs) := by
  obtain ⟨y, e2, ry⟩ := r.get e
  rw [e2]
  exact .cons ry t
theorem selG_vrs {K : KW} {f : Nat → Addr} {N : Nat} {H : Hp} {ms zs : List MV} {vs ys mz : List V} (v1 : VRs K f N H ms vs) (v2 : VRs K f N H zs ys) :
    ∀ (sh : List Src) (j : Nat) (l : List MV), (∀ k, VRs K f N H (dfls sh)[k]?.toList mz[j + k]?.toList) → pick ms zs sh = some l → VRs K f N H l (selG vs mz ys j sh)
  | [], j, l, _, e => by cases e; exact .nil
  | .pos i :: r, j, l, hd, e => by
    unfold pick at e
    cases e1 : ms[i]? with
    | none => rw [e1] at e; cases e
    | some v =>
      rw [e1] at e
      cases e2 : pick ms zs r with
      | none => rw [e2] at e; cases e
      | some t =>
        rw [e2] at e
        cases e
        exact vrs_opt v1 e1 (selG_vrs v1 v2 r j t hd e2)
  | .kw i :: r, j, l, hd, e => by
    unfold pick at e
    cases e1 : zs[i]? with
    | none => rw [e1] at e; cases e
    | some v =>
      rw [e1] at e
      cases e2 : pick ms zs r with
      | none => rw [e2] at e; cases e
      | some t =>
        rw [e2] at e
        cases e
        exact vrs_opt v2 e1 (selG_vrs v1 v2 r j t hd e2)
  | .dfl d :: r, j, l, hd, e => by
    unfold pick at e
    obtain ⟨t, e1, e2⟩ := Option.map_eq_some_iff.mp e
    subst e2
    have h0 := hd 0
    have ih := selG_vrs v1 v2 r (j + 1) t (fun k => by
      have := hd (k + 1)
      rwa [show j + (k + 1) = j + 1 + k from by omega] at this) e1
    unfold selG
    have h1 : VRs K f N H [d] mz[j]?.toList := h0
    exact h1.append ih
theorem selG_len {α β : Type} {us mz ws : List α} {us' mz' ws' : List β} (h1 : us.length = us'.length) (h2 : mz.length = mz'.length) (h3 : ws.length = ws'.length) : ∀ (sh : List Src) (j : Nat), (selG us mz ws j sh).length = (selG us' mz' ws' j sh).length
  | [], _ => rfl
  | .pos i :: r, j => by
    unfold selG
    rw [List.length_append, List.length_append, selG_len h1 h2 h3 r j]
    congr 1
    by_cases hi : i < us.length
    · rw [List.getElem?_eq_getElem hi, List.getElem?_eq_getElem (h1 ▸ hi)]; rfl
    · rw [List.getElem?_eq_none (by omega), List.getElem?_eq_none (by omega)]; rfl
  | .kw i :: r, j => by
    unfold selG
    rw [List.length_append, List.length_append, selG_len h1 h2 h3 r j]
    congr 1
    by_cases hi : i < ws.length
    · rw [List.getElem?_eq_getElem hi, List.getElem?_eq_getElem (h3 ▸ hi)]; rfl
    · rw [List.getElem?_eq_none (by omega), List.getElem?_eq_none (by omega)]; rfl
  | .dfl _ :: r, j => by
    unfold selG
    rw [List.length_append, List.length_append, selG_len h1 h2 h3 r (j + 1)]
    congr 1
    by_cases hi : j < mz.length
    · rw [List.getElem?_eq_getElem hi, List.getElem?_eq_getElem (h2 ▸ hi)]; rfl
    · rw [List.getElem?_eq_none (by omega), List.getElem?_eq_none (by omega)]; rfl
def selM {α : Type} (sh : List Src) (us mz ws : List α) : List α := match us with
  | u :: us => u :: selG us mz ws 0 sh
  | [] => []
theorem selM_vals {sh : List Src} {vs mz zs : List V} {us mv ws : List Value} (r1 : Vals vs us) (r2 : Vals mz mv) (r3 : Vals zs ws) : Vals (selM sh vs mz zs) (selM sh us mv ws) := by
  cases r1 with
  | nil => exact .nil
  | cons a r1 => exact .cons a (selG_vals r1 r2 r3 _ 0)
theorem vals_non : ∀ n : Nat, Vals (List.replicate n V.non) (List.replicate n Value.none)
  | 0 => .nil
  | n + 1 => .cons rfl (vals_non n)
theorem FormS.of_kb {T : Tab} {K : KW} {i n : Nat} {kn : List Nat} {sh : List Src} {fd : FuncData} {mv : List Value} {mz : List V} (hl : sh.length + 1 = (T.fps i).length) (hp : (selG (List.replicate n V.non) mz (List.replicate kn.length V.non) 0 sh).length = sh.length)
    (kb : KBn K fd (T.fps i) (n + 1) (kn.map T.fnm) (fun us ws => selM sh us mv ws) (fun vs zs => selM sh vs mz zs)) (hv : ∀ f N H k, VRs K f N H (dfls sh)[k]?.toList mz[0 + k]?.toList) : FormS T K i fd n kn sh := fun us ws l1 l2 => by
  have hlen : (selG us mv ws 0 sh).length = sh.length := by
    have := (kb.rel (vals_non (n + 1)) (vals_non kn.length)).length
    have e1 : (selG (List.replicate n Value.none) mv (List.replicate kn.length Value.none) 0 sh).length = sh.length := by
      rw [← hp]
      exact Nat.succ.inj this.symm
    rw [← e1]
    exact selG_len (by rw [l1, List.length_replicate]) rfl (by rw [l2, List.length_replicate]) sh 0
  refine ⟨selG us mv ws 0 sh, by rw [hlen]; exact hl, fun s u hK => kb.to s (u :: us) ws hK (by rw [List.length_cons, l1]) (by rw [List.length_map]; exact l2), fun ms zs vs ys l f N H e r1 v1 r2 v2 => ?_⟩
  have := kb.rel (vs := .non :: vs) (us := .none :: us) (zs := ys) (ws := ws) (.cons rfl r1) r2
  cases this with
  | cons _ t => exact ⟨_, t, selG_vrs v1 v2 sh 0 l (hv f N H) e⟩
theorem FormOk.of_kb {T : Tab} {K : KW} {i : Nat} {q : Form} {fd : FuncData} {mv : List Value} {mz : List V} (hl : q.2.2.length = (T.fps i).length) (hp : (selG (List.replicate q.1 V.non) mz (List.replicate q.2.1.length V.non) 0 q.2.2).length = q.2.2.length)
    (kb : KBn K fd (T.fps i) q.1 (q.2.1.map T.fnm) (fun us ws => selG us mv ws 0 q.2.2) (fun vs zs => selG vs mz zs 0 q.2.2)) (hv : ∀ f N H k, VRs K f N H (dfls q.2.2)[k]?.toList mz[0 + k]?.toList) : FormOk T K i fd q := fun s us ws hK l1 l2 => by
  have hlen : (selG us mv ws 0 q.2.2).length = q.2.2.length := by
    have := (kb.rel (vals_non q.1) (vals_non q.2.1.length)).length
    rw [← hp, this]
    exact selG_len (by rw [l1, List.length_replicate]) rfl (by rw [l2, List.length_replicate]) q.2.2 0
  exact ⟨selG us mv ws 0 q.2.2, by rw [hlen]; exact hl, kb.to s us ws hK l1 (by rw [List.length_map]; exact l2), fun ms zs vs ys l f N H e r1 v1 r2 v2 => ⟨_, kb.rel r1 r2, selG_vrs v1 v2 q.2.2 0 l (hv f N H) e⟩⟩
/-! ### constants of the top -/
def dvM : He.Dv → Option MV
  | .non => some .non
  | .bl b => some (.bl b)
  | .int i => some (.int i)
  | .str x => some (.str x.cps.toList)
  | _ => none
def dvOk : He.Dv → MV → Bool
  | .non, .non => true
  | .bl b, .bl c => b == c
  | .int i, .int j => decide (i = j)
  | .str x, .str s => decide (x = ⟨s.toArray⟩) && txB s
  | _, _ => false
theorem dvOk_vr {K : KW} {f : Nat → Addr} {N : Nat} {H : Hp} {d : He.Dv} {m : MV} (h : dvOk d m = true) : VR K f N H m (d.v K) := by
  cases d <;> cases m <;> first | (cases h; done) | skip
  · exact .non
  · rw [show _ = _ from beq_iff_eq.mp h]; exact .bl
  · rw [show _ = _ from of_decide_eq_true h]; exact .int
  · unfold dvOk at h
    simp only [Bool.and_eq_true, decide_eq_true_eq] at h
    rw [h.1]
    exact .str (txB_ok h.2)
def dvsOk : List He.Dv → List MV → Bool
  | [], [] => true
  | d :: r, m :: t => dvOk d m && dvsOk r t
  | _, _ => false
theorem dvsOk_vr {K : KW} {f : Nat → Addr} {N : Nat} {H : Hp} : ∀ {ds : List He.Dv} {ms : List MV}, dvsOk ds ms = true → VRs K f N H ms (ds.map (He.Dv.v K))
  | [], [], _ => .nil
  | [], _ :: _, h => by cases h
  | _ :: _, [], h => by cases h
  | d :: r, m :: t, h => by
    unfold dvsOk at h
    rw [Bool.and_eq_true] at h
    exact .cons (dvOk_vr h.1) (dvsOk_vr h.2)
theorem gl_lst {K : KW} {f : Nat → Addr} {N : Nat} {H : Hp} {x : Str} {ds : List He.Dv} {ms : List MV} (h : He.lstB K x ds = true) (hd : dvsOk ds ms = true) : VR K f N H (.kl ms) (.ref (He.ga K x)) := by
  have q := He.lstB_ok h fun _ => none
  unfold VR
  refine ⟨_, _, rfl, .inr ?_, dvsOk_vr hd⟩
  rcases q with (q | ⟨o, q⟩) | q
  · cases q
  · cases q
  · exact q
theorem gl_tup {K : KW} {f : Nat → Addr} {N : Nat} {H : Hp} {x : Str} {ds : List He.Dv} {ms : List MV} (h : He.tupB K x ds = true) (hd : dvsOk ds ms = true) : VR K f N H (.tup ms) (.ref (He.ga K x)) :=
  .tup (He.tupB_ok h H) (dvsOk_vr hd)
/-- an empty tuple among a def's defaults -/
def tup0B (K : PySem.W.Frag) (a : Addr) : Bool := match K.lookup a with
  | some ⟨.type c, _, .seq its _, _⟩ => decide (c = "tuple") && decide (its.size = 0)
  | _ => false
theorem tup0_vr {K : KW} {f : Nat → Addr} {N : Nat} {H : Hp} {a : Addr} (h : tup0B K a = true) : VR K f N H (.tup []) (.ref a) := by
  unfold tup0B at h
  cases q : K.K.lookup a with
  | none => rw [q] at h; cases h
  | some o =>
    obtain ⟨oc, od, dt, osl⟩ := o
    rw [q] at h
    cases oc with
    | type c =>
      cases dt with
      | seq its n =>
        have h' : (decide (c = "tuple") && decide (its.size = 0)) = true := h
        rw [Bool.and_eq_true, decide_eq_true_eq, decide_eq_true_eq] at h'
        have e : its.toList = [] := List.length_eq_zero_iff.mp (by simpa using h'.2)
        exact .tup (vs := []) (.inr ⟨_, its, n, q, congrArg Value.type h'.1, rfl, by omega, by rw [e]; exact .nil⟩) .nil
      | _ => cases h
    | _ => cases dt <;> cases h
theorem gl_str {K : KW} {f : Nat → Addr} {N : Nat} {H : Hp} {x : Str} {s : Tx} (h : x = ⟨s.toArray⟩) (ht : txB s = true) : VR K f N H (.str s) (.str x) := by
  rw [h]
  exact .str (txB_ok ht)
theorem fun_one {K : PySem.W.Frag} {x1 x2 q1 q2 : Str} {p1 p2 : Arguments} {b1 b2 : List Stmt} {s1 s2 : Scope} {d1 d2 : List V} {k1 k2 : List (Str × V)} {f : Addr} {fd1 fd2 : FuncData} (F1 : FunD K x1 q1 p1 b1 s1 d1 k1 f fd1) (F2 : FunD K x2 q2 p2 b2 s2 d2 k2 f fd2) : fd1 = fd2 := by
  obtain ⟨_, _, _, _, _, _, _, _, _, _, _, lk1, _⟩ := F1.ex
  obtain ⟨_, _, _, _, _, _, _, _, _, _, _, lk2, _⟩ := F2.ex
  rw [lk1] at lk2
  cases lk2
  rfl
/-! ### classes -/
def inCls (s : Stmt) (j : Nat) : Stmt := match s with
  | .ClassDef _ _ _ b _ _ _ _ _ _ _ => b.getD j (.Pass ⟨0, 0, 0, 0⟩)
  | _ => .Pass ⟨0, 0, 0, 0⟩
theorem fldN_mem {m i : Nat} : ∀ {l : List (Nat × Nat)}, fldN m l = some i → (m, i) ∈ l
  | [], h => by cases h
  | (k, f) :: r, h => by
    unfold fldN at h
    by_cases e : k = m
    · rw [if_pos e] at h
      cases h
      rw [e]
      exact List.mem_cons_self
    · rw [if_neg e] at h
      exact List.mem_cons_of_mem _ (fldN_mem h)
theorem names_inj {l : List Nat} {fnm : Nat → Str} (h : (l.all fun f => l.all fun g => !decide (fnm f = fnm g) || (f == g)) = true) : ∀ f g, l.contains f = true → l.contains g = true → fnm f = fnm g → f = g := by
  intro f g hf hg e
  have h1 := List.all_eq_true.mp h f (List.contains_iff_mem.mp hf)
  have h2 := List.all_eq_true.mp h1 g (List.contains_iff_mem.mp hg)
  rw [e, decide_eq_true rfl] at h2
  exact beq_iff_eq.mp (by simpa using h2)
theorem names_ne {l : List Nat} {fnm : Nat → Str} {y : Str} (h : (l.all fun f => !decide (fnm f = y)) = true) : ∀ f, l.contains f = true → fnm f ≠ y := by
  intro f hf e
  have h1 := List.all_eq_true.mp h f (List.contains_iff_mem.mp hf)
  rw [e, decide_eq_true rfl] at h1
  cases h1
def ttBs : List String := ["NoneType", "bool", "int", "str", "tuple", "list"]
def tyBs : List String := ["int", "bool", "str", "list", "tuple", "dict"]
/-- what isinstance asks of own classes -/
def isfB (K : PySem.W.Frag) (l : List (Nat × Str)) : Bool := l.all fun p => He.Fa.ok K (.cls p.2) && (decide (PySem.W.findIn K (.ref (He.ga K p.2)) "__class__" = some (some (.builtin "object.__class__"))) &&
  (decide (PySem.W.specialIn K (.builtin "object.__class__") "__get__" = some (some (.builtin "getset_descriptor.__get__"))) && (decide (PySem.W.takesIn K (.builtin "object.__class__") = some true) && (decide (PySem.W.mroIn K (He.ga K p.2) (.type "object") = some true) &&
  ((ttBs.all fun S => decide (PySem.W.kitOne K (.type S) (.ref (He.ga K p.2)) = some false)) && ((tyBs.all fun S => decide (PySem.W.kitOne K (.ref (He.ga K p.2)) (.type S) = some false)) &&
  l.all fun q => decide (PySem.W.kitOne K (.ref (He.ga K p.2)) (.ref (He.ga K q.2)) = some (decide (p.1 = q.1)))))))))
theorem isf_of {P : Prog} {K : PySem.W.Frag} {Z : Env1} {l : List (Nat × Str)} (h : isfB K l = true) (_hd : l.all (fun p => l.all fun q => (p.1 == q.1) == decide (p.2 = q.2)) = true) (hx : ∀ {c}, (P.cls c).isx = true → ∃ x, (c, x) ∈ l) (hz : ∀ p ∈ l, Z.ca p.1 = He.ga K p.2) : IsF P K Z := by
  have at_ : ∀ c, (P.cls c).isx = true → ∃ x, (c, x) ∈ l ∧ Z.ca c = He.ga K x := fun c hc => by
    obtain ⟨x, hm⟩ := hx hc
    exact ⟨x, hm, hz _ hm⟩
  have get : ∀ p ∈ l, _ := fun p hp => List.all_eq_true.mp h p hp
  simp only [Bool.and_eq_true, decide_eq_true_eq] at get
  refine ⟨fun c hc => ?_, fun a t ha ht ho b e => ?_⟩
  · obtain ⟨x, hm, ez⟩ := at_ c hc
    obtain ⟨g1, g2, g3, g4, g5, _⟩ := get _ hm
    rw [ez]
    exact ⟨He.cls_ok g1, g2, g3, g4, g5⟩
  · cases a with
    | own a =>
      obtain ⟨x, hm, ez⟩ := at_ a ha
      obtain ⟨_, _, _, _, _, _, g7, g8⟩ := get _ hm
      cases t with
      | own c =>
        obtain ⟨y, hm2, ez2⟩ := at_ c ht
        have := of_decide_eq_true (List.all_eq_true.mp g8 _ hm2)
        cases e
        show PySem.W.kitOne K (.ref (Z.ca a)) (.ref (Z.ca c)) = _
        rw [ez, ez2]
        exact this
      | lookup => cases e
      | value => cases e
      | int => cases e; show PySem.W.kitOne K (.ref (Z.ca a)) _ = _; rw [ez]; exact of_decide_eq_true (List.all_eq_true.mp g7 "int" (by decide))
      | bool => cases e; show PySem.W.kitOne K (.ref (Z.ca a)) _ = _; rw [ez]; exact of_decide_eq_true (List.all_eq_true.mp g7 "bool" (by decide))
      | str => cases e; show PySem.W.kitOne K (.ref (Z.ca a)) _ = _; rw [ez]; exact of_decide_eq_true (List.all_eq_true.mp g7 "str" (by decide))
      | list => cases e; show PySem.W.kitOne K (.ref (Z.ca a)) _ = _; rw [ez]; exact of_decide_eq_true (List.all_eq_true.mp g7 "list" (by decide))
      | tuple => cases e; show PySem.W.kitOne K (.ref (Z.ca a)) _ = _; rw [ez]; exact of_decide_eq_true (List.all_eq_true.mp g7 "tuple" (by decide))
      | dict => cases e; show PySem.W.kitOne K (.ref (Z.ca a)) _ = _; rw [ez]; exact of_decide_eq_true (List.all_eq_true.mp g7 "dict" (by decide))
    | _ =>
      rcases ho with ⟨c, z⟩ | ⟨c, rfl⟩
      · cases z
      · obtain ⟨y, hm2, ez2⟩ := at_ c ht
        obtain ⟨_, _, _, _, _, g6, _⟩ := get _ hm2
        cases e
        show PySem.W.kitOne K _ (.ref (Z.ca c)) = _
        rw [ez2]
        exact of_decide_eq_true (List.all_eq_true.mp g6 _ (by decide))
/-! ### dicts of the top -/
def kdEs (K : PySem.W.Frag) : List (Tx × He.Dv) → List DictEntry → Bool
  | [], [] => true
  | p :: r, e :: t => (match e.key with
    | .str x _ => decide (x = ⟨p.1.toArray⟩)
    | _ => false) && (txB p.1 && (He.relB (p.2.v K) e.val && kdEs K r t))
  | _, _ => false
def kdB (K : PySem.W.Frag) (a : Addr) (l : List (Tx × He.Dv)) : Bool := match K.lookup a with
  | some ⟨_, _, .dict es _, _⟩ => kdEs K l es.toList
  | _ => false
def kdOk : List (Tx × He.Dv) → List (MV × MV) → Bool
  | [], [] => true
  | p :: r, q :: t => mvB q.1 (.str p.1) && dvOk p.2 q.2 && kdOk r t
  | _, _ => false
theorem kdEs_ok {K : KW} {f : Nat → Addr} {N : Nat} {H : Hp} : ∀ {l : List (Tx × He.Dv)} {ms : List (MV × MV)} {es : List DictEntry}, kdEs K l es = true → kdOk l ms = true → KDr K f N H ms es
  | [], ms, es, h, k => by
    cases ms <;> cases es <;> first | (cases h; done) | (cases k; done) | skip
    unfold KDr
    rfl
  | p :: r, ms, es, h, k => by
    cases ms <;> cases es <;> first | (cases h; done) | (cases k; done) | skip
    rename_i q t e es
    unfold kdEs at h
    unfold kdOk at k
    simp only [Bool.and_eq_true] at h k
    obtain ⟨h1, h2, h3, h4⟩ := h
    obtain ⟨⟨k1, k2⟩, k3⟩ := k
    unfold KDr
    split at h1
    · rename_i x tk ek
      have ex := of_decide_eq_true h1
      subst ex
      exact ⟨e, es, p.1, tk, p.2.v K, rfl, mvB_eq k1, ek, txB_ok h2, He.relB_ok h3, dvOk_vr k2, kdEs_ok h4 k3⟩
    · cases h1
theorem gl_kd {K : KW} {f : Nat → Addr} {N : Nat} {H : Hp} {a : Addr} {es : Array DictEntry} {n : Nat} {l : List (Tx × He.Dv)} {ms : List (MV × MV)} (D : KDict K.K K.w a es n) (h : kdB K.K a l = true) (k : kdOk l ms = true) : VR K f N H (.kd ms) (.ref a) := by
  unfold kdB at h
  rw [D.at_] at h
  unfold VR
  exact ⟨a, es, n, rfl, D, kdEs_ok h k⟩
/-! ### the head: what a world may choose -/
def ftx (b : Bool) (f : String → Bool) : String → Bool := fun row => if row = "special-get-raises" then b else f row
def setFT (w : World) (f : String → Bool) : World := { w with params := { w.params with followText := f } }
theorem world_ft (w : World) : setFT w (ftx (w.params.followText "special-get-raises") w.params.followText) = w := by
  have e : ftx (w.params.followText "special-get-raises") w.params.followText = w.params.followText := by
    funext row
    unfold ftx
    split
    · rename_i h; rw [h]
    · rfl
  rw [e]
  rfl
theorem run_of {Pr : World → Prop} (h : ∀ (w : World) (b : Bool), Pr (setFT w (ftx b w.params.followText))) (w : World) : Pr w := by
  have := h w (w.params.followText "special-get-raises")
  rwa [world_ft w] at this
/-! ### exceptions' classes -/
def xcV (K : PySem.W.Frag) (own : List (Nat × Str)) (blt : List (Nat × Str × String)) (c : Nat) : Value := match own.find? (fun p => p.1 == c) with
  | some p => .ref (He.ga K p.2)
  | none => match blt.find? (fun p => p.1 == c) with
    | some p => .type p.2.2
    | none => .none
def xnm (own : List (Nat × Str)) (blt : List (Nat × Str × String)) (c : Nat) : Str := match own.find? (fun p => p.1 == c) with
  | some p => p.2
  | none => match blt.find? (fun p => p.1 == c) with
    | some p => p.2.1
    | none => ""
def excB (K : PySem.W.Frag) (D : Addr) : Bool := decide (PySem.W.findIn K (.ref D) "__getattribute__" = some (some (.builtin "BaseException.__getattribute__"))) && (decide (PySem.W.findIn K (.ref D) "__getattr__" = some none) && (decide (PySem.W.subIn K (.ref D) (.type "BaseException") = some true) && (PySem.W.hasDictIn K D &&
  (decide (PySem.W.findIn K (.ref D) "__class__" = some (some (.builtin "object.__class__"))) && (decide (PySem.W.specialIn K (.builtin "object.__class__") "__get__" = some (some (.builtin "getset_descriptor.__get__"))) && (decide (PySem.W.takesIn K (.builtin "object.__class__") = some true) && decide (PySem.W.mroIn K D (.type "object") = some true)))))))
theorem excB_ok {K : PySem.W.Frag} {D : Addr} (h : excB K D = true) : ExcC K D := by
  unfold excB at h
  simp only [Bool.and_eq_true, decide_eq_true_eq] at h
  obtain ⟨h1, h2, h3, h4, h5, h6, h7, h8⟩ := h
  exact ⟨h1, h2, h3, h4, h5, h6, h7, h8⟩
def xfB (K : PySem.W.Frag) (own : List (Nat × Str)) (blt : List (Nat × Str × String)) (sub : Nat → Nat → Bool) : Bool := (own.all fun p => He.Fa.ok K (.glo p.2) && (excB K (He.ga K p.2) &&
    ((own.all fun q => decide (PySem.W.exmOne K (.ref (He.ga K p.2)) (.ref (He.ga K q.2)) = some (sub p.1 q.1)) && decide (PySem.W.kitOne K (.ref (He.ga K p.2)) (.ref (He.ga K q.2)) = some (sub p.1 q.1))) &&
     blt.all fun q => decide (PySem.W.exmOne K (.ref (He.ga K p.2)) (.type q.2.2) = some (sub p.1 q.1)) && decide (PySem.W.kitOne K (.ref (He.ga K p.2)) (.type q.2.2) = some (sub p.1 q.1))))) &&
  blt.all fun q => He.Fa.ok K (.free q.2.1)
/-- what is asked of the tables alone -/
def xtB (own : List (Nat × Str)) (blt : List (Nat × Str × String)) : Bool := (own.all fun p => !(p.2 == ("__debug__" : Str)) && (own.find? (fun q => q.1 == p.1)).all (fun q => decide (q.2 = p.2))) && blt.all fun q => !(q.2.1 == ("__debug__" : Str)) && (decide (bootBuiltins q.2.1 = some (.type q.2.2)) && (decide (q.2.1 ≠ "__name__") && ((own.find? (fun p => p.1 == q.1)).isNone && (blt.find? (fun p => p.1 == q.1)).all (fun p => decide (p.2 = q.2)))))
theorem xcV_own {K : PySem.W.Frag} {own : List (Nat × Str)} {blt : List (Nat × Str × String)} {c : Nat} {A : Addr} (e : xcV K own blt c = .ref A) : ∃ x, (c, x) ∈ own ∧ A = He.ga K x ∧ xnm own blt c = x := by
  unfold xcV at e
  split at e
  · rename_i p hp
    have h1 := List.mem_of_find?_eq_some hp
    have h2 := List.find?_some hp
    have h2 : p.1 = c := by simpa using h2
    cases e
    refine ⟨p.2, by rw [← h2]; exact h1, rfl, ?_⟩
    unfold xnm
    rw [hp]
  · split at e <;> cases e
theorem xf_of {T : Tab} {Y : Ctx} {mg : Str → Option Value} {h : Heap} {own : List (Nat × Str)} {blt : List (Nat × Str × String)} {mkl : List Nat} (X : Y.K.K.In h) (G : h.Ns mainGlobals mg) (hb : xfB Y.K own blt T.P.xsub = true) (ht : xtB own blt = true) (ex : ∀ c, Y.xc c = xcV Y.K own blt c) (en : ∀ c, T.xname c = xnm own blt c)
    (eo : ∀ c, T.xok c = (own.any (fun p => p.1 == c) || blt.any (fun p => p.1 == c))) (em : ∀ c, T.xmk c = mkl.contains c) (hm : ∀ c ∈ mkl, T.P.xat c = 0 ∧ ∃ x, (c, x) ∈ own ∧ He.Fa.ok Y.K (.exc x) = true) : XF T Y mg := by
  unfold xfB at hb
  unfold xtB at ht
  rw [Bool.and_eq_true] at hb ht
  obtain ⟨hb1, hb2⟩ := hb
  obtain ⟨ht1, ht2⟩ := ht
  have at_ : ∀ p ∈ own, Y.xc p.1 = .ref (He.ga Y.K p.2) ∧ T.xname p.1 = p.2 ∧ (p.2 == ("__debug__" : Str)) = false := by
    intro p hp
    have h1 := List.all_eq_true.mp ht1 p hp
    rw [Bool.and_eq_true, Bool.not_eq_true'] at h1
    obtain ⟨h1, h2⟩ := h1
    cases q : own.find? (fun q => q.1 == p.1) with
    | none =>
      have := List.find?_eq_none.mp q p hp
      simp at this
    | some r =>
      rw [q] at h2
      have e2 : r.2 = p.2 := by simpa using h2
      rw [ex, en]
      unfold xcV xnm
      rw [q]
      exact ⟨by show Value.ref (He.ga Y.K r.2) = _; rw [e2], e2, h1⟩
  have bt_ : ∀ p ∈ blt, Y.xc p.1 = .type p.2.2 ∧ T.xname p.1 = p.2.1 ∧ (p.2.1 == ("__debug__" : Str)) = false ∧ bootBuiltins p.2.1 = some (.type p.2.2) ∧ p.2.1 ≠ "__name__" := by
    intro p hp
    have h1 := List.all_eq_true.mp ht2 p hp
    simp only [Bool.and_eq_true, Bool.not_eq_true', decide_eq_true_eq, Option.isNone_iff_eq_none] at h1
    obtain ⟨h1, h2, h3, h4, h5⟩ := h1
    cases q : blt.find? (fun q => q.1 == p.1) with
    | none =>
      have := List.find?_eq_none.mp q p hp
      simp at this
    | some r =>
      rw [q] at h5
      have e2 : r.2 = p.2 := by simpa using h5
      rw [ex, en]
      unfold xcV xnm
      rw [h4, q]
      exact ⟨by show Value.type r.2.2 = _; rw [e2], by show r.2.1 = _; rw [e2], h1, h2, h3⟩
  have some_ : ∀ d, T.xok d = true → (∃ p ∈ own, p.1 = d) ∨ ∃ p ∈ blt, p.1 = d := by
    intro d hd
    rw [eo, Bool.or_eq_true, List.any_eq_true, List.any_eq_true] at hd
    rcases hd with ⟨p, hp, e⟩ | ⟨p, hp, e⟩
    · exact .inl ⟨p, hp, by simpa using e⟩
    · exact .inr ⟨p, hp, by simpa using e⟩
  refine ⟨fun d hd => ?_, fun c A e => ?_, fun c A d e hd => ?_, fun c hc => ?_⟩
  · rcases some_ d hd with ⟨p, hp, rfl⟩ | ⟨p, hp, rfl⟩
    · obtain ⟨a1, a2, a3⟩ := at_ p hp
      have h1 := List.all_eq_true.mp hb1 p hp
      rw [Bool.and_eq_true] at h1
      rw [a1, a2]
      refine ⟨a3, .inl (He.glo_ok X G h1.1), .ref (He.ga Y.K p.2), rfl, fun u r => r⟩
    · obtain ⟨a1, a2, a3, a4, a5⟩ := bt_ p hp
      rw [a1, a2]
      exact ⟨a3, .inr ⟨He.free_ok X G (List.all_eq_true.mp hb2 p hp), a4, a5⟩, .ty p.2.2, rfl, fun u r => r⟩
  · rw [ex] at e
    obtain ⟨x, hx, rfl, _⟩ := xcV_own e
    have h1 := List.all_eq_true.mp hb1 _ hx
    simp only [Bool.and_eq_true] at h1
    exact excB_ok h1.2.1
  · rw [ex] at e
    obtain ⟨x, hx, rfl, _⟩ := xcV_own e
    have h1 := List.all_eq_true.mp hb1 _ hx
    simp only [Bool.and_eq_true] at h1
    obtain ⟨_, _, h2, h3⟩ := h1
    rcases some_ d hd with ⟨p, hp, rfl⟩ | ⟨p, hp, rfl⟩
    · rw [(at_ p hp).1]
      have := List.all_eq_true.mp h2 p hp
      simpa only [Bool.and_eq_true, decide_eq_true_eq] using this
    · rw [(bt_ p hp).1]
      have := List.all_eq_true.mp h3 p hp
      simpa only [Bool.and_eq_true, decide_eq_true_eq] using this
  · rw [em] at hc
    obtain ⟨xa, x, hx, hf⟩ := hm c (List.contains_iff_mem.mp hc)
    obtain ⟨a1, a2, a3⟩ := at_ _ hx
    obtain ⟨q1, q2, q3, q4⟩ := He.exc_ok hf
    have h1 := List.all_eq_true.mp hb1 _ hx
    rw [Bool.and_eq_true] at h1
    refine ⟨xa, by rw [a2]; exact a3, He.ga Y.K x, a1, by rw [a2]; exact He.glo_ok X G h1.1, q1, q2, q3, q4⟩
/-! ### the law -/
theorem vrs_ints {K : KW} {f : Nat → Addr} {N : Nat} {H : Hp} : ∀ ns : List Int, VRs K f N H (ns.map MV.int) (ns.map V.int)
  | [] => .nil
  | _ :: r => .cons .int (vrs_ints r)
open PySem.W in
theorem walk_D {l : PySem.W.OpenLaw} {n k : Nat} {q : Program} {loose : List Str} {XP : (Str → Option Value) → Heap → Prop} {YP : World → Heap → Prop} {d : DefRec} {x : Str} {law : Nat} {P : Prog}
    (hn : l.most = some n) (hn2 : n ≤ sizeLine) (hdf : d.params.defaults = []) (hr : Room (2 * k + 2) callerA)
    (pure_ : ∀ ns : List Int, ns.length ≤ n → ∃ h', callM P (k + 1) law [.kl (ns.map MV.int)] ⟨[]⟩ = .ok (.bl true) h')
    (F : ∀ (w : World) (mg : Str → Option Value) (fa : Addr) (h : Heap), YP w h → h.Ns mainGlobals mg → mg d.name = some (.ref fa) →
      ∃ (K : PySem.W.Frag) (T : Tab) (Y : Ctx), K.In h ∧ Y.K.K = K ∧ T.P = P ∧ Stat T Y l.prog w mg ∧ T.fok law = true ∧ T.fname law = d.name ∧ T.fps law = [x] ∧
        ∀ (fd : FuncData), (∃ x' qual params body scope dvs kws, FunD K x' qual params body scope dvs kws fa fd) → ∀ (s : Shared) (u : Value), BindsTo s fd ⟨[u], []⟩ [(x, u)]) :
    PySem.W.WalkO q loose XP YP l.row.toRowW d [] (fun f vs => PySem.call f vs) := by
  refine Att.attach_call hn hdf ?_
  intro w s₀ s₁ mg mb fa o pm cd doc a vs ns G Yh ho hd hcd hmg hobj hints hlen hg
  obtain ⟨K, T, Y, KX, eK, eP, st, ok, en, ep, hb⟩ := F w mg fa _ Yh G.T.g hmg
  subst eK
  have hst := st.fd law ok
  obtain ⟨a', fd, m, D, B⟩ := hst
  obtain ⟨x', qual, params, body, scope, dvs, kws, N, FD, S, n1, n2, hm⟩ := D.ex
  rw [en] at m
  have em : fa = a' := Value.ref.inj (Option.some.inj (hmg.symm.trans m))
  subst em
  refine law_callG (CX := L2N.CX l.prog w) (sp := spM Y T (callM T.P (k + 1)) law) KX G.T.g G.T.b G.T.builtins G.T.nolimit hg hobj hints (Nat.le_trans hlen hn2) hr
    (fun base _ _ => by rw [← ep]; exact fn_run D st.wo st.hes (facts_all st k)) (hb fd ⟨_, _, _, _, _, _, _, FD⟩) (fun H hS => ?_) (fun H e s' ⟨_, _, _, _, _, _, _, _, _, _, _, _, z⟩ => z)
  obtain ⟨h', e⟩ := pure_ ns hlen
  refine ⟨by rw [ep]; rfl, fun _ => 0, ⟨[]⟩, [.kl (ns.map MV.int)], ⟨fun n o q => (by cases q), fun n m h1 => absurd h1 (Nat.not_lt_zero _)⟩, .cons ?_ .nil, ?_⟩
  · unfold VR
    exact ⟨a, _, rfl, hS, vrs_ints ns⟩
  · rw [eP, e]
    exact fun f' H' _ _ z rz => rz.bl_inv
end DM
set_option Elab.async false
set_option linter.all false
set_option maxRecDepth 100000
set_option maxHeartbeats 0
/-! printed by gen.py: the head of law k02_next_names -/
namespace K02
open PySem PySem.Spec PyProof.Rows L2 DM
abbrev rw_ : PySem.W.OpenLaw := PySem.Challenge.rw_wirenames_k02_next_names
def top (i : Nat) : Stmt := rw_.prog.main.body.getD i (.Pass ⟨0, 0, 0, 0⟩)
def N1 : List Str := ["thing", "letters", "sign"]
def N8 : List Str := ["thing"]
def N9 : List Str := ["name", "last", "letters"]
def N2 : List Str := ["script", "at", "cell", "great", "primes", "mixed"]
def N3 : List Str := ["bag", "many", "digit"]
def N10 : List Str := ["e", "kinds", "looks", "some", "is_look", "word", "is_so"]
def N11 : List Str := ["thing", "core", "sign"]
def N5 : List Str := ["bag", "letters", "found", "spot"]
def N12 : List Str := ["bag", "title", "signs", "some", "sign", "spot"]
def N13 : List Str := ["thing", "found", "e"]
def N14 : List Str := ["thing"]
def N15 : List Str := ["script", "at", "bag", "turn", "title", "step", "thing", "told"]
def fname : Nat → Str
  | 1 => "is_name"
  | 8 => "look_name"
  | 9 => "next_name"
  | 2 => "_law_bag"
  | 3 => "_law_take"
  | 11 => "_law_good_name"
  | 5 => "_law_drawn_name"
  | 12 => "_law_odd_name"
  | 13 => "_law_next"
  | 14 => "_law_due"
  | 15 => "law"
  | 10 => "_law_which"
  | _ => ""
def fps : Nat → List Str
  | 1 => ["thing"]
  | 8 => ["thing"]
  | 9 => ["name"]
  | 2 => ["script", "at"]
  | 3 => ["bag", "many"]
  | 10 => ["e"]
  | 11 => ["thing"]
  | 5 => ["bag"]
  | 12 => ["bag", "title"]
  | 13 => ["thing"]
  | 14 => ["thing"]
  | 15 => ["script"]
  | _ => []
def fnm : Nat → Str
  | 101 => "name"
  | _ => ""
def mnm : Nat → Str
  | _ => ""
def gn : Nat → Str
  | 1 => "FIGURES"
  | 2 => "LETTERS"
  | 3 => "MOST_LETTERS"
  | 4 => "LAST"
  | _ => ""
def cname : Nat → Str
  | _ => ""
def fo1 : List Form := [(1, [], [.pos 0])]
def fo8 : List Form := [(1, [], [.pos 0])]
def fo9 : List Form := [(1, [], [.pos 0]), (0, [101], [.kw 0])]
def fo2 : List Form := [(2, [], [.pos 0, .pos 1])]
def fo3 : List Form := [(2, [], [.pos 0, .pos 1])]
def fo11 : List Form := [(1, [], [.pos 0])]
def fo5 : List Form := [(1, [], [.pos 0])]
def fo12 : List Form := [(2, [], [.pos 0, .pos 1])]
def fo13 : List Form := [(1, [], [.pos 0])]
def fo14 : List Form := [(1, [], [.pos 0])]
def fo15 : List Form := []
def sh : Nat → Nat → List Nat → List Src → Bool
  | 1 => formB fo1
  | 8 => formB fo8
  | 9 => formB fo9
  | 2 => formB fo2
  | 3 => formB fo3
  | 11 => formB fo11
  | 5 => formB fo5
  | 12 => formB fo12
  | 13 => formB fo13
  | 14 => formB fo14
  | 15 => formB fo15
  | _ => fun _ _ _ => false
def shc : Nat → Nat → List Nat → List Src → Bool
  | _ => fun _ _ _ => false
def shm : Nat → Nat → List Nat → List Src → Bool
  | _ => fun _ _ _ => false
def fnos : List Nat := [1, 8, 9, 2, 3, 11, 5, 12, 13, 14, 15]
def gnos : List Nat := [1, 2, 3, 4]
def cnos : List Nat := []
def xown : List (Nat × Str) := [(1, "NoName"), (2, "NoNext"), (3, "NoMark"), (4, "NoTries"), (5, "NoBounds"), (6, "NoRule"), (7, "NoScript"), (8, "NoSaying"), (9, "NoHands"), (10, "Claimed"), (11, "NoClaim"), (12, "TooMany"), (13, "SameWire"), (14, "NotEmpty"), (15, "Early"), (16, "Came"), (17, "Owed"), (18, "Due"), (19, "NoLess"), (20, "NoPaper"), (21, "NoHand"), (22, "NoWire"), (23, "NotOn"), (24, "IsOn"), (25, "NoLetter"), (26, "WireError")]
def xblt : List (Nat × Str × String) := [(27, "LookupError", "LookupError"), (28, "ValueError", "ValueError")]
def xmkl : List Nat := [1, 2]
def hnos : List Nat := [10]
def T : Tab := { P := P shwOf, fnm := fnm, gn := gn, gok := fun i => gnos.contains i, fname := fname, fok := fun i => fnos.contains i, fps := fps, cname := cname, cok := fun i => cnos.contains i, shc := shc, shm := shm, mnm := mnm, sh := sh, xname := xnm xown xblt, xok := fun c => xown.any (fun p => p.1 == c) || xblt.any (fun p => p.1 == c), xmk := fun c => xmkl.contains c, hok := fun i => hnos.contains i }
abbrev st1 : Stmt := top 32
theorem m1 : mSs T N1 (defScope st1) (fns 1).body (defBody st1) = true := by decide +kernel
theorem sc1 : FnScope N1 (fps 1) (defScope st1) := ⟨rfl, rfl, rfl, by decide +kernel, rfl, by decide +kernel, by decide +kernel⟩
def d1 : He.DefD := ⟨("is_name", none), "is_name", "is_name", defArgs st1, defBody st1, defScope st1, [], []⟩
abbrev st8 : Stmt := top 33
theorem m8 : mSs T N8 (defScope st8) (fns 8).body (defBody st8) = true := by decide +kernel
theorem sc8 : FnScope N8 (fps 8) (defScope st8) := ⟨rfl, rfl, rfl, by decide +kernel, rfl, by decide +kernel, by decide +kernel⟩
def d8 : He.DefD := ⟨("look_name", none), "look_name", "look_name", defArgs st8, defBody st8, defScope st8, [], []⟩
abbrev st9 : Stmt := top 34
theorem m9 : mSs T N9 (defScope st9) (fns 9).body (defBody st9) = true := by decide +kernel
theorem sc9 : FnScope N9 (fps 9) (defScope st9) := ⟨rfl, rfl, rfl, by decide +kernel, rfl, by decide +kernel, by decide +kernel⟩
def d9 : He.DefD := ⟨("next_name", none), "next_name", "next_name", defArgs st9, defBody st9, defScope st9, [], []⟩
abbrev st2 : Stmt := top 36
theorem m2 : mSs T N2 (defScope st2) (fns 2).body (defBody st2) = true := by decide +kernel
theorem sc2 : FnScope N2 (fps 2) (defScope st2) := ⟨rfl, rfl, rfl, by decide +kernel, rfl, by decide +kernel, by decide +kernel⟩
def d2 : He.DefD := ⟨("_law_bag", none), "_law_bag", "_law_bag", defArgs st2, defBody st2, defScope st2, [], []⟩
abbrev st3 : Stmt := top 37
theorem m3 : mSs T N3 (defScope st3) (fns 3).body (defBody st3) = true := by decide +kernel
theorem sc3 : FnScope N3 (fps 3) (defScope st3) := ⟨rfl, rfl, rfl, by decide +kernel, rfl, by decide +kernel, by decide +kernel⟩
def d3 : He.DefD := ⟨("_law_take", none), "_law_take", "_law_take", defArgs st3, defBody st3, defScope st3, [], []⟩
abbrev st10 : Stmt := top 38
theorem m10 : mSs (T.suite (some 0)) N10 (defScope st10) (fns 10).body (defBody st10) = true := by decide +kernel
theorem sc10 : FnScope N10 (fps 10) (defScope st10) := ⟨rfl, rfl, rfl, by decide +kernel, rfl, by decide +kernel, by decide +kernel⟩
def d10 : He.DefD := ⟨("_law_which", none), "_law_which", "_law_which", defArgs st10, defBody st10, defScope st10, [], []⟩
abbrev st11 : Stmt := top 39
theorem m11 : mSs T N11 (defScope st11) (fns 11).body (defBody st11) = true := by decide +kernel
theorem sc11 : FnScope N11 (fps 11) (defScope st11) := ⟨rfl, rfl, rfl, by decide +kernel, rfl, by decide +kernel, by decide +kernel⟩
def d11 : He.DefD := ⟨("_law_good_name", none), "_law_good_name", "_law_good_name", defArgs st11, defBody st11, defScope st11, [], []⟩
abbrev st5 : Stmt := top 40
theorem m5 : mSs T N5 (defScope st5) (fns 5).body (defBody st5) = true := by decide +kernel
theorem sc5 : FnScope N5 (fps 5) (defScope st5) := ⟨rfl, rfl, rfl, by decide +kernel, rfl, by decide +kernel, by decide +kernel⟩
def d5 : He.DefD := ⟨("_law_drawn_name", none), "_law_drawn_name", "_law_drawn_name", defArgs st5, defBody st5, defScope st5, [], []⟩
abbrev st12 : Stmt := top 41
theorem m12 : mSs T N12 (defScope st12) (fns 12).body (defBody st12) = true := by decide +kernel
theorem sc12 : FnScope N12 (fps 12) (defScope st12) := ⟨rfl, rfl, rfl, by decide +kernel, rfl, by decide +kernel, by decide +kernel⟩
def d12 : He.DefD := ⟨("_law_odd_name", none), "_law_odd_name", "_law_odd_name", defArgs st12, defBody st12, defScope st12, [], []⟩
abbrev st13 : Stmt := top 42
theorem m13 : mSs T N13 (defScope st13) (fns 13).body (defBody st13) = true := by decide +kernel
theorem sc13 : FnScope N13 (fps 13) (defScope st13) := ⟨rfl, rfl, rfl, by decide +kernel, rfl, by decide +kernel, by decide +kernel⟩
def d13 : He.DefD := ⟨("_law_next", none), "_law_next", "_law_next", defArgs st13, defBody st13, defScope st13, [], []⟩
abbrev st14 : Stmt := top 43
theorem m14 : mSs T N14 (defScope st14) (fns 14).body (defBody st14) = true := by decide +kernel
theorem sc14 : FnScope N14 (fps 14) (defScope st14) := ⟨rfl, rfl, rfl, by decide +kernel, rfl, by decide +kernel, by decide +kernel⟩
def d14 : He.DefD := ⟨("_law_due", none), "_law_due", "_law_due", defArgs st14, defBody st14, defScope st14, [], []⟩
abbrev st15 : Stmt := top 44
theorem m15 : mSs T N15 (defScope st15) (fns 15).body (defBody st15) = true := by decide +kernel
theorem sc15 : FnScope N15 (fps 15) (defScope st15) := ⟨rfl, rfl, rfl, by decide +kernel, rfl, by decide +kernel, by decide +kernel⟩
def d15 : He.DefD := ⟨("law", none), "law", "law", defArgs st15, defBody st15, defScope st15, [], []⟩
def dfn : List He.DefD := [d1, d8, d9, d2, d3, d10, d11, d5, d12, d13, d14, d15]
def dfa : List He.Fa := [.glo "is_name", .glo "look_name", .glo "next_name", .glo "_law_bag", .glo "_law_take", .glo "_law_good_name", .glo "_law_drawn_name", .glo "_law_odd_name", .glo "_law_next", .glo "_law_due", .glo "law", .glo "_law_which", .exc "NoName", .exc "NoNext", .free "len", .free "abs", .free "max", .free "min", .free "repr", .free "list", .free "tuple", .free "set", .free "sorted", .free "int", .free "str", .free "all", .free "any", .free "isinstance", .free "range", .free "bool", .free "dict", .free "zip", .free "enumerate", .free "LookupError", .free "ValueError"]
def isn : List (Nat × Str) := []
def ex1 (K : PySem.W.Frag) : Bool := He.lstB K "FIGURES" [.str "2", .str "3", .str "4", .str "5", .str "6", .str "7", .str "8", .str "9"] && He.Fa.ok K (.glo "FIGURES")
def ex2 (K : PySem.W.Frag) : Bool := He.Fa.ok K (.str "LETTERS" "abcdefghijklmnopqrstuvwxyz")
def ex3 (K : PySem.W.Frag) : Bool := He.Fa.ok K (.int "MOST_LETTERS" (8))
def ex4 (K : PySem.W.Frag) : Bool := He.Fa.ok K (.str "LAST" "9")
def exxf (K : PySem.W.Frag) : Bool := xfB K xown xblt (P shwOf).xsub
def dex (K : PySem.W.Frag) : Bool := isfB K isn && ex1 K && ex2 K && ex3 K && ex4 K && exxf K
theorem dex_all {K : PySem.W.Frag} (h : dex K = true) : isfB K isn = true ∧ ex1 K = true ∧ ex2 K = true ∧ ex3 K = true ∧ ex4 K = true ∧ exxf K = true := by
  unfold dex at h
  simpa only [Bool.and_eq_true, and_assoc] using h
def dtab : List He.Tab := []
theorem fo1_1_ok {K : KW} {x qual : Str} {body : List Stmt} {scope : Scope} {f : Addr} {fd : FuncData} (F : FunD K x qual (defArgs st1) body scope [] [] f fd) : ∀ q ∈ fo1, FormOk T K 1 fd q := by
  intro q hq
  simp only [fo1, List.mem_cons, List.not_mem_nil, or_false] at hq
  rcases hq with rfl
  · obtain ⟨oc, od, dV, kV, doc, pm, an, cdv, ct, osl, rfl, lk, hcd, hD, hK⟩ := F.ex
    have eD : dV = .none := by
      rcases hD with ⟨_, e⟩ | ⟨e, _⟩
      · exact e
      · exact absurd rfl e
    subst eD
    exact FormOk.plain (by decide) (by decide) fun us ws hu hw => match us, ws, hu, hw with | [_], [], _, _ => rfl
theorem fo8_8_ok {K : KW} {x qual : Str} {body : List Stmt} {scope : Scope} {f : Addr} {fd : FuncData} (F : FunD K x qual (defArgs st8) body scope [] [] f fd) : ∀ q ∈ fo8, FormOk T K 8 fd q := by
  intro q hq
  simp only [fo8, List.mem_cons, List.not_mem_nil, or_false] at hq
  rcases hq with rfl
  · obtain ⟨oc, od, dV, kV, doc, pm, an, cdv, ct, osl, rfl, lk, hcd, hD, hK⟩ := F.ex
    have eD : dV = .none := by
      rcases hD with ⟨_, e⟩ | ⟨e, _⟩
      · exact e
      · exact absurd rfl e
    subst eD
    exact FormOk.plain (by decide) (by decide) fun us ws hu hw => match us, ws, hu, hw with | [_], [], _, _ => rfl
theorem fo9_9_ok {K : KW} {x qual : Str} {body : List Stmt} {scope : Scope} {f : Addr} {fd : FuncData} (F : FunD K x qual (defArgs st9) body scope [] [] f fd) : ∀ q ∈ fo9, FormOk T K 9 fd q := by
  intro q hq
  simp only [fo9, List.mem_cons, List.not_mem_nil, or_false] at hq
  rcases hq with rfl | rfl
  · obtain ⟨oc, od, dV, kV, doc, pm, an, cdv, ct, osl, rfl, lk, hcd, hD, hK⟩ := F.ex
    have eD : dV = .none := by
      rcases hD with ⟨_, e⟩ | ⟨e, _⟩
      · exact e
      · exact absurd rfl e
    subst eD
    exact FormOk.plain (by decide) (by decide) fun us ws hu hw => match us, ws, hu, hw with | [_], [], _, _ => rfl
  · obtain ⟨oc, od, dV, kV, doc, pm, an, cdv, ct, osl, rfl, lk, hcd, hD, hK⟩ := F.ex
    have eD : dV = .none := by
      rcases hD with ⟨_, e⟩ | ⟨e, _⟩
      · exact e
      · exact absurd rfl e
    subst eD
    exact FormOk.plain (by decide) (by decide) fun us ws hu hw => match us, ws, hu, hw with | [], [_], _, _ => rfl
theorem fo2_2_ok {K : KW} {x qual : Str} {body : List Stmt} {scope : Scope} {f : Addr} {fd : FuncData} (F : FunD K x qual (defArgs st2) body scope [] [] f fd) : ∀ q ∈ fo2, FormOk T K 2 fd q := by
  intro q hq
  simp only [fo2, List.mem_cons, List.not_mem_nil, or_false] at hq
  rcases hq with rfl
  · obtain ⟨oc, od, dV, kV, doc, pm, an, cdv, ct, osl, rfl, lk, hcd, hD, hK⟩ := F.ex
    have eD : dV = .none := by
      rcases hD with ⟨_, e⟩ | ⟨e, _⟩
      · exact e
      · exact absurd rfl e
    subst eD
    exact FormOk.plain (by decide) (by decide) fun us ws hu hw => match us, ws, hu, hw with | [_, _], [], _, _ => rfl
theorem fo3_3_ok {K : KW} {x qual : Str} {body : List Stmt} {scope : Scope} {f : Addr} {fd : FuncData} (F : FunD K x qual (defArgs st3) body scope [] [] f fd) : ∀ q ∈ fo3, FormOk T K 3 fd q := by
  intro q hq
  simp only [fo3, List.mem_cons, List.not_mem_nil, or_false] at hq
  rcases hq with rfl
  · obtain ⟨oc, od, dV, kV, doc, pm, an, cdv, ct, osl, rfl, lk, hcd, hD, hK⟩ := F.ex
    have eD : dV = .none := by
      rcases hD with ⟨_, e⟩ | ⟨e, _⟩
      · exact e
      · exact absurd rfl e
    subst eD
    exact FormOk.plain (by decide) (by decide) fun us ws hu hw => match us, ws, hu, hw with | [_, _], [], _, _ => rfl
theorem fo11_11_ok {K : KW} {x qual : Str} {body : List Stmt} {scope : Scope} {f : Addr} {fd : FuncData} (F : FunD K x qual (defArgs st11) body scope [] [] f fd) : ∀ q ∈ fo11, FormOk T K 11 fd q := by
  intro q hq
  simp only [fo11, List.mem_cons, List.not_mem_nil, or_false] at hq
  rcases hq with rfl
  · obtain ⟨oc, od, dV, kV, doc, pm, an, cdv, ct, osl, rfl, lk, hcd, hD, hK⟩ := F.ex
    have eD : dV = .none := by
      rcases hD with ⟨_, e⟩ | ⟨e, _⟩
      · exact e
      · exact absurd rfl e
    subst eD
    exact FormOk.plain (by decide) (by decide) fun us ws hu hw => match us, ws, hu, hw with | [_], [], _, _ => rfl
theorem fo5_5_ok {K : KW} {x qual : Str} {body : List Stmt} {scope : Scope} {f : Addr} {fd : FuncData} (F : FunD K x qual (defArgs st5) body scope [] [] f fd) : ∀ q ∈ fo5, FormOk T K 5 fd q := by
  intro q hq
  simp only [fo5, List.mem_cons, List.not_mem_nil, or_false] at hq
  rcases hq with rfl
  · obtain ⟨oc, od, dV, kV, doc, pm, an, cdv, ct, osl, rfl, lk, hcd, hD, hK⟩ := F.ex
    have eD : dV = .none := by
      rcases hD with ⟨_, e⟩ | ⟨e, _⟩
      · exact e
      · exact absurd rfl e
    subst eD
    exact FormOk.plain (by decide) (by decide) fun us ws hu hw => match us, ws, hu, hw with | [_], [], _, _ => rfl
theorem fo12_12_ok {K : KW} {x qual : Str} {body : List Stmt} {scope : Scope} {f : Addr} {fd : FuncData} (F : FunD K x qual (defArgs st12) body scope [] [] f fd) : ∀ q ∈ fo12, FormOk T K 12 fd q := by
  intro q hq
  simp only [fo12, List.mem_cons, List.not_mem_nil, or_false] at hq
  rcases hq with rfl
  · obtain ⟨oc, od, dV, kV, doc, pm, an, cdv, ct, osl, rfl, lk, hcd, hD, hK⟩ := F.ex
    have eD : dV = .none := by
      rcases hD with ⟨_, e⟩ | ⟨e, _⟩
      · exact e
      · exact absurd rfl e
    subst eD
    exact FormOk.plain (by decide) (by decide) fun us ws hu hw => match us, ws, hu, hw with | [_, _], [], _, _ => rfl
theorem fo13_13_ok {K : KW} {x qual : Str} {body : List Stmt} {scope : Scope} {f : Addr} {fd : FuncData} (F : FunD K x qual (defArgs st13) body scope [] [] f fd) : ∀ q ∈ fo13, FormOk T K 13 fd q := by
  intro q hq
  simp only [fo13, List.mem_cons, List.not_mem_nil, or_false] at hq
  rcases hq with rfl
  · obtain ⟨oc, od, dV, kV, doc, pm, an, cdv, ct, osl, rfl, lk, hcd, hD, hK⟩ := F.ex
    have eD : dV = .none := by
      rcases hD with ⟨_, e⟩ | ⟨e, _⟩
      · exact e
      · exact absurd rfl e
    subst eD
    exact FormOk.plain (by decide) (by decide) fun us ws hu hw => match us, ws, hu, hw with | [_], [], _, _ => rfl
theorem fo14_14_ok {K : KW} {x qual : Str} {body : List Stmt} {scope : Scope} {f : Addr} {fd : FuncData} (F : FunD K x qual (defArgs st14) body scope [] [] f fd) : ∀ q ∈ fo14, FormOk T K 14 fd q := by
  intro q hq
  simp only [fo14, List.mem_cons, List.not_mem_nil, or_false] at hq
  rcases hq with rfl
  · obtain ⟨oc, od, dV, kV, doc, pm, an, cdv, ct, osl, rfl, lk, hcd, hD, hK⟩ := F.ex
    have eD : dV = .none := by
      rcases hD with ⟨_, e⟩ | ⟨e, _⟩
      · exact e
      · exact absurd rfl e
    subst eD
    exact FormOk.plain (by decide) (by decide) fun us ws hu hw => match us, ws, hu, hw with | [_], [], _, _ => rfl
theorem fo15_15_ok {K : KW} {x qual : Str} {body : List Stmt} {scope : Scope} {f : Addr} {fd : FuncData} (F : FunD K x qual (defArgs st15) body scope [] [] f fd) : ∀ q ∈ fo15, FormOk T K 15 fd q := by
  intro q hq
  cases hq
def ca (K : PySem.W.Frag) : Nat → Addr
  | _ => 0
def Y (K : PySem.W.Frag) (w : World) : DM.Ctx := ⟨⟨K, w, fun i => He.ga K (fname i)⟩, ⟨ca K, fnm, fun _ => 0, fun f => atts.contains f⟩, xcV K xown xblt, fun _ => "", none, 0, { cls := .none, data := .cell none }⟩
theorem cls_none {c : Nat} (h : c ∉ cnos) : cls c = ⟨0, [], fun _ => false, false⟩ := by
  unfold cls
  split <;> first | rfl | exact absurd (by decide) h
theorem isx_only {c : Nat} (h : ((P shwOf).cls c).isx = true) : ∃ x, (c, x) ∈ isn := by
  change (cls c).isx = true at h
  unfold cls at h
  split at h <;> first | exact absurd h Bool.false_ne_true | exact ⟨_, by decide⟩ | (cases h; done) | exact ⟨_, List.mem_cons_self⟩ | exact ⟨_, List.mem_cons_of_mem _ List.mem_cons_self⟩
theorem stat {w : World} {K : PySem.W.Frag} {h : Heap} {mg : Str → Option Value} (X : K.In h) (G : h.Ns mainGlobals mg) (c : He.SaysX dfa dfn dtab [] dex w h K) : Stat T (Y K w) rw_.prog w mg := by
  have cd := c.t.d
  obtain ⟨hisf, h1, h2, h3, h4, hxf⟩ := dex_all c.more
  refine ⟨rfl, rfl, rfl, ?_, ?_, ?_, ?_, ?_, ?_, ?_, ?_, ?_, ?_, ⟨rfl, rfl, rfl⟩⟩
  · exact names_inj (by decide +kernel)
  · intro g hg
    have hg : g ∈ gnos := List.contains_iff_mem.mp hg
    simp only [gnos, List.mem_cons, List.not_mem_nil, or_false] at hg
    rcases hg with rfl | rfl | rfl | rfl
    · obtain ⟨a, b⟩ := Bool.and_eq_true_iff.mp h1
      exact ⟨_, .ref (He.ga K "FIGURES"), He.glo_ok X G b, rfl, fun f N H => gl_lst a (by decide +kernel)⟩
    · obtain ⟨t, e⟩ := He.str_ok X G h2
      exact ⟨_, .str "abcdefghijklmnopqrstuvwxyz", e, ⟨t, rfl⟩, fun f N H => gl_str (by decide +kernel) (by decide +kernel)⟩
    · obtain ⟨t, e⟩ := He.int_ok X G h3
      exact ⟨_, .int (8), e, ⟨t, rfl⟩, fun f N H => .int⟩
    · obtain ⟨t, e⟩ := He.str_ok X G h4
      exact ⟨_, .str "9", e, ⟨t, rfl⟩, fun f N H => gl_str (by decide +kernel) (by decide +kernel)⟩
  · intro i hi
    have hi : i ∈ fnos := List.contains_iff_mem.mp hi
    simp only [fnos, List.mem_cons, List.not_mem_nil, or_false] at hi
    rcases hi with rfl | rfl | rfl | rfl | rfl | rfl | rfl | rfl | rfl | rfl | rfl
    · obtain ⟨fd, F⟩ := cd.def_ 0 (d := d1) rfl
      exact ⟨_, fd, He.glo_ok X G (cd.fact 0 (f := .glo "is_name") rfl), ⟨_, _, _, _, _, _, _, N1, F, sc1, rfl, rfl, m1⟩, fun n kn s hs => fo1_1_ok (K := (Y K w).K) F _ (formB_in hs)⟩
    · obtain ⟨fd, F⟩ := cd.def_ 1 (d := d8) rfl
      exact ⟨_, fd, He.glo_ok X G (cd.fact 1 (f := .glo "look_name") rfl), ⟨_, _, _, _, _, _, _, N8, F, sc8, rfl, rfl, m8⟩, fun n kn s hs => fo8_8_ok (K := (Y K w).K) F _ (formB_in hs)⟩
    · obtain ⟨fd, F⟩ := cd.def_ 2 (d := d9) rfl
      exact ⟨_, fd, He.glo_ok X G (cd.fact 2 (f := .glo "next_name") rfl), ⟨_, _, _, _, _, _, _, N9, F, sc9, rfl, rfl, m9⟩, fun n kn s hs => fo9_9_ok (K := (Y K w).K) F _ (formB_in hs)⟩
    · obtain ⟨fd, F⟩ := cd.def_ 3 (d := d2) rfl
      exact ⟨_, fd, He.glo_ok X G (cd.fact 3 (f := .glo "_law_bag") rfl), ⟨_, _, _, _, _, _, _, N2, F, sc2, rfl, rfl, m2⟩, fun n kn s hs => fo2_2_ok (K := (Y K w).K) F _ (formB_in hs)⟩
    · obtain ⟨fd, F⟩ := cd.def_ 4 (d := d3) rfl
      exact ⟨_, fd, He.glo_ok X G (cd.fact 4 (f := .glo "_law_take") rfl), ⟨_, _, _, _, _, _, _, N3, F, sc3, rfl, rfl, m3⟩, fun n kn s hs => fo3_3_ok (K := (Y K w).K) F _ (formB_in hs)⟩
    · obtain ⟨fd, F⟩ := cd.def_ 6 (d := d11) rfl
      exact ⟨_, fd, He.glo_ok X G (cd.fact 5 (f := .glo "_law_good_name") rfl), ⟨_, _, _, _, _, _, _, N11, F, sc11, rfl, rfl, m11⟩, fun n kn s hs => fo11_11_ok (K := (Y K w).K) F _ (formB_in hs)⟩
    · obtain ⟨fd, F⟩ := cd.def_ 7 (d := d5) rfl
      exact ⟨_, fd, He.glo_ok X G (cd.fact 6 (f := .glo "_law_drawn_name") rfl), ⟨_, _, _, _, _, _, _, N5, F, sc5, rfl, rfl, m5⟩, fun n kn s hs => fo5_5_ok (K := (Y K w).K) F _ (formB_in hs)⟩
    · obtain ⟨fd, F⟩ := cd.def_ 8 (d := d12) rfl
      exact ⟨_, fd, He.glo_ok X G (cd.fact 7 (f := .glo "_law_odd_name") rfl), ⟨_, _, _, _, _, _, _, N12, F, sc12, rfl, rfl, m12⟩, fun n kn s hs => fo12_12_ok (K := (Y K w).K) F _ (formB_in hs)⟩
    · obtain ⟨fd, F⟩ := cd.def_ 9 (d := d13) rfl
      exact ⟨_, fd, He.glo_ok X G (cd.fact 8 (f := .glo "_law_next") rfl), ⟨_, _, _, _, _, _, _, N13, F, sc13, rfl, rfl, m13⟩, fun n kn s hs => fo13_13_ok (K := (Y K w).K) F _ (formB_in hs)⟩
    · obtain ⟨fd, F⟩ := cd.def_ 10 (d := d14) rfl
      exact ⟨_, fd, He.glo_ok X G (cd.fact 9 (f := .glo "_law_due") rfl), ⟨_, _, _, _, _, _, _, N14, F, sc14, rfl, rfl, m14⟩, fun n kn s hs => fo14_14_ok (K := (Y K w).K) F _ (formB_in hs)⟩
    · obtain ⟨fd, F⟩ := cd.def_ 11 (d := d15) rfl
      exact ⟨_, fd, He.glo_ok X G (cd.fact 10 (f := .glo "law") rfl), ⟨_, _, _, _, _, _, _, N15, F, sc15, rfl, rfl, m15⟩, fun n kn s hs => fo15_15_ok (K := (Y K w).K) F _ (formB_in hs)⟩
  · intro c f hf
    have hc : c ∈ cnos := by
      refine Classical.byContradiction fun z => ?_
      have e : T.P.cls c = _ := cls_none z
      rw [e] at hf
      cases hf
    cases hc
  · intro c m i hm
    have hc : c ∈ cnos := by
      refine Classical.byContradiction fun z => ?_
      have e : T.P.cls c = _ := cls_none z
      rw [e] at hm
      cases hm
    cases hc
  · intro c hc
    have hc : c ∈ cnos := List.contains_iff_mem.mp hc
    cases hc
  · exact isf_of (l := isn) (P := P shwOf) (Z := (Y K w).Z) hisf (by decide +kernel) isx_only (fun p hp => by
      cases hp)
  · intro x hx
    simp only [btNames, List.mem_cons, List.not_mem_nil, or_false] at hx
    rcases hx with rfl | rfl | rfl | rfl | rfl | rfl | rfl | rfl | rfl | rfl | rfl | rfl | rfl | rfl | rfl | rfl | rfl | rfl | rfl | rfl | rfl
    · exact He.free_ok X G (cd.fact 14 (f := .free "len") rfl)
    · exact He.free_ok X G (cd.fact 15 (f := .free "abs") rfl)
    · exact He.free_ok X G (cd.fact 16 (f := .free "max") rfl)
    · exact He.free_ok X G (cd.fact 17 (f := .free "min") rfl)
    · exact He.free_ok X G (cd.fact 18 (f := .free "repr") rfl)
    · exact He.free_ok X G (cd.fact 19 (f := .free "list") rfl)
    · exact He.free_ok X G (cd.fact 20 (f := .free "tuple") rfl)
    · exact He.free_ok X G (cd.fact 21 (f := .free "set") rfl)
    · exact He.free_ok X G (cd.fact 22 (f := .free "sorted") rfl)
    · exact He.free_ok X G (cd.fact 23 (f := .free "int") rfl)
    · exact He.free_ok X G (cd.fact 24 (f := .free "str") rfl)
    · exact He.free_ok X G (cd.fact 25 (f := .free "all") rfl)
    · exact He.free_ok X G (cd.fact 26 (f := .free "any") rfl)
    · exact He.free_ok X G (cd.fact 27 (f := .free "isinstance") rfl)
    · exact He.free_ok X G (cd.fact 28 (f := .free "range") rfl)
    · exact He.free_ok X G (cd.fact 29 (f := .free "bool") rfl)
    · exact He.free_ok X G (cd.fact 30 (f := .free "dict") rfl)
    · exact He.free_ok X G (cd.fact 31 (f := .free "zip") rfl)
    · exact He.free_ok X G (cd.fact 32 (f := .free "enumerate") rfl)
    · exact He.free_ok X G (cd.fact 33 (f := .free "LookupError") rfl)
    · exact He.free_ok X G (cd.fact 34 (f := .free "ValueError") rfl)
  · refine xf_of (own := xown) (blt := xblt) (mkl := xmkl) X G hxf (by decide +kernel) (fun _ => rfl) (fun _ => rfl) (fun _ => rfl) (fun _ => rfl) fun c hc => ?_
    simp only [xmkl, List.mem_cons, List.not_mem_nil, or_false] at hc
    rcases hc with rfl | rfl
    · exact ⟨rfl, "NoName", by decide, cd.fact 12 (f := .exc "NoName") rfl⟩
    · exact ⟨rfl, "NoNext", by decide, cd.fact 13 (f := .exc "NoNext") rfl⟩
  · intro i hi
    have hi : i ∈ hnos := List.contains_iff_mem.mp hi
    simp only [hnos, List.mem_cons, List.not_mem_nil, or_false] at hi
    rcases hi with rfl
    · obtain ⟨fd, F⟩ := cd.def_ 5 (d := d10) rfl
      exact ⟨_, fd, "e", He.glo_ok X G (cd.fact 11 (f := .glo "_law_which") rfl), F.kp, ⟨_, _, _, _, _, _, _, N10, F, sc10, rfl, rfl, m10⟩, fun s u _ => L2.FunD.bindsA (ps := ["e"]) F (fun _ _ _ _ _ _ us hl => match us, hl with | [_], _ => rfl) s [u] rfl⟩
abbrev R : PySem.W.OpenRow := PySem.W.OpenLaw.row rw_
abbrev hk (nn : Nat) : PySem.W.Hook := He.hookX nn dfa dfn dtab [] dex
def ob (s : PySem.W.SharedT) : He.AlX := He.obsX 5 dfa dfn dtab [] dex (HandSHeadRun.getT s)
theorem ob_eq (s : PySem.W.SharedT) : ob s = (hk 5).obs s.abs := He.obsX_eq (HandSHeadRun.getT_eq s)
def loose : List Str := (["is_name", "look_name", "next_name", "_law_bag", "_law_take", "_law_which", "_law_good_name", "_law_drawn_name", "_law_odd_name", "_law_next", "_law_due", "LETTERS", "FIGURES", "LAST", "MOST_LETTERS"] : List Str) ++ (["WireError", "NoName", "NoMark", "NoTries", "NoBounds", "NoRule", "NoHands", "NoNext", "NoLess", "NoPaper", "NoSaying", "TooMany", "Claimed", "NoClaim", "SameWire"] : List Str) ++ (["NotEmpty", "NoScript", "Early", "Came", "Owed", "Due", "NoHand", "NoWire", "NotOn", "IsOn", "NoLetter"] : List Str)
theorem run_f (w : World) : HandSHeadRun.RunEq R (PySem.W.view R.prog [44]) (hk 5) ob 10000 loose (setFT w (ftx false w.params.followText)) := by
  intro os
  kernel_rfl
theorem run_t (w : World) : HandSHeadRun.RunEq R (PySem.W.view R.prog [44]) (hk 5) ob 10000 loose (setFT w (ftx true w.params.followText)) := by
  intro os
  kernel_rfl
theorem run (w : World) : HandSHeadRun.RunEq R (PySem.W.view R.prog [44]) (hk 5) ob 10000 loose w := run_of (Pr := HandSHeadRun.RunEq R (PySem.W.view R.prog [44]) (hk 5) ob 10000 loose) (fun w b => match b with
  | false => run_f w
  | true => run_t w) w
end K02
open PySem PySem.W PySem.Calls PyProof.Rows
theorem PySem.Challenge.cw_wirenames_k02_next_names_holds : PySem.Challenge.rw_wirenames_k02_next_names.Holds := by
  w_on; o_law
  refine HandSHeadRun.head_any (r := K02.R) (q := view K02.R.prog [44]) (H := K02.hk 5) (ob := K02.ob) (M := 10000) (loose := K02.loose) (d := HandSHeadRun.topDef K02.R.prog 44) (kwd := []) K02.ob_eq
    (by kernel_rfl) (fun s => by kernel_rfl) K02.run (by kernel_rfl) (by kernel_rfl) (by kernel_rfl) (by rfl) (by first | assumption | decide +kernel) (by decide +kernel) ⟨rfl, rfl, rfl, rfl, rfl, by decide +kernel⟩ ?hw ?hc
  case hw => w_witness2
  case hc =>
    refine DM.walk_D (l := K02.rw_) (n := 63) (k := 5) (x := "script") (law := K02.nlaw) (P := K02.P DM.shwOf) rfl (by decide) (by kernel_rfl) ⟨rfl, by decide, by decide⟩ (K02.pure_law DM.shwOf) ?F
    intro w mg fa h Yh G hmg0
    obtain ⟨K, KX, c⟩ := Yh
    refine ⟨K, K02.T, K02.Y K w, KX, rfl, rfl, K02.stat KX G c, rfl, by kernel_rfl, rfl, ?_⟩
    rintro fd0 ⟨_, _, _, _, _, _, _, F0⟩ s u
    obtain ⟨fd, F⟩ := c.t.d.def_ 11 (d := K02.d15) rfl
    have ea := He.glo_ok KX G (c.t.d.fact 10 (f := .glo "law") rfl)
    have eb : (HandSHeadRun.topDef K02.R.prog 44).name = K02.fname 15 := by kernel_rfl
    rw [eb, show K02.fname 15 = "law" from rfl, ea] at hmg0
    cases hmg0
    have ef := DM.fun_one F0 F
    subst ef
    exact L2.FunD.bindsA (ps := ["script"]) F (fun _ _ _ _ _ _ us hl => match us, hl with | [_], _ => rfl) s [u] rfl
