import PyProof.Rows.All
import Wide.All
import OpenK.AllK
import Wide.FinOn
import PySem.Challenge.RW_wirenames_k01_names_known
import HandS.ForMost
import HandS.ForExc
import HandS.Flow
import HandS.Defaults
import HandS.Conv
import HandS.RaiseMore
import HandS.TupAny
import HandS.Deep
import HandS.IsInst
import PyProof.ReprLen
import PyProof.ListStr
import HandS.Text
import HandS.ExcCtx
import HandS.Style
import HandS.Head0
import HandS.Head1
import HandS.Head2
import HandS.HeadEnd
import HandS.HeadHook1
import HandS.HeadHook2
import HandS.HeadHook3
import HandS.HeadHook4
/-! DM: a plain interpreter of the part of Python that these laws use, over values and a heap of numbered objects. -/
namespace DM

abbrev Tx := List Nat

/-- a value: texts by their signs, tuples by their items, all that changes by its number -/
inductive MV where
  | non | bl (b : Bool) | int (i : Int) | str (s : Tx)
  | tup (l : List MV)
  | ref (n : Nat)
  | kl (l : List MV)                 -- a list that is never written: of the text's top, the script
  | kd (l : List (MV × MV))          -- a dict of the text's top, never written
  | fn (i : Nat)
  | exc (c : Nat) (l : List MV)
  deriving Repr, Inhabited

/-- an object -/
inductive MO where
  | lst (l : List MV)
  | dct (l : List (MV × MV))
  | ins (c : Nat) (fs : List (Nat × MV))
  | set (l : List MV)
  deriving Repr, Inhabited

structure MH where
  objs : List MO
  deriving Repr, Inhabited

namespace MH
def get (h : MH) (n : Nat) : Option MO := h.objs[n]?
def put (h : MH) (n : Nat) (o : MO) : MH := ⟨h.objs.set n o⟩
def push (h : MH) (o : MO) : MH := ⟨h.objs ++ [o]⟩
def size (h : MH) : Nat := h.objs.length
end MH

inductive R (α : Type) where
  | ok (a : α) (h : MH)
  | ex (c : Nat) (l : List MV) (h : MH)
  | stk
  deriving Repr, Inhabited

def R.bind {α β : Type} (r : R α) (f : α → MH → R β) : R β := match r with
  | .ok a h => f a h
  | .ex c l h => .ex c l h
  | .stk => .stk

/-- where nothing may be raised -/
def R.noEx {α : Type} (r : R α) : R α := match r with
  | .ex _ _ _ => .stk
  | r => r
/-- the greatest length -/
def LIM : Nat := 16777216

/-! ### data: values with all that they hold -/
inductive PD where
  | non | bl (b : Bool) | int (i : Int) | str (s : Tx)
  | tup (l : List PD) | lst (l : List PD) | dct (l : List (PD × PD))
  deriving Repr, Inhabited

def dat : Nat → MH → MV → Option PD
  | _, _, .non => some .non
  | _, _, .bl b => some (.bl b)
  | _, _, .int i => some (.int i)
  | _, _, .str s => some (.str s)
  | n + 1, h, .tup l => (l.mapM (dat n h)).map .tup
  | n + 1, h, .kl l => (l.mapM (dat n h)).map .lst
  | n + 1, h, .ref r => match h.get r with
    | some (.lst l) => (l.mapM (dat n h)).map .lst
    | some (.dct l) => (l.mapM (fun (p : MV × MV) => match dat n h p.1, dat n h p.2 with
      | some a, some b => some (a, b)
      | _, _ => none)).map .dct
    | _ => none
  | _, _, _ => none

mutual
/-- == of data -/
def eqP : PD → PD → Bool
  | .non, .non => true
  | .bl a, .bl b => a == b
  | .bl a, .int j => (if a then 1 else 0) == j
  | .int i, .bl b => i == (if b then 1 else 0)
  | .int i, .int j => i == j
  | .str a, .str b => a == b
  | .tup a, .tup b => eqPs a b
  | .lst a, .lst b => eqPs a b
  | _, _ => false
def eqPs : List PD → List PD → Bool
  | [], [] => true
  | x :: xs, y :: ys => eqP x y && eqPs xs ys
  | _, _ => false
end
/-- < of data of one kind: ints, texts, tuples of such -/
def ltT : Tx → Tx → Bool
  | [], [] => false
  | [], _ :: _ => true
  | _ :: _, [] => false
  | a :: r, b :: t => if a == b then ltT r t else decide (a < b)
mutual
def ltP : PD → PD → Option Bool
  | .int i, .int j => some (decide (i < j))
  | .str a, .str b => some (ltT a b)
  | .tup a, .tup b => ltPs a b
  | _, _ => none
def ltPs : List PD → List PD → Option Bool
  | [], [] => some false
  | [], _ :: _ => some true
  | _ :: _, [] => some false
  | x :: xs, y :: ys => if eqP x y then ltPs xs ys else ltP x y
end
mutual
/-- how long the text of a datum is at most -/
def msz : PD → Nat
  | .non => 4
  | .bl _ => 5
  | .int i => i.natAbs.log2 + 3
  | .str s => 10 * s.length + 2
  | .tup l => mszs l + 3
  | .lst l => mszs l + 3
  | .dct l => mszd l + 3
def mszs : List PD → Nat
  | [] => 0
  | x :: xs => msz x + 2 + mszs xs
def mszd : List (PD × PD) → Nat
  | [] => 0
  | (a, b) :: r => msz a + msz b + 4 + mszd r
end
mutual
/-- ints of fewer than 1920 bits, signs below 16 ^ 8 -/
def shwOk : PD → Bool
  | .int i => decide (i.natAbs.log2 < 1920)
  | .str s => s.all fun c => decide (c < 4294967296)
  | .tup l => shwOks l
  | .lst l => shwOks l
  | .dct l => shwOkd l
  | _ => true
def shwOks : List PD → Bool
  | [] => true
  | x :: xs => shwOk x && shwOks xs
def shwOkd : List (PD × PD) → Bool
  | [] => true
  | (a, b) :: r => shwOk a && shwOk b && shwOkd r
end
/-- the digits of a whole number -/
def itx (i : Int) : Tx := (toString i).toList.map Char.toNat
/-- depth of what is shown, compared -/
def DEP : Nat := 40

/-! ### the text -/
inductive BOp where | add | sub | mul | mod | fdiv | pow deriving Repr, DecidableEq
inductive COp where | lt | le | gt | ge | eq | ne | isin | notin deriving Repr, DecidableEq
inductive Ty where | int | bool | str | list | tuple | dict | lookup | value | own (c : Nat) deriving Repr, DecidableEq
inductive Bif where | len | abs | max | min | repr | list | tuple | set | sorted | int | str | all | any deriving Repr, DecidableEq
/-- where a parameter's value comes from -/
inductive Src where | pos (i : Nat) | kw (i : Nat) | dfl (v : MV) deriving Repr

mutual
inductive Ex where
  | var (i : Nat) | non | bl (b : Bool) | int (i : Int) | str (s : Tx)
  | gl (g : Nat)
  | bin (op : BOp) (a b : Ex) | neg (a : Ex) | not_ (a : Ex)
  | cmp (op : COp) (a b : Ex) | isN (a : Ex) | isNt (a : Ex)
  | ch (o1 o2 : COp) (a b c : Ex)
  | and_ (a b : Ex) | or_ (a b : Ex) | ife (c : Te) (a b : Ex)
  | att (e : Ex) (f : Nat)
  | sub (e i : Ex)
  | sl (e : Ex) (lo hi : Eo) | rev (e : Ex)
  | tup (es : Es) | lst (es : Es) | dct (ks vs : Es)
  | call (f : Nat) (es ks : Es) (kn : List Nat) (sh : List Src)
  | bif (b : Bif) (es : Es)
  | isi (e : Ex) (t : Ty)
  | met (m : Nat) (o : Ex) (es ks : Es) (kn : List Nat) (sh : List Src)
  | mk (c : Nat) (es ks : Es) (kn : List Nat) (sh : List Src)
  | lc (elt : Ex) (own : List Nat) (tg : Tg) (it : Itx) (c : Tc)
  | fst (ps : Es)
inductive Es where
  | nil | cons (e : Ex) (r : Es)
inductive Eo where
  | no | so (e : Ex)
/-- a test -/
inductive Te where
  | vl (e : Ex) | not_ (t : Te) | and_ (t u : Te) | or_ (t u : Te)
inductive Tc where
  | no | so (t : Te)
/-- a target -/
inductive Tg where
  | nm (i : Nat) | tup (l : Tgs) | att (o : Ex) (f : Nat) | sub (o i : Ex)
inductive Tgs where
  | nil | cons (t : Tg) (r : Tgs)
/-- what is walked -/
inductive Itx where
  | ex (e : Ex) | rng (b : Ex) | rng2 (a b : Ex) | zip (a b : Ex) | enum (a : Ex) | keys (e : Ex) | vals (e : Ex) | items (e : Ex)
end

mutual
inductive St where
  | pass | exp (e : Ex) | ret (e : Ex) | retN
  | set (tg : Tg) (e : Ex)
  | par (is : List Nat) (es : Es)        -- a, b = x, y of plain names
  | aug (i : Nat) (op : BOp) (e : Ex)
  | augA (o : Ex) (f : Nat) (op : BOp) (e : Ex)
  | ite (c : Te) (a b : Ss)
  | for_ (tg : Tg) (it : Itx) (b : Ss)
  | brk | cont
inductive Ss where
  | nil | cons (s : St) (r : Ss)
end

structure FnD where
  np : Nat
  ns : Nat
  body : Ss
structure ClD where
  ini : Nat
  met : List (Nat × Nat)
structure Prog where
  glob : Nat → MV
  fn : Nat → FnD
  cls : Nat → ClD
  shw : PD → Tx

/-! ### operations on values -/
def listOf (h : MH) : MV → Option (List MV)
  | .ref n => match h.get n with
    | some (.lst l) => some l
    | _ => none
  | .kl l => some l
  | _ => none
def seqOf (h : MH) : MV → Option (List MV)
  | .tup l => some l
  | v => listOf h v
def new (h : MH) (o : MO) : R MV := .ok (.ref h.size) (h.push o)
def newList (h : MH) (l : List MV) : R MV := if l.length ≤ LIM then new h (.lst l) else .stk

def small (i : Int) : Bool := decide (-18446744073709551616 < i ∧ i < 18446744073709551616)
def binM (op : BOp) (x y : MV) (h : MH) : R MV := match op, x, y with
  | .add, .int i, .int j => .ok (.int (i + j)) h
  | .add, .str a, .str b => if a.length + b.length ≤ LIM then .ok (.str (a ++ b)) h else .stk
  | .add, .tup a, .tup b => if a.length + b.length ≤ LIM then .ok (.tup (a ++ b)) h else .stk
  | .add, .ref m, .ref n => match h.get m, h.get n with
    | some (.lst a), some (.lst b) => newList h (a ++ b)
    | _, _ => .stk
  | .sub, .int i, .int j => .ok (.int (i - j)) h
  | .mul, .int i, .int j => if small i || small j then .ok (.int (i * j)) h else .stk
  | .mod, .int i, .int j => if 0 < j then .ok (.int (i % j)) h else .stk
  | .fdiv, .int i, .int j => if 0 < j ∧ j < 1073741824 then .ok (.int (i / j)) h else .stk
  | .pow, .int i, .int j => if 0 ≤ j ∧ j ≤ 1000000 ∧ small i then .ok (.int (i ^ j.toNat)) h else .stk
  | _, _, _ => .stk
/-- x op= y -/
def augM (op : BOp) (x y : MV) (h : MH) : R MV := match op, x, y with
  | .add, .int i, .int j => .ok (.int (i + j)) h
  | .sub, .int i, .int j => .ok (.int (i - j)) h
  | .mul, .int i, .int j => if small i || small j then .ok (.int (i * j)) h else .stk
  | .mod, .int i, .int j => if 0 < j then .ok (.int (i % j)) h else .stk
  | .fdiv, .int i, .int j => if 0 < j ∧ j < 1073741824 then .ok (.int (i / j)) h else .stk
  | .add, .str a, .str b => if a.length + b.length ≤ LIM then .ok (.str (a ++ b)) h else .stk
  | _, _, _ => .stk
def eqM (h : MH) (x y : MV) : Option Bool := match dat DEP h x, dat DEP h y with
  | some a, some b => some (eqP a b)
  | _, _ => none
def ltM (_h : MH) (x y : MV) : Option Bool := match x, y with
  | .int i, .int j => some (decide (i < j))
  | _, _ => none
/-- x in y: a sign of a text, an item of a list or a tuple of data -/
def inM (h : MH) (x y : MV) : Option Bool := match y with
  | .str t => match x with
    | .str [c] => some (decide (c ∈ t))
    | _ => none
  | y => match dat DEP h x, dat DEP h y with
    | some d, some (.lst l) => some (l.any fun z => eqP z d)
    | some d, some (.tup l) => some (l.any fun z => eqP z d)
    | _, _ => none
def bR (o : Option Bool) (h : MH) : R MV := match o with
  | some b => .ok (.bl b) h
  | none => .stk
def cmpM (op : COp) (x y : MV) (h : MH) : R MV := match op with
  | .eq => bR (eqM h x y) h
  | .ne => bR ((eqM h x y).map not) h
  | .lt => bR (ltM h x y) h
  | .gt => bR (ltM h y x) h
  | .le => bR ((ltM h y x).map not) h
  | .ge => bR ((ltM h x y).map not) h
  | .isin => bR (inM h x y) h
  | .notin => bR ((inM h x y).map not) h
def truM (x : MV) (h : MH) : R Bool := match x with
  | .non => .ok false h
  | .bl b => .ok b h
  | .int i => .ok (i != 0) h
  | .str s => .ok (!s.isEmpty) h
  | .tup l => .ok (!l.isEmpty) h
  | .kl l => .ok (!l.isEmpty) h
  | .ref n => match h.get n with
    | some (.lst l) => .ok (!l.isEmpty) h
    | some (.dct l) => .ok (!l.isEmpty) h
    | _ => .stk
  | _ => .stk
def fld (f : Nat) : List (Nat × MV) → Option MV
  | [] => none
  | (g, v) :: r => if g = f then some v else fld f r
def putFld (f : Nat) (v : MV) : List (Nat × MV) → List (Nat × MV)
  | [] => [(f, v)]
  | (g, x) :: r => if g = f then (g, v) :: r else (g, x) :: putFld f v r
def attM (x : MV) (f : Nat) (h : MH) : R MV := match x with
  | .ref n => match h.get n with
    | some (.ins _ fs) => match fld f fs with
      | some v => .ok v h
      | none => .stk
    | _ => .stk
  | _ => .stk
/-- a place counted from the end, if it lies below 0 -/
def ixN (i : Int) (n : Nat) : Option Nat := if 0 ≤ i then (if i < n then some i.toNat else none) else (if 0 ≤ i + n then some (i + n).toNat else none)
def atL (l : List MV) (i : Int) : Option MV := match ixN i l.length with
  | some k => l[k]?
  | none => none
def lookM (h : MH) (x : MV) : List (MV × MV) → Option (Option MV)
  | [] => some none
  | (k, v) :: r => match eqM h x k with
    | some true => some (some v)
    | some false => lookM h x r
    | none => none
def subM (x i : MV) (h : MH) : R MV := match x, i with
  | .str s, .int k => match ixN k s.length with
    | some j => match s[j]? with
      | some c => .ok (.str [c]) h
      | none => .stk
    | none => .stk
  | .tup l, .int k => match atL l k with
    | some v => .ok v h
    | none => .stk
  | .kl l, .int k => match atL l k with
    | some v => .ok v h
    | none => .stk
  | .kd l, k => match lookM h k l with
    | some (some v) => .ok v h
    | _ => .stk
  | .ref n, k => match h.get n with
    | some (.dct l) => (match lookM h k l with
      | some (some v) => .ok v h
      | _ => .stk)
    | some (.lst l) => (match k with
      | .int j => (match atL l j with
        | some v => .ok v h
        | none => .stk)
      | _ => .stk)
    | _ => .stk
  | _, _ => .stk
/-- an end of a slice, within 0 .. n -/
def clip (d : Nat) (n : Nat) : Option Int → Nat
  | none => d
  | some i => if i < 0 then (i + n).toNat else min i.toNat n
def cut {α : Type} (l : List α) (lo hi : Option Int) : List α := (l.drop (clip 0 l.length lo)).take (clip l.length l.length hi - clip 0 l.length lo)
def oi : MV → Option Int
  | .int i => if -4611686018427387904 ≤ i ∧ i < 4611686018427387904 then some i else none
  | _ => none
def slM (x : MV) (lo hi : Option Int) (h : MH) : R MV := match x with
  | .str s => .ok (.str (cut s lo hi)) h
  | .tup l => .ok (.tup (cut l lo hi)) h
  | .kl l => new h (.lst (cut l lo hi))
  | .ref n => match listOf h (.ref n) with
    | some l => new h (.lst (cut l lo hi))
    | none => .stk
  | _ => .stk
/-- o[i] = v -/
def putK (h : MH) (k v : MV) : List (MV × MV) → Option (List (MV × MV))
  | [] => some [(k, v)]
  | (a, x) :: r => match eqM h k a with
    | some true => some ((a, v) :: r)
    | some false => (putK h k v r).map ((a, x) :: ·)
    | none => none
def setI (x i v : MV) (h : MH) : R Unit := match x with
  | .ref n => match h.get n with
    | some (.lst l) => (match i with
      | .int k => (match ixN k l.length with
        | some j => .ok () (h.put n (.lst (l.set j v)))
        | none => .stk)
      | _ => .stk)
    | some (.dct l) => (match putK h i v l with
      | some l' => if l'.length ≤ LIM then .ok () (h.put n (.dct l')) else .stk
      | none => .stk)
    | _ => .stk
  | _ => .stk
def setA (x : MV) (f : Nat) (v : MV) (h : MH) : R Unit := match x with
  | .ref n => match h.get n with
    | some (.ins c fs) => if fs.length < 1000 then .ok () (h.put n (.ins c (putFld f v fs))) else .stk
    | _ => .stk
  | _ => .stk
/-- a value's class -/
inductive Tt where | nn | bl | int | str | tup | lst | own (c : Nat) deriving Repr, DecidableEq
def tyM (h : MH) : MV → Option Tt
  | .non => some .nn
  | .bl _ => some .bl
  | .int _ => some .int
  | .str _ => some .str
  | .tup _ => some .tup
  | .kl _ => some .lst
  | .ref n => match h.get n with
    | some (.lst _) => some .lst
    | some (.ins c _) => some (.own c)
    | _ => none
  | _ => none
def subT : Tt → Ty → Option Bool
  | .int, .int => some true
  | .bl, .int => some true
  | .bl, .bool => some true
  | .str, .str => some true
  | .tup, .tuple => some true
  | .lst, .list => some true
  | .own a, .own c => some (decide (a = c))
  | .own _, _ => none
  | _, .own _ => none
  | _, .lookup => none
  | _, .value => none
  | _, _ => some false
def isiM (x : MV) (t : Ty) (h : MH) : Option Bool := match tyM h x with
  | some a => subT a t
  | none => none
/-- the items of a join -/
def txs : List MV → Option (List Tx)
  | [] => some []
  | .str s :: r => (txs r).map (s :: ·)
  | _ :: _ => none
def joinT (sep : Tx) : List Tx → Tx
  | [] => []
  | [a] => a
  | a :: b :: r => a ++ sep ++ joinT sep (b :: r)
def allT : List MV → Option Bool
  | [] => some true
  | .bl b :: r => (allT r).map (b && ·)
  | _ :: _ => none
def anyT : List MV → Option Bool
  | [] => some false
  | .bl b :: r => (anyT r).map (b || ·)
  | _ :: _ => none
def shM (P : Prog) (x : MV) (h : MH) : Option Tx := match dat DEP h x with
  | some d => if shwOk d = true ∧ msz d ≤ LIM then some (P.shw d) else none
  | none => none
def tR (o : Option Tx) (h : MH) : R MV := match o with
  | some s => .ok (.str s) h
  | none => .stk
def bifM (P : Prog) (b : Bif) (vs : List MV) (h : MH) : R MV := match b, vs with
  | .len, [.str s] => if s.length ≤ LIM then .ok (.int s.length) h else .stk
  | .len, [x] => match seqOf h x with
    | some l => .ok (.int l.length) h
    | none => match x with
      | .ref n => match h.get n with
        | some (.dct l) => .ok (.int l.length) h
        | _ => .stk
      | _ => .stk
  | .abs, [.int i] => .ok (.int (if i < 0 then -i else i)) h
  | .max, [.int i, .int j] => .ok (.int (if j > i then j else i)) h
  | .min, [.int i, .int j] => .ok (.int (if j < i then j else i)) h
  | .int, [.int i] => .ok (.int i) h
  | .int, [.bl b] => .ok (.int (if b then 1 else 0)) h
  | .repr, [x] => tR (shM P x h) h
  | .list, [.str s] => newList h (s.map fun c => .str [c])
  | .list, [x] => match seqOf h x with
    | some l => newList h l
    | none => .stk
  | .tuple, [x] => match seqOf h x with
    | some l => .ok (.tup l) h
    | none => .stk
  | .all, [x] => match listOf h x with
    | some l => bR (allT l) h
    | none => .stk
  | .any, [x] => match listOf h x with
    | some l => bR (anyT l) h
    | none => .stk
  | _, _ => .stk
/-- methods of built-in types, by their numbers in every table: 0 append, 1 join, 2 index -/
def metM (m : Nat) (x : MV) (vs : List MV) (h : MH) : R MV := match m, x, vs with
  | 0, .ref n, [v] => match h.get n with
    | some (.lst l) => if l.length < LIM then .ok .non (h.put n (.lst (l ++ [v]))) else .stk
    | _ => .stk
  | 1, .str s, [v] => match listOf h v with
    | some l => match txs l with
      | some ts => if (ts.map (·.length)).sum + ts.length * s.length ≤ LIM then .ok (.str (joinT s ts)) h else .stk
      | none => .stk
    | none => .stk
  | _, _, _ => .stk
def pick (vs ks : List MV) : List Src → Option (List MV)
  | [] => some []
  | .pos i :: r => match vs[i]?, pick vs ks r with
    | some v, some l => some (v :: l)
    | _, _ => none
  | .kw i :: r => match ks[i]?, pick vs ks r with
    | some v, some l => some (v :: l)
    | _, _ => none
  | .dfl v :: r => (pick vs ks r).map (v :: ·)

/-- the method's def -/
def fldN (m : Nat) : List (Nat × Nat) → Option Nat
  | [] => none
  | (k, f) :: r => if k = m then some f else fldN m r
abbrev En := List (Option MV)
/-- what is walked: the live list of an object, or items that stay -/
inductive It where
  | live (n : Nat) | items (l : List MV)
def It.len (h : MH) : It → Option Nat
  | .live n => (listOf h (.ref n)).map (·.length)
  | .items l => some l.length
/-- the item at turn i: none: no such thing; some none: the end -/
def It.at (h : MH) (i : Nat) : It → Option (Option MV)
  | .live n => (listOf h (.ref n)).map (·[i]?)
  | .items l => some l[i]?
def rngL (a b : Int) : List MV := (List.range (b - a).toNat).map fun k : Nat => .int (a + k)
def itOf (h : MH) : MV → Option It
  | .ref n => match listOf h (.ref n) with
    | some _ => some (.live n)
    | none => none
  | .kl l => some (.items l)
  | .tup l => some (.items l)
  | .str s => some (.items (s.map fun c => .str [c]))
  | _ => none
def wipe (σ : En) : List Nat → En
  | [] => σ
  | i :: r => (wipe σ r).set i none

def itM (x : MV) (h : MH) : R It := match itOf h x with
  | some t => .ok t h
  | none => .stk
def rngM (x y : MV) (h : MH) : R It := match oi x, oi y with
  | some m, some n => if n - m ≤ 16777216 then .ok (.items (rngL m n)) h else .stk
  | _, _ => .stk
/-- how a statement ends -/
inductive RS where
  | nx (σ : En) (h : MH) | rt (v : MV) (h : MH) | bk (σ : En) (h : MH) | ct (σ : En) (h : MH)
  | ex (c : Nat) (l : List MV) (σ : En) (h : MH) | stk
  deriving Repr, Inhabited
/-- an expression's value, then the rest of a statement at σ -/
def R.go {α : Type} (r : R α) (σ : En) (f : α → MH → RS) : RS := match r with
  | .ok a h => f a h
  | .ex c l h => .ex c l σ h
  | .stk => .stk

def isNM (b : Bool) (x : MV) (h : MH) : R MV := match x with
  | .non => .ok (.bl b) h
  | _ => .ok (.bl (!b)) h
def negM (x : MV) (h : MH) : R MV := match x with
  | .int i => .ok (.int (-i)) h
  | _ => .stk
def revM (x : MV) (h : MH) : R MV := match x with
  | .str s => .ok (.str s.reverse) h
  | _ => .stk
def oiM (x : MV) (h : MH) : R (Option Int) := match oi x with
  | some i => .ok (some i) h
  | none => .stk
def chM (c : MH → R MV) (o1 o2 : COp) (x y : MV) (h : MH) : R MV := (cmpM o1 x y h).bind fun z h3 => match z with
  | .bl true => (c h3).bind fun w h4 => cmpM o2 y w h4
  | .bl false => .ok (.bl false) h3
  | _ => .stk
def litM (l : List MV) (h : MH) : R MV := if l.length ≤ LIM then .ok (.tup l) h else .stk
def callP (C : Nat → List MV → MH → R MV) (f : Nat) (sh : List Src) (vs ws : List MV) (h : MH) : R MV := match pick vs ws sh with
  | some l => C f l h
  | none => .stk
/-- o.m: an own class's method, or a built-in one's -/
inductive MK where | own (f : Nat) | bt
def metK (P : Prog) (m : Nat) (x : MV) (h : MH) : R MK := match x with
  | .ref n => match h.get n with
    | some (.ins c _) => if m < 100 then .stk else match fldN m (P.cls c).met with
      | some f => .ok (.own f) h
      | none => .stk
    | some (.lst _) => if m = 0 then .ok .bt h else .stk
    | _ => .stk
  | .str _ => if m = 1 then .ok .bt h else .stk
  | _ => .stk
def metC (C : Nat → List MV → MH → R MV) (k : MK) (m : Nat) (sh : List Src) (x : MV) (vs ws : List MV) (h : MH) : R MV := match k with
  | .own f => match pick vs ws sh with
    | some l => C f (x :: l) h
    | none => .stk
  | .bt => metM m x vs h

/-- a loop's turns: body's end by the item -/
def loop (body : MV → En → MH → RS) (it : It) : Nat → Nat → En → MH → RS
  | 0, i, σ, h => match it.at h i with
    | some none => .nx σ h
    | _ => .stk
  | n + 1, i, σ, h => match it.at h i with
    | some none => .nx σ h
    | some (some v) => match body v σ h with
      | .nx σ' h' => loop body it n (i + 1) σ' h'
      | .ct σ' h' => loop body it n (i + 1) σ' h'
      | .bk σ' h' => .nx σ' h'
      | r => r
    | none => .stk
/-- a comprehension's turns: the items so far -/
def lcl (body : MV → MH → R (Option MV)) (it : It) : Nat → Nat → List MV → MH → R (List MV)
  | 0, i, acc, h => match it.at h i with
    | some none => .ok acc h
    | _ => .stk
  | n + 1, i, acc, h => match it.at h i with
    | some none => .ok acc h
    | some (some v) => (body v h).bind fun o h' => match o with
      | some x => if acc.length < LIM then lcl body it n (i + 1) (acc ++ [x]) h' else .stk
      | none => lcl body it n (i + 1) acc h'
    | none => .stk

def setM (i : Nat) (v : MV) (σ : En) (h : MH) : R En := .ok (σ.set i (some v)) h
def lcB (ma : MV → En → MH → R En) (mt : En → MH → R Bool) (mx : En → MH → R MV) (own : List Nat) (σ : En) (v : MV) (h : MH) : R (Option MV) :=
  ((ma v (wipe σ own) h).bind fun σ3 h3 => (mt σ3 h3).bind fun b h4 => if b then (mx σ3 h4).bind fun x h5 => .ok (some x) h5 else .ok none h4).noEx
def lcM (mi : En → MH → R It) (ma : MV → En → MH → R En) (mt : En → MH → R Bool) (mx : En → MH → R MV) (own : List Nat) (σ : En) (h : MH) : R MV := (mi σ h).bind fun t h1 => match t.len h1 with
  | some n => (lcl (lcB ma mt mx own σ) t n 0 [] h1).bind fun l h2 => newList h2 l
  | none => .stk
section
variable (P : Prog) (C : Nat → List MV → MH → R MV)
mutual
def ev : Ex → En → MH → R MV
  | .var i, σ, h => match σ[i]? with
    | some (some v) => .ok v h
    | _ => .stk
  | .non, _, h => .ok .non h
  | .bl b, _, h => .ok (.bl b) h
  | .int i, _, h => .ok (.int i) h
  | .str s, _, h => .ok (.str s) h
  | .gl g, _, h => .ok (P.glob g) h
  | .bin op a b, σ, h => (ev a σ h).bind fun x h1 => (ev b σ h1).bind fun y h2 => binM op x y h2
  | .neg a, σ, h => (ev a σ h).bind fun x h1 => negM x h1
  | .not_ a, σ, h => (ev a σ h).bind fun x h1 => (truM x h1).bind fun b h2 => .ok (.bl (!b)) h2
  | .cmp op a b, σ, h => (ev a σ h).bind fun x h1 => (ev b σ h1).bind fun y h2 => cmpM op x y h2
  | .isN a, σ, h => (ev a σ h).bind fun x h1 => isNM true x h1
  | .isNt a, σ, h => (ev a σ h).bind fun x h1 => isNM false x h1
  | .ch o1 o2 a b c, σ, h => (ev a σ h).bind fun x h1 => (ev b σ h1).bind fun y h2 => chM (fun h3 => ev c σ h3) o1 o2 x y h2
  | .and_ a b, σ, h => (ev a σ h).bind fun x h1 => (truM x h1).bind fun c h2 => if c then ev b σ h2 else .ok x h2
  | .or_ a b, σ, h => (ev a σ h).bind fun x h1 => (truM x h1).bind fun c h2 => if c then .ok x h2 else ev b σ h2
  | .ife c a b, σ, h => (tv c σ h).bind fun d h1 => if d then ev a σ h1 else ev b σ h1
  | .att e f, σ, h => (ev e σ h).bind fun x h1 => attM x f h1
  | .sub e i, σ, h => (ev e σ h).bind fun x h1 => (ev i σ h1).bind fun y h2 => subM x y h2
  | .sl e lo hi, σ, h => (ev e σ h).bind fun x h1 => (eo lo σ h1).bind fun a h2 => (eo hi σ h2).bind fun b h3 => slM x a b h3
  | .rev e, σ, h => (ev e σ h).bind fun x h1 => revM x h1
  | .tup es, σ, h => (evs es σ h).bind fun l h1 => litM l h1
  | .lst es, σ, h => (evs es σ h).bind fun l h1 => newList h1 l
  | .dct _ _, _, _ => .stk
  | .call f es ks _ sh, σ, h => (evs es σ h).bind fun vs h1 => (evs ks σ h1).bind fun ws h2 => callP C f sh vs ws h2
  | .bif b es, σ, h => (evs es σ h).bind fun vs h1 => bifM P b vs h1
  | .isi e t, σ, h => (ev e σ h).bind fun x h1 => bR (isiM x t h1) h1
  | .met m o es ks _ sh, σ, h => (ev o σ h).bind fun x h1 => (metK P m x h1).bind fun k h2 => (evs es σ h2).bind fun vs h3 => (evs ks σ h3).bind fun ws h4 => metC C k m sh x vs ws h4
  | .mk c es ks _ sh, σ, h => (evs es σ h).bind fun vs h1 => (evs ks σ h1).bind fun ws h2 => match pick vs ws sh with
    | some l => (C (P.cls c).ini (.ref h2.size :: l) (h2.push (.ins c []))).bind fun _ h3 => .ok (.ref h2.size) h3
    | none => .stk
  | .lc elt own tg it c, σ, h => lcM (itv it) (asg tg) (ct c) (ev elt) own σ h
  | .fst es, σ, h => (evs es σ h).bind fun _ _ => .stk
/-- a test -/
def tv : Te → En → MH → R Bool
  | .vl e, σ, h => (ev e σ h).bind fun x h1 => truM x h1
  | .not_ a, σ, h => (tv a σ h).bind fun b h1 => .ok (!b) h1
  | .and_ a b, σ, h => (tv a σ h).bind fun c h1 => if c then tv b σ h1 else .ok false h1
  | .or_ a b, σ, h => (tv a σ h).bind fun c h1 => if c then .ok true h1 else tv b σ h1
def evs : Es → En → MH → R (List MV)
  | .nil, _, h => .ok [] h
  | .cons e r, σ, h => (ev e σ h).bind fun x h1 => (evs r σ h1).bind fun l h2 => .ok (x :: l) h2
def eo : Eo → En → MH → R (Option Int)
  | .no, _, h => .ok none h
  | .so e, σ, h => (ev e σ h).bind fun x h1 => oiM x h1
def ct : Tc → En → MH → R Bool
  | .no, _, h => .ok true h
  | .so e, σ, h => tv e σ h
def asg : Tg → MV → En → MH → R En
  | .nm i, v, σ, h => setM i v σ h
  | .tup l, v, σ, h => match v with
    | .tup vs => (asgs l vs σ h).noEx
    | _ => .stk
  | .att o f, v, σ, h => (ev o σ h).bind fun x h1 => (setA x f v h1).bind fun _ h2 => .ok σ h2
  | .sub o i, v, σ, h => (ev o σ h).bind fun x h1 => (ev i σ h1).bind fun y h2 => (setI x y v h2).bind fun _ h3 => .ok σ h3
def asgs : Tgs → List MV → En → MH → R En
  | .nil, [], σ, h => .ok σ h
  | .cons t r, v :: vs, σ, h => (asg t v σ h).bind fun σ1 h1 => asgs r vs σ1 h1
  | _, _, _, _ => .stk
def itv : Itx → En → MH → R It
  | .ex e, σ, h => (ev e σ h).bind fun x h1 => itM x h1
  | .rng b, σ, h => (ev b σ h).bind fun x h1 => rngM (.int 0) x h1
  | .rng2 a b, σ, h => (ev a σ h).bind fun x h1 => (ev b σ h1).bind fun y h2 => rngM x y h2
  | _, _, _ => .stk
end
def upds (σ : En) : List Nat → List MV → Option En
  | [], [] => some σ
  | i :: is, v :: vs => upds (σ.set i (some v)) is vs
  | _, _ => none
mutual
def exec : St → En → MH → RS
  | .pass, σ, h => .nx σ h
  | .exp e, σ, h => (ev P C e σ h).go σ fun _ h1 => .nx σ h1
  | .ret e, σ, h => (ev P C e σ h).go σ fun v h1 => .rt v h1
  | .retN, _, h => .rt .non h
  | .set tg e, σ, h => (ev P C e σ h).go σ fun v h1 => (asg P C tg v σ h1).go σ fun σ2 h2 => .nx σ2 h2
  | .par is es, σ, h => (evs P C es σ h).go σ fun vs h1 => match upds σ is vs with
    | some σ1 => .nx σ1 h1
    | none => .stk
  | .aug i op e, σ, h => match σ[i]? with
    | some (some x) => (ev P C e σ h).go σ fun y h1 => (augM op x y h1).go σ fun z h2 => .nx (σ.set i (some z)) h2
    | _ => .stk
  | .augA o f op e, σ, h => (ev P C o σ h).go σ fun x h1 => (attM x f h1).go σ fun y h2 => (ev P C e σ h2).go σ fun z h3 => (binM op y z h3).go σ fun w h4 => (setA x f w h4).go σ fun _ h5 => .nx σ h5
  | .ite c a b, σ, h => (tv P C c σ h).go σ fun d h1 => if d then execs a σ h1 else execs b σ h1
  | .for_ tg it b, σ, h => (itv P C it σ h).go σ fun t h1 => match t.len h1 with
    | some n => loop (fun v σ2 h2 => (asg P C tg v σ2 h2).go σ2 fun σ3 h3 => execs b σ3 h3) t n 0 σ h1
    | none => .stk
  | .brk, σ, h => .bk σ h
  | .cont, σ, h => .ct σ h
def execs : Ss → En → MH → RS
  | .nil, σ, h => .nx σ h
  | .cons s r, σ, h => match exec s σ h with
    | .nx σ1 h1 => execs r σ1 h1
    | x => x
end
/-- a def called: its parameters' values in order -/
def runFn (d : FnD) (vs : List MV) (h : MH) : R MV :=
  if vs.length = d.np then
    match execs P C d.body (vs.map some ++ List.replicate (d.ns - d.np) none) h with
    | .nx _ h1 => .ok .non h1
    | .rt v h1 => .ok v h1
    | .ex c l _ h1 => .ex c l h1
    | _ => .stk
  else .stk
end
/-- the f-th def at most k calls deep -/
def callM (P : Prog) : Nat → Nat → List MV → MH → R MV
  | 0, _, _, _ => .stk
  | k + 1, f, vs, h => runFn P (callM P k) (P.fn f) vs h
end DM
set_option linter.all false
set_option maxRecDepth 100000
/-! PL: reckoning with the interpreter. -/
namespace DM
theorem get_push_size {h : MH} {o : MO} : (h.push o).get h.size = some o := List.getElem?_concat_length
theorem get_push_lt {h : MH} {o : MO} {n : Nat} (e : n < h.size) : (h.push o).get n = h.get n := List.getElem?_append_left e
theorem get_lt {h : MH} {n : Nat} {o : MO} (e : h.get n = some o) : n < h.size := (List.getElem?_eq_some_iff.mp e).1
theorem get_push {h : MH} {o u : MO} {n : Nat} (e : h.get n = some u) : (h.push o).get n = some u := by rw [get_push_lt (get_lt e)]; exact e
theorem get_put {h : MH} {n : Nat} {o u : MO} (e : h.get n = some u) : (h.put n o).get n = some o := List.getElem?_set_self (get_lt e)
theorem get_put_ne {h : MH} {n m : Nat} {o : MO} (e : m ≠ n) : (h.put n o).get m = h.get m := List.getElem?_set_ne (fun q => e q.symm)
theorem size_put {h : MH} {n : Nat} {o : MO} : (h.put n o).size = h.size := List.length_set
theorem size_push {h : MH} {o : MO} : (h.push o).size = h.size + 1 := by
  show (h.objs ++ [o]).length = _
  rw [List.length_append]
  rfl
theorem put_put {h : MH} {n : Nat} {o u : MO} : (h.put n o).put n u = h.put n u := by
  show MH.mk ((h.objs.set n o).set n u) = MH.mk (h.objs.set n u)
  rw [List.set_set]
theorem bind_ok' {α β : Type} {a : α} {h : MH} {k : α → MH → R β} : (R.ok a h).bind k = k a h := rfl
theorem noEx_ok' {α : Type} {a : α} {h : MH} : (R.ok a h).noEx = .ok a h := rfl
theorem go_ok {α : Type} {a : α} {h : MH} {σ : En} {k : α → MH → RS} : (R.ok a h).go σ k = k a h := rfl
end DM
namespace DM
section
variable {h : MH} {i j : Int} {P : Prog} {C : Nat → List MV → MH → R MV} {σ : En}
theorem b_add : binM .add (.int i) (.int j) h = .ok (.int (i + j)) h := rfl
theorem b_sub : binM .sub (.int i) (.int j) h = .ok (.int (i - j)) h := rfl
theorem b_mull (e : small i = true) : binM .mul (.int i) (.int j) h = .ok (.int (i * j)) h := by
  show (if small i || small j then R.ok (MV.int (i * j)) h else .stk) = _
  rw [e]
  rfl
theorem b_mulr (e : small j = true) : binM .mul (.int i) (.int j) h = .ok (.int (i * j)) h := by
  show (if small i || small j then R.ok (MV.int (i * j)) h else .stk) = _
  rw [e, Bool.or_true]
  rfl
theorem b_mod (e : 0 < j) : binM .mod (.int i) (.int j) h = .ok (.int (i % j)) h := if_pos e
theorem b_fdiv (e : 0 < j ∧ j < 1073741824) : binM .fdiv (.int i) (.int j) h = .ok (.int (i / j)) h := if_pos e
theorem b_pow {n : Nat} (e : small i = true) (hn : (n : Int) ≤ 1000000) : binM .pow (.int i) (.int n) h = .ok (.int (i ^ n)) h := by
  show (if 0 ≤ (n : Int) ∧ (n : Int) ≤ 1000000 ∧ small i then R.ok (MV.int (i ^ (n : Int).toNat)) h else .stk) = _
  rw [if_pos ⟨Int.natCast_nonneg n, hn, e⟩, Int.toNat_natCast]
theorem b_pow3 (e : small i = true) : binM .pow (.int i) (.int 3) h = .ok (.int (i ^ 3)) h := b_pow (n := 3) e (by decide)
theorem b_pow18 (e : small i = true) : binM .pow (.int i) (.int 18) h = .ok (.int (i ^ 18)) h := b_pow (n := 18) e (by decide)
theorem b_pow30 (e : small i = true) : binM .pow (.int i) (.int 30) h = .ok (.int (i ^ 30)) h := b_pow (n := 30) e (by decide)
theorem b_str {s t : Tx} (e : s.length + t.length ≤ LIM) : binM .add (.str s) (.str t) h = .ok (.str (s ++ t)) h := if_pos e
theorem c_lt : cmpM .lt (.int i) (.int j) h = .ok (.bl (decide (i < j))) h := rfl
theorem c_gt : cmpM .gt (.int i) (.int j) h = .ok (.bl (decide (j < i))) h := rfl
theorem c_le : cmpM .le (.int i) (.int j) h = .ok (.bl (!decide (j < i))) h := rfl
theorem c_ge : cmpM .ge (.int i) (.int j) h = .ok (.bl (!decide (i < j))) h := rfl
theorem c_eqi : cmpM .eq (.int i) (.int j) h = .ok (.bl (i == j)) h := rfl
theorem c_nei : cmpM .ne (.int i) (.int j) h = .ok (.bl (!(i == j))) h := rfl
theorem c_eqs {s t : Tx} : cmpM .eq (.str s) (.str t) h = .ok (.bl (s == t)) h := rfl
theorem c_nes {s t : Tx} : cmpM .ne (.str s) (.str t) h = .ok (.bl (!(s == t))) h := rfl
theorem c_eqb {s t : Bool} : cmpM .eq (.bl s) (.bl t) h = .ok (.bl (s == t)) h := rfl
theorem c_neb {s t : Bool} : cmpM .ne (.bl s) (.bl t) h = .ok (.bl (!(s == t))) h := rfl
theorem t_bl {b : Bool} : truM (.bl b) h = .ok b h := rfl
theorem at_nat {l : List MV} {n : Nat} {v : MV} (e : l[n]? = some v) : atL l (n : Int) = some v := by
  have hl := (List.getElem?_eq_some_iff.mp e).1
  unfold atL DM.ixN
  rw [if_pos (Int.natCast_nonneg n), if_pos (by omega), Int.toNat_natCast]
  exact e
theorem at_0 {l : List MV} {v : MV} (e : l[0]? = some v) : atL l 0 = some v := at_nat (n := 0) e
theorem at_1 {l : List MV} {v : MV} (e : l[1]? = some v) : atL l 1 = some v := at_nat (n := 1) e
theorem at_i {l : List MV} {v : MV} {i : Int} (h0 : 0 ≤ i) (e : l[i.toNat]? = some v) : atL l i = some v := by
  have := at_nat e
  rwa [Int.toNat_of_nonneg h0] at this
theorem s_kl {l : List MV} {v : MV} (e : atL l i = some v) : subM (.kl l) (.int i) h = .ok v h := by
  show (match atL l i with
    | some v => R.ok v h
    | none => .stk) = _
  rw [e]
theorem s_tup {l : List MV} {v : MV} (e : atL l i = some v) : subM (.tup l) (.int i) h = .ok v h := by
  show (match atL l i with
    | some v => R.ok v h
    | none => .stk) = _
  rw [e]
theorem s_ref {n : Nat} {l : List MV} {v : MV} (g : h.get n = some (.lst l)) (e : atL l i = some v) : subM (.ref n) (.int i) h = .ok v h := by
  unfold subM
  simp only [g, e]
theorem w_ref {n : Nat} {l : List MV} {v : MV} {k : Nat} (g : h.get n = some (.lst l)) (hk : k < l.length) : setI (.ref n) (.int k) v h = .ok () (h.put n (.lst (l.set k v))) := by
  unfold setI
  have e : DM.ixN (k : Int) l.length = some k := by
    unfold DM.ixN
    rw [if_pos (Int.natCast_nonneg k), if_pos (by omega), Int.toNat_natCast]
  simp only [g, e]
theorem w_0 {n : Nat} {l : List MV} {v : MV} (g : h.get n = some (.lst l)) (hk : 0 < l.length) : setI (.ref n) (.int 0) v h = .ok () (h.put n (.lst (l.set 0 v))) := w_ref (k := 0) g hk
theorem w_1 {n : Nat} {l : List MV} {v : MV} (g : h.get n = some (.lst l)) (hk : 1 < l.length) : setI (.ref n) (.int 1) v h = .ok () (h.put n (.lst (l.set 1 v))) := w_ref (k := 1) g hk
theorem n_list {l : List MV} (hl : l.length ≤ LIM) : newList h l = .ok (.ref h.size) (h.push (.lst l)) := if_pos hl
theorem l_tup {l : List MV} (hl : l.length ≤ LIM) : litM l h = .ok (.tup l) h := if_pos hl
theorem f_len {l : List MV} : bifM P .len [.kl l] h = .ok (.int l.length) h := rfl
theorem f_lens {l : Tx} (hl : l.length ≤ LIM) : bifM P .len [.str l] h = .ok (.int l.length) h := if_pos hl
theorem f_max : bifM P .max [.int i, .int j] h = .ok (.int (if j > i then j else i)) h := rfl
theorem f_min : bifM P .min [.int i, .int j] h = .ok (.int (if j < i then j else i)) h := rfl
theorem f_abs : bifM P .abs [.int i] h = .ok (.int (if i < 0 then -i else i)) h := rfl
theorem m_app {n : Nat} {l : List MV} {v : MV} (g : h.get n = some (.lst l)) (hl : l.length < LIM) : metM 0 (.ref n) [v] h = .ok .non (h.put n (.lst (l ++ [v]))) := by
  unfold metM
  simp only [g, if_pos hl]
theorem k_app {n : Nat} {l : List MV} (g : h.get n = some (.lst l)) : metK P 0 (.ref n) h = .ok .bt h := by
  unfold metK
  simp only [g, if_true]
theorem mc_bt {k : Nat} {sh : List Src} {x : MV} {vs ws : List MV} : metC C .bt k sh x vs ws h = metM k x vs h := rfl
/-- statements, one behind the other -/
theorem x_nx {s : St} {r : Ss} {σ1 : En} {h1 : MH} {q : RS} (e : exec P C s σ h = .nx σ1 h1) (k : execs P C r σ1 h1 = q) : execs P C (.cons s r) σ h = q := by
  unfold execs
  rw [e]
  exact k
theorem x_rt {s : St} {r : Ss} {v : MV} {h1 : MH} (e : exec P C s σ h = .rt v h1) : execs P C (.cons s r) σ h = .rt v h1 := by
  unfold execs
  rw [e]
theorem f_rt {d : FnD} {vs : List MV} {v : MV} {h1 : MH} (σ0 : En) (hl : vs.length = d.np) (hσ : vs.map some ++ List.replicate (d.ns - d.np) none = σ0) (e : execs P C d.body σ0 h = .rt v h1) : runFn P C d vs h = .ok v h1 := by
  unfold runFn
  rw [if_pos hl, hσ, e]
end
end DM
namespace DM
/-! loops -/
theorem loop_items {body : MV → En → MH → RS} {l : List MV} (Pv : Nat → En → MH → Prop) (step : ∀ i v σ h, l[i]? = some v → Pv i σ h → ∃ σ' h', body v σ h = .nx σ' h' ∧ Pv (i + 1) σ' h') :
    ∀ (n i : Nat) (σ : En) (h : MH), i + n = l.length → Pv i σ h → ∃ σ' h', loop body (.items l) n i σ h = .nx σ' h' ∧ Pv l.length σ' h'
  | 0, i, σ, h, e, p => by
    have e0 : l[i]? = none := List.getElem?_eq_none (by omega)
    refine ⟨σ, h, ?_, by rw [← e]; exact p⟩
    unfold loop
    simp only [It.at, e0]
  | n + 1, i, σ, h, e, p => by
    have hi : i < l.length := by omega
    have e0 : l[i]? = some l[i] := List.getElem?_eq_getElem hi
    obtain ⟨σ1, h1, e1, p1⟩ := step i _ σ h e0 p
    obtain ⟨σ2, h2, e2, p2⟩ := loop_items Pv step n (i + 1) σ1 h1 (by omega) p1
    refine ⟨σ2, h2, ?_, p2⟩
    unfold loop
    simp only [It.at, e0, e1]
    exact e2
theorem loop_live {body : MV → En → MH → RS} {r : Nat} {l : List MV} (Pv : Nat → En → MH → Prop) (hl : ∀ i σ h, Pv i σ h → h.get r = some (.lst l)) (step : ∀ i v σ h, l[i]? = some v → Pv i σ h → ∃ σ' h', body v σ h = .nx σ' h' ∧ Pv (i + 1) σ' h') :
    ∀ (n i : Nat) (σ : En) (h : MH), i + n = l.length → Pv i σ h → ∃ σ' h', loop body (.live r) n i σ h = .nx σ' h' ∧ Pv l.length σ' h'
  | 0, i, σ, h, e, p => by
    have e0 : l[i]? = none := List.getElem?_eq_none (by omega)
    refine ⟨σ, h, ?_, by rw [← e]; exact p⟩
    unfold loop
    simp only [It.at, listOf, hl i σ h p, Option.map_some, e0]
  | n + 1, i, σ, h, e, p => by
    have hi : i < l.length := by omega
    have e0 : l[i]? = some l[i] := List.getElem?_eq_getElem hi
    obtain ⟨σ1, h1, e1, p1⟩ := step i _ σ h e0 p
    obtain ⟨σ2, h2, e2, p2⟩ := loop_live Pv hl step n (i + 1) σ1 h1 (by omega) p1
    refine ⟨σ2, h2, ?_, p2⟩
    unfold loop
    simp only [It.at, listOf, hl i σ h p, Option.map_some, e0, e1]
    exact e2
section
variable {P : Prog} {C : Nat → List MV → MH → R MV} {σ : En} {h h1 : MH} {j : Nat} {it : Itx} {b : Ss} {l : List MV}
theorem for_items (Pv : Nat → En → MH → Prop) (e : itv P C it σ h = .ok (.items l) h1) (h0 : Pv 0 σ h1) (step : ∀ i v σ h, l[i]? = some v → Pv i σ h → ∃ σ' h', execs P C b (σ.set j (some v)) h = .nx σ' h' ∧ Pv (i + 1) σ' h') :
    ∃ σ' h', exec P C (.for_ (.nm j) it b) σ h = .nx σ' h' ∧ Pv l.length σ' h' := by
  obtain ⟨σ', h', e1, p⟩ := loop_items (body := fun v σ2 h2 => (asg P C (.nm j) v σ2 h2).go σ2 fun σ3 h3 => execs P C b σ3 h3) Pv (fun i v σ h hv p => step i v σ h hv p) l.length 0 σ h1 (by omega) h0
  refine ⟨σ', h', ?_, p⟩
  unfold exec
  rw [e]
  exact e1
theorem for_live {r : Nat} (Pv : Nat → En → MH → Prop) (e : itv P C it σ h = .ok (.live r) h1) (hl : ∀ i σ h, Pv i σ h → h.get r = some (.lst l)) (h0 : Pv 0 σ h1) (step : ∀ i v σ h, l[i]? = some v → Pv i σ h → ∃ σ' h', execs P C b (σ.set j (some v)) h = .nx σ' h' ∧ Pv (i + 1) σ' h') :
    ∃ σ' h', exec P C (.for_ (.nm j) it b) σ h = .nx σ' h' ∧ Pv l.length σ' h' := by
  obtain ⟨σ', h', e1, p⟩ := loop_live (body := fun v σ2 h2 => (asg P C (.nm j) v σ2 h2).go σ2 fun σ3 h3 => execs P C b σ3 h3) Pv hl (fun i v σ h hv p => step i v σ h hv p) l.length 0 σ h1 (by omega) h0
  refine ⟨σ', h', ?_, p⟩
  unfold exec
  rw [e]
  show (match It.len h1 (.live r) with
    | some n => _
    | none => RS.stk) = _
  unfold It.len listOf
  simp only [hl 0 σ h1 h0, Option.map_some]
  exact e1
theorem rng_get {a b : Int} {i : Nat} {v : MV} (e : (rngL a b)[i]? = some v) : v = .int (a + i) ∧ i < (b - a).toNat := by
  unfold rngL at e
  rw [List.getElem?_map] at e
  cases q : (List.range (b - a).toNat)[i]? with
  | none => rw [q] at e; cases e
  | some k =>
    rw [q] at e
    cases e
    obtain ⟨h1, h2⟩ := List.getElem?_eq_some_iff.mp q
    rw [List.getElem_range] at h2
    rw [List.length_range] at h1
    subst h2
    exact ⟨rfl, h1⟩
theorem it_rng {b : Ex} {n : Int} (e : ev P C b σ h = .ok (.int n) h1) (h0 : -4611686018427387904 ≤ n) (hn : n ≤ 16777216) : itv P C (.rng b) σ h = .ok (.items (rngL 0 n)) h1 := by
  unfold itv
  rw [e]
  show rngM (.int 0) (.int n) h1 = _
  have e1 : oi (.int n) = some n := by
    unfold oi
    exact if_pos ⟨h0, by omega⟩
  have e0 : oi (.int 0) = some 0 := by
    unfold oi
    exact if_pos ⟨by omega, by omega⟩
  unfold rngM
  rw [e1, e0]
  exact if_pos (by omega)
theorem it_ref {b : Ex} {r : Nat} (e : ev P C b σ h = .ok (.ref r) h1) (g : h1.get r = some (.lst l)) : itv P C (.ex b) σ h = .ok (.live r) h1 := by
  unfold itv
  rw [e]
  show itM (.ref r) h1 = _
  unfold itM itOf listOf
  simp only [g]
theorem x_for {s : St} {r : Ss} {Q : En → MH → Prop} {q : RS} (e : ∃ σ' h', exec P C s σ h = .nx σ' h' ∧ Q σ' h') (k : ∀ σ' h', Q σ' h' → execs P C r σ' h' = q) : execs P C (.cons s r) σ h = q := by
  obtain ⟨σ', h', e1, e2⟩ := e
  exact x_nx e1 (k _ _ e2)
/-- a block that goes on to its end -/
def Runs (P : Prog) (C : Nat → List MV → MH → R MV) (b : Ss) (σ : En) (h : MH) (Q : En → MH → Prop) : Prop := ∃ σ' h', execs P C b σ h = .nx σ' h' ∧ Q σ' h'
theorem Runs.nil {Q : En → MH → Prop} (q : Q σ h) : Runs P C .nil σ h Q := ⟨σ, h, rfl, q⟩
theorem Runs.cons {s : St} {r : Ss} {Q : En → MH → Prop} {σ1 : En} (e : exec P C s σ h = .nx σ1 h1) (k : Runs P C r σ1 h1 Q) : Runs P C (.cons s r) σ h Q := by
  obtain ⟨σ', h', e1, q⟩ := k
  exact ⟨σ', h', x_nx e e1, q⟩
theorem Runs.conv {s : St} {r : Ss} {Q Q1 : En → MH → Prop} (e : ∃ σ' h', exec P C s σ h = .nx σ' h' ∧ Q1 σ' h') (k : ∀ σ' h', Q1 σ' h' → Runs P C r σ' h' Q) : Runs P C (.cons s r) σ h Q := by
  obtain ⟨σ1, h1, e1, q1⟩ := e
  exact Runs.cons e1 (k _ _ q1)
end
end DM
namespace DM
theorem x_end {P : Prog} {C : Nat → List MV → MH → R MV} {σ σ1 : En} {h h1 : MH} {s : St} (e : exec P C s σ h = .nx σ1 h1) : execs P C (.cons s .nil) σ h = .nx σ1 h1 := x_nx e rfl
end DM
namespace DM
/-! what only grows -/
def Grow (h h' : MH) : Prop := h.size ≤ h'.size ∧ ∀ n o, h.get n = some o → h'.get n = some o
theorem Grow.refl {h : MH} : Grow h h := ⟨Nat.le_refl _, fun _ _ e => e⟩
theorem Grow.trans {a b c : MH} (x : Grow a b) (y : Grow b c) : Grow a c := ⟨Nat.le_trans x.1 y.1, fun n o e => y.2 n o (x.2 n o e)⟩
theorem Grow.push {a b : MH} {o : MO} (x : Grow a b) : Grow a (b.push o) := ⟨by rw [size_push]; exact Nat.le_succ_of_le x.1, fun n u e => get_push (x.2 n u e)⟩
theorem Grow.one {a : MH} {o : MO} : Grow a (a.push o) := Grow.refl.push
/-! comprehensions -/
theorem lcl_items {body : MV → MH → R (Option MV)} {l : List MV} (hl : l.length ≤ LIM) (Pv : Nat → List MV → MH → Prop) (step : ∀ i v acc h, l[i]? = some v → Pv i acc h → ∃ x h', body v h = .ok (some x) h' ∧ Pv (i + 1) (acc ++ [x]) h') :
    ∀ (n i : Nat) (acc : List MV) (h : MH), i + n = l.length → acc.length = i → Pv i acc h → ∃ acc' h', lcl body (.items l) n i acc h = .ok acc' h' ∧ Pv l.length acc' h' ∧ acc'.length = l.length
  | 0, i, acc, h, e, ha, p => by
    have e0 : l[i]? = none := List.getElem?_eq_none (by omega)
    refine ⟨acc, h, ?_, by rw [← e]; exact p, by omega⟩
    unfold lcl
    simp only [It.at, e0]
  | n + 1, i, acc, h, e, ha, p => by
    have hi : i < l.length := by omega
    have e0 : l[i]? = some l[i] := List.getElem?_eq_getElem hi
    obtain ⟨x, h1, e1, p1⟩ := step i _ acc h e0 p
    obtain ⟨acc', h2, e2, p2, a2⟩ := lcl_items hl Pv step n (i + 1) (acc ++ [x]) h1 (by omega) (by rw [List.length_append, ha]; rfl) p1
    refine ⟨acc', h2, ?_, p2, a2⟩
    unfold lcl
    simp only [It.at, e0, e1, bind_ok', if_pos (show acc.length < LIM by omega)]
    exact e2
section
variable {P : Prog} {C : Nat → List MV → MH → R MV} {σ : En} {h h1 : MH} {j : Nat} {it : Itx} {elt : Ex} {own : List Nat} {l : List MV}
theorem lc_gen (e : itv P C it σ h = .ok (.items l) h1) (hl : l.length ≤ LIM) (Pv : Nat → List MV → MH → Prop) (h0 : Pv 0 [] h1)
    (step : ∀ i v acc h, l[i]? = some v → Pv i acc h → ∃ x h', ev P C elt ((wipe σ own).set j (some v)) h = .ok x h' ∧ Pv (i + 1) (acc ++ [x]) h') :
    ∃ acc h', ev P C (.lc elt own (.nm j) it .no) σ h = .ok (.ref h'.size) (h'.push (.lst acc)) ∧ Pv l.length acc h' ∧ acc.length = l.length := by
  obtain ⟨acc, h', e1, p, a⟩ := lcl_items (body := lcB (asg P C (.nm j)) (ct P C .no) (ev P C elt) own σ) hl Pv (fun i v acc h hv p => by
    obtain ⟨x, h', e1, p1⟩ := step i v acc h hv p
    refine ⟨x, h', ?_, p1⟩
    unfold lcB asg setM
    simp only [bind_ok', ct, if_true, e1, noEx_ok']) l.length 0 [] h1 (by omega) rfl h0
  refine ⟨acc, h', ?_, p, a⟩
  unfold ev lcM
  rw [e]
  simp only [bind_ok', It.len]
  rw [e1]
  exact n_list (by omega)
/-- each item by its own -/
theorem lc_map {F : MV → MV} (e : itv P C it σ h = .ok (.items l) h1) (hl : l.length ≤ LIM) (I : MH → Prop) (h0 : I h1)
    (step : ∀ v h, v ∈ l → I h → ∃ h', ev P C elt ((wipe σ own).set j (some v)) h = .ok (F v) h' ∧ I h') :
    ∃ h', ev P C (.lc elt own (.nm j) it .no) σ h = .ok (.ref h'.size) (h'.push (.lst (l.map F))) ∧ I h' := by
  obtain ⟨acc, h', e1, ⟨p1, p2⟩, _⟩ := lc_gen (elt := elt) (own := own) (j := j) e hl (fun i acc h => I h ∧ acc = (l.take i).map F) ⟨h0, rfl⟩ (by
    rintro i v acc h ev ⟨p, rfl⟩
    obtain ⟨h', e1, p1⟩ := step v h (List.mem_of_getElem? ev) p
    refine ⟨F v, h', e1, p1, ?_⟩
    rw [List.take_add_one, ev, List.map_append]
    rfl)
  rw [List.take_length] at p2
  subst p2
  exact ⟨h', e1, p1⟩
theorem lc_all {Q : MV → Prop} (e : itv P C it σ h = .ok (.items l) h1) (hl : l.length ≤ LIM) (I : MH → Prop) (h0 : I h1)
    (step : ∀ v h, v ∈ l → I h → ∃ x h', ev P C elt ((wipe σ own).set j (some v)) h = .ok x h' ∧ Q x ∧ I h') :
    ∃ acc h', ev P C (.lc elt own (.nm j) it .no) σ h = .ok (.ref h'.size) (h'.push (.lst acc)) ∧ I h' ∧ acc.length = l.length ∧ ∀ x ∈ acc, Q x := by
  obtain ⟨acc, h', e1, ⟨p1, p2⟩, a⟩ := lc_gen (elt := elt) (own := own) (j := j) e hl (fun i acc h => I h ∧ ∀ x ∈ acc, Q x) ⟨h0, fun x hx => (by cases hx)⟩ (by
    rintro i v acc h ev ⟨p, q⟩
    obtain ⟨x, h', e1, q1, p1⟩ := step v h (List.mem_of_getElem? ev) p
    exact ⟨x, h', e1, p1, fun z hz => (List.mem_append.mp hz).elim (q z) fun hz => (by rw [List.mem_singleton.mp hz]; exact q1)⟩)
  exact ⟨acc, h', e1, p1, a, p2⟩
theorem it_str {b : Ex} {s : Tx} (e : ev P C b σ h = .ok (.str s) h1) : itv P C (.ex b) σ h = .ok (.items (s.map fun c => .str [c])) h1 := by
  unfold itv
  rw [e]
  rfl
theorem allT_map {α : Type} (F : α → Bool) : ∀ l : List α, allT (l.map fun c => .bl (F c)) = some (l.all F)
  | [] => rfl
  | x :: xs => by
    simp only [List.map_cons, allT, allT_map F xs, Option.map_some, List.all_cons]
theorem f_all {r : Nat} {l : List MV} {b : Bool} (g : h.get r = some (.lst l)) (e : allT l = some b) : bifM P .all [.ref r] h = .ok (.bl b) h := by
  unfold bifM listOf
  simp only [g, e, bR]
theorem f_lists {s : Tx} (hl : s.length ≤ LIM) : bifM P .list [.str s] h = .ok (.ref h.size) (h.push (.lst (s.map fun c => .str [c]))) := by
  unfold bifM
  exact n_list (by rw [List.length_map]; exact hl)
theorem dat_strs {n : Nat} : ∀ l : List Tx, (l.map MV.str).mapM (dat (n + 1) h) = some (l.map PD.str)
  | [] => rfl
  | x :: xs => by
    rw [List.map_cons, List.mapM_cons, dat_strs xs]
    rfl
theorem in_refs {s : Tx} {r : Nat} {l : List Tx} (g : h.get r = some (.lst (l.map MV.str))) : cmpM .isin (.str s) (.ref r) h = .ok (.bl (l.any fun z => z == s)) h := by
  have e1 : dat DEP h (.ref r) = some (.lst (l.map PD.str)) := by
    unfold DEP
    simp only [dat, g, dat_strs, Option.map_some]
  have e2 : dat DEP h (.str s) = some (.str s) := rfl
  unfold cmpM inM
  simp only [e1, e2, bR, List.any_map]
  rfl
theorem in_kls {s : Tx} {l : List Tx} : cmpM .isin (.str s) (.kl (l.map MV.str)) h = .ok (.bl (l.any fun z => z == s)) h := by
  have e1 : dat DEP h (.kl (l.map MV.str)) = some (.lst (l.map PD.str)) := by
    unfold DEP
    simp only [dat, dat_strs, Option.map_some]
  have e2 : dat DEP h (.str s) = some (.str s) := rfl
  unfold cmpM inM
  simp only [e1, e2, bR, List.any_map]
  rfl
theorem in_str {c : Nat} {t : Tx} : cmpM .isin (.str [c]) (.str t) h = .ok (.bl (decide (c ∈ t))) h := rfl
end
/-! the ends of a text -/
theorem cut_last {α : Type} {l : List α} {c : α} : cut (l ++ [c]) (some (-1)) none = [c] := by
  unfold cut clip
  have e : ((-1 : Int) + ((l ++ [c]).length : Nat)).toNat = l.length := by
    rw [List.length_append, List.length_singleton]
    omega
  simp only
  rw [if_pos (by omega), e, List.drop_left, List.length_append, List.length_singleton]
  exact List.take_of_length_le (by simp)
theorem cut_init {α : Type} {l : List α} {c : α} : cut (l ++ [c]) none (some (-1)) = l := by
  unfold cut clip
  have e : ((-1 : Int) + ((l ++ [c]).length : Nat)).toNat = l.length := by
    rw [List.length_append, List.length_singleton]
    omega
  simp only
  rw [if_pos (by omega), e, List.drop_zero, Nat.sub_zero, List.take_left]
theorem cut_nil {α : Type} {lo hi : Option Int} : cut ([] : List α) lo hi = [] := by
  unfold cut
  simp
theorem cut_from {α : Type} {l : List α} {n : Nat} : cut l (some (n : Int)) none = l.drop n := by
  unfold cut clip
  simp only
  rw [if_neg (by omega), Int.toNat_natCast]
  rcases Nat.le_total n l.length with hn | hn
  · rw [Nat.min_eq_left hn]
    exact List.take_of_length_le (by rw [List.length_drop]; omega)
  · rw [Nat.min_eq_right hn, List.drop_length, List.drop_eq_nil_of_le hn]
    simp
theorem cut_to {α : Type} {l : List α} {n : Nat} : cut l none (some (n : Int)) = l.take n := by
  unfold cut clip
  simp only
  rw [if_neg (by omega), Int.toNat_natCast, List.drop_zero, Nat.sub_zero]
  rcases Nat.le_total n l.length with hn | hn
  · rw [Nat.min_eq_left hn]
  · rw [Nat.min_eq_right hn, List.take_length, List.take_of_length_le hn]
end DM
namespace DM
section
variable {P : Prog} {C : Nat → List MV → MH → R MV} {σ : En} {h h1 : MH}
theorem sl_txt {s : Tx} {lo hi : Option Int} : slM (.str s) lo hi h = .ok (.str (cut s lo hi)) h := rfl
theorem n_neg {i : Int} : negM (.int i) h = .ok (.int (-i)) h := rfl
theorem o_ok {i : Int} (e : -4611686018427387904 ≤ i ∧ i < 4611686018427387904) : oiM (.int i) h = .ok (some i) h := by
  have e1 : oi (.int i) = some i := by
    unfold oi
    exact if_pos e
  unfold oiM
  rw [e1]
theorem o_m1 : oiM (.int (-1)) h = .ok (some (-1)) h := o_ok ⟨by omega, by omega⟩
theorem s_last {l : Tx} {c : Nat} : subM (.str (l ++ [c])) (.int (-1)) h = .ok (.str [c]) h := by
  have e : DM.ixN (-1) (l ++ [c]).length = some l.length := by
    rw [List.length_append, List.length_singleton]
    unfold DM.ixN
    rw [if_neg (by omega), if_pos (by omega)]
    congr 1
    omega
  unfold subM
  simp only [e, List.getElem?_concat_length]
theorem s_strn {s : Tx} {n c : Nat} (e : s[n]? = some c) : subM (.str s) (.int n) h = .ok (.str [c]) h := by
  have hl := (List.getElem?_eq_some_iff.mp e).1
  have e1 : DM.ixN (n : Int) s.length = some n := by
    unfold DM.ixN
    rw [if_pos (Int.natCast_nonneg n), if_pos (by omega), Int.toNat_natCast]
  unfold subM
  simp only [e1, e]
end
end DM
namespace DM
/-! what only grows, but at b -/
def Gb (b : Nat) (h h' : MH) : Prop := h.size ≤ h'.size ∧ ∀ n o, n ≠ b → h.get n = some o → h'.get n = some o
theorem Gb.refl {b : Nat} {h : MH} : Gb b h h := ⟨Nat.le_refl _, fun _ _ _ e => e⟩
theorem Gb.trans {n : Nat} {a b c : MH} (x : Gb n a b) (y : Gb n b c) : Gb n a c := ⟨Nat.le_trans x.1 y.1, fun m o q e => y.2 m o q (x.2 m o q e)⟩
theorem Grow.gb {n : Nat} {a b : MH} (x : Grow a b) : Gb n a b := ⟨x.1, fun m o _ e => x.2 m o e⟩
theorem Gb.push {n : Nat} {a b : MH} {o : MO} (x : Gb n a b) : Gb n a (b.push o) := x.trans Grow.one.gb
theorem Gb.of {n : Nat} {a b : MH} (s : b.size = a.size) (f : ∀ m, m ≠ n → b.get m = a.get m) : Gb n a b := ⟨Nat.le_of_eq s.symm, fun m o q e => by rw [f m q]; exact e⟩
theorem cut_le {α : Type} {l : List α} {lo hi : Option Int} : (cut l lo hi).length ≤ l.length := by
  unfold cut
  rw [List.length_take, List.length_drop]
  omega
theorem cut_in {α : Type} {l : List α} {lo hi : Option Int} {c : α} (hc : c ∈ cut l lo hi) : c ∈ l := List.mem_of_mem_drop (List.mem_of_mem_take hc)
theorem k_join {P : Prog} {s : Tx} {h : MH} : metK P 1 (.str s) h = .ok .bt h := rfl
theorem txs_map : ∀ l : List Tx, txs (l.map MV.str) = some l
  | [] => rfl
  | x :: xs => by
    rw [List.map_cons]
    unfold txs
    rw [txs_map xs]
    rfl
theorem join_signs : ∀ t : Tx, joinT [] (t.map fun c => [c]) = t
  | [] => rfl
  | [a] => rfl
  | a :: b :: r => by
    have e := join_signs (b :: r)
    show [a] ++ [] ++ joinT [] ((b :: r).map fun c => [c]) = _
    rw [e]
    rfl
theorem sum_ones : ∀ t : Tx, ((t.map fun c => [c]).map (·.length)).sum = t.length
  | [] => rfl
  | a :: r => by
    have e := sum_ones r
    rw [List.map_cons, List.map_cons, List.sum_cons, e]
    show 1 + r.length = r.length + 1
    omega
theorem m_join {t : Tx} {r : Nat} {h : MH} (g : h.get r = some (.lst ((t.map fun c => [c]).map MV.str))) (hl : t.length ≤ LIM) : metM 1 (.str []) [.ref r] h = .ok (.str t) h := by
  unfold metM listOf
  simp only [g, txs_map, sum_ones, join_signs, List.length_nil, Nat.mul_zero, Nat.add_zero, if_pos hl]
theorem b_lst {m n : Nat} {a b : List MV} {h : MH} (g1 : h.get m = some (.lst a)) (g2 : h.get n = some (.lst b)) (hl : a.length + b.length ≤ LIM) : binM .add (.ref m) (.ref n) h = .ok (.ref h.size) (h.push (.lst (a ++ b))) := by
  unfold binM
  simp only [g1, g2]
  exact n_list (by rw [List.length_append]; exact hl)
end DM
namespace DM
section
variable {P : Prog} {C : Nat → List MV → MH → R MV} {σ : En} {h h1 h2 h3 : MH}
theorem ev_met1 {m : Nat} {o e1 : Ex} {kn : List Nat} {sh : List Src} {x v r : MV} (e0 : ev P C o σ h = .ok x h1) (ek : metK P m x h1 = .ok .bt h1) (ea : ev P C e1 σ h1 = .ok v h2) (em : metM m x [v] h2 = .ok r h3) : ev P C (.met m o (.cons e1 .nil) .nil kn sh) σ h = .ok r h3 := by
  rw [ev, e0]
  simp only [bind_ok', ek, evs, ea, mc_bt, em]
theorem x_set {j : Nat} {e : Ex} {v : MV} (e0 : ev P C e σ h = .ok v h1) : exec P C (.set (.nm j) e) σ h = .nx (σ.set j (some v)) h1 := by
  rw [exec, e0]
  rfl
end
end DM
namespace DM
theorem cat_ok {h : MH} {r : Nat} {L l : List MV} (g : h.get r = some (.lst L)) (h1 : L.length ≤ 1000) (h2 : l.length ≤ 1000) : ∃ h', newList h l = .ok (.ref h.size) (h.push (.lst l)) ∧ binM .add (.ref r) (.ref h.size) (h.push (.lst l)) = .ok (.ref (h.size + 1)) h' ∧
    h'.get (h.size + 1) = some (.lst (L ++ l)) ∧ Grow h h' ∧ h'.size = h.size + 2 := by
  refine ⟨(h.push (.lst l)).push (.lst (L ++ l)), n_list (by unfold LIM; omega), ?_, ?_, Grow.one.push, ?_⟩
  · rw [← size_push (h := h) (o := .lst l)]
    exact b_lst (get_push g) get_push_size (by unfold LIM; omega)
  · rw [← size_push (h := h) (o := .lst l)]
    exact get_push_size
  · rw [size_push, size_push]
end DM
set_option maxRecDepth 100000
/-! printed by gen.py: the tables of law k01_names_known -/
namespace K01
open DM
/-- is_name: slots 0 thing 1 letters 2 sign -/
def s0_0 : St := .ite (.not_ (.vl (.isi (.var 0) .str))) (.cons (.ret (.bl false)) .nil) .nil
def s0_1 : St := .set (.nm 1) (.ife (.vl (.cmp .isin (.sl (.var 0) (.so (.neg (.int 1))) .no) (.gl 1))) (.sl (.var 0) .no (.so (.neg (.int 1)))) (.var 0))
def s0_2 : St := .ret (.and_ (.ch .le .le (.int 1) (.bif .len (.cons (.var 1) .nil)) (.gl 2)) (.bif .all (.cons (.lc (.cmp .isin (.var 2) (.gl 0)) [2] (.nm 2) (.ex (.var 1)) .no) .nil)))
def b0 : Ss := .cons s0_0 (.cons s0_1 (.cons s0_2 .nil))
/-- _law_bag: slots 0 script 1 at 2 cell 3 great 4 primes 5 mixed -/
def s1_0 : St := .set (.nm 2) (.int 0)
def s1_1 : St := .ite (.vl (.cmp .lt (.var 1) (.bif .len (.cons (.var 0) .nil)))) (.cons (.set (.nm 2) (.sub (.var 0) (.var 1))) .nil) .nil
def s1_2 : St := .set (.nm 3) (.int 0)
def s1_3 : St := .ite (.vl (.cmp .ge (.bif .abs (.cons (.var 2) .nil)) (.bin .pow (.int 10) (.int 18)))) (.cons (.set (.nm 3) (.bif .abs (.cons (.var 2) .nil))) .nil) .nil
def s1_4 : St := .set (.nm 4) (.lst (.cons (.int 2147483647) (.cons (.int 2147483629) (.cons (.int 2147483587) (.cons (.int 2147483579) (.cons (.int 2147483563) (.cons (.int 2147483549) (.cons (.int 2147483543) (.cons (.int 2147483497) .nil)))))))))
def s1_5 : St := .set (.nm 5) (.bin .add (.bin .add (.bin .add (.bin .mul (.bin .mod (.var 2) (.int 2147483647)) (.int 50021)) (.bin .mul (.bin .mul (.int 70001) (.var 1)) (.var 1))) (.bin .mul (.int 9001) (.var 1))) (.int 7717))
def s1_6 : St := .ret (.lst (.cons (.var 3) (.cons (.bin .mod (.var 5) (.sub (.var 4) (.bin .mod (.var 1) (.int 8)))) .nil)))
def b1 : Ss := .cons s1_0 (.cons s1_1 (.cons s1_2 (.cons s1_3 (.cons s1_4 (.cons s1_5 (.cons s1_6 .nil))))))
/-- _law_take: slots 0 bag 1 many 2 digit -/
def s2_0a_0 : St := .set (.nm 2) (.bin .mod (.sub (.var 0) (.int 0)) (.var 1))
def s2_0a_1 : St := .set (.sub (.var 0) (.int 0)) (.bin .fdiv (.sub (.var 0) (.int 0)) (.var 1))
def s2_0a_2 : St := .ret (.var 2)
def k2_0a : Ss := .cons s2_0a_0 (.cons s2_0a_1 (.cons s2_0a_2 .nil))
def s2_0 : St := .ite (.vl (.cmp .gt (.sub (.var 0) (.int 0)) (.int 0))) k2_0a .nil
def s2_1 : St := .set (.sub (.var 0) (.int 1)) (.bin .mod (.bin .add (.bin .mul (.sub (.var 0) (.int 1)) (.int 69069)) (.int 1327217)) (.int 2147483647))
def s2_2 : St := .ret (.bin .mod (.bin .fdiv (.bin .mod (.bin .pow (.sub (.var 0) (.int 1)) (.int 3)) (.int 2147483629)) (.int 16)) (.var 1))
def b2 : Ss := .cons s2_0 (.cons s2_1 (.cons s2_2 .nil))
/-- _law_good_name: slots 0 one 1 core 2 sign -/
def s3_0 : St := .ite (.or_ (.not_ (.vl (.isi (.var 0) .str))) (.vl (.cmp .eq (.var 0) (.str [])))) (.cons (.ret (.bl false)) .nil) .nil
def s3_1 : St := .set (.nm 1) (.var 0)
def s3_2 : St := .ite (.vl (.cmp .isin (.sub (.var 0) (.neg (.int 1))) (.bif .list (.cons (.str [50, 51, 52, 53, 54, 55, 56, 57]) .nil)))) (.cons (.set (.nm 1) (.sl (.var 0) .no (.so (.neg (.int 1))))) .nil) .nil
def s3_3 : St := .ret (.and_ (.ch .le .le (.int 1) (.bif .len (.cons (.var 1) .nil)) (.int 8)) (.bif .all (.cons (.lc (.cmp .isin (.var 2) (.bif .list (.cons (.str [97, 98, 99, 100, 101, 102, 103, 104, 105, 106, 107, 108, 109, 110, 111, 112, 113, 114, 115, 116, 117, 118, 119, 120, 121, 122]) .nil))) [2] (.nm 2) (.ex (.var 1)) .no) .nil)))
def b3 : Ss := .cons s3_0 (.cons s3_1 (.cons s3_2 (.cons s3_3 .nil)))
/-- _law_drawn_name: slots 0 bag 1 letters 2 found 3 spot -/
def s4_0 : St := .set (.nm 1) (.str [97, 98, 99, 100, 101, 102, 103, 104, 105, 106, 107, 108, 109, 110, 111, 112, 113, 114, 115, 116, 117, 118, 119, 120, 121, 122])
def s4_1 : St := .set (.nm 2) (.met 1 (.str []) (.cons (.lc (.sub (.var 1) (.call 2 (.cons (.var 0) (.cons (.int 26) .nil)) .nil [] [.pos 0, .pos 1])) [3] (.nm 3) (.rng (.bin .add (.int 1) (.call 2 (.cons (.var 0) (.cons (.int 8) .nil)) .nil [] [.pos 0, .pos 1]))) .no) .nil) .nil [] [])
def s4_2 : St := .ret (.bin .add (.var 2) (.sub (.lst (.cons (.str []) (.cons (.sub (.str [50, 51, 52, 53, 54, 55, 56, 57]) (.call 2 (.cons (.var 0) (.cons (.int 8) .nil)) .nil [] [.pos 0, .pos 1])) .nil))) (.call 2 (.cons (.var 0) (.cons (.int 2) .nil)) .nil [] [.pos 0, .pos 1])))
def b4 : Ss := .cons s4_0 (.cons s4_1 (.cons s4_2 .nil))
/-- _law_odd_name: slots 0 bag 1 name 2 signs 3 some 4 sign 5 spot -/
def s5_0 : St := .set (.nm 2) (.str [97, 98, 122, 48, 49, 50, 51, 52, 53, 54, 55, 56, 57, 32, 65, 90, 45, 95, 46, 44])
def s5_1 : St := .par [4, 5] (.cons (.sub (.var 2) (.call 2 (.cons (.var 0) (.cons (.int 20) .nil)) .nil [] [.pos 0, .pos 1])) (.cons (.call 2 (.cons (.var 0) (.cons (.bin .add (.bif .len (.cons (.var 1) .nil)) (.int 1)) .nil)) .nil [] [.pos 0, .pos 1]) .nil))
def s5_2 : St := .set (.nm 3) (.lst (.cons (.bin .add (.bin .add (.sl (.var 1) .no (.so (.var 5))) (.var 4)) (.sl (.var 1) (.so (.var 5)) .no)) (.cons (.bin .add (.sl (.var 1) .no (.so (.var 5))) (.sl (.var 1) (.so (.bin .add (.var 5) (.int 1))) .no)) (.cons (.bin .add (.bin .add (.sl (.var 1) .no (.so (.var 5))) (.var 4)) (.sl (.var 1) (.so (.bin .add (.var 5) (.int 1))) .no)) .nil))))
def s5_3 : St := .exp (.met 0 (.var 3) (.cons (.bin .add (.bin .add (.sl (.var 1) .no (.so (.var 5))) (.rev (.sl (.var 1) (.so (.var 5)) (.so (.bin .add (.var 5) (.int 2)))))) (.sl (.var 1) (.so (.bin .add (.var 5) (.int 2))) .no)) .nil) .nil [] [])
def s5_4 : St := .set (.nm 3) (.bin .add (.var 3) (.lst (.cons (.bin .add (.var 1) (.var 1)) (.cons (.bin .add (.var 1) (.var 4)) (.cons (.bin .add (.var 4) (.var 1)) .nil)))))
def s5_5 : St := .set (.nm 3) (.bin .add (.var 3) (.lst (.cons .non (.cons (.bl true) (.cons (.int 0) (.cons (.int 7) (.cons (.bin .pow (.int 10) (.int 30)) (.cons (.str []) (.cons (.str [50]) (.cons (.str [57]) (.cons (.str [97, 48]) (.cons (.str [97, 49]) (.cons (.str [97, 49, 48]) (.cons (.str [97, 98, 99, 100, 101, 102, 103, 104, 105]) (.cons (.str [97, 98, 99, 100, 101, 102, 103, 104, 50]) (.cons (.str [97, 98, 99, 100, 101, 102, 103, 104, 105, 50]) .nil))))))))))))))))
def s5_6 : St := .ret (.sub (.bin .add (.var 3) (.lst (.cons (.str [97, 50, 98]) (.cons (.tup (.cons (.var 1) .nil)) (.cons (.lst (.cons (.var 1) .nil)) (.cons (.lst .nil) (.cons (.tup (.cons (.str [97]) (.cons (.str [50]) .nil))) .nil))))))) (.call 2 (.cons (.var 0) (.cons (.int 26) .nil)) .nil [] [.pos 0, .pos 1]))
def b5 : Ss := .cons s5_0 (.cons s5_1 (.cons s5_2 (.cons s5_3 (.cons s5_4 (.cons s5_5 (.cons s5_6 .nil))))))
/-- law: slots 0 script 1 at 2 bag 3 turn 4 name 5 one 6 shown 7 told -/
def s6_0_0 : St := .set (.nm 2) (.call 1 (.cons (.var 0) (.cons (.var 1) .nil)) .nil [] [.pos 0, .pos 1])
def s6_0_1_0 : St := .set (.nm 4) (.call 4 (.cons (.var 2) .nil) .nil [] [.pos 0])
def s6_0_1_1_0 : St := .set (.nm 6) (.bif .repr (.cons (.var 5) .nil))
def s6_0_1_1_1 : St := .set (.nm 7) (.call 0 (.cons (.var 5) .nil) .nil [] [.pos 0])
def s6_0_1_1_2 : St := .ite (.or_ (.not_ (.vl (.isi (.var 7) .bool))) (.or_ (.vl (.cmp .ne (.var 7) (.call 3 (.cons (.var 5) .nil) .nil [] [.pos 0]))) (.vl (.cmp .ne (.call 0 .nil (.cons (.var 5) .nil) [100] [.kw 0]) (.var 7))))) (.cons (.ret (.bl false)) .nil) .nil
def s6_0_1_1_3 : St := .ite (.or_ (.vl (.cmp .ne (.bif .repr (.cons (.var 5) .nil)) (.var 6))) (.not_ (.vl (.call 0 (.cons (.var 4) .nil) .nil [] [.pos 0])))) (.cons (.ret (.bl false)) .nil) .nil
def k6_0_1_1 : Ss := .cons s6_0_1_1_0 (.cons s6_0_1_1_1 (.cons s6_0_1_1_2 (.cons s6_0_1_1_3 .nil)))
def s6_0_1_1 : St := .for_ (.nm 5) (.ex (.lst (.cons (.var 4) (.cons (.call 5 (.cons (.var 2) (.cons (.var 4) .nil)) .nil [] [.pos 0, .pos 1]) (.cons (.call 5 (.cons (.var 2) (.cons (.var 4) .nil)) .nil [] [.pos 0, .pos 1]) .nil))))) k6_0_1_1
def k6_0_1 : Ss := .cons s6_0_1_0 (.cons s6_0_1_1 .nil)
def s6_0_1 : St := .for_ (.nm 3) (.rng (.int 6)) k6_0_1
def k6_0 : Ss := .cons s6_0_0 (.cons s6_0_1 .nil)
def s6_0 : St := .for_ (.nm 1) (.rng (.bif .max (.cons (.int 1) (.cons (.bif .min (.cons (.int 6) (.cons (.bif .len (.cons (.var 0) .nil)) .nil))) .nil)))) k6_0
def s6_1 : St := .ret (.bl true)
def b6 : Ss := .cons s6_0 (.cons s6_1 .nil)
def fns : Nat → FnD
  | 0 => ⟨1, 3, b0⟩
  | 1 => ⟨2, 6, b1⟩
  | 2 => ⟨2, 3, b2⟩
  | 3 => ⟨1, 3, b3⟩
  | 4 => ⟨1, 4, b4⟩
  | 5 => ⟨2, 6, b5⟩
  | 6 => ⟨1, 8, b6⟩
  | _ => ⟨0, 0, .nil⟩
def glob : Nat → MV
  | 0 => .str [97, 98, 99, 100, 101, 102, 103, 104, 105, 106, 107, 108, 109, 110, 111, 112, 113, 114, 115, 116, 117, 118, 119, 120, 121, 122]
  | 1 => .kl [.str [50], .str [51], .str [52], .str [53], .str [54], .str [55], .str [56], .str [57]]
  | 2 => .int 8
  | _ => .non
abbrev P (shw : PD → Tx) : Prog := ⟨glob, fns, fun _ => ⟨0, []⟩, shw⟩
def nlaw : Nat := 6
end K01
set_option linter.all false
set_option maxRecDepth 100000
set_option maxHeartbeats 4000000
namespace K01
open DM
variable {shw : PD → Tx}
theorem small_lt {i : Int} (h0 : 0 ≤ i) (h1 : i < 2147483647) : small i = true := by unfold small; exact decide_eq_true (by omega)
theorem take_ok {k b : Nat} {h : MH} {g m many : Int} (hb : h.get b = some (.lst [.int g, .int m])) (hg : 0 ≤ g) (hm : 0 ≤ m) (h1 : 0 < many) (h2 : many < 1073741824) :
    ∃ d g' m', 0 ≤ d ∧ d < many ∧ 0 ≤ g' ∧ 0 ≤ m' ∧ callM (P shw) (k + 1) 2 [.ref b, .int many] h = .ok (.int d) (h.put b (.lst [.int g', .int m'])) := by
  have r0 : ∀ {h : MH} {g m : Int}, h.get b = some (.lst [.int g, .int m]) → subM (.ref b) (.int 0) h = .ok (.int g) h := fun hb => s_ref hb (at_0 rfl)
  have r1 : ∀ {h : MH} {g m : Int}, h.get b = some (.lst [.int g, .int m]) → subM (.ref b) (.int 1) h = .ok (.int m) h := fun hb => s_ref hb (at_1 rfl)
  by_cases hz : 0 < g
  · refine ⟨g % many, g / many, m, Int.emod_nonneg _ (by omega), Int.emod_lt_of_pos _ h1, Int.ediv_nonneg hg (by omega), hm, ?_⟩
    refine f_rt [some (.ref b), some (.int many), none] rfl rfl (x_rt (r := .cons s2_1 (.cons s2_2 .nil)) ?_)
    have e1 := w_0 (v := .int (g / many)) hb (by simp)
    simp only [exec, execs, tv, ev, evs, eo, ct, asg, asgs, itv, bind_ok', go_ok, noEx_ok', setM, callP, pick, negM, isNM, chM, mc_bt, t_bl, b_add, b_sub, b_mod, b_fdiv, b_pow3, b_pow18, b_pow30, b_str, c_lt, c_gt, c_le, c_ge, c_eqi, c_nei, c_eqs, c_nes, c_eqb, c_neb, f_len, f_max, f_min, f_abs, List.getElem?_cons_zero, List.getElem?_cons_succ, List.set_cons_zero, List.set_cons_succ, List.length_cons, List.length_nil, if_true, if_false, decide_true, decide_false, Bool.not_true, Bool.not_false, Bool.false_eq_true, Bool.or_true, Bool.true_or, Bool.or_false, Bool.false_or, Bool.and_true, Bool.true_and, Bool.and_false, Bool.false_and, beq_self_eq_true, s2_0, k2_0a, s2_0a_0, s2_0a_1, s2_0a_2, r0 hb, hz, b_mod h1, b_fdiv ⟨h1, h2⟩, e1]
  · have e1 : 0 ≤ (m * 69069 + 1327217) % 2147483647 := Int.emod_nonneg _ (by omega)
    have e2 : (m * 69069 + 1327217) % 2147483647 < 2147483647 := Int.emod_lt_of_pos _ (by omega)
    have sm : small ((m * 69069 + 1327217) % 2147483647) = true := small_lt e1 e2
    have s2 : small 69069 = true := small_lt (by omega) (by omega)
    generalize hM : (m * 69069 + 1327217) % 2147483647 = M at e1 e2 sm
    refine ⟨M ^ 3 % 2147483629 / 16 % many, g, M, Int.emod_nonneg _ (by omega), Int.emod_lt_of_pos _ h1, hg, e1, ?_⟩
    have e3 := w_1 (v := .int M) hb (by simp)
    refine f_rt [some (.ref b), some (.int many), none] rfl rfl (x_nx (r := .cons s2_1 (.cons s2_2 .nil)) (σ1 := [some (.ref b), some (.int many), none]) (h1 := h) ?_ (x_nx (σ1 := [some (.ref b), some (.int many), none]) (h1 := h.put b (.lst [.int g, .int M])) ?_ (x_rt ?_)))
    · simp only [exec, execs, tv, ev, evs, eo, ct, asg, asgs, itv, bind_ok', go_ok, noEx_ok', setM, callP, pick, negM, isNM, chM, mc_bt, t_bl, b_add, b_sub, b_mod, b_fdiv, b_pow3, b_pow18, b_pow30, b_str, c_lt, c_gt, c_le, c_ge, c_eqi, c_nei, c_eqs, c_nes, c_eqb, c_neb, f_len, f_max, f_min, f_abs, List.getElem?_cons_zero, List.getElem?_cons_succ, List.set_cons_zero, List.set_cons_succ, List.length_cons, List.length_nil, if_true, if_false, decide_true, decide_false, Bool.not_true, Bool.not_false, Bool.false_eq_true, Bool.or_true, Bool.true_or, Bool.or_false, Bool.false_or, Bool.and_true, Bool.true_and, Bool.and_false, Bool.false_and, beq_self_eq_true, s2_0, r0 hb, hz]
    · simp only [exec, execs, tv, ev, evs, eo, ct, asg, asgs, itv, bind_ok', go_ok, noEx_ok', setM, callP, pick, negM, isNM, chM, mc_bt, t_bl, b_add, b_sub, b_mod, b_fdiv, b_pow3, b_pow18, b_pow30, b_str, c_lt, c_gt, c_le, c_ge, c_eqi, c_nei, c_eqs, c_nes, c_eqb, c_neb, f_len, f_max, f_min, f_abs, List.getElem?_cons_zero, List.getElem?_cons_succ, List.set_cons_zero, List.set_cons_succ, List.length_cons, List.length_nil, if_true, if_false, decide_true, decide_false, Bool.not_true, Bool.not_false, Bool.false_eq_true, Bool.or_true, Bool.true_or, Bool.or_false, Bool.false_or, Bool.and_true, Bool.true_and, Bool.and_false, Bool.false_and, beq_self_eq_true, s2_1, r1 hb, b_mulr s2, hM, b_mod (show (0:Int) < 2147483647 from by omega), e3]
    · have hb2 := get_put (o := .lst [.int g, .int M]) hb
      simp only [exec, execs, tv, ev, evs, eo, ct, asg, asgs, itv, bind_ok', go_ok, noEx_ok', setM, callP, pick, negM, isNM, chM, mc_bt, t_bl, b_add, b_sub, b_mod, b_fdiv, b_pow3, b_pow18, b_pow30, b_str, c_lt, c_gt, c_le, c_ge, c_eqi, c_nei, c_eqs, c_nes, c_eqb, c_neb, f_len, f_max, f_min, f_abs, List.getElem?_cons_zero, List.getElem?_cons_succ, List.set_cons_zero, List.set_cons_succ, List.length_cons, List.length_nil, if_true, if_false, decide_true, decide_false, Bool.not_true, Bool.not_false, Bool.false_eq_true, Bool.or_true, Bool.true_or, Bool.or_false, Bool.false_or, Bool.and_true, Bool.true_and, Bool.and_false, Bool.false_and, beq_self_eq_true, s2_2, r1 hb2, sm, h1, b_mod (show (0:Int) < 2147483629 from by omega), b_fdiv (show (0:Int) < 16 ∧ (16:Int) < 1073741824 from ⟨by omega, by omega⟩)]
theorem at_ints {ns : List Int} {i : Nat} (h : i < ns.length) : ∃ c, (ns.map MV.int)[i]? = some (.int c) := by
  refine ⟨ns[i], ?_⟩
  rw [List.getElem?_map, List.getElem?_eq_getElem h]
  rfl
def primes : List MV := [.int 2147483647, .int 2147483629, .int 2147483587, .int 2147483579, .int 2147483563, .int 2147483549, .int 2147483543, .int 2147483497]
theorem prime_at {i : Nat} (hi : i < 8) : ∃ p : Int, 0 < p ∧ primes[i]? = some (.int p) := by
  match i, hi with
  | 0, _ => exact ⟨_, by omega, rfl⟩
  | 1, _ => exact ⟨_, by omega, rfl⟩
  | 2, _ => exact ⟨_, by omega, rfl⟩
  | 3, _ => exact ⟨_, by omega, rfl⟩
  | 4, _ => exact ⟨_, by omega, rfl⟩
  | 5, _ => exact ⟨_, by omega, rfl⟩
  | 6, _ => exact ⟨_, by omega, rfl⟩
  | 7, _ => exact ⟨_, by omega, rfl⟩
theorem bag_cell {ns : List Int} {i : Nat} {h : MH} : ∃ c : Int, ∀ C, exec (P shw) C s1_1 [some (.kl (ns.map MV.int)), some (.int i), some (.int 0), none, none, none] h = .nx [some (.kl (ns.map MV.int)), some (.int i), some (.int c), none, none, none] h := by
  by_cases hl : i < ns.length
  · obtain ⟨c, hc⟩ := at_ints hl
    have hl' : (i : Int) < ns.length := by omega
    exact ⟨c, fun C => by simp only [exec, execs, tv, ev, evs, eo, ct, asg, asgs, itv, bind_ok', go_ok, noEx_ok', setM, callP, pick, negM, isNM, chM, mc_bt, t_bl, b_add, b_sub, b_mod, b_fdiv, b_pow3, b_pow18, b_pow30, b_str, c_lt, c_gt, c_le, c_ge, c_eqi, c_nei, c_eqs, c_nes, c_eqb, c_neb, f_len, f_max, f_min, f_abs, List.getElem?_cons_zero, List.getElem?_cons_succ, List.set_cons_zero, List.set_cons_succ, List.length_cons, List.length_nil, if_true, if_false, decide_true, decide_false, Bool.not_true, Bool.not_false, Bool.false_eq_true, Bool.or_true, Bool.true_or, Bool.or_false, Bool.false_or, Bool.and_true, Bool.true_and, Bool.and_false, Bool.false_and, beq_self_eq_true, s1_1, List.length_map, hl', s_kl (at_nat hc)]⟩
  · have hl' : ¬ (i : Int) < ns.length := by omega
    exact ⟨0, fun C => by simp only [exec, execs, tv, ev, evs, eo, ct, asg, asgs, itv, bind_ok', go_ok, noEx_ok', setM, callP, pick, negM, isNM, chM, mc_bt, t_bl, b_add, b_sub, b_mod, b_fdiv, b_pow3, b_pow18, b_pow30, b_str, c_lt, c_gt, c_le, c_ge, c_eqi, c_nei, c_eqs, c_nes, c_eqb, c_neb, f_len, f_max, f_min, f_abs, List.getElem?_cons_zero, List.getElem?_cons_succ, List.set_cons_zero, List.set_cons_succ, List.length_cons, List.length_nil, if_true, if_false, decide_true, decide_false, Bool.not_true, Bool.not_false, Bool.false_eq_true, Bool.or_true, Bool.true_or, Bool.or_false, Bool.false_or, Bool.and_true, Bool.true_and, Bool.and_false, Bool.false_and, beq_self_eq_true, s1_1, List.length_map, hl']⟩
theorem bag_great {a b : Option MV} {c : Int} {h : MH} : ∃ g : Int, 0 ≤ g ∧ ∀ C, exec (P shw) C s1_3 [a, b, some (.int c), some (.int 0), none, none] h = .nx [a, b, some (.int c), some (.int g), none, none] h := by
  have s10 : small 10 = true := small_lt (by omega) (by omega)
  have hcc : 0 ≤ (if c < 0 then -c else c) := by split <;> omega
  generalize hd : (if c < 0 then -c else c) = d at hcc
  by_cases hl : d < 10 ^ 18
  · exact ⟨0, by omega, fun C => by simp only [exec, execs, tv, ev, evs, eo, ct, asg, asgs, itv, bind_ok', go_ok, noEx_ok', setM, callP, pick, negM, isNM, chM, mc_bt, t_bl, b_add, b_sub, b_mod, b_fdiv, b_pow3, b_pow18, b_pow30, b_str, c_lt, c_gt, c_le, c_ge, c_eqi, c_nei, c_eqs, c_nes, c_eqb, c_neb, f_len, f_max, f_min, f_abs, List.getElem?_cons_zero, List.getElem?_cons_succ, List.set_cons_zero, List.set_cons_succ, List.length_cons, List.length_nil, if_true, if_false, decide_true, decide_false, Bool.not_true, Bool.not_false, Bool.false_eq_true, Bool.or_true, Bool.true_or, Bool.or_false, Bool.false_or, Bool.and_true, Bool.true_and, Bool.and_false, Bool.false_and, beq_self_eq_true, s1_3, hl, s10, hd]⟩
  · exact ⟨d, hcc, fun C => by simp only [exec, execs, tv, ev, evs, eo, ct, asg, asgs, itv, bind_ok', go_ok, noEx_ok', setM, callP, pick, negM, isNM, chM, mc_bt, t_bl, b_add, b_sub, b_mod, b_fdiv, b_pow3, b_pow18, b_pow30, b_str, c_lt, c_gt, c_le, c_ge, c_eqi, c_nei, c_eqs, c_nes, c_eqb, c_neb, f_len, f_max, f_min, f_abs, List.getElem?_cons_zero, List.getElem?_cons_succ, List.set_cons_zero, List.set_cons_succ, List.length_cons, List.length_nil, if_true, if_false, decide_true, decide_false, Bool.not_true, Bool.not_false, Bool.false_eq_true, Bool.or_true, Bool.true_or, Bool.or_false, Bool.false_or, Bool.and_true, Bool.true_and, Bool.and_false, Bool.false_and, beq_self_eq_true, s1_3, hl, s10, hd]⟩
theorem bag_primes {h : MH} {C} {σ : En} : exec (P shw) C s1_4 σ h = .nx (σ.set 4 (some (.ref h.size))) (h.push (.lst primes)) := by
  have e : newList h primes = .ok (.ref h.size) (h.push (.lst primes)) := n_list (by decide)
  unfold primes at e ⊢
  simp only [exec, execs, tv, ev, evs, eo, ct, asg, asgs, itv, bind_ok', go_ok, noEx_ok', setM, callP, pick, negM, isNM, chM, mc_bt, t_bl, b_add, b_sub, b_mod, b_fdiv, b_pow3, b_pow18, b_pow30, b_str, c_lt, c_gt, c_le, c_ge, c_eqi, c_nei, c_eqs, c_nes, c_eqb, c_neb, f_len, f_max, f_min, f_abs, List.getElem?_cons_zero, List.getElem?_cons_succ, List.set_cons_zero, List.set_cons_succ, List.length_cons, List.length_nil, if_true, if_false, decide_true, decide_false, Bool.not_true, Bool.not_false, Bool.false_eq_true, Bool.or_true, Bool.true_or, Bool.or_false, Bool.false_or, Bool.and_true, Bool.true_and, Bool.and_false, Bool.false_and, beq_self_eq_true, s1_4, e]
theorem bag_mixed {s : Option MV} {i c : Int} {g q : Option MV} {h : MH} {C} (a1 : small (c % 2147483647) = true) (a3 : small i = true) :
    exec (P shw) C s1_5 [s, some (.int i), some (.int c), g, q, none] h = .nx [s, some (.int i), some (.int c), g, q, some (.int (c % 2147483647 * 50021 + 70001 * i * i + 9001 * i + 7717))] h := by
  simp only [exec, execs, tv, ev, evs, eo, ct, asg, asgs, itv, bind_ok', go_ok, noEx_ok', setM, callP, pick, negM, isNM, chM, mc_bt, t_bl, b_add, b_sub, b_mod, b_fdiv, b_pow3, b_pow18, b_pow30, b_str, c_lt, c_gt, c_le, c_ge, c_eqi, c_nei, c_eqs, c_nes, c_eqb, c_neb, f_len, f_max, f_min, f_abs, List.getElem?_cons_zero, List.getElem?_cons_succ, List.set_cons_zero, List.set_cons_succ, List.length_cons, List.length_nil, if_true, if_false, decide_true, decide_false, Bool.not_true, Bool.not_false, Bool.false_eq_true, Bool.or_true, Bool.true_or, Bool.or_false, Bool.false_or, Bool.and_true, Bool.true_and, Bool.and_false, Bool.false_and, beq_self_eq_true, s1_5, b_mod (show (0:Int) < 2147483647 from by omega), b_mull a1, b_mulr a3]
theorem bag_last {s c : Option MV} {i M p : Int} {j : Nat} {g : Int} {h : MH} {C} (hi : i % 8 = j) (p0 : 0 < p) (pe : primes[j]? = some (.int p)) :
    exec (P shw) C s1_6 [s, some (.int i), c, some (.int g), some (.ref h.size), some (.int M)] (h.push (.lst primes)) = .rt (.ref (h.size + 1)) ((h.push (.lst primes)).push (.lst [.int g, .int (M % p)])) := by
  have e1 := s_ref (i := (j : Int)) get_push_size (at_nat pe) (h := h.push (.lst primes))
  have e2 : newList (h.push (.lst primes)) [.int g, .int (M % p)] = .ok (.ref (h.push (.lst primes)).size) ((h.push (.lst primes)).push (.lst [.int g, .int (M % p)])) := n_list (by simp [LIM])
  rw [size_push] at e2
  simp only [exec, execs, tv, ev, evs, eo, ct, asg, asgs, itv, bind_ok', go_ok, noEx_ok', setM, callP, pick, negM, isNM, chM, mc_bt, t_bl, b_add, b_sub, b_mod, b_fdiv, b_pow3, b_pow18, b_pow30, b_str, c_lt, c_gt, c_le, c_ge, c_eqi, c_nei, c_eqs, c_nes, c_eqb, c_neb, f_len, f_max, f_min, f_abs, List.getElem?_cons_zero, List.getElem?_cons_succ, List.set_cons_zero, List.set_cons_succ, List.length_cons, List.length_nil, if_true, if_false, decide_true, decide_false, Bool.not_true, Bool.not_false, Bool.false_eq_true, Bool.or_true, Bool.true_or, Bool.or_false, Bool.false_or, Bool.and_true, Bool.true_and, Bool.and_false, Bool.false_and, beq_self_eq_true, s1_6, b_mod (show (0:Int) < 8 from by omega), hi, e1, b_mod p0, e2]
theorem small_c {c : Int} : small (c % 2147483647) = true := by
  have m1 := Int.emod_nonneg c (b := 2147483647) (by omega)
  have m2 := Int.emod_lt_of_pos c (b := 2147483647) (by omega)
  exact small_lt m1 m2
theorem bag_ok {k : Nat} {h : MH} {ns : List Int} {i : Nat} (hi : i < 8) : ∃ g m : Int, 0 ≤ g ∧ 0 ≤ m ∧ callM (P shw) (k + 1) 1 [.kl (ns.map MV.int), .int i] h = .ok (.ref (h.size + 1)) ((h.push (.lst primes)).push (.lst [.int g, .int m])) := by
  obtain ⟨p, p0, pe⟩ := prime_at hi
  obtain ⟨c, hc⟩ := bag_cell (shw := shw) (ns := ns) (i := i) (h := h)
  obtain ⟨g, g0, hg⟩ := bag_great (shw := shw) (a := some (.kl (ns.map MV.int))) (b := some (.int i)) (c := c) (h := h)
  have p8 : ((i : Int) % 8) = (i : Int) := by omega
  have a3 : small (i : Int) = true := small_lt (by omega) (by omega)
  have e5 := fun C => bag_mixed (shw := shw) (s := some (.kl (ns.map MV.int))) (i := i) (c := c) (g := some (.int g)) (q := some (.ref h.size)) (h := h.push (.lst primes)) (C := C) small_c a3
  generalize (c % 2147483647 * 50021 + 70001 * i * i + 9001 * i + 7717) = M at e5
  refine ⟨g, M % p, g0, Int.emod_nonneg _ (by omega), ?_⟩
  refine f_rt [some (.kl (ns.map MV.int)), some (.int i), none, none, none, none] rfl rfl (x_nx (r := .cons s1_1 (.cons s1_2 (.cons s1_3 (.cons s1_4 (.cons s1_5 (.cons s1_6 .nil)))))) (σ1 := [some (.kl (ns.map MV.int)), some (.int i), some (.int 0), none, none, none]) (h1 := h) ?_ (x_nx (hc _) (x_nx (σ1 := [some (.kl (ns.map MV.int)), some (.int i), some (.int c), some (.int 0), none, none]) (h1 := h) ?_ (x_nx (hg _) (x_nx bag_primes
    (x_nx (e5 _) (x_rt (bag_last p8 p0 pe))))))))
  · simp only [exec, execs, tv, ev, evs, eo, ct, asg, asgs, itv, bind_ok', go_ok, noEx_ok', setM, callP, pick, negM, isNM, chM, mc_bt, t_bl, b_add, b_sub, b_mod, b_fdiv, b_pow3, b_pow18, b_pow30, b_str, c_lt, c_gt, c_le, c_ge, c_eqi, c_nei, c_eqs, c_nes, c_eqb, c_neb, f_len, f_max, f_min, f_abs, List.getElem?_cons_zero, List.getElem?_cons_succ, List.set_cons_zero, List.set_cons_succ, List.length_cons, List.length_nil, if_true, if_false, decide_true, decide_false, Bool.not_true, Bool.not_false, Bool.false_eq_true, Bool.or_true, Bool.true_or, Bool.or_false, Bool.false_or, Bool.and_true, Bool.true_and, Bool.and_false, Bool.false_and, beq_self_eq_true, s1_0]
  · simp only [exec, execs, tv, ev, evs, eo, ct, asg, asgs, itv, bind_ok', go_ok, noEx_ok', setM, callP, pick, negM, isNM, chM, mc_bt, t_bl, b_add, b_sub, b_mod, b_fdiv, b_pow3, b_pow18, b_pow30, b_str, c_lt, c_gt, c_le, c_ge, c_eqi, c_nei, c_eqs, c_nes, c_eqb, c_neb, f_len, f_max, f_min, f_abs, List.getElem?_cons_zero, List.getElem?_cons_succ, List.set_cons_zero, List.set_cons_succ, List.length_cons, List.length_nil, if_true, if_false, decide_true, decide_false, Bool.not_true, Bool.not_false, Bool.false_eq_true, Bool.or_true, Bool.true_or, Bool.or_false, Bool.false_or, Bool.and_true, Bool.true_and, Bool.and_false, Bool.false_and, beq_self_eq_true, s1_2]

def Bag (h : MH) (b : Nat) : Prop := ∃ g m : Int, h.get b = some (.lst [.int g, .int m]) ∧ 0 ≤ g ∧ 0 ≤ m
theorem Bag.take {k b : Nat} {h : MH} (w : Bag h b) (many : Int) (h1 : 0 < many) (h2 : many < 1073741824) : ∃ d h', 0 ≤ d ∧ d < many ∧ callM (P shw) (k + 1) 2 [.ref b, .int many] h = .ok (.int d) h' ∧ Bag h' b ∧ h'.size = h.size ∧ ∀ n, n ≠ b → h'.get n = h.get n := by
  obtain ⟨g, m, hb, hg, hm⟩ := w
  obtain ⟨d, g', m', d0, d1, g0, m0, e⟩ := take_ok (shw := shw) (k := k) hb hg hm h1 h2
  exact ⟨d, _, d0, d1, e, ⟨g', m', get_put hb, g0, m0⟩, size_put, fun n hn => get_put_ne hn⟩
theorem Bag.push {b : Nat} {h : MH} {o : MO} (w : Bag h b) : Bag (h.push o) b := by
  obtain ⟨g, m, hb, z⟩ := w
  exact ⟨g, m, get_push hb, z⟩
theorem Bag.lt {b : Nat} {h : MH} (w : Bag h b) : b < h.size := by
  obtain ⟨g, m, hb, z⟩ := w
  exact get_lt hb
theorem Bag.put {b n : Nat} {h : MH} {o : MO} (w : Bag h b) (hn : b ≠ n) : Bag (h.put n o) b := by
  obtain ⟨g, m, hb, z⟩ := w
  exact ⟨g, m, by rw [get_put_ne hn]; exact hb, z⟩
theorem pick3 {l : List MV} {d : Int} {n : Nat} {Q : Int → Prop} (hn : l.length = n) (hq : ∀ v ∈ l, ∃ m, v = .int m ∧ Q m) (h0 : 0 ≤ d) (h1 : d < n) : ∃ m, atL l d = some (.int m) ∧ Q m := by
  have hi : d.toNat < l.length := by omega
  obtain ⟨m, e, q⟩ := hq _ (List.getElem_mem hi)
  exact ⟨m, at_i h0 (by rw [List.getElem?_eq_getElem hi, e]), q⟩
theorem rng_len {a b : Int} : (rngL a b).length = (b - a).toNat := by
  unfold rngL
  rw [List.length_map, List.length_range]
end K01
set_option linter.all false
set_option maxRecDepth 100000
set_option maxHeartbeats 4000000
namespace K01
open DM
variable {shw : PD → Tx}
def LET : Tx := [97, 98, 99, 100, 101, 102, 103, 104, 105, 106, 107, 108, 109, 110, 111, 112, 113, 114, 115, 116, 117, 118, 119, 120, 121, 122]
def FIG : List Tx := [[50], [51], [52], [53], [54], [55], [56], [57]]
def low (c : Nat) : Bool := decide (c ∈ LET)
def fig (s : Tx) : Bool := FIG.any fun z => z == s
def core (s : Tx) : Tx := if fig (cut s (some (-1)) none) then cut s none (some (-1)) else s
def nm (s : Tx) : Bool := (decide (1 ≤ (core s).length) && decide ((core s).length ≤ 8)) && (core s).all low
theorem core_len {s : Tx} : (core s).length ≤ s.length := by
  unfold core
  split
  · unfold cut
    rw [List.length_take, List.length_drop]
    omega
  · exact Nat.le_refl _
theorem g0 : glob 0 = .str LET := rfl
theorem g1 : glob 1 = .kl (FIG.map MV.str) := rfl
theorem g2 : glob 2 = .int 8 := rfl
theorem in_fig {x : Tx} {h : MH} : cmpM .isin (.str x) (.kl (FIG.map MV.str)) h = .ok (.bl (fig x)) h := in_kls
theorem le_dec {a b : Int} : (!decide (b < a)) = decide (a ≤ b) := by
  rw [Bool.eq_iff_iff]
  simp
theorem name_ch {k : Nat} {a c : Option MV} {t : Tx} {h : MH} (ht : t.length ≤ LIM) : ev (P shw) (callM (P shw) k) (.ch .le .le (.int 1) (.bif .len (.cons (.var 1) .nil)) (.gl 2)) [a, some (.str t), c] h = .ok (.bl (decide (1 ≤ t.length) && decide (t.length ≤ 8))) h := by
  have e1 : decide ((1:Int) ≤ t.length) = decide (1 ≤ t.length) := by rw [decide_eq_decide]; omega
  have e2 : decide ((t.length : Int) ≤ 8) = decide (t.length ≤ 8) := by rw [decide_eq_decide]; omega
  cases b1 : decide (1 ≤ t.length) <;> simp only [exec, execs, tv, ev, evs, eo, ct, asg, asgs, itv, bind_ok', go_ok, noEx_ok', setM, callP, pick, negM, isNM, chM, mc_bt, t_bl, b_add, b_sub, b_mod, b_fdiv, b_pow3, b_pow18, b_pow30, b_str, c_lt, c_gt, c_le, c_ge, c_eqi, c_nei, c_eqs, c_nes, c_eqb, c_neb, f_len, f_max, f_min, f_abs, List.getElem?_cons_zero, List.getElem?_cons_succ, List.set_cons_zero, List.set_cons_succ, List.length_cons, List.length_nil, if_true, if_false, decide_true, decide_false, Bool.not_true, Bool.not_false, Bool.false_eq_true, Bool.or_true, Bool.true_or, Bool.or_false, Bool.false_or, Bool.and_true, Bool.true_and, Bool.and_false, Bool.false_and, beq_self_eq_true, f_lens ht, g2, le_dec, e1, e2, b1]
theorem name_all {k : Nat} {a c : Option MV} {t : Tx} {h : MH} (ht : t.length ≤ LIM) : ∃ h', ev (P shw) (callM (P shw) k) (.bif .all (.cons (.lc (.cmp .isin (.var 2) (.gl 0)) [2] (.nm 2) (.ex (.var 1)) .no) .nil)) [a, some (.str t), c] h = .ok (.bl (t.all low)) h' ∧ Grow h h' := by
  have ei : itv (P shw) (callM (P shw) k) (.ex (.var 1)) [a, some (.str t), c] h = .ok (.items (t.map fun c => .str [c])) h := it_str rfl
  obtain ⟨h', e, gr⟩ := lc_map (elt := .cmp .isin (.var 2) (.gl 0)) (own := [2]) (j := 2) (F := fun v => match v with
    | .str [c] => .bl (low c)
    | _ => .non) ei (by rw [List.length_map]; exact ht) (fun h' => Grow h h') .refl (by
      intro v h1 hv gr
      obtain ⟨c, _, rfl⟩ := List.mem_map.mp hv
      refine ⟨h1, ?_, gr⟩
      simp only [exec, execs, tv, ev, evs, eo, ct, asg, asgs, itv, bind_ok', go_ok, noEx_ok', setM, callP, pick, negM, isNM, chM, mc_bt, t_bl, b_add, b_sub, b_mod, b_fdiv, b_pow3, b_pow18, b_pow30, b_str, c_lt, c_gt, c_le, c_ge, c_eqi, c_nei, c_eqs, c_nes, c_eqb, c_neb, f_len, f_max, f_min, f_abs, List.getElem?_cons_zero, List.getElem?_cons_succ, List.set_cons_zero, List.set_cons_succ, List.length_cons, List.length_nil, if_true, if_false, decide_true, decide_false, Bool.not_true, Bool.not_false, Bool.false_eq_true, Bool.or_true, Bool.true_or, Bool.or_false, Bool.false_or, Bool.and_true, Bool.true_and, Bool.and_false, Bool.false_and, beq_self_eq_true, wipe, g0, in_str]
      rfl)
  rw [List.map_map] at e
  refine ⟨h'.push (.lst (t.map fun c => .bl (low c))), ?_, gr.push⟩
  have e2 := f_all (P := P shw) (h := h'.push (.lst (t.map fun c => MV.bl (low c)))) (r := h'.size) get_push_size (allT_map low t)
  simp only [ev, evs] at e ⊢
  rw [e]
  simp only [bind_ok']
  exact e2
theorem name_ok {k : Nat} {h : MH} {s : Tx} (hs : s.length ≤ LIM) : ∃ h', callM (P shw) (k + 1) 0 [.str s] h = .ok (.bl (nm s)) h' ∧ Grow h h' := by
  have hc : (core s).length ≤ LIM := Nat.le_trans core_len hs
  have e1 : exec (P shw) (callM (P shw) k) s0_0 [some (.str s), none, none] h = .nx [some (.str s), none, none] h := by
    simp only [exec, execs, tv, ev, evs, eo, ct, asg, asgs, itv, bind_ok', go_ok, noEx_ok', setM, callP, pick, negM, isNM, chM, mc_bt, t_bl, b_add, b_sub, b_mod, b_fdiv, b_pow3, b_pow18, b_pow30, b_str, c_lt, c_gt, c_le, c_ge, c_eqi, c_nei, c_eqs, c_nes, c_eqb, c_neb, f_len, f_max, f_min, f_abs, List.getElem?_cons_zero, List.getElem?_cons_succ, List.set_cons_zero, List.set_cons_succ, List.length_cons, List.length_nil, if_true, if_false, decide_true, decide_false, Bool.not_true, Bool.not_false, Bool.false_eq_true, Bool.or_true, Bool.true_or, Bool.or_false, Bool.false_or, Bool.and_true, Bool.true_and, Bool.and_false, Bool.false_and, beq_self_eq_true, s0_0, isiM, tyM, subT, bR]
  have e2 : exec (P shw) (callM (P shw) k) s0_1 [some (.str s), none, none] h = .nx [some (.str s), some (.str (core s)), none] h := by
    unfold core
    cases hf : fig (cut s (some (-1)) none) <;> simp only [exec, execs, tv, ev, evs, eo, ct, asg, asgs, itv, bind_ok', go_ok, noEx_ok', setM, callP, pick, negM, isNM, chM, mc_bt, t_bl, b_add, b_sub, b_mod, b_fdiv, b_pow3, b_pow18, b_pow30, b_str, c_lt, c_gt, c_le, c_ge, c_eqi, c_nei, c_eqs, c_nes, c_eqb, c_neb, f_len, f_max, f_min, f_abs, List.getElem?_cons_zero, List.getElem?_cons_succ, List.set_cons_zero, List.set_cons_succ, List.length_cons, List.length_nil, if_true, if_false, decide_true, decide_false, Bool.not_true, Bool.not_false, Bool.false_eq_true, Bool.or_true, Bool.true_or, Bool.or_false, Bool.false_or, Bool.and_true, Bool.true_and, Bool.and_false, Bool.false_and, beq_self_eq_true, s0_1, n_neg, o_m1, sl_txt, g1, in_fig, hf]
  obtain ⟨h', e3, gr⟩ := name_all (shw := shw) (k := k) (a := some (.str s)) (c := none) (h := h) hc
  have e4 := name_ch (shw := shw) (k := k) (a := some (.str s)) (c := none) (h := h) hc
  cases hb : (decide (1 ≤ (core s).length) && decide ((core s).length ≤ 8)) with
  | false =>
    refine ⟨h, f_rt [some (.str s), none, none] rfl rfl (x_nx (r := .cons s0_1 (.cons s0_2 .nil)) e1 (x_nx e2 (x_rt ?_))), .refl⟩
    unfold nm
    rw [hb] at e4 ⊢
    unfold s0_2 exec
    rw [ev, e4]
    rfl
  | true =>
    refine ⟨h', f_rt [some (.str s), none, none] rfl rfl (x_nx (r := .cons s0_1 (.cons s0_2 .nil)) e1 (x_nx e2 (x_rt ?_))), gr⟩
    unfold nm
    rw [hb] at e4 ⊢
    unfold s0_2 exec
    rw [ev, e4]
    simp only [bind_ok', t_bl, if_true, Bool.true_and]
    rw [e3]
    rfl

/-! the law's own look -/
theorem core_snoc {l : Tx} {c : Nat} : core (l ++ [c]) = if fig [c] then l else l ++ [c] := by
  unfold core
  rw [cut_last, cut_init]
theorem nm_nil : nm [] = false := by
  have e : core [] = [] := by
    unfold core
    rw [cut_nil, cut_nil]
    split <;> rfl
  unfold nm
  rw [e]
  rfl
theorem in_figs {x : Tx} {h : MH} {r : Nat} (g : h.get r = some (.lst (FIG.map MV.str))) : cmpM .isin (.str x) (.ref r) h = .ok (.bl (fig x)) h := in_refs g
theorem signs_str (s : Tx) : (s.map fun c => MV.str [c]) = (s.map fun c => [c]).map MV.str := by rw [List.map_map]; rfl
theorem let_in {c : Nat} : (LET.map fun c => [c]).any (fun z => z == [c]) = low c := by
  unfold low
  rw [List.any_map, Bool.eq_iff_iff, List.any_eq_true]
  simp
theorem look_all {k : Nat} {a c : Option MV} {t : Tx} {h : MH} (ht : t.length ≤ LIM) : ∃ h', ev (P shw) (callM (P shw) k) (.bif .all (.cons (.lc (.cmp .isin (.var 2) (.bif .list (.cons (.str LET) .nil))) [2] (.nm 2) (.ex (.var 1)) .no) .nil)) [a, some (.str t), c] h = .ok (.bl (t.all low)) h' ∧ Grow h h' := by
  have ei : itv (P shw) (callM (P shw) k) (.ex (.var 1)) [a, some (.str t), c] h = .ok (.items (t.map fun c => .str [c])) h := it_str rfl
  obtain ⟨h', e, gr⟩ := lc_map (elt := .cmp .isin (.var 2) (.bif .list (.cons (.str LET) .nil))) (own := [2]) (j := 2) (F := fun v => match v with
    | .str [c] => .bl (low c)
    | _ => .non) ei (by rw [List.length_map]; exact ht) (fun h' => Grow h h') .refl (by
      intro v h1 hv gr
      obtain ⟨c, _, rfl⟩ := List.mem_map.mp hv
      have el := f_lists (P := P shw) (s := LET) (h := h1) (by simp [LET, LIM])
      have e2 := in_refs (s := [c]) (h := h1.push (.lst (LET.map fun c => MV.str [c]))) (r := h1.size) (l := LET.map fun c => [c]) (by rw [← signs_str]; exact get_push_size)
      rw [let_in] at e2
      refine ⟨h1.push (.lst (LET.map fun c => MV.str [c])), ?_, gr.push⟩
      simp only [exec, execs, tv, ev, evs, eo, ct, asg, asgs, itv, bind_ok', go_ok, noEx_ok', setM, callP, pick, negM, isNM, chM, mc_bt, t_bl, b_add, b_sub, b_mod, b_fdiv, b_pow3, b_pow18, b_pow30, b_str, c_lt, c_gt, c_le, c_ge, c_eqi, c_nei, c_eqs, c_nes, c_eqb, c_neb, f_len, f_max, f_min, f_abs, List.getElem?_cons_zero, List.getElem?_cons_succ, List.set_cons_zero, List.set_cons_succ, List.length_cons, List.length_nil, if_true, if_false, decide_true, decide_false, Bool.not_true, Bool.not_false, Bool.false_eq_true, Bool.or_true, Bool.true_or, Bool.or_false, Bool.false_or, Bool.and_true, Bool.true_and, Bool.and_false, Bool.false_and, beq_self_eq_true, wipe, el, e2])
  rw [List.map_map] at e
  refine ⟨h'.push (.lst (t.map fun c => .bl (low c))), ?_, gr.push⟩
  have e2 := f_all (P := P shw) (h := h'.push (.lst (t.map fun c => MV.bl (low c)))) (r := h'.size) get_push_size (allT_map low t)
  simp only [ev, evs] at e ⊢
  rw [e]
  simp only [bind_ok']
  exact e2
theorem look_ch {k : Nat} {a c : Option MV} {t : Tx} {h : MH} (ht : t.length ≤ LIM) : ev (P shw) (callM (P shw) k) (.ch .le .le (.int 1) (.bif .len (.cons (.var 1) .nil)) (.int 8)) [a, some (.str t), c] h = .ok (.bl (decide (1 ≤ t.length) && decide (t.length ≤ 8))) h := by
  have e1 : decide ((1:Int) ≤ t.length) = decide (1 ≤ t.length) := by rw [decide_eq_decide]; omega
  have e2 : decide ((t.length : Int) ≤ 8) = decide (t.length ≤ 8) := by rw [decide_eq_decide]; omega
  cases b1 : decide (1 ≤ t.length) <;> simp only [exec, execs, tv, ev, evs, eo, ct, asg, asgs, itv, bind_ok', go_ok, noEx_ok', setM, callP, pick, negM, isNM, chM, mc_bt, t_bl, b_add, b_sub, b_mod, b_fdiv, b_pow3, b_pow18, b_pow30, b_str, c_lt, c_gt, c_le, c_ge, c_eqi, c_nei, c_eqs, c_nes, c_eqb, c_neb, f_len, f_max, f_min, f_abs, List.getElem?_cons_zero, List.getElem?_cons_succ, List.set_cons_zero, List.set_cons_succ, List.length_cons, List.length_nil, if_true, if_false, decide_true, decide_false, Bool.not_true, Bool.not_false, Bool.false_eq_true, Bool.or_true, Bool.true_or, Bool.or_false, Bool.false_or, Bool.and_true, Bool.true_and, Bool.and_false, Bool.false_and, beq_self_eq_true, f_lens ht, le_dec, e1, e2, b1]
theorem look_ok {k : Nat} {h : MH} {s : Tx} (hs : s.length ≤ LIM) : ∃ h', callM (P shw) (k + 1) 3 [.str s] h = .ok (.bl (nm s)) h' ∧ Grow h h' := by
  rcases List.eq_nil_or_concat s with rfl | ⟨l, c, rfl⟩
  · refine ⟨h, f_rt [some (.str []), none, none] rfl rfl (x_rt (r := .cons s3_1 (.cons s3_2 (.cons s3_3 .nil))) ?_), .refl⟩
    rw [nm_nil]
    simp only [exec, execs, tv, ev, evs, eo, ct, asg, asgs, itv, bind_ok', go_ok, noEx_ok', setM, callP, pick, negM, isNM, chM, mc_bt, t_bl, b_add, b_sub, b_mod, b_fdiv, b_pow3, b_pow18, b_pow30, b_str, c_lt, c_gt, c_le, c_ge, c_eqi, c_nei, c_eqs, c_nes, c_eqb, c_neb, f_len, f_max, f_min, f_abs, List.getElem?_cons_zero, List.getElem?_cons_succ, List.set_cons_zero, List.set_cons_succ, List.length_cons, List.length_nil, if_true, if_false, decide_true, decide_false, Bool.not_true, Bool.not_false, Bool.false_eq_true, Bool.or_true, Bool.true_or, Bool.or_false, Bool.false_or, Bool.and_true, Bool.true_and, Bool.and_false, Bool.false_and, beq_self_eq_true, s3_0, isiM, tyM, subT, bR]
  · rw [List.concat_eq_append] at hs ⊢
    have hc : (core (l ++ [c])).length ≤ LIM := Nat.le_trans core_len hs
    have e1 : exec (P shw) (callM (P shw) k) s3_0 [some (.str (l ++ [c])), none, none] h = .nx [some (.str (l ++ [c])), none, none] h := by
      have en : ((l ++ [c]) == ([] : Tx)) = false := by rw [beq_eq_false_iff_ne]; simp
      simp only [exec, execs, tv, ev, evs, eo, ct, asg, asgs, itv, bind_ok', go_ok, noEx_ok', setM, callP, pick, negM, isNM, chM, mc_bt, t_bl, b_add, b_sub, b_mod, b_fdiv, b_pow3, b_pow18, b_pow30, b_str, c_lt, c_gt, c_le, c_ge, c_eqi, c_nei, c_eqs, c_nes, c_eqb, c_neb, f_len, f_max, f_min, f_abs, List.getElem?_cons_zero, List.getElem?_cons_succ, List.set_cons_zero, List.set_cons_succ, List.length_cons, List.length_nil, if_true, if_false, decide_true, decide_false, Bool.not_true, Bool.not_false, Bool.false_eq_true, Bool.or_true, Bool.true_or, Bool.or_false, Bool.false_or, Bool.and_true, Bool.true_and, Bool.and_false, Bool.false_and, beq_self_eq_true, s3_0, isiM, tyM, subT, bR, en]
    have el := f_lists (P := P shw) (s := [50, 51, 52, 53, 54, 55, 56, 57]) (h := h) (by simp [LIM])
    have ef := in_figs (x := [c]) (h := h.push (.lst (([50, 51, 52, 53, 54, 55, 56, 57] : Tx).map fun c => MV.str [c]))) (r := h.size) get_push_size
    have g1 : Grow h (h.push (.lst (([50, 51, 52, 53, 54, 55, 56, 57] : Tx).map fun c => MV.str [c]))) := .one
    generalize (h.push (.lst (([50, 51, 52, 53, 54, 55, 56, 57] : Tx).map fun c => MV.str [c]))) = h1 at el ef g1
    have e2 : exec (P shw) (callM (P shw) k) s3_2 [some (.str (l ++ [c])), some (.str (l ++ [c])), none] h = .nx [some (.str (l ++ [c])), some (.str (core (l ++ [c]))), none] h1 := by
      rw [core_snoc]
      cases hf : fig [c] <;> simp only [exec, execs, tv, ev, evs, eo, ct, asg, asgs, itv, bind_ok', go_ok, noEx_ok', setM, callP, pick, negM, isNM, chM, mc_bt, t_bl, b_add, b_sub, b_mod, b_fdiv, b_pow3, b_pow18, b_pow30, b_str, c_lt, c_gt, c_le, c_ge, c_eqi, c_nei, c_eqs, c_nes, c_eqb, c_neb, f_len, f_max, f_min, f_abs, List.getElem?_cons_zero, List.getElem?_cons_succ, List.set_cons_zero, List.set_cons_succ, List.length_cons, List.length_nil, if_true, if_false, decide_true, decide_false, Bool.not_true, Bool.not_false, Bool.false_eq_true, Bool.or_true, Bool.true_or, Bool.or_false, Bool.false_or, Bool.and_true, Bool.true_and, Bool.and_false, Bool.false_and, beq_self_eq_true, s3_2, n_neg, s_last, el, ef, hf, o_m1, sl_txt, cut_init]
    obtain ⟨h', e3, gr⟩ := look_all (shw := shw) (k := k) (a := some (.str (l ++ [c]))) (c := none) (h := h1) hc
    have e4 := look_ch (shw := shw) (k := k) (a := some (.str (l ++ [c]))) (c := none) (h := h1) hc
    have eb : exec (P shw) (callM (P shw) k) s3_1 [some (.str (l ++ [c])), none, none] h = .nx [some (.str (l ++ [c])), some (.str (l ++ [c])), none] h := by
      simp only [exec, execs, tv, ev, evs, eo, ct, asg, asgs, itv, bind_ok', go_ok, noEx_ok', setM, callP, pick, negM, isNM, chM, mc_bt, t_bl, b_add, b_sub, b_mod, b_fdiv, b_pow3, b_pow18, b_pow30, b_str, c_lt, c_gt, c_le, c_ge, c_eqi, c_nei, c_eqs, c_nes, c_eqb, c_neb, f_len, f_max, f_min, f_abs, List.getElem?_cons_zero, List.getElem?_cons_succ, List.set_cons_zero, List.set_cons_succ, List.length_cons, List.length_nil, if_true, if_false, decide_true, decide_false, Bool.not_true, Bool.not_false, Bool.false_eq_true, Bool.or_true, Bool.true_or, Bool.or_false, Bool.false_or, Bool.and_true, Bool.true_and, Bool.and_false, Bool.false_and, beq_self_eq_true, s3_1]
    cases hb : (decide (1 ≤ (core (l ++ [c])).length) && decide ((core (l ++ [c])).length ≤ 8)) with
    | false =>
      refine ⟨h1, f_rt [some (.str (l ++ [c])), none, none] rfl rfl (x_nx (r := .cons s3_1 (.cons s3_2 (.cons s3_3 .nil))) e1 (x_nx eb (x_nx e2 (x_rt ?_)))), g1⟩
      unfold nm
      rw [hb] at e4 ⊢
      unfold s3_3 exec
      rw [ev, e4]
      rfl
    | true =>
      refine ⟨h', f_rt [some (.str (l ++ [c])), none, none] rfl rfl (x_nx (r := .cons s3_1 (.cons s3_2 (.cons s3_3 .nil))) e1 (x_nx eb (x_nx e2 (x_rt ?_)))), g1.trans gr⟩
      unfold nm
      rw [hb] at e4 ⊢
      unfold s3_3 exec
      rw [ev, e4]
      simp only [bind_ok', t_bl, if_true, Bool.true_and]
      unfold LET at e3
      rw [e3]
      rfl

/-! things that are no texts -/
def Odd (h : MH) (v : MV) : Prop := ∃ a, tyM h v = some a ∧ subT a .str = some false
theorem Odd.name {k : Nat} {h : MH} {v : MV} (o : Odd h v) : callM (P shw) (k + 1) 0 [v] h = .ok (.bl false) h := by
  obtain ⟨a, e1, e2⟩ := o
  have e : bR (isiM v .str h) h = .ok (.bl false) h := by
    unfold isiM
    simp only [e1, e2, bR]
  refine f_rt [some v, none, none] rfl rfl (x_rt (r := .cons s0_1 (.cons s0_2 .nil)) ?_)
  simp only [exec, execs, tv, ev, evs, eo, ct, asg, asgs, itv, bind_ok', go_ok, noEx_ok', setM, callP, pick, negM, isNM, chM, mc_bt, t_bl, b_add, b_sub, b_mod, b_fdiv, b_pow3, b_pow18, b_pow30, b_str, c_lt, c_gt, c_le, c_ge, c_eqi, c_nei, c_eqs, c_nes, c_eqb, c_neb, f_len, f_max, f_min, f_abs, List.getElem?_cons_zero, List.getElem?_cons_succ, List.set_cons_zero, List.set_cons_succ, List.length_cons, List.length_nil, if_true, if_false, decide_true, decide_false, Bool.not_true, Bool.not_false, Bool.false_eq_true, Bool.or_true, Bool.true_or, Bool.or_false, Bool.false_or, Bool.and_true, Bool.true_and, Bool.and_false, Bool.false_and, beq_self_eq_true, s0_0, e]
theorem Odd.look {k : Nat} {h : MH} {v : MV} (o : Odd h v) : callM (P shw) (k + 1) 3 [v] h = .ok (.bl false) h := by
  obtain ⟨a, e1, e2⟩ := o
  have e : bR (isiM v .str h) h = .ok (.bl false) h := by
    unfold isiM
    simp only [e1, e2, bR]
  refine f_rt [some v, none, none] rfl rfl (x_rt (r := .cons s3_1 (.cons s3_2 (.cons s3_3 .nil))) ?_)
  simp only [exec, execs, tv, ev, evs, eo, ct, asg, asgs, itv, bind_ok', go_ok, noEx_ok', setM, callP, pick, negM, isNM, chM, mc_bt, t_bl, b_add, b_sub, b_mod, b_fdiv, b_pow3, b_pow18, b_pow30, b_str, c_lt, c_gt, c_le, c_ge, c_eqi, c_nei, c_eqs, c_nes, c_eqb, c_neb, f_len, f_max, f_min, f_abs, List.getElem?_cons_zero, List.getElem?_cons_succ, List.set_cons_zero, List.set_cons_succ, List.length_cons, List.length_nil, if_true, if_false, decide_true, decide_false, Bool.not_true, Bool.not_false, Bool.false_eq_true, Bool.or_true, Bool.true_or, Bool.or_false, Bool.false_or, Bool.and_true, Bool.true_and, Bool.and_false, Bool.false_and, beq_self_eq_true, s3_0, e]
/-- what is asked: a text, or something else, with what it holds -/
def Thing (b : Nat) (h : MH) (v : MV) : Prop := ((∃ s : Tx, v = .str s ∧ s.length ≤ 40) ∨ ∀ h', Gb b h h' → Odd h' v) ∧ ∃ d, (∀ h', Gb b h h' → dat DEP h' v = some d) ∧ shwOk d = true ∧ msz d ≤ LIM
theorem Thing.grow {n : Nat} {h h' : MH} {v : MV} (t : Thing n h v) (g : Gb n h h') : Thing n h' v := by
  obtain ⟨a, d, b, c⟩ := t
  exact ⟨a.imp id fun z h2 g2 => z h2 (g.trans g2), d, fun h2 g2 => b h2 (g.trans g2), c⟩
theorem Thing.both {k n : Nat} {h : MH} {v : MV} (t : Thing n h v) : ∃ b : Bool, ∀ h1, Grow h h1 → (∃ h', callM (P shw) (k + 1) 0 [v] h1 = .ok (.bl b) h' ∧ Grow h1 h') ∧ ∃ h', callM (P shw) (k + 1) 3 [v] h1 = .ok (.bl b) h' ∧ Grow h1 h' := by
  rcases t.1 with ⟨s, rfl, hs⟩ | o
  · have hl : s.length ≤ LIM := by unfold LIM; omega
    exact ⟨nm s, fun h1 _ => ⟨name_ok hl, look_ok hl⟩⟩
  · exact ⟨false, fun h1 g => ⟨⟨h1, (o h1 g.gb).name, .refl⟩, h1, (o h1 g.gb).look, .refl⟩⟩
theorem Thing.repr {n : Nat} {h : MH} {v : MV} (t : Thing n h v) : ∃ s : Tx, ∀ h', Grow h h' → bifM (P shw) .repr [v] h' = .ok (.str s) h' := by
  obtain ⟨_, d, b, c1, c2⟩ := t
  refine ⟨shw d, fun h' g => ?_⟩
  show tR (shM (P shw) v h') h' = _
  unfold shM
  simp only [b h' g.gb]
  rw [if_pos ⟨c1, c2⟩]
  rfl
/-- one thing asked -/
theorem one_ok {k b0 : Nat} {h : MH} {v : MV} {n : Tx} {x0 x1 x2 x3 x6 x7 : Option MV} (t : Thing b0 h v) (hn : n.length ≤ 40) (hnm : nm n = true) :
    ∃ h' y6 y7, execs (P shw) (callM (P shw) (k + 1)) k6_0_1_1 [x0, x1, x2, x3, some (.str n), some v, x6, x7] h = .nx [x0, x1, x2, x3, some (.str n), some v, y6, y7] h' ∧ Grow h h' := by
  obtain ⟨b, hb⟩ := t.both (shw := shw) (k := k)
  obtain ⟨s, hs⟩ := t.repr (shw := shw)
  obtain ⟨h1, e1, q1⟩ := (hb h .refl).1
  obtain ⟨h2, e2, q2⟩ := (hb h1 q1).2
  have r2 := q1.trans q2
  obtain ⟨h3, e3, q3⟩ := (hb h2 r2).1
  have r3 := r2.trans q3
  obtain ⟨h4, e4, q4⟩ := name_ok (shw := shw) (k := k) (h := h3) (s := n) (by unfold LIM; omega)
  rw [hnm] at e4
  have s3 := hs h3 r3
  refine ⟨h4, some (.str s), some (.bl b), x_nx (σ1 := [x0, x1, x2, x3, some (.str n), some v, some (.str s), x7]) (h1 := h) ?_ (x_nx (σ1 := [x0, x1, x2, x3, some (.str n), some v, some (.str s), some (.bl b)]) (h1 := h1) ?_
    (x_nx (σ1 := [x0, x1, x2, x3, some (.str n), some v, some (.str s), some (.bl b)]) (h1 := h3) ?_ (x_end ?_))), r3.trans q4⟩
  · simp only [exec, execs, tv, ev, evs, eo, ct, asg, asgs, itv, bind_ok', go_ok, noEx_ok', setM, callP, pick, negM, isNM, chM, mc_bt, t_bl, b_add, b_sub, b_mod, b_fdiv, b_pow3, b_pow18, b_pow30, b_str, c_lt, c_gt, c_le, c_ge, c_eqi, c_nei, c_eqs, c_nes, c_eqb, c_neb, f_len, f_max, f_min, f_abs, List.getElem?_cons_zero, List.getElem?_cons_succ, List.set_cons_zero, List.set_cons_succ, List.length_cons, List.length_nil, if_true, if_false, decide_true, decide_false, Bool.not_true, Bool.not_false, Bool.false_eq_true, Bool.or_true, Bool.true_or, Bool.or_false, Bool.false_or, Bool.and_true, Bool.true_and, Bool.and_false, Bool.false_and, beq_self_eq_true, s6_0_1_1_0, hs h .refl]
  · simp only [exec, execs, tv, ev, evs, eo, ct, asg, asgs, itv, bind_ok', go_ok, noEx_ok', setM, callP, pick, negM, isNM, chM, mc_bt, t_bl, b_add, b_sub, b_mod, b_fdiv, b_pow3, b_pow18, b_pow30, b_str, c_lt, c_gt, c_le, c_ge, c_eqi, c_nei, c_eqs, c_nes, c_eqb, c_neb, f_len, f_max, f_min, f_abs, List.getElem?_cons_zero, List.getElem?_cons_succ, List.set_cons_zero, List.set_cons_succ, List.length_cons, List.length_nil, if_true, if_false, decide_true, decide_false, Bool.not_true, Bool.not_false, Bool.false_eq_true, Bool.or_true, Bool.true_or, Bool.or_false, Bool.false_or, Bool.and_true, Bool.true_and, Bool.and_false, Bool.false_and, beq_self_eq_true, s6_0_1_1_1, e1]
  · simp only [exec, execs, tv, ev, evs, eo, ct, asg, asgs, itv, bind_ok', go_ok, noEx_ok', setM, callP, pick, negM, isNM, chM, mc_bt, t_bl, b_add, b_sub, b_mod, b_fdiv, b_pow3, b_pow18, b_pow30, b_str, c_lt, c_gt, c_le, c_ge, c_eqi, c_nei, c_eqs, c_nes, c_eqb, c_neb, f_len, f_max, f_min, f_abs, List.getElem?_cons_zero, List.getElem?_cons_succ, List.set_cons_zero, List.set_cons_succ, List.length_cons, List.length_nil, if_true, if_false, decide_true, decide_false, Bool.not_true, Bool.not_false, Bool.false_eq_true, Bool.or_true, Bool.true_or, Bool.or_false, Bool.false_or, Bool.and_true, Bool.true_and, Bool.and_false, Bool.false_and, beq_self_eq_true, s6_0_1_1_2, isiM, tyM, subT, bR, e2, e3]
  · simp only [exec, execs, tv, ev, evs, eo, ct, asg, asgs, itv, bind_ok', go_ok, noEx_ok', setM, callP, pick, negM, isNM, chM, mc_bt, t_bl, b_add, b_sub, b_mod, b_fdiv, b_pow3, b_pow18, b_pow30, b_str, c_lt, c_gt, c_le, c_ge, c_eqi, c_nei, c_eqs, c_nes, c_eqb, c_neb, f_len, f_max, f_min, f_abs, List.getElem?_cons_zero, List.getElem?_cons_succ, List.set_cons_zero, List.set_cons_succ, List.length_cons, List.length_nil, if_true, if_false, decide_true, decide_false, Bool.not_true, Bool.not_false, Bool.false_eq_true, Bool.or_true, Bool.true_or, Bool.or_false, Bool.false_or, Bool.and_true, Bool.true_and, Bool.and_false, Bool.false_and, beq_self_eq_true, s6_0_1_1_3, s3, e4]

theorem Bag.grow {b : Nat} {h h' : MH} (w : Bag h b) (g : Grow h h') : Bag h' b := by
  obtain ⟨g0, m, hb, z⟩ := w
  exact ⟨g0, m, g.2 _ _ hb, z⟩
/-! what is drawn -/
theorem fig_low : ∀ c ∈ LET, fig [c] = false := by decide
theorem acc_low : ∀ {acc : List MV}, (∀ x ∈ acc, ∃ c, x = .str [c] ∧ c ∈ LET) → ∃ t : Tx, acc = (t.map fun c => [c]).map MV.str ∧ (∀ c ∈ t, c ∈ LET) ∧ t.length = acc.length
  | [], _ => ⟨[], rfl, fun c h => (by cases h), rfl⟩
  | x :: xs, hx => by
    obtain ⟨c, rfl, hc⟩ := hx x List.mem_cons_self
    obtain ⟨t, rfl, ht, hl⟩ := acc_low fun y hy => hx y (List.mem_cons_of_mem _ hy)
    exact ⟨c :: t, rfl, fun d hd => (List.mem_cons.mp hd).elim (fun z => z ▸ hc) (ht d), by rw [List.length_cons, List.length_cons, hl]⟩
theorem all_low {t : Tx} (ht : ∀ c ∈ t, c ∈ LET) : t.all low = true := List.all_eq_true.mpr fun c hc => decide_eq_true (ht c hc)
theorem nm_of {t f : Tx} (h1 : 1 ≤ t.length) (h2 : t.length ≤ 8) (ht : ∀ c ∈ t, c ∈ LET) (hf : f = [] ∨ ∃ d, f = [d] ∧ fig [d] = true) : nm (t ++ f) = true := by
  have ec : core (t ++ f) = t := by
    rcases hf with rfl | ⟨d, rfl, hd⟩
    · rw [List.append_nil]
      rcases List.eq_nil_or_concat t with rfl | ⟨l, c, rfl⟩
      · cases h1
      · rw [List.concat_eq_append] at ht ⊢
        rw [core_snoc, fig_low c (ht c (by simp))]
        rfl
    · rw [core_snoc, hd]
      rfl
  unfold nm
  rw [ec, all_low ht, decide_eq_true h1, decide_eq_true h2]
  rfl
theorem lo_128 : ∀ c ∈ LET, c < 128 := by decide
theorem nth_in {t : Tx} {d : Int} {n : Nat} (hn : t.length = n) (h0 : 0 ≤ d) (h1 : d < n) : ∃ c, c ∈ t ∧ ∀ {h : MH}, subM (.str t) (.int d) h = .ok (.str [c]) h := by
  have hi : d.toNat < t.length := by omega
  refine ⟨t[d.toNat], List.getElem_mem hi, fun {h} => ?_⟩
  have := s_strn (h := h) (List.getElem?_eq_getElem hi)
  rwa [Int.toNat_of_nonneg h0] at this
theorem pick2 {l : List MV} {d : Int} {n : Nat} {Q : MV → Prop} (hn : l.length = n) (hq : ∀ v ∈ l, Q v) (h0 : 0 ≤ d) (h1 : d < n) : ∃ v, atL l d = some v ∧ Q v := by
  have hi : d.toNat < l.length := by omega
  exact ⟨_, at_i h0 (List.getElem?_eq_getElem hi), hq _ (List.getElem_mem hi)⟩
theorem drawn_ok {k b : Nat} {h : MH} (w : Bag h b) : ∃ n h', callM (P shw) (k + 2) 4 [.ref b] h = .ok (.str n) h' ∧ nm n = true ∧ n.length ≤ 9 ∧ (∀ c ∈ n, c < 128) ∧ Bag h' b ∧ Gb b h h' := by
  obtain ⟨d, h1, d0, d1, e1, w1, s1, f1⟩ := w.take (shw := shw) (k := k) 8 (by omega) (by omega)
  have ei : itv (P shw) (callM (P shw) (k + 1)) (.rng (.bin .add (.int 1) (.call 2 (.cons (.var 0) (.cons (.int 8) .nil)) .nil [] [.pos 0, .pos 1]))) [some (.ref b), some (.str LET), none, none] h = .ok (.items (rngL 0 (1 + d))) h1 :=
    it_rng (by simp only [exec, execs, tv, ev, evs, eo, ct, asg, asgs, itv, bind_ok', go_ok, noEx_ok', setM, callP, pick, negM, isNM, chM, mc_bt, t_bl, b_add, b_sub, b_mod, b_fdiv, b_pow3, b_pow18, b_pow30, b_str, c_lt, c_gt, c_le, c_ge, c_eqi, c_nei, c_eqs, c_nes, c_eqb, c_neb, f_len, f_max, f_min, f_abs, List.getElem?_cons_zero, List.getElem?_cons_succ, List.set_cons_zero, List.set_cons_succ, List.length_cons, List.length_nil, if_true, if_false, decide_true, decide_false, Bool.not_true, Bool.not_false, Bool.false_eq_true, Bool.or_true, Bool.true_or, Bool.or_false, Bool.false_or, Bool.and_true, Bool.true_and, Bool.and_false, Bool.false_and, beq_self_eq_true, e1]) (by omega) (by omega)
  obtain ⟨acc, h2, e2, ⟨w2, gb2⟩, hl, hq⟩ := lc_all (elt := .sub (.var 1) (.call 2 (.cons (.var 0) (.cons (.int 26) .nil)) .nil [] [.pos 0, .pos 1])) (own := [3]) (j := 3) (Q := fun x => ∃ c, x = .str [c] ∧ c ∈ LET) ei (by rw [rng_len]; unfold LIM; omega) (fun h' => Bag h' b ∧ Gb b h h') ⟨w1, .of s1 f1⟩ (by
    rintro v hx _ ⟨w, g⟩
    obtain ⟨q, h', q0, q1, e, w', s', f'⟩ := w.take (shw := shw) (k := k) 26 (by omega) (by omega)
    obtain ⟨c, hc, ec⟩ := nth_in (t := LET) (n := 26) rfl q0 q1
    exact ⟨.str [c], h', by simp only [exec, execs, tv, ev, evs, eo, ct, asg, asgs, itv, bind_ok', go_ok, noEx_ok', setM, callP, pick, negM, isNM, chM, mc_bt, t_bl, b_add, b_sub, b_mod, b_fdiv, b_pow3, b_pow18, b_pow30, b_str, c_lt, c_gt, c_le, c_ge, c_eqi, c_nei, c_eqs, c_nes, c_eqb, c_neb, f_len, f_max, f_min, f_abs, List.getElem?_cons_zero, List.getElem?_cons_succ, List.set_cons_zero, List.set_cons_succ, List.length_cons, List.length_nil, if_true, if_false, decide_true, decide_false, Bool.not_true, Bool.not_false, Bool.false_eq_true, Bool.or_true, Bool.true_or, Bool.or_false, Bool.false_or, Bool.and_true, Bool.true_and, Bool.and_false, Bool.false_and, beq_self_eq_true, wipe, e, ec], ⟨c, rfl, hc⟩, w', g.trans (.of s' f')⟩)
  rw [rng_len] at hl
  obtain ⟨t, rfl, ht, htl⟩ := acc_low hq
  have ej := m_join (h := h2.push (.lst ((t.map fun c => [c]).map MV.str))) get_push_size (by unfold LIM; omega)
  have w3 := w2.push (o := .lst ((t.map fun c => [c]).map MV.str))
  have gb3 := gb2.push (o := .lst ((t.map fun c => [c]).map MV.str))
  have es1 : exec (P shw) (callM (P shw) (k + 1)) s4_1 [some (.ref b), some (.str LET), none, none] h = .nx [some (.ref b), some (.str LET), some (.str t), none] (h2.push (.lst ((t.map fun c => [c]).map MV.str))) := by
    exact x_set (ev_met1 rfl k_join e2 ej)
  generalize (h2.push (.lst ((t.map fun c => [c]).map MV.str))) = h3 at es1 w3 gb3
  obtain ⟨u, h4, u0, u1, e4, w4, s4, f4⟩ := w3.take (shw := shw) (k := k) 8 (by omega) (by omega)
  obtain ⟨c, hc, ec⟩ := nth_in (t := [50, 51, 52, 53, 54, 55, 56, 57]) (n := 8) rfl u0 u1
  have n5 : newList h4 [.str [], .str [c]] = .ok (.ref h4.size) (h4.push (.lst [.str [], .str [c]])) := n_list (by simp [LIM])
  obtain ⟨x, h6, x0, x1, e6, w6, s6, f6⟩ := (w4.push (o := .lst [.str [], .str [c]])).take (shw := shw) (k := k) 2 (by omega) (by omega)
  obtain ⟨y, ey, f, rfl, hf⟩ := pick2 (Q := fun v => ∃ f, v = .str f ∧ (f = [] ∨ ∃ d, f = [d] ∧ fig [d] = true)) (l := [.str [], .str [c]]) (n := 2) rfl (by
    intro v hv
    simp only [List.mem_cons, List.not_mem_nil, or_false] at hv
    rcases hv with rfl | rfl
    · exact ⟨_, rfl, .inl rfl⟩
    · refine ⟨_, rfl, .inr ⟨c, rfl, ?_⟩⟩
      exact (show ∀ c ∈ ([50, 51, 52, 53, 54, 55, 56, 57] : Tx), fig [c] = true by decide) c hc) x0 x1
  have g6 : h6.get h4.size = some (.lst [.str [], .str [c]]) := by
    rw [f6 _ (Nat.ne_of_gt w4.lt)]
    exact get_push_size
  have p6 := s_ref g6 ey
  have fl : f.length ≤ 1 := by rcases hf with rfl | ⟨d, rfl, _⟩ <;> simp
  have bs := b_str (s := t) (t := f) (h := h6) (by unfold LIM; omega)
  refine ⟨t ++ f, h6, f_rt [some (.ref b), none, none, none] rfl rfl (x_nx (r := .cons s4_1 (.cons s4_2 .nil)) (σ1 := [some (.ref b), some (.str LET), none, none]) (h1 := h) ?_ (x_nx es1 (x_rt ?_))), nm_of (by omega) (by omega) ht hf, by rw [List.length_append]; omega, ?_, w6, gb3.trans ((Gb.of s4 f4).push.trans (.of s6 f6))⟩
  · simp only [exec, execs, tv, ev, evs, eo, ct, asg, asgs, itv, bind_ok', go_ok, noEx_ok', setM, callP, pick, negM, isNM, chM, mc_bt, t_bl, b_add, b_sub, b_mod, b_fdiv, b_pow3, b_pow18, b_pow30, b_str, c_lt, c_gt, c_le, c_ge, c_eqi, c_nei, c_eqs, c_nes, c_eqb, c_neb, f_len, f_max, f_min, f_abs, List.getElem?_cons_zero, List.getElem?_cons_succ, List.set_cons_zero, List.set_cons_succ, List.length_cons, List.length_nil, if_true, if_false, decide_true, decide_false, Bool.not_true, Bool.not_false, Bool.false_eq_true, Bool.or_true, Bool.true_or, Bool.or_false, Bool.false_or, Bool.and_true, Bool.true_and, Bool.and_false, Bool.false_and, beq_self_eq_true, s4_0, LET]
  · simp only [exec, execs, tv, ev, evs, eo, ct, asg, asgs, itv, bind_ok', go_ok, noEx_ok', setM, callP, pick, negM, isNM, chM, mc_bt, t_bl, b_add, b_sub, b_mod, b_fdiv, b_pow3, b_pow18, b_pow30, b_str, c_lt, c_gt, c_le, c_ge, c_eqi, c_nei, c_eqs, c_nes, c_eqb, c_neb, f_len, f_max, f_min, f_abs, List.getElem?_cons_zero, List.getElem?_cons_succ, List.set_cons_zero, List.set_cons_succ, List.length_cons, List.length_nil, if_true, if_false, decide_true, decide_false, Bool.not_true, Bool.not_false, Bool.false_eq_true, Bool.or_true, Bool.true_or, Bool.or_false, Bool.false_or, Bool.and_true, Bool.true_and, Bool.and_false, Bool.false_and, beq_self_eq_true, s4_2, e4, ec, n5, e6, p6, bs]
  · intro q hq
    rcases List.mem_append.mp hq with hq | hq
    · exact lo_128 q (ht q hq)
    · rcases hf with rfl | ⟨d, rfl, hd⟩
      · cases hq
      · rw [List.mem_singleton.mp hq]
        unfold fig FIG at hd
        simp at hd
        omega

/-! odd names -/
def Ts (n : Nat) (s : Tx) : Prop := s.length ≤ n ∧ ∀ c ∈ s, c < 128
theorem Ts.app {a b n m : Nat} {s t : Tx} (x : Ts a s) (y : Ts b t) (h : a + b ≤ n) : Ts n (s ++ t) := ⟨by rw [List.length_append]; have := x.1; have := y.1; omega, fun c hc => (List.mem_append.mp hc).elim (x.2 c) (y.2 c)⟩
theorem Ts.cut {n : Nat} {s : Tx} {lo hi : Option Int} (x : Ts n s) : Ts n (cut s lo hi) := ⟨Nat.le_trans cut_le x.1, fun c hc => x.2 c (cut_in hc)⟩
theorem Ts.rev {n : Nat} {s : Tx} (x : Ts n s) : Ts n s.reverse := ⟨by rw [List.length_reverse]; exact x.1, fun c hc => x.2 c (List.mem_reverse.mp hc)⟩
theorem Ts.sh {n : Nat} {s : Tx} (x : Ts n s) (hn : n ≤ 40) : shwOk (.str s) = true ∧ msz (.str s) ≤ 402 := by
  refine ⟨?_, ?_⟩
  · unfold shwOk
    rw [List.all_eq_true]
    intro c hc
    have := x.2 c hc
    exact decide_eq_true (by omega)
  · unfold msz
    have := x.1
    omega
theorem thing_str {b n : Nat} {h : MH} {s : Tx} (x : Ts n s) (hn : n ≤ 40) : Thing b h (.str s) := by
  obtain ⟨a, c⟩ := x.sh hn
  exact ⟨.inl ⟨s, rfl, Nat.le_trans x.1 hn⟩, .str s, fun h' _ => rfl, a, by unfold LIM; omega⟩
theorem thing_flat {b : Nat} {h : MH} {v : MV} {a : Tt} {d : PD} (e1 : ∀ h, tyM h v = some a) (e2 : subT a .str = some false) (e3 : ∀ h, dat DEP h v = some d) (e4 : shwOk d = true) (e5 : msz d ≤ LIM) : Thing b h v :=
  ⟨.inr fun h' _ => ⟨a, e1 h', e2⟩, d, fun h' _ => e3 h', e4, e5⟩
theorem thing_list {b r : Nat} {h : MH} {l : List Tx} (g : h.get r = some (.lst (l.map MV.str))) (hb : r ≠ b) (e4 : shwOks (l.map PD.str) = true) (e5 : mszs (l.map PD.str) + 3 ≤ LIM) : Thing b h (.ref r) := by
  refine ⟨.inr fun h' gb => ⟨.lst, ?_, rfl⟩, .lst (l.map PD.str), fun h' gb => ?_, by simp only [shwOk]; exact e4, by simp only [msz]; exact e5⟩
  · unfold tyM
    simp only [gb.2 r _ hb g]
  · unfold DEP
    simp only [dat, gb.2 r _ hb g, dat_strs, Option.map_some]
theorem b_str' {s t : Tx} {h : MH} (a : s.length ≤ 1000) (b : t.length ≤ 1000) : binM .add (.str s) (.str t) h = .ok (.str (s ++ t)) h := b_str (by unfold LIM; omega)
theorem odd_ok {k b : Nat} {h : MH} {n : Tx} (w : Bag h b) (hn : Ts 9 n) : ∃ v h', callM (P shw) (k + 2) 5 [.ref b, .str n] h = .ok v h' ∧ Thing b h' v ∧ Bag h' b ∧ Gb b h h' := by
  obtain ⟨d, h1, d0, d1, e1, w1, s1, f1⟩ := w.take (shw := shw) (k := k) 20 (by omega) (by omega)
  obtain ⟨c, hc, ec⟩ := nth_in (t := [97, 98, 122, 48, 49, 50, 51, 52, 53, 54, 55, 56, 57, 32, 65, 90, 45, 95, 46, 44]) (n := 20) rfl d0 d1
  have c128 : c < 128 := (show ∀ c ∈ ([97, 98, 122, 48, 49, 50, 51, 52, 53, 54, 55, 56, 57, 32, 65, 90, 45, 95, 46, 44] : Tx), c < 128 by decide) c hc
  have tc : Ts 1 [c] := ⟨Nat.le_refl _, fun x hx => by rw [List.mem_singleton.mp hx]; exact c128⟩
  have n9 := hn.1
  obtain ⟨q, h2, q0, q1, e2, w2, s2, f2⟩ := w1.take (shw := shw) (k := k) ((n.length : Int) + 1) (by omega) (by omega)
  have o0 : ∀ {h : MH}, oiM (.int q) h = .ok (some q) h := o_ok ⟨by omega, by omega⟩
  have o1 : ∀ {h : MH}, oiM (.int (q + 1)) h = .ok (some (q + 1)) h := o_ok ⟨by omega, by omega⟩
  have o2 : ∀ {h : MH}, oiM (.int (q + 2)) h = .ok (some (q + 2)) h := o_ok ⟨by omega, by omega⟩
  obtain ⟨A, eA, tA⟩ : ∃ A, cut n none (some q) = A ∧ Ts 9 A := ⟨_, rfl, hn.cut⟩
  obtain ⟨B, eB, tB⟩ : ∃ A, cut n (some q) none = A ∧ Ts 9 A := ⟨_, rfl, hn.cut⟩
  obtain ⟨B1, eB1, tB1⟩ : ∃ A, cut n (some (q + 1)) none = A ∧ Ts 9 A := ⟨_, rfl, hn.cut⟩
  obtain ⟨B2, eB2, tB2⟩ : ∃ A, cut n (some (q + 2)) none = A ∧ Ts 9 A := ⟨_, rfl, hn.cut⟩
  obtain ⟨M, eM, tM⟩ : ∃ A, cut n (some q) (some (q + 2)) = A ∧ Ts 9 A := ⟨_, rfl, hn.cut⟩
  have tR := tM.rev
  have ln : ∀ {h : MH}, bifM (P shw) .len [.str n] h = .ok (.int n.length) h := f_lens (by unfold LIM; omega)
  have u1 := tA.app tc (n := 10) (m := 0) (by omega)
  have u2 := u1.app tB (n := 19) (m := 0) (by omega)
  have u3 := tA.app tB1 (n := 18) (m := 0) (by omega)
  have u4 := u1.app tB1 (n := 19) (m := 0) (by omega)
  have u5 := tA.app tR (n := 18) (m := 0) (by omega)
  have u6 := u5.app tB2 (n := 27) (m := 0) (by omega)
  have u7 := hn.app hn (n := 18) (m := 0) (by omega)
  have u8 := hn.app tc (n := 10) (m := 0) (by omega)
  have u9 := tc.app hn (n := 10) (m := 0) (by omega)
  have k1 : ∀ {h : MH}, binM .add (.str A) (.str [c]) h = .ok (.str (A ++ [c])) h := b_str' (Nat.le_trans tA.1 (by omega)) (Nat.le_trans tc.1 (by omega))
  have k2 : ∀ {h : MH}, binM .add (.str (A ++ [c])) (.str B) h = .ok (.str (A ++ [c] ++ B)) h := b_str' (Nat.le_trans u1.1 (by omega)) (Nat.le_trans tB.1 (by omega))
  have k3 : ∀ {h : MH}, binM .add (.str A) (.str B1) h = .ok (.str (A ++ B1)) h := b_str' (Nat.le_trans tA.1 (by omega)) (Nat.le_trans tB1.1 (by omega))
  have k4 : ∀ {h : MH}, binM .add (.str (A ++ [c])) (.str B1) h = .ok (.str (A ++ [c] ++ B1)) h := b_str' (Nat.le_trans u1.1 (by omega)) (Nat.le_trans tB1.1 (by omega))
  have k5 : ∀ {h : MH}, binM .add (.str A) (.str M.reverse) h = .ok (.str (A ++ M.reverse)) h := b_str' (Nat.le_trans tA.1 (by omega)) (Nat.le_trans tR.1 (by omega))
  have k6 : ∀ {h : MH}, binM .add (.str (A ++ M.reverse)) (.str B2) h = .ok (.str (A ++ M.reverse ++ B2)) h := b_str' (Nat.le_trans u5.1 (by omega)) (Nat.le_trans tB2.1 (by omega))
  have k7 : ∀ {h : MH}, binM .add (.str n) (.str n) h = .ok (.str (n ++ n)) h := b_str' (Nat.le_trans hn.1 (by omega)) (Nat.le_trans hn.1 (by omega))
  have k8 : ∀ {h : MH}, binM .add (.str n) (.str [c]) h = .ok (.str (n ++ [c])) h := b_str' (Nat.le_trans hn.1 (by omega)) (Nat.le_trans tc.1 (by omega))
  have k9 : ∀ {h : MH}, binM .add (.str [c]) (.str n) h = .ok (.str ([c] ++ n)) h := b_str' (Nat.le_trans tc.1 (by omega)) (Nat.le_trans hn.1 (by omega))
  have rv : ∀ {h : MH}, revM (.str M) h = .ok (.str M.reverse) h := rfl
  have nl : ∀ {h : MH} {l : List MV}, l.length ≤ 100 → newList h l = .ok (.ref h.size) (h.push (.lst l)) := fun hl => n_list (by unfold LIM; omega)
  -- the lists
  generalize hL1 : [MV.str (A ++ [c] ++ B), .str (A ++ B1), .str (A ++ [c] ++ B1)] = L1
  have l1 : L1.length = 3 := by rw [← hL1]; rfl
  have z3 : exec (P shw) (callM (P shw) (k + 1)) s5_2 [some (.ref b), some (.str n), some (.str [97, 98, 122, 48, 49, 50, 51, 52, 53, 54, 55, 56, 57, 32, 65, 90, 45, 95, 46, 44]), none, some (.str [c]), some (.int q)] h2
      = .nx [some (.ref b), some (.str n), some (.str [97, 98, 122, 48, 49, 50, 51, 52, 53, 54, 55, 56, 57, 32, 65, 90, 45, 95, 46, 44]), some (.ref h2.size), some (.str [c]), some (.int q)] (h2.push (.lst L1)) := by
    have n1 := nl (h := h2) (l := L1) (by omega)
    rw [← hL1] at n1 ⊢
    simp only [exec, execs, tv, ev, evs, eo, ct, asg, asgs, itv, bind_ok', go_ok, noEx_ok', setM, callP, pick, negM, isNM, chM, mc_bt, t_bl, b_add, b_sub, b_mod, b_fdiv, b_pow3, b_pow18, b_pow30, b_str, c_lt, c_gt, c_le, c_ge, c_eqi, c_nei, c_eqs, c_nes, c_eqb, c_neb, f_len, f_max, f_min, f_abs, List.getElem?_cons_zero, List.getElem?_cons_succ, List.set_cons_zero, List.set_cons_succ, List.length_cons, List.length_nil, if_true, if_false, decide_true, decide_false, Bool.not_true, Bool.not_false, Bool.false_eq_true, Bool.or_true, Bool.true_or, Bool.or_false, Bool.false_or, Bool.and_true, Bool.true_and, Bool.and_false, Bool.false_and, beq_self_eq_true, s5_2, o0, o1, sl_txt, eA, eB, eB1, k1, k2, k3, k4, n1]
  have gr1 : (h2.push (.lst L1)).get h2.size = some (.lst L1) := get_push_size
  have bl2 := w2.lt
  have w3 := w2.push (o := .lst L1)
  have G3 : Gb b h (h2.push (.lst L1)) := ((Gb.of s1 f1).trans (.of s2 f2)).push
  have rb1 : h2.size ≠ b := Nat.ne_of_gt bl2
  have hr1 : h.size ≤ h2.size := by rw [s2, s1]; exact Nat.le_refl _
  generalize hS : ([97, 98, 122, 48, 49, 50, 51, 52, 53, 54, 55, 56, 57, 32, 65, 90, 45, 95, 46, 44] : Tx) = S at ec z3
  generalize (h2.push (.lst L1)) = h3 at z3 gr1 w3 G3
  generalize h2.size = r1 at z3 gr1 rb1 hr1
  -- append
  have ap := m_app (v := .str (A ++ M.reverse ++ B2)) gr1 (by unfold LIM; omega)
  have ka := k_app (P := P shw) gr1
  have z4 : exec (P shw) (callM (P shw) (k + 1)) s5_3 [some (.ref b), some (.str n), some (.str S), some (.ref r1), some (.str [c]), some (.int q)] h3 = .nx [some (.ref b), some (.str n), some (.str S), some (.ref r1), some (.str [c]), some (.int q)] (h3.put r1 (.lst (L1 ++ [.str (A ++ M.reverse ++ B2)]))) := by
    simp only [exec, execs, tv, ev, evs, eo, ct, asg, asgs, itv, bind_ok', go_ok, noEx_ok', setM, callP, pick, negM, isNM, chM, mc_bt, t_bl, b_add, b_sub, b_mod, b_fdiv, b_pow3, b_pow18, b_pow30, b_str, c_lt, c_gt, c_le, c_ge, c_eqi, c_nei, c_eqs, c_nes, c_eqb, c_neb, f_len, f_max, f_min, f_abs, List.getElem?_cons_zero, List.getElem?_cons_succ, List.set_cons_zero, List.set_cons_succ, List.length_cons, List.length_nil, if_true, if_false, decide_true, decide_false, Bool.not_true, Bool.not_false, Bool.false_eq_true, Bool.or_true, Bool.true_or, Bool.or_false, Bool.false_or, Bool.and_true, Bool.true_and, Bool.and_false, Bool.false_and, beq_self_eq_true, s5_3, ka, o0, o2, sl_txt, eA, eM, eB2, rv, k5, k6, ap]
  have gr2 := get_put (o := .lst (L1 ++ [.str (A ++ M.reverse ++ B2)])) gr1
  have w4 := w3.put (o := .lst (L1 ++ [.str (A ++ M.reverse ++ B2)])) (fun z => rb1 z.symm)
  have G4 : Gb b h (h3.put r1 (.lst (L1 ++ [.str (A ++ M.reverse ++ B2)]))) := ⟨by rw [size_put]; exact G3.1, fun m o hm e => by
    have := get_lt e
    rw [get_put_ne (by omega)]
    exact G3.2 m o hm e⟩
  generalize hL2 : L1 ++ [MV.str (A ++ M.reverse ++ B2)] = L2 at z4 gr2 w4 G4
  have l2 : L2.length = 4 := by rw [← hL2, List.length_append, l1]; rfl
  generalize (h3.put r1 (.lst L2)) = h4 at z4 gr2 w4 G4
  -- three more
  obtain ⟨h5, c1, c2, gr3, g5, s5⟩ := cat_ok (l := [.str (n ++ n), .str (n ++ [c]), .str ([c] ++ n)]) gr2 (by omega) (by show 3 ≤ 1000; omega)
  have z5 : exec (P shw) (callM (P shw) (k + 1)) s5_4 [some (.ref b), some (.str n), some (.str S), some (.ref r1), some (.str [c]), some (.int q)] h4 = .nx [some (.ref b), some (.str n), some (.str S), some (.ref (h4.size + 1)), some (.str [c]), some (.int q)] h5 := by
    simp only [exec, execs, tv, ev, evs, eo, ct, asg, asgs, itv, bind_ok', go_ok, noEx_ok', setM, callP, pick, negM, isNM, chM, mc_bt, t_bl, b_add, b_sub, b_mod, b_fdiv, b_pow3, b_pow18, b_pow30, b_str, c_lt, c_gt, c_le, c_ge, c_eqi, c_nei, c_eqs, c_nes, c_eqb, c_neb, f_len, f_max, f_min, f_abs, List.getElem?_cons_zero, List.getElem?_cons_succ, List.set_cons_zero, List.set_cons_succ, List.length_cons, List.length_nil, if_true, if_false, decide_true, decide_false, Bool.not_true, Bool.not_false, Bool.false_eq_true, Bool.or_true, Bool.true_or, Bool.or_false, Bool.false_or, Bool.and_true, Bool.true_and, Bool.and_false, Bool.false_and, beq_self_eq_true, s5_4, k7, k8, k9, c1, c2]
  have G5 := G4.trans g5.gb
  have w5 := w4.grow g5
  have rb2 : h4.size + 1 ≠ b := by have := w4.lt; omega
  generalize h4.size + 1 = r2 at z5 gr3 rb2
  generalize hL3 : L2 ++ [MV.str (n ++ n), .str (n ++ [c]), .str ([c] ++ n)] = L3 at gr3
  have l3 : L3.length = 7 := by rw [← hL3, List.length_append, l2]; rfl
  -- fourteen more
  have s10 : small 10 = true := small_lt (by omega) (by omega)
  generalize hK : ([MV.non, .bl true, .int 0, .int 7, .int (10 ^ 30), .str [], .str [50], .str [57], .str [97, 48], .str [97, 49], .str [97, 49, 48], .str [97, 98, 99, 100, 101, 102, 103, 104, 105], .str [97, 98, 99, 100, 101, 102, 103, 104, 50], .str [97, 98, 99, 100, 101, 102, 103, 104, 105, 50]] : List MV) = K14
  have lK : K14.length = 14 := by rw [← hK]; rfl
  obtain ⟨h6, c3, c4, gr4, g6, s6⟩ := cat_ok (l := K14) gr3 (by omega) (by omega)
  have z6 : exec (P shw) (callM (P shw) (k + 1)) s5_5 [some (.ref b), some (.str n), some (.str S), some (.ref r2), some (.str [c]), some (.int q)] h5 = .nx [some (.ref b), some (.str n), some (.str S), some (.ref (h5.size + 1)), some (.str [c]), some (.int q)] h6 := by
    rw [← hK] at c3 c4
    simp only [exec, execs, tv, ev, evs, eo, ct, asg, asgs, itv, bind_ok', go_ok, noEx_ok', setM, callP, pick, negM, isNM, chM, mc_bt, t_bl, b_add, b_sub, b_mod, b_fdiv, b_pow3, b_pow18, b_pow30, b_str, c_lt, c_gt, c_le, c_ge, c_eqi, c_nei, c_eqs, c_nes, c_eqb, c_neb, f_len, f_max, f_min, f_abs, List.getElem?_cons_zero, List.getElem?_cons_succ, List.set_cons_zero, List.set_cons_succ, List.length_cons, List.length_nil, if_true, if_false, decide_true, decide_false, Bool.not_true, Bool.not_false, Bool.false_eq_true, Bool.or_true, Bool.true_or, Bool.or_false, Bool.false_or, Bool.and_true, Bool.true_and, Bool.and_false, Bool.false_and, beq_self_eq_true, s5_5, b_pow30 s10, c3, c4]
  have G6 := G5.trans g6.gb
  have w6 := w5.grow g6
  have rb3 : h5.size + 1 ≠ b := by have := w5.lt; omega
  generalize h5.size + 1 = r3 at z6 gr4 rb3
  generalize hL4 : L3 ++ K14 = L4 at gr4
  have l4 : L4.length = 21 := by rw [← hL4, List.length_append, l3, lK]
  -- five more
  have m1 := nl (h := h6) (l := [.str n]) (by show 1 ≤ 100; omega)
  have m2 := nl (h := h6.push (.lst [.str n])) (l := []) (by show 0 ≤ 100; omega)
  have x1 : ((h6.push (.lst [.str n])).push (.lst [])).get h6.size = some (.lst [.str n]) := get_push get_push_size
  have x2 : ((h6.push (.lst [.str n])).push (.lst [])).get (h6.push (.lst [.str n])).size = some (.lst []) := get_push_size
  have G7 := G6.push (o := .lst [.str n]) |>.push (o := .lst [])
  have w7 := w6.push (o := .lst [.str n]) |>.push (o := .lst [])
  have gr5 : ((h6.push (.lst [.str n])).push (.lst [])).get r3 = some (.lst L4) := get_push (get_push gr4)
  have y1 : h6.size ≠ b := Nat.ne_of_gt w6.lt
  have y2 : (h6.push (.lst [.str n])).size ≠ b := by rw [size_push]; have := w6.lt; omega
  generalize ((h6.push (.lst [.str n])).push (.lst [])) = h7 at m2 x1 x2 G7 w7 gr5
  generalize (h6.push (.lst [.str n])).size = r5 at m2 x2 y2
  generalize (h6.push (.lst [.str n])) = h6' at m1 m2
  generalize h6.size = r4 at m1 x1 y1
  have t1 : ∀ {h : MH}, litM [.str n] h = .ok (.tup [.str n]) h := l_tup (by show 1 ≤ LIM; unfold LIM; omega)
  have t2 : ∀ {h : MH}, litM [.str [97], .str [50]] h = .ok (.tup [.str [97], .str [50]]) h := l_tup (by show 2 ≤ LIM; unfold LIM; omega)
  generalize hK5 : ([MV.str [97, 50, 98], .tup [.str n], .ref r4, .ref r5, .tup [.str [97], .str [50]]] : List MV) = K5
  have lK5 : K5.length = 5 := by rw [← hK5]; rfl
  obtain ⟨h8, c5, c6, gr6, g8, s8⟩ := cat_ok (l := K5) gr5 (by omega) (by omega)
  have w8 := w7.grow g8
  have rb6 : h7.size + 1 ≠ b := by have := w7.lt; omega
  obtain ⟨z, h9, z0, z1, e9, w9, s9, f9⟩ := w8.take (shw := shw) (k := k) 26 (by omega) (by omega)
  have G9 : Gb b h7 h9 := g8.gb.trans (.of s9 f9)
  have gr7 : h9.get (h7.size + 1) = some (.lst (L4 ++ K5)) := by rw [f9 _ rb6]; exact gr6
  obtain ⟨v, evv, tvv⟩ := pick2 (Q := fun v => Thing b h9 v) (l := L4 ++ K5) (n := 26) (by rw [List.length_append, l4, lK5]) (by
    intro v hv
    rw [← hL4, ← hL3, ← hL2, ← hL1, ← hK, ← hK5] at hv
    simp only [List.mem_append, List.mem_cons, List.not_mem_nil, or_false] at hv
    have ts : ∀ s : Tx, Ts 40 s → Thing b h9 (.str s) := fun s hs => thing_str hs (by omega)
    have up : ∀ {m : Nat} {s : Tx}, Ts m s → m ≤ 40 → Ts 40 s := fun hs hm => ⟨Nat.le_trans hs.1 hm, hs.2⟩
    have sm : ∀ s : Tx, (decide (s.length ≤ 40) && s.all fun c => decide (c < 128)) = true → Thing b h9 (.str s) := fun s hs => by
      rw [Bool.and_eq_true, decide_eq_true_eq, List.all_eq_true] at hs
      exact ts s ⟨hs.1, fun c hc => of_decide_eq_true (hs.2 c hc)⟩
    obtain ⟨q1', q2'⟩ := hn.sh (by omega)
    have v1 : h9.get r4 = some (.lst [.str n]) := G9.2 _ _ y1 x1
    have v2 : h9.get r5 = some (.lst []) := G9.2 _ _ y2 x2
    rcases hv with ((((((rfl | rfl | rfl) | rfl) | (rfl | rfl | rfl)) | (rfl | rfl | rfl | rfl | rfl | rfl | rfl | rfl | rfl | rfl | rfl | rfl | rfl | rfl))) | (rfl | rfl | rfl | rfl | rfl))
    · exact ts _ (up u2 (by omega))
    · exact ts _ (up u3 (by omega))
    · exact ts _ (up u4 (by omega))
    · exact ts _ (up u6 (by omega))
    · exact ts _ (up u7 (by omega))
    · exact ts _ (up u8 (by omega))
    · exact ts _ (up u9 (by omega))
    · exact thing_flat (a := .nn) (d := .non) (fun _ => rfl) rfl (fun _ => rfl) rfl (by unfold msz LIM; omega)
    · exact thing_flat (a := .bl) (d := .bl true) (fun _ => rfl) rfl (fun _ => rfl) rfl (by unfold msz LIM; omega)
    · exact thing_flat (a := .int) (d := .int 0) (fun _ => rfl) rfl (fun _ => rfl) (by decide +kernel) (by decide +kernel)
    · exact thing_flat (a := .int) (d := .int 7) (fun _ => rfl) rfl (fun _ => rfl) (by decide +kernel) (by decide +kernel)
    · exact thing_flat (a := .int) (d := .int (10 ^ 30)) (fun _ => rfl) rfl (fun _ => rfl) (by decide +kernel) (by decide +kernel)
    · exact sm _ rfl
    · exact sm _ rfl
    · exact sm _ rfl
    · exact sm _ rfl
    · exact sm _ rfl
    · exact sm _ rfl
    · exact sm _ rfl
    · exact sm _ rfl
    · exact sm _ rfl
    · exact sm _ rfl
    · refine thing_flat (a := .tup) (d := .tup [.str n]) (fun _ => rfl) rfl (fun _ => rfl) ?_ ?_
      · simp only [shwOk, shwOks] at q1' ⊢
        rw [q1']
        rfl
      · simp only [msz, mszs] at q2' ⊢
        unfold LIM
        omega
    · refine thing_list (l := [n]) v1 y1 ?_ ?_
      · simp only [List.map_cons, List.map_nil, shwOks]
        rw [q1']
        rfl
      · simp only [List.map_cons, List.map_nil, mszs]
        unfold LIM
        omega
    · exact thing_list (l := []) v2 y2 rfl (by simp only [List.map_nil, mszs]; unfold LIM; omega)
    · exact thing_flat (a := .tup) (d := .tup [.str [97], .str [50]]) (fun _ => rfl) rfl (fun _ => rfl) (by decide +kernel) (by decide +kernel)) z0 z1
  have p9 := s_ref gr7 evv
  have G := G7.trans G9
  refine ⟨v, h9, f_rt [some (.ref b), some (.str n), none, none, none, none] rfl rfl (x_nx (r := .cons s5_1 (.cons s5_2 (.cons s5_3 (.cons s5_4 (.cons s5_5 (.cons s5_6 .nil)))))) (σ1 := [some (.ref b), some (.str n), some (.str S), none, none, none]) (h1 := h) ?_ (x_nx (σ1 := [some (.ref b), some (.str n), some (.str S), none, some (.str [c]), some (.int q)]) (h1 := h2) ?_
    (x_nx z3 (x_nx z4 (x_nx z5 (x_nx z6 (x_rt ?_))))))), tvv, w9, G⟩
  · rw [← hS]
    exact x_set rfl
  · simp only [exec, execs, tv, ev, evs, eo, ct, asg, asgs, itv, bind_ok', go_ok, noEx_ok', setM, callP, pick, negM, isNM, chM, mc_bt, t_bl, b_add, b_sub, b_mod, b_fdiv, b_pow3, b_pow18, b_pow30, b_str, c_lt, c_gt, c_le, c_ge, c_eqi, c_nei, c_eqs, c_nes, c_eqb, c_neb, f_len, f_max, f_min, f_abs, List.getElem?_cons_zero, List.getElem?_cons_succ, List.set_cons_zero, List.set_cons_succ, List.length_cons, List.length_nil, if_true, if_false, decide_true, decide_false, Bool.not_true, Bool.not_false, Bool.false_eq_true, Bool.or_true, Bool.true_or, Bool.or_false, Bool.false_or, Bool.and_true, Bool.true_and, Bool.and_false, Bool.false_and, beq_self_eq_true, s5_1, e1, ec, ln, e2, upds]
  · rw [← hK5] at c5 c6
    simp only [exec, execs, tv, ev, evs, eo, ct, asg, asgs, itv, bind_ok', go_ok, noEx_ok', setM, callP, pick, negM, isNM, chM, mc_bt, t_bl, b_add, b_sub, b_mod, b_fdiv, b_pow3, b_pow18, b_pow30, b_str, c_lt, c_gt, c_le, c_ge, c_eqi, c_nei, c_eqs, c_nes, c_eqb, c_neb, f_len, f_max, f_min, f_abs, List.getElem?_cons_zero, List.getElem?_cons_succ, List.set_cons_zero, List.set_cons_succ, List.length_cons, List.length_nil, if_true, if_false, decide_true, decide_false, Bool.not_true, Bool.not_false, Bool.false_eq_true, Bool.or_true, Bool.true_or, Bool.or_false, Bool.false_or, Bool.and_true, Bool.true_and, Bool.and_false, Bool.false_and, beq_self_eq_true, s5_6, t1, m1, m2, t2, c5, c6, e9, p9]

theorem turn_ok {k b : Nat} {h : MH} {x0 x1 x3 x4 x5 x6 x7 : Option MV} (w : Bag h b) : ∃ h' y4 y5 y6 y7, execs (P shw) (callM (P shw) (k + 2)) k6_0_1 [x0, x1, some (.ref b), x3, x4, x5, x6, x7] h = .nx [x0, x1, some (.ref b), x3, y4, y5, y6, y7] h' ∧ Bag h' b := by
  obtain ⟨n, h1, e1, nn, nl, nc, w1, G1⟩ := drawn_ok (shw := shw) (k := k) w
  have tn : Ts 9 n := ⟨nl, nc⟩
  obtain ⟨v1, h2, e2, t2, w2, G2⟩ := odd_ok (shw := shw) (k := k) w1 tn
  obtain ⟨v2, h3, e3, t3, w3, G3⟩ := odd_ok (shw := shw) (k := k) w2 tn
  have n4 : newList h3 [.str n, v1, v2] = .ok (.ref h3.size) (h3.push (.lst [.str n, v1, v2])) := n_list (by show 3 ≤ LIM; unfold LIM; omega)
  have g4 : (h3.push (.lst [.str n, v1, v2])).get h3.size = some (.lst [.str n, v1, v2]) := get_push_size
  have th : ∀ v ∈ [MV.str n, v1, v2], Thing b (h3.push (.lst [.str n, v1, v2])) v := by
    intro v hv
    simp only [List.mem_cons, List.not_mem_nil, or_false] at hv
    rcases hv with rfl | rfl | rfl
    · exact thing_str tn (by omega)
    · exact t2.grow G3.push
    · exact t3.grow Grow.one.gb
  have w4 := w3.push (o := .lst [.str n, v1, v2])
  generalize (h3.push (.lst [.str n, v1, v2])) = h4 at n4 g4 th w4
  generalize h3.size = r at n4 g4
  have ir : itv (P shw) (callM (P shw) (k + 2)) (.ex (.lst (.cons (.var 4) (.cons (.call 5 (.cons (.var 2) (.cons (.var 4) .nil)) .nil [] [.pos 0, .pos 1]) (.cons (.call 5 (.cons (.var 2) (.cons (.var 4) .nil)) .nil [] [.pos 0, .pos 1]) .nil))))) [x0, x1, some (.ref b), x3, some (.str n), x5, x6, x7] h1 = .ok (.live r) h4 :=
    it_ref (by simp only [exec, execs, tv, ev, evs, eo, ct, asg, asgs, itv, bind_ok', go_ok, noEx_ok', setM, callP, pick, negM, isNM, chM, mc_bt, t_bl, b_add, b_sub, b_mod, b_fdiv, b_pow3, b_pow18, b_pow30, b_str, c_lt, c_gt, c_le, c_ge, c_eqi, c_nei, c_eqs, c_nes, c_eqb, c_neb, f_len, f_max, f_min, f_abs, List.getElem?_cons_zero, List.getElem?_cons_succ, List.set_cons_zero, List.set_cons_succ, List.length_cons, List.length_nil, if_true, if_false, decide_true, decide_false, Bool.not_true, Bool.not_false, Bool.false_eq_true, Bool.or_true, Bool.true_or, Bool.or_false, Bool.false_or, Bool.and_true, Bool.true_and, Bool.and_false, Bool.false_and, beq_self_eq_true, e2, e3, n4]) g4
  obtain ⟨σ', h', e5, gr, y5, y6, y7, rfl⟩ := for_live (j := 5) (b := k6_0_1_1) (fun _ σ h => Grow h4 h ∧ ∃ y5 y6 y7, σ = [x0, x1, some (.ref b), x3, some (.str n), y5, y6, y7]) ir (fun i σ h p => p.1.2 _ _ g4) ⟨.refl, _, _, _, rfl⟩ (by
    rintro i v σ h ee ⟨gr, y5, y6, y7, rfl⟩
    obtain ⟨h', z6, z7, e, gr'⟩ := one_ok (shw := shw) (k := k + 1) (x0 := x0) (x1 := x1) (x2 := some (.ref b)) (x3 := x3) (x6 := y6) (x7 := y7) (n := n) ((th v (List.mem_of_getElem? ee)).grow gr.gb) (by omega) nn
    exact ⟨_, h', e, gr.trans gr', _, _, _, rfl⟩)
  refine ⟨h', some (.str n), y5, y6, y7, x_nx (σ1 := [x0, x1, some (.ref b), x3, some (.str n), x5, x6, x7]) (h1 := h1) ?_ (x_end e5), w4.grow gr⟩
  simp only [exec, execs, tv, ev, evs, eo, ct, asg, asgs, itv, bind_ok', go_ok, noEx_ok', setM, callP, pick, negM, isNM, chM, mc_bt, t_bl, b_add, b_sub, b_mod, b_fdiv, b_pow3, b_pow18, b_pow30, b_str, c_lt, c_gt, c_le, c_ge, c_eqi, c_nei, c_eqs, c_nes, c_eqb, c_neb, f_len, f_max, f_min, f_abs, List.getElem?_cons_zero, List.getElem?_cons_succ, List.set_cons_zero, List.set_cons_succ, List.length_cons, List.length_nil, if_true, if_false, decide_true, decide_false, Bool.not_true, Bool.not_false, Bool.false_eq_true, Bool.or_true, Bool.true_or, Bool.or_false, Bool.false_or, Bool.and_true, Bool.true_and, Bool.and_false, Bool.false_and, beq_self_eq_true, s6_0_1_0, e1]
theorem at_ok {k i : Nat} {h : MH} {ns : List Int} {x2 x3 x4 x5 x6 x7 : Option MV} (hi : i < 8) :
    ∃ h' y2 y3 y4 y5 y6 y7, execs (P shw) (callM (P shw) (k + 2)) k6_0 [some (.kl (ns.map MV.int)), some (.int i), x2, x3, x4, x5, x6, x7] h = .nx [some (.kl (ns.map MV.int)), some (.int i), y2, y3, y4, y5, y6, y7] h' := by
  obtain ⟨g, m, g0, m0, eb⟩ := bag_ok (shw := shw) (k := k + 1) (h := h) (ns := ns) hi
  generalize h1e : ((h.push (.lst primes)).push (.lst [.int g, .int m])) = h1 at eb
  have w1 : Bag h1 (h.size + 1) := ⟨g, m, by rw [← h1e, ← size_push (h := h) (o := .lst primes)]; exact get_push_size, g0, m0⟩
  generalize h.size + 1 = b at eb w1
  have ir : itv (P shw) (callM (P shw) (k + 2)) (.rng (.int 6)) [some (.kl (ns.map MV.int)), some (.int i), some (.ref b), x3, x4, x5, x6, x7] h1 = .ok (.items (rngL 0 6)) h1 :=
    it_rng rfl (by omega) (by omega)
  obtain ⟨σ', h', e, w', y3, y4, y5, y6, y7, rfl⟩ := for_items (j := 3) (b := k6_0_1) (fun _ σ h => Bag h b ∧ ∃ y3 y4 y5 y6 y7, σ = [some (.kl (ns.map MV.int)), some (.int i), some (.ref b), y3, y4, y5, y6, y7]) ir ⟨w1, _, _, _, _, _, rfl⟩ (by
    rintro n v σ h ee ⟨w, y3, y4, y5, y6, y7, rfl⟩
    obtain ⟨h', z4, z5, z6, z7, e, w'⟩ := turn_ok (shw := shw) (k := k) (x0 := some (.kl (ns.map MV.int))) (x1 := some (.int i)) (x3 := some v) (x4 := y4) (x5 := y5) (x6 := y6) (x7 := y7) w
    exact ⟨_, h', e, w', _, _, _, _, _, rfl⟩)
  refine ⟨h', some (.ref b), y3, y4, y5, y6, y7, x_nx (σ1 := [some (.kl (ns.map MV.int)), some (.int i), some (.ref b), x3, x4, x5, x6, x7]) (h1 := h1) ?_ (x_end e)⟩
  simp only [exec, execs, tv, ev, evs, eo, ct, asg, asgs, itv, bind_ok', go_ok, noEx_ok', setM, callP, pick, negM, isNM, chM, mc_bt, t_bl, b_add, b_sub, b_mod, b_fdiv, b_pow3, b_pow18, b_pow30, b_str, c_lt, c_gt, c_le, c_ge, c_eqi, c_nei, c_eqs, c_nes, c_eqb, c_neb, f_len, f_max, f_min, f_abs, List.getElem?_cons_zero, List.getElem?_cons_succ, List.set_cons_zero, List.set_cons_succ, List.length_cons, List.length_nil, if_true, if_false, decide_true, decide_false, Bool.not_true, Bool.not_false, Bool.false_eq_true, Bool.or_true, Bool.true_or, Bool.or_false, Bool.false_or, Bool.and_true, Bool.true_and, Bool.and_false, Bool.false_and, beq_self_eq_true, s6_0_0, eb]
theorem pure_law (shw : PD → Tx) : ∀ ns : List Int, ns.length ≤ 63 → ∃ h', callM (P shw) (9 + 1) nlaw [.kl (ns.map MV.int)] ⟨[]⟩ = .ok (.bl true) h' := by
  intro ns hn
  generalize hq : (if (if (ns.length : Int) < 6 then (ns.length : Int) else 6) > 1 then (if (ns.length : Int) < 6 then (ns.length : Int) else 6) else 1) = q
  have q1 : 1 ≤ q ∧ q ≤ 6 := by
    rw [← hq]
    split <;> split at * <;> omega
  have ir : ∀ {σ : En} {h : MH}, σ[0]? = some (some (.kl (ns.map MV.int))) → itv (P shw) (callM (P shw) 9) (.rng (.bif .max (.cons (.int 1) (.cons (.bif .min (.cons (.int 6) (.cons (.bif .len (.cons (.var 0) .nil)) .nil))) .nil)))) σ h = .ok (.items (rngL 0 q)) h := fun {σ h} hs =>
    it_rng (by simp only [exec, execs, tv, ev, evs, eo, ct, asg, asgs, itv, bind_ok', go_ok, noEx_ok', setM, callP, pick, negM, isNM, chM, mc_bt, t_bl, b_add, b_sub, b_mod, b_fdiv, b_pow3, b_pow18, b_pow30, b_str, c_lt, c_gt, c_le, c_ge, c_eqi, c_nei, c_eqs, c_nes, c_eqb, c_neb, f_len, f_max, f_min, f_abs, List.getElem?_cons_zero, List.getElem?_cons_succ, List.set_cons_zero, List.set_cons_succ, List.length_cons, List.length_nil, if_true, if_false, decide_true, decide_false, Bool.not_true, Bool.not_false, Bool.false_eq_true, Bool.or_true, Bool.true_or, Bool.or_false, Bool.false_or, Bool.and_true, Bool.true_and, Bool.and_false, Bool.false_and, beq_self_eq_true, hs, List.length_map, hq]) (by omega) (by omega)
  obtain ⟨σ', h', e, x1, x2, x3, x4, x5, x6, x7, rfl⟩ := for_items (P := P shw) (C := callM (P shw) 9) (j := 1) (b := k6_0) (fun n σ h => ∃ x1 x2 x3 x4 x5 x6 x7, σ = [some (.kl (ns.map MV.int)), x1, x2, x3, x4, x5, x6, x7])
    (σ := [some (.kl (ns.map MV.int)), none, none, none, none, none, none, none]) (h := ⟨[]⟩) (ir rfl) ⟨_, _, _, _, _, _, _, rfl⟩ (by
      rintro n v σ h ee ⟨x1, x2, x3, x4, x5, x6, x7, rfl⟩
      obtain ⟨rfl, hn⟩ := rng_get ee
      rw [Int.zero_add]
      obtain ⟨h', y2, y3, y4, y5, y6, y7, e⟩ := at_ok (shw := shw) (k := 7) (h := h) (ns := ns) (i := n) (x2 := x2) (x3 := x3) (x4 := x4) (x5 := x5) (x6 := x6) (x7 := x7) (by omega)
      exact ⟨_, h', e, _, _, _, _, _, _, _, rfl⟩)
  exact ⟨h', f_rt [some (.kl (ns.map MV.int)), none, none, none, none, none, none, none] rfl rfl (x_nx e (x_rt (by simp only [exec, execs, tv, ev, evs, eo, ct, asg, asgs, itv, bind_ok', go_ok, noEx_ok', setM, callP, pick, negM, isNM, chM, mc_bt, t_bl, b_add, b_sub, b_mod, b_fdiv, b_pow3, b_pow18, b_pow30, b_str, c_lt, c_gt, c_le, c_ge, c_eqi, c_nei, c_eqs, c_nes, c_eqb, c_neb, f_len, f_max, f_min, f_abs, List.getElem?_cons_zero, List.getElem?_cons_succ, List.set_cons_zero, List.set_cons_succ, List.length_cons, List.length_nil, if_true, if_false, decide_true, decide_false, Bool.not_true, Bool.not_false, Bool.false_eq_true, Bool.or_true, Bool.true_or, Bool.or_false, Bool.false_or, Bool.and_true, Bool.true_and, Bool.and_false, Bool.false_and, beq_self_eq_true, s6_1])))⟩
end K01
set_option Elab.async false
set_option linter.all false
set_option maxRecDepth 100000
set_option maxHeartbeats 4000000
/-! S1: how the plain interpreter's values and heap stand for the hand layer's. -/
namespace DM
open PySem L2

/-- what the text's own things stand at -/
structure Env1 where
  ca : Nat → Addr          -- classes
  fnm : Nat → Str          -- attributes' and methods' names
  fa : Nat → Addr          -- defs

section
variable (K : PySem.W.Frag) (Z : Env1)

/-- a list of the top -/
def KL (a : Addr) (xs : List V) : Prop := ∃ (o : Obj) (its : Array Value) (n : Nat), K.lookup a = some o ∧ o.cls = .type "list" ∧ o.dict = none ∧ o.data = .seq its n ∧ its.size ≤ sizeLine ∧ Vals xs its.toList
/-- a list that is never written: of the top, or known whole -/
def KLs (H : Hp) (a : Addr) (xs : List V) : Prop := (∃ o, H a = some (.frz o (.lst xs))) ∨ KL K a xs
theorem KLs.sq {K : PySem.W.Frag} {a : Addr} {xs : List V} {H : Hp} (h : KLs K H a xs) : SqL K H a xs := by
  rcases h with ⟨o, h⟩ | h
  · exact .inl (.inr ⟨o, h⟩)
  · exact .inr h
/-- what is never written stays -/
structure Fx (H H' : Hp) : Prop where
  t : ∀ a xs, SqT K H a xs → SqT K H' a xs
  l : ∀ a xs, KLs K H a xs → KLs K H' a xs

/-- a text of signs, no longer than may be -/
def TxOk (s : Tx) : Prop := s.length ≤ sizeLine ∧ ∀ c ∈ s, c < 1114112
mutual
def VR (f : Nat → Addr) (N : Nat) (H : Hp) : MV → V → Prop
  | .non, v => v = .non
  | .bl b, v => v = .bl b
  | .int i, v => v = .int i
  | .str s, v => v = .str ⟨s.toArray⟩ ∧ TxOk s
  | .tup l, v => ∃ a vs, v = .ref a ∧ SqT K H a vs ∧ VRs f N H l vs
  | .ref n, v => n < N ∧ v = .ref (f n)
  | .kl l, v => ∃ a vs, v = .ref a ∧ KLs K H a vs ∧ VRs f N H l vs
  | .kd _, _ => False
  | .fn _, _ => False
  | .exc _ _, _ => False
def VRs (f : Nat → Addr) (N : Nat) (H : Hp) : List MV → List V → Prop
  | [], vs => vs = []
  | x :: xs, vs => ∃ y ys, vs = y :: ys ∧ VR f N H x y ∧ VRs f N H xs ys
end

/-- an instance's attributes -/
def FRs (f : Nat → Addr) (N : Nat) (H : Hp) : List (Nat × MV) → List (Str × V) → Prop
  | [], gs => gs = []
  | p :: r, gs => ∃ v ys, gs = (Z.fnm p.1, v) :: ys ∧ VR K f N H p.2 v ∧ FRs f N H r ys

def OR (f : Nat → Addr) (N : Nat) (H : Hp) (a : Addr) : MO → Prop
  | .lst l => ∃ vs, H a = some (.lst vs) ∧ VRs K f N H l vs
  | .ins c fs => ∃ dx gs, H a = some (.ins (Z.ca c) dx gs) ∧ FRs K Z f N H fs gs
  | .dct _ => False
  | .set _ => False

structure Rl (f : Nat → Addr) (h : MH) (H : Hp) : Prop where
  ob : ∀ n o, h.get n = some o → OR K Z f h.size H (f n) o
  inj : ∀ n m, n < h.size → m < h.size → f n = f m → n = m
end

structure Ext (f : Nat → Addr) (N : Nat) (H : Hp) (f' : Nat → Addr) (N' : Nat) (H' : Hp) : Prop where
  sz : N ≤ N'
  ag : ∀ n, n < N → f' n = f n
  fr : ∀ a o, H a = some o → (∀ n, n < N → f n ≠ a) → H' a = some o
  nw : ∀ n, N ≤ n → n < N' → H (f' n) = none
  dm : ∀ a, H' a = none → H a = none

theorem Ext.refl (f : Nat → Addr) (N : Nat) (H : Hp) : Ext f N H f N H := ⟨Nat.le_refl _, fun _ _ => rfl, fun _ _ h _ => h, fun n h1 h2 => absurd h2 (by omega), fun _ h => h⟩
theorem Ext.trans {f f' f'' : Nat → Addr} {N N' N'' : Nat} {H H' H'' : Hp} (a : Ext f N H f' N' H') (b : Ext f' N' H' f'' N'' H'') : Ext f N H f'' N'' H'' := by
  refine ⟨Nat.le_trans a.sz b.sz, fun n h => (b.ag n (Nat.lt_of_lt_of_le h a.sz)).trans (a.ag n h), fun x o h hn => ?_, fun n h1 h2 => ?_, fun x h => a.dm x (b.dm x h)⟩
  · refine b.fr x o (a.fr x o h hn) fun n hn' e => ?_
    by_cases hc : n < N
    · rw [a.ag n hc] at e
      exact hn n hc e
    · have := a.nw n (by omega) hn'
      rw [e, h] at this
      cases this
  · by_cases hc : n < N'
    · rw [b.ag n hc]
      exact a.nw n h1 hc
    · exact a.dm _ (b.nw n (by omega) h2)

theorem MH.get_lt {h : MH} {n : Nat} {o : MO} (e : h.get n = some o) : n < h.size := (List.getElem?_eq_some_iff.mp e).1
theorem MH.get_of_lt {h : MH} {n : Nat} (e : n < h.size) : ∃ o, h.get n = some o := ⟨h.objs[n], List.getElem?_eq_getElem e⟩
theorem MH.get_put_same {h : MH} {n : Nat} {o o' : MO} (e : h.get n = some o) : (h.put n o').get n = some o' := List.getElem?_set_self (MH.get_lt e)
theorem MH.get_put_ne {h : MH} {n m : Nat} {o : MO} (e : m ≠ n) : (h.put n o).get m = h.get m := List.getElem?_set_ne (fun q => e q.symm)
theorem MH.size_put (h : MH) (n : Nat) (o : MO) : (h.put n o).size = h.size := List.length_set
theorem MH.size_push (h : MH) (o : MO) : (h.push o).size = h.size + 1 := by
  show (h.objs ++ [o]).length = _
  rw [List.length_append]
  rfl
theorem MH.get_push_lt {h : MH} {n : Nat} {o : MO} (e : n < h.size) : (h.push o).get n = h.get n := List.getElem?_append_left e
theorem MH.get_push_size (h : MH) (o : MO) : (h.push o).get h.size = some o := List.getElem?_concat_length

section
variable {K : PySem.W.Frag} {Z : Env1} {f f' : Nat → Addr} {N N' : Nat} {H H' : Hp} {h h' : MH}

mutual
theorem VR.mono (hN : N ≤ N') (hf : ∀ n, n < N → f' n = f n) (ht : Fx K H H') : ∀ (m : MV) (v : V), VR K f N H m v → VR K f' N' H' m v
  | .non, _, h => by unfold VR at h ⊢; exact h
  | .bl _, _, h => by unfold VR at h ⊢; exact h
  | .int _, _, h => by unfold VR at h ⊢; exact h
  | .str _, _, h => by unfold VR at h ⊢; exact h
  | .tup l, _, h => by
    unfold VR at h ⊢
    obtain ⟨a, vs, e, s, r⟩ := h
    exact ⟨a, vs, e, ht.t a vs s, VRs.mono hN hf ht l vs r⟩
  | .ref n, _, h => by
    unfold VR at h ⊢
    exact ⟨Nat.lt_of_lt_of_le h.1 hN, by rw [hf n h.1]; exact h.2⟩
  | .kl l, _, h => by
    unfold VR at h ⊢
    obtain ⟨a, vs, e, s, r⟩ := h
    exact ⟨a, vs, e, ht.l a vs s, VRs.mono hN hf ht l vs r⟩
  | .kd _, _, h => by unfold VR at h; exact h.elim
  | .fn _, _, h => by unfold VR at h; exact h.elim
  | .exc _ _, _, h => by unfold VR at h; exact h.elim
theorem VRs.mono (hN : N ≤ N') (hf : ∀ n, n < N → f' n = f n) (ht : Fx K H H') : ∀ (l : List MV) (vs : List V), VRs K f N H l vs → VRs K f' N' H' l vs
  | [], _, h => by unfold VRs at h ⊢; exact h
  | x :: xs, _, h => by
    unfold VRs at h ⊢
    obtain ⟨y, ys, e, r, s⟩ := h
    exact ⟨y, ys, e, VR.mono hN hf ht x y r, VRs.mono hN hf ht xs ys s⟩
end
theorem FRs.mono (hN : N ≤ N') (hf : ∀ n, n < N → f' n = f n) (ht : Fx K H H') : ∀ (l : List (Nat × MV)) (gs : List (Str × V)), FRs K Z f N H l gs → FRs K Z f' N' H' l gs
  | [], _, h => h
  | _ :: r, _, ⟨v, ys, e, a, b⟩ => ⟨v, ys, e, VR.mono hN hf ht _ _ a, FRs.mono hN hf ht r ys b⟩

/-- what is named is no tuple -/
theorem OR.notup {a : Addr} {o : MO} (h : OR K Z f N H a o) : (∀ xs, H a ≠ some (.tup xs)) ∧ (∀ ob u, H a ≠ some (.frz ob u)) ∧ H a ≠ none := by
  cases o with
  | lst l => obtain ⟨vs, e, _⟩ := h; rw [e]; exact ⟨fun _ q => (by cases q), fun _ _ q => (by cases q), fun q => (by cases q)⟩
  | ins c fs => obtain ⟨dx, gs, e, _⟩ := h; rw [e]; exact ⟨fun _ q => (by cases q), fun _ _ q => (by cases q), fun q => (by cases q)⟩
  | dct l => exact h.elim
  | set l => exact h.elim
theorem Rl.named (r : Rl K Z f h H) {n : Nat} (hn : n < h.size) : (∀ xs, H (f n) ≠ some (.tup xs)) ∧ (∀ ob u, H (f n) ≠ some (.frz ob u)) ∧ H (f n) ≠ none := by
  obtain ⟨o, e⟩ := MH.get_of_lt hn
  exact OR.notup (r.ob n o e)
theorem Rl.text (r : Rl K Z f h H) (e : Ext f h.size H f' N' H') : Fx K H H' := by
  refine ⟨?_, ?_⟩
  · rintro a xs ((q | ⟨o, q⟩) | q)
    · exact .inl (.inl (e.fr a _ q fun n hn ea => (r.named hn).1 xs (ea ▸ q)))
    · exact .inl (.inr ⟨o, e.fr a _ q fun n hn ea => (r.named hn).2.1 o _ (ea ▸ q)⟩)
    · exact .inr q
  · rintro a xs (⟨o, q⟩ | q)
    · exact .inl ⟨o, e.fr a _ q fun n hn ea => (r.named hn).2.1 o _ (ea ▸ q)⟩
    · exact .inr q
theorem Rl.vr (r : Rl K Z f h H) (e : Ext f h.size H f' N' H') {m : MV} {v : V} (x : VR K f h.size H m v) : VR K f' N' H' m v := VR.mono e.sz e.ag (r.text e) m v x
theorem Rl.vrs (r : Rl K Z f h H) (e : Ext f h.size H f' N' H') {l : List MV} {vs : List V} (x : VRs K f h.size H l vs) : VRs K f' N' H' l vs := VRs.mono e.sz e.ag (r.text e) l vs x

/-- lists of values -/
theorem VRs.length : ∀ {l : List MV} {vs : List V}, VRs K f N H l vs → l.length = vs.length
  | [], vs, h => by unfold VRs at h; rw [h]; rfl
  | x :: xs, vs, h => by
    unfold VRs at h
    obtain ⟨y, ys, rfl, _, r⟩ := h
    rw [List.length_cons, List.length_cons, VRs.length r]
theorem VRs.get : ∀ {l : List MV} {vs : List V} {i : Nat} {x : MV}, VRs K f N H l vs → l[i]? = some x → ∃ v, vs[i]? = some v ∧ VR K f N H x v
  | [], _, _, _, _, e => by simp at e
  | y :: ys, vs, 0, x, h, e => by
    unfold VRs at h
    obtain ⟨v, ws, rfl, r, _⟩ := h
    have e' : y = x := Option.some.inj e
    exact ⟨v, rfl, e' ▸ r⟩
  | y :: ys, vs, i + 1, x, h, e => by
    unfold VRs at h
    obtain ⟨v, ws, rfl, _, r⟩ := h
    exact VRs.get (i := i) r e
theorem VRs.nil : VRs K f N H [] [] := by unfold VRs; rfl
theorem VRs.cons {x : MV} {v : V} {l : List MV} {vs : List V} (a : VR K f N H x v) (b : VRs K f N H l vs) : VRs K f N H (x :: l) (v :: vs) := by
  unfold VRs
  exact ⟨v, vs, rfl, a, b⟩
theorem VRs.append : ∀ {l : List MV} {vs : List V} {l2 : List MV} {ws : List V}, VRs K f N H l vs → VRs K f N H l2 ws → VRs K f N H (l ++ l2) (vs ++ ws)
  | [], vs, _, _, h, h2 => by unfold VRs at h; rw [h]; exact h2
  | x :: xs, vs, _, _, h, h2 => by
    unfold VRs at h
    obtain ⟨v, ws, rfl, r, t⟩ := h
    exact .cons r (VRs.append t h2)
theorem VRs.set {x : MV} {v : V} (a : VR K f N H x v) : ∀ {l : List MV} {vs : List V} (i : Nat), VRs K f N H l vs → VRs K f N H (l.set i x) (vs.set i v)
  | [], vs, _, h => by unfold VRs at h; rw [h]; exact .nil
  | y :: ys, vs, 0, h => by
    unfold VRs at h
    obtain ⟨w, ws, rfl, r, t⟩ := h
    exact .cons a t
  | y :: ys, vs, i + 1, h => by
    unfold VRs at h
    obtain ⟨w, ws, rfl, r, t⟩ := h
    exact .cons r (VRs.set a i t)
theorem VRs.drop : ∀ {l : List MV} {vs : List V} (i : Nat), VRs K f N H l vs → VRs K f N H (l.drop i) (vs.drop i)
  | l, vs, 0, h => h
  | [], vs, i + 1, h => by unfold VRs at h; rw [h]; exact .nil
  | y :: ys, vs, i + 1, h => by
    unfold VRs at h
    obtain ⟨w, ws, rfl, r, t⟩ := h
    exact VRs.drop i t
theorem VRs.take : ∀ {l : List MV} {vs : List V} (i : Nat), VRs K f N H l vs → VRs K f N H (l.take i) (vs.take i)
  | l, vs, 0, h => .nil
  | [], vs, i + 1, h => by unfold VRs at h; rw [h]; exact .nil
  | y :: ys, vs, i + 1, h => by
    unfold VRs at h
    obtain ⟨w, ws, rfl, r, t⟩ := h
    exact .cons r (VRs.take i t)
theorem VRs.nil_inv {vs : List V} (h : VRs K f N H [] vs) : vs = [] := by unfold VRs at h; exact h
theorem VRs.cons_inv {x : MV} {l : List MV} {vs : List V} (h : VRs K f N H (x :: l) vs) : ∃ v ws, vs = v :: ws ∧ VR K f N H x v ∧ VRs K f N H l ws := by unfold VRs at h; exact h

/-- an object is changed -/
theorem Rl.put (r : Rl K Z f h H) {n : Nat} {o o' : MO} {u : HO} (e : h.get n = some o) (hu : (∀ xs, u ≠ .tup xs)) (ho : OR K Z f h.size (upd H (f n) u) (f n) o') :
    Ext f h.size H f (h.put n o').size (upd H (f n) u) ∧ Rl K Z f (h.put n o') (upd H (f n) u) := by
  have hn := MH.get_lt e
  have ex : Ext f h.size H f h.size (upd H (f n) u) := ⟨Nat.le_refl _, fun _ _ => rfl, fun a o q hq => by rw [upd_ne (fun z => hq n hn z.symm)]; exact q, fun m h1 h2 => absurd h2 (by omega), fun a q => by
    by_cases z : a = f n
    · rw [z, upd_same] at q; cases q
    · rw [upd_ne z] at q; exact q⟩
  rw [MH.size_put]
  refine ⟨ex, ⟨fun m x q => ?_, fun m k h1 h2 => r.inj m k (by rw [MH.size_put] at h1; exact h1) (by rw [MH.size_put] at h2; exact h2)⟩⟩
  rw [MH.size_put]
  by_cases hm : m = n
  · subst hm
    rw [MH.get_put_same e] at q
    cases q
    exact ho
  · rw [MH.get_put_ne hm] at q
    have hm' := MH.get_lt q
    have hne : f m ≠ f n := fun z => hm (r.inj m n hm' hn z)
    have q2 := r.ob m x q
    have mv := r.text ex
    cases x with
    | lst l => obtain ⟨vs, e1, e2⟩ := q2; exact ⟨vs, by rw [upd_ne hne]; exact e1, VRs.mono (Nat.le_refl _) (fun _ _ => rfl) mv _ _ e2⟩
    | ins c fs => obtain ⟨dx, gs, e1, e2⟩ := q2; exact ⟨dx, gs, by rw [upd_ne hne]; exact e1, FRs.mono (Nat.le_refl _) (fun _ _ => rfl) mv _ _ e2⟩
    | dct l => exact q2.elim
    | set l => exact q2.elim
/-- something that bears no name is laid or changed aside -/
theorem Ext.aside {p : Addr} {u : HO} (hp : H p = none) : Ext f N H f N (upd H p u) := ⟨Nat.le_refl _, fun _ _ => rfl, fun a o q hq => by rw [upd_ne (ne_of_none q hp)]; exact q, fun m h1 h2 => absurd h2 (by omega), fun a q => by
    by_cases z : a = p
    · rw [z]; exact hp
    · rw [upd_ne z] at q; exact q⟩
theorem Rl.along (r : Rl K Z f h H) (e : Ext f h.size H f h.size H') (hk : ∀ n, n < h.size → H' (f n) = H (f n)) : Rl K Z f h H' := by
  refine ⟨fun n o q => ?_, r.inj⟩
  have q2 := r.ob n o q
  have hn := MH.get_lt q
  have mv := r.text e
  cases o with
  | lst l => obtain ⟨vs, e1, e2⟩ := q2; exact ⟨vs, by rw [hk n hn]; exact e1, VRs.mono (Nat.le_refl _) (fun _ _ => rfl) mv _ _ e2⟩
  | ins c fs => obtain ⟨dx, gs, e1, e2⟩ := q2; exact ⟨dx, gs, by rw [hk n hn]; exact e1, FRs.mono (Nat.le_refl _) (fun _ _ => rfl) mv _ _ e2⟩
  | dct l => exact q2.elim
  | set l => exact q2.elim
theorem Rl.aside (r : Rl K Z f h H) {p : Addr} {u : HO} (hp : H p = none) : Rl K Z f h (upd H p u) :=
  r.along (Ext.aside hp) fun n hn => upd_ne fun z => (r.named hn).2.2 (z ▸ hp)
/-- a new object gets the next number -/
def nxt (f : Nat → Addr) (N : Nat) (p : Addr) : Nat → Addr := fun n => if n = N then p else f n
theorem nxt_at {p : Addr} : nxt f N p N = p := if_pos rfl
theorem nxt_lt {p : Addr} {n : Nat} (hn : n < N) : nxt f N p n = f n := if_neg (Nat.ne_of_lt hn)
theorem Ext.push {p : Addr} {u : HO} (hp : H p = none) : Ext f N H (nxt f N p) (N + 1) (upd H p u) := by
  refine ⟨Nat.le_succ _, fun n hn => nxt_lt hn, fun a o q hq => by rw [upd_ne (ne_of_none q hp)]; exact q, fun m h1 h2 => ?_, fun a q => ?_⟩
  · have : m = N := by omega
    rw [this, nxt_at]
    exact hp
  · by_cases z : a = p
    · rw [z]; exact hp
    · rw [upd_ne z] at q; exact q
theorem Rl.push (r : Rl K Z f h H) {p : Addr} {o : MO} {u : HO} (hp : H p = none) (ho : OR K Z (nxt f h.size p) (h.size + 1) (upd H p u) p o) :
    Ext f h.size H (nxt f h.size p) (h.push o).size (upd H p u) ∧ Rl K Z (nxt f h.size p) (h.push o) (upd H p u) := by
  have ex : Ext f h.size H (nxt f h.size p) (h.size + 1) (upd H p u) := Ext.push hp
  rw [MH.size_push]
  refine ⟨ex, ⟨fun n x q => ?_, fun n m h1 h2 e => ?_⟩⟩
  · have hn : n < h.size + 1 := by rw [← MH.size_push h o]; exact MH.get_lt q
    rw [MH.size_push]
    by_cases z : n = h.size
    · subst z
      rw [MH.get_push_size] at q
      cases q
      rw [nxt_at]
      exact ho
    · have hn' : n < h.size := by omega
      rw [MH.get_push_lt hn'] at q
      rw [nxt_lt hn']
      have hne : f n ≠ p := fun z => (r.named hn').2.2 (z ▸ hp)
      have q2 := r.ob n x q
      have mv := r.text ex
      cases x with
      | lst l => obtain ⟨vs, e1, e2⟩ := q2; exact ⟨vs, by rw [upd_ne hne]; exact e1, VRs.mono ex.sz ex.ag mv _ _ e2⟩
      | ins c fs => obtain ⟨dx, gs, e1, e2⟩ := q2; exact ⟨dx, gs, by rw [upd_ne hne]; exact e1, FRs.mono ex.sz ex.ag mv _ _ e2⟩
      | dct l => exact q2.elim
      | set l => exact q2.elim
  · rw [MH.size_push] at h1 h2
    by_cases z1 : n = h.size
    · by_cases z2 : m = h.size
      · rw [z1, z2]
      · exfalso
        have hm : m < h.size := by omega
        rw [z1, nxt_at, nxt_lt hm] at e
        exact (r.named hm).2.2 (e ▸ hp)
    · have hn : n < h.size := by omega
      by_cases z2 : m = h.size
      · exfalso
        rw [z2, nxt_at, nxt_lt hn] at e
        exact (r.named hn).2.2 (e ▸ hp)
      · have hm : m < h.size := by omega
        rw [nxt_lt hn, nxt_lt hm] at e
        exact r.inj n m hn hm e
end

/-- the slots -/
def SR (K : PySem.W.Frag) (f : Nat → Addr) (N : Nat) (H : Hp) (ms : En) (σ : L2.St) : Prop := ms.length = σ.length ∧ ∀ (i : Nat) (v : MV), ms[i]? = some (some v) → ∃ x, σ[i]? = some (some x) ∧ VR K f N H v x
section
variable {K : PySem.W.Frag} {Z : Env1} {f f' : Nat → Addr} {N N' : Nat} {H H' : Hp} {h h' : MH} {ms : En} {σ : L2.St}
theorem Rl.sr (r : Rl K Z f h H) (e : Ext f h.size H f' N' H') (x : SR K f h.size H ms σ) : SR K f' N' H' ms σ := ⟨x.1, fun i v q => let ⟨y, a, b⟩ := x.2 i v q; ⟨y, a, r.vr e b⟩⟩
theorem SR.set (x : SR K f N H ms σ) {v : MV} {y : V} (r : VR K f N H v y) (i : Nat) : SR K f N H (ms.set i (some v)) (σ.set i (some y)) := by
  refine ⟨by rw [List.length_set, List.length_set]; exact x.1, fun j w q => ?_⟩
  by_cases hj : j = i
  · subst hj
    have hl : j < ms.length := by
      have := (List.getElem?_eq_some_iff.mp q).1
      rwa [List.length_set] at this
    rw [List.getElem?_set_self hl] at q
    have e : v = w := Option.some.inj (Option.some.inj q)
    exact ⟨y, List.getElem?_set_self (x.1 ▸ hl), e ▸ r⟩
  · rw [List.getElem?_set_ne (fun z => hj z.symm)] at q
    obtain ⟨z, a, b⟩ := x.2 j w q
    exact ⟨z, by rw [List.getElem?_set_ne (fun z => hj z.symm)]; exact a, b⟩
theorem SR.wipe1 (x : SR K f N H ms σ) (i : Nat) : SR K f N H (ms.set i none) (σ.set i none) := by
  refine ⟨by rw [List.length_set, List.length_set]; exact x.1, fun j w q => ?_⟩
  by_cases hj : j = i
  · subst hj
    have hl : j < ms.length := by
      have := (List.getElem?_eq_some_iff.mp q).1
      rwa [List.length_set] at this
    rw [List.getElem?_set_self hl] at q
    cases q
  · rw [List.getElem?_set_ne (fun z => hj z.symm)] at q
    obtain ⟨z, a, b⟩ := x.2 j w q
    exact ⟨z, by rw [List.getElem?_set_ne (fun z => hj z.symm)]; exact a, b⟩
end

/-! ### a run of the interpreter, as a wish -/
/-- how an exception of the model stands for one of the layer's; cn: the class of number c, fn: its attribute's name -/
def XR (K : PySem.W.Frag) (xc : Nat → Value) (xf : Nat → Str) (f : Nat → Addr) (N : Nat) (H : Hp) (c : Nat) (l : List MV) (cls : Value) (d : Option Addr) : Prop :=
  cls = xc c ∧ match l with
    | [] => d = none
    | [m] => ∃ dd v, d = some dd ∧ H dd = some (.xd [(xf c, v)]) ∧ VR K f N H m v
    | _ => False
structure Ctx where
  K : PySem.W.Frag
  Z : Env1
  xc : Nat → Value
  xf : Nat → Str
abbrev Wish := Value → Option Addr → L2.St → Hp → Prop
/-- what the run r from (f, h, H) comes to is wished -/
def G (Y : Ctx) (W : Wish) (σ : L2.St) (f : Nat → Addr) (h : MH) (H : Hp) {α : Type} (r : R α) (T : α → (Nat → Addr) → MH → Hp → Prop) : Prop := match r with
  | .ok a h' => ∀ f' H', Ext f h.size H f' h'.size H' → Rl Y.K Y.Z f' h' H' → T a f' h' H'
  | .ex c l h' => ∀ f' H' cls d, Ext f h.size H f' h'.size H' → Rl Y.K Y.Z f' h' H' → XR Y.K Y.xc Y.xf f' h'.size H' c l cls d → W cls d σ H'
  | .stk => False
section
variable {Y : Ctx} {W : Wish} {σ : L2.St} {f : Nat → Addr} {h : MH} {H : Hp}
theorem G.bind {α β : Type} {r : R α} {k : α → MH → R β} {T : β → (Nat → Addr) → MH → Hp → Prop} (g : G Y W σ f h H (r.bind k) T) :
    G Y W σ f h H r (fun a f1 h1 H1 => G Y W σ f1 h1 H1 (k a h1) T) := by
  cases r with
  | ok a h1 =>
    intro f1 H1 e1 r1
    have g' : G Y W σ f h H (k a h1) T := g
    cases hk : k a h1 with
    | ok b h2 =>
      rw [hk] at g'
      exact fun f2 H2 e2 r2 => g' f2 H2 (e1.trans e2) r2
    | ex c l h2 =>
      rw [hk] at g'
      exact fun f2 H2 cls d e2 r2 x => g' f2 H2 cls d (e1.trans e2) r2 x
    | stk =>
      rw [hk] at g'
      exact g'
  | ex c l h1 => exact g
  | stk => exact g
theorem G.mono {α : Type} {r : R α} {T T' : α → (Nat → Addr) → MH → Hp → Prop} (g : G Y W σ f h H r T) (k : ∀ a h' f' H', r = .ok a h' → Ext f h.size H f' h'.size H' → Rl Y.K Y.Z f' h' H' → T a f' h' H' → T' a f' h' H') : G Y W σ f h H r T' := by
  cases r with
  | ok a h1 => exact fun f1 H1 e1 r1 => k a h1 f1 H1 rfl e1 r1 (g f1 H1 e1 r1)
  | ex c l h1 => exact g
  | stk => exact g
theorem G.ok {α : Type} {a : α} {T : α → (Nat → Addr) → MH → Hp → Prop} (r : Rl Y.K Y.Z f h H) (g : G Y W σ f h H (.ok a h) T) : T a f h H := g f H (Ext.refl _ _ _) r
end
/-- an expression's reading by its run -/
def rdE (Y : Ctx) (W : Wish) (m : En → MH → R MV) : TE := fun σ H Q => ∃ f ms h, Rl Y.K Y.Z f h H ∧ SR Y.K f h.size H ms σ ∧ G Y W σ f h H (m ms h) fun v f' h' H' => ∀ x, VR Y.K f' h'.size H' v x → Q x H'
def rdT (Y : Ctx) (W : Wish) (m : En → MH → R Bool) : TT := fun σ H Q => ∃ f ms h, Rl Y.K Y.Z f h H ∧ SR Y.K f h.size H ms σ ∧ G Y W σ f h H (m ms h) fun b _ _ H' => Q b H'
def rdA (Y : Ctx) (W : Wish) (m : En → MH → R (List MV)) : TA := fun σ H Q => ∃ f ms h, Rl Y.K Y.Z f h H ∧ SR Y.K f h.size H ms σ ∧ G Y W σ f h H (m ms h) fun l f' h' H' => ∀ xs, VRs Y.K f' h'.size H' l xs → Q xs H'
theorem _root_.L2.PE.conv {X : Cx} {e : Expr} {t t' : TE} (p : PE X e t) (k : ∀ σ H Q, t' σ H Q → t σ H Q) : PE X e t' := ⟨fun pins s σ H Q I q => p.run pins s σ H Q I (k σ H Q q)⟩
theorem _root_.L2.PT.conv {X : Cx} {e : Expr} {t t' : TT} (p : PT X e t) (k : ∀ σ H Q, t' σ H Q → t σ H Q) : PT X e t' := ⟨fun pins s σ H Q I q => p.run pins s σ H Q I (k σ H Q q)⟩
theorem _root_.L2.PA.conv {X : Cx} {es : List Expr} {t t' : TA} (p : PA X es t) (k : ∀ σ H Q, t' σ H Q → t σ H Q) : PA X es t' := ⟨fun pos pins s σ H Q I q => p.run pos pins s σ H Q I (k σ H Q q)⟩
theorem _root_.L2.PS.conv {X : Cx} {st : Stmt} {t t' : TS} (p : PS X st t) (k : ∀ D σ H, t' D σ H → t D σ H) : PS X st t' := ⟨fun pins s σ H D I q => p.run pins s σ H D I (k D σ H q)⟩
theorem _root_.L2.PSs.conv {X : Cx} {st : List Stmt} {t t' : TS} (p : PSs X st t) (k : ∀ D σ H, t' D σ H → t D σ H) : PSs X st t' := ⟨fun pins s σ H D I q => p.run pins s σ H D I (k D σ H q)⟩
end DM
set_option Elab.async false
set_option linter.all false
set_option maxRecDepth 100000
set_option maxHeartbeats 4000000
/-! S2: operations on values. -/
namespace DM
open PySem L2 PyProof.Rows

theorem LIM_eq : LIM = sizeLine := by rw [sizeLine_eq]; rfl

/-! ### data -/
mutual
def toPy : PD → PyData
  | .non => .none
  | .bl b => .bool b
  | .int i => .int i
  | .str s => .str ⟨s.toArray⟩
  | .tup l => .tuple (toPys l)
  | .lst l => .list (toPys l)
  | .dct l => .dict (toPyd l)
def toPys : List PD → List PyData
  | [] => []
  | x :: xs => toPy x :: toPys xs
def toPyd : List (PD × PD) → List (PyData × PyData)
  | [] => []
  | (a, b) :: r => (toPy a, toPy b) :: toPyd r
end
mutual
/-- flat enough, without dicts, texts of signs -/
def pdOk : Nat → PD → Prop
  | _, .non => True
  | _, .bl _ => True
  | _, .int _ => True
  | _, .str s => TxOk s
  | 0, .tup _ => False
  | 0, .lst _ => False
  | n + 1, .tup l => pdOks n l
  | n + 1, .lst l => pdOks n l
  | _, .dct _ => False
def pdOks : Nat → List PD → Prop
  | _, [] => True
  | n, x :: xs => pdOk n x ∧ pdOks n xs
end
mutual
theorem eqv_toPy : ∀ (a b : PD), PyData.eqv (toPy a) (toPy b) = eqP a b
  | .non, b => by cases b <;> simp [toPy, PyData.eqv, eqP]
  | .bl _, b => by cases b <;> simp [toPy, PyData.eqv, eqP]
  | .int _, b => by cases b <;> simp [toPy, PyData.eqv, eqP]
  | .str s, b => by
    cases b <;> simp [toPy, PyData.eqv, eqP]
    rename_i t
    rw [Bool.eq_iff_iff]
    simp
  | .tup l, b => by
    cases b <;> simp [toPy, PyData.eqv, eqP]
    exact eqv_toPys _ _
  | .lst l, b => by
    cases b <;> simp [toPy, PyData.eqv, eqP]
    exact eqv_toPys _ _
  | .dct l, b => by cases b <;> simp [toPy, PyData.eqv, eqP]
theorem eqv_toPys : ∀ (a b : List PD), PyData.eqvAll (toPys a) (toPys b) = eqPs a b
  | [], [] => by simp [toPys, PyData.eqvAll, eqPs]
  | [], _ :: _ => by simp [toPys, PyData.eqvAll, eqPs]
  | _ :: _, [] => by simp [toPys, PyData.eqvAll, eqPs]
  | x :: xs, y :: ys => by simp [toPys, PyData.eqvAll, eqPs, eqv_toPy x y, eqv_toPys xs ys]
end
theorem strOk_of {s : Tx} (h : TxOk s) : PyData.strOk ⟨s.toArray⟩ = true := by
  unfold PyData.strOk
  simp
  exact fun i hi => h.2 i hi
mutual
theorem lay_of : ∀ (n : Nat) (d : PD), pdOk n d → (toPy d).canLay0 = true ∧ (toPy d).depth ≤ n
  | n, .non, _ => by simp [toPy, PyData.canLay0, PyData.depth]
  | n, .bl _, _ => by simp [toPy, PyData.canLay0, PyData.depth]
  | n, .int _, _ => by simp [toPy, PyData.canLay0, PyData.depth]
  | n, .str s, h => by
    have h' : TxOk s := by unfold pdOk at h; exact h
    exact ⟨by simp only [toPy, PyData.canLay0]; exact strOk_of h', by simp [toPy, PyData.depth]⟩
  | 0, .tup _, h => by unfold pdOk at h; exact h.elim
  | 0, .lst _, h => by unfold pdOk at h; exact h.elim
  | n + 1, .tup l, h => by
    unfold pdOk at h
    obtain ⟨a, b⟩ := lays_of n l h
    exact ⟨by simp only [toPy, PyData.canLay0]; exact a, by simp only [toPy, PyData.depth]; omega⟩
  | n + 1, .lst l, h => by
    unfold pdOk at h
    obtain ⟨a, b⟩ := lays_of n l h
    exact ⟨by simp only [toPy, PyData.canLay0]; exact a, by simp only [toPy, PyData.depth]; omega⟩
  | n, .dct l, h => by unfold pdOk at h; exact h.elim
theorem lays_of : ∀ (n : Nat) (l : List PD), pdOks n l → PyData.canLayAll0 (toPys l) = true ∧ PyData.depthAll (toPys l) ≤ n
  | n, [], _ => by simp [toPys, PyData.canLayAll0, PyData.depthAll]
  | n, x :: xs, h => by
    unfold pdOks at h
    obtain ⟨a, b⟩ := lay_of n x h.1
    obtain ⟨c, d⟩ := lays_of n xs h.2
    refine ⟨by simp only [toPys, PyData.canLayAll0, a, c, Bool.and_self], ?_⟩
    simp only [toPys, PyData.depthAll]
    omega
end
theorem shaped_of {n : Nat} {d : PD} (h : pdOk n d) (hn : n ≤ 64) : SeqAt.shaped (toPy d) = true := by
  obtain ⟨a, b⟩ := lay_of n d h
  unfold SeqAt.shaped
  rw [a, decide_eq_true (by omega)]
  rfl

section
variable {K : PySem.W.Frag} {Z : Env1} {f : Nat → Addr} {h : MH} {H : Hp}
theorem datL_dp {n : Nat} (hd : ∀ (m : MV) (d : PD) (x : V), dat n h m = some d → VR K f h.size H m x → Dp K H x (toPy d) ∧ pdOk n d) :
    ∀ (l : List MV) (ds : List PD) (xs : List V), l.mapM (dat n h) = some ds → VRs K f h.size H l xs → DpAll K H xs (toPys ds) ∧ pdOks n ds
  | [], ds, xs, e, r => by
    rw [List.mapM_nil] at e
    cases e
    rw [r.nil_inv]
    exact ⟨by unfold toPys; exact .nil, by unfold pdOks; trivial⟩
  | m :: ms, ds, xs, e, r => by
    obtain ⟨v, ws, rfl, r1, r2⟩ := r.cons_inv
    rw [List.mapM_cons] at e
    cases e1 : dat n h m with
    | none => rw [e1] at e; cases e
    | some d =>
      rw [e1] at e
      cases e2 : ms.mapM (dat n h) with
      | none => rw [e2] at e; cases e
      | some ds' =>
        rw [e2] at e
        have e' : d :: ds' = ds := Option.some.inj e
        subst e'
        obtain ⟨a, b⟩ := hd m d v e1 r1
        obtain ⟨c, g⟩ := datL_dp hd ms ds' ws e2 r2
        exact ⟨by unfold toPys; exact .cons a c, by unfold pdOks; exact ⟨b, g⟩⟩
theorem dat_dp (r : Rl K Z f h H) : ∀ (n : Nat) (m : MV) (d : PD) (x : V), dat n h m = some d → VR K f h.size H m x → Dp K H x (toPy d) ∧ pdOk n d
  | n, .non, d, x, e, q => by
    unfold VR at q
    subst q
    have : PD.non = d := by cases n <;> (simp only [dat] at e; exact Option.some.inj e)
    subst this
    exact ⟨by unfold toPy; exact .non, by cases n <;> (unfold pdOk; trivial)⟩
  | n, .bl b, d, x, e, q => by
    unfold VR at q
    subst q
    have : PD.bl b = d := by cases n <;> (simp only [dat] at e; exact Option.some.inj e)
    subst this
    exact ⟨by unfold toPy; exact .bl b, by cases n <;> (unfold pdOk; trivial)⟩
  | n, .int b, d, x, e, q => by
    unfold VR at q
    subst q
    have : PD.int b = d := by cases n <;> (simp only [dat] at e; exact Option.some.inj e)
    subst this
    exact ⟨by unfold toPy; exact .int b, by cases n <;> (unfold pdOk; trivial)⟩
  | n, .str b, d, x, e, q => by
    unfold VR at q
    obtain ⟨q, hb⟩ := q
    subst q
    have : PD.str b = d := by cases n <;> (simp only [dat] at e; exact Option.some.inj e)
    subst this
    exact ⟨by unfold toPy; exact .str _, by cases n <;> (unfold pdOk; exact hb)⟩
  | 0, .tup l, d, x, e, q => by simp [dat] at e
  | 0, .kl l, d, x, e, q => by simp [dat] at e
  | 0, .ref k, d, x, e, q => by simp [dat] at e
  | n + 1, .tup l, d, x, e, q => by
    unfold VR at q
    obtain ⟨a, vs, rfl, s, t⟩ := q
    simp only [dat] at e
    cases e1 : l.mapM (dat n h) with
    | none => rw [e1] at e; cases e
    | some ds =>
      rw [e1] at e
      have e' : PD.tup ds = d := Option.some.inj e
      subst e'
      obtain ⟨c, g⟩ := datL_dp (dat_dp r n) l ds vs e1 t
      exact ⟨by unfold toPy; exact .tup s c, by unfold pdOk; exact g⟩
  | n + 1, .kl l, d, x, e, q => by
    unfold VR at q
    obtain ⟨a, vs, rfl, s, t⟩ := q
    simp only [dat] at e
    cases e1 : l.mapM (dat n h) with
    | none => rw [e1] at e; cases e
    | some ds =>
      rw [e1] at e
      have e' : PD.lst ds = d := Option.some.inj e
      subst e'
      obtain ⟨c, g⟩ := datL_dp (dat_dp r n) l ds vs e1 t
      exact ⟨by unfold toPy; exact .lst s.sq c, by unfold pdOk; exact g⟩
  | n + 1, .ref k, d, x, e, q => by
    unfold VR at q
    obtain ⟨hk, rfl⟩ := q
    simp only [dat] at e
    cases e0 : h.get k with
    | none => rw [e0] at e; cases e
    | some o =>
      rw [e0] at e
      have ho := r.ob k o e0
      cases o with
      | lst l =>
        obtain ⟨vs, e2, t⟩ := ho
        cases e1 : l.mapM (dat n h) with
        | none => simp only [e1] at e; cases e
        | some ds =>
          simp only [e1] at e
          have e' : PD.lst ds = d := Option.some.inj e
          subst e'
          obtain ⟨c, g⟩ := datL_dp (dat_dp r n) l ds vs e1 t
          exact ⟨by unfold toPy; exact .lst (SqL.of e2) c, by unfold pdOk; exact g⟩
      | ins c fs => cases e
      | dct l => exact ho.elim
      | set l => exact ho.elim
  | n, .kd l, d, x, e, q => by unfold VR at q; exact q.elim
  | n, .fn l, d, x, e, q => by unfold VR at q; exact q.elim
  | n, .exc c l, d, x, e, q => by unfold VR at q; exact q.elim
end

/-! ### operations -/
/-- what a pure operation comes to -/
def GP (Y : Ctx) (f : Nat → Addr) (h : MH) (H : Hp) {α : Type} (r : R α) (T : α → (Nat → Addr) → MH → Hp → Prop) : Prop := ∃ W σ, G Y W σ f h H r T
theorem GP.elim {Y : Ctx} {f : Nat → Addr} {h : MH} {H : Hp} {α : Type} {T : α → (Nat → Addr) → MH → Hp → Prop} {P : Prop} (g : GP Y f h H (.stk : R α) T) : P := by
  obtain ⟨W, σ, g⟩ := g
  exact g.elim
theorem GP.app {Y : Ctx} {f f' : Nat → Addr} {h h' : MH} {H H' : Hp} {α : Type} {a : α} {T : α → (Nat → Addr) → MH → Hp → Prop} (g : GP Y f h H (.ok a h') T) (e : Ext f h.size H f' h'.size H') (r : Rl Y.K Y.Z f' h' H') : T a f' h' H' := by
  obtain ⟨W, σ, g⟩ := g
  exact g f' H' e r
def rB (Y : Ctx) (k : MV → MV → MH → R MV) : R2 := fun x y H Q => ∃ f h a b, Rl Y.K Y.Z f h H ∧ VR Y.K f h.size H a x ∧ VR Y.K f h.size H b y ∧ GP Y f h H (k a b h) fun v f' h' H' => ∀ z, VR Y.K f' h'.size H' v z → Q z H'
theorem GP.here {Y : Ctx} {f : Nat → Addr} {h : MH} {H : Hp} {α : Type} {a : α} {T : α → (Nat → Addr) → MH → Hp → Prop} (r : Rl Y.K Y.Z f h H) (g : GP Y f h H (.ok a h) T) : T a f h H := g.app (Ext.refl _ _ _) r

section
variable {Y : Ctx} {f : Nat → Addr} {N : Nat} {h : MH} {H : Hp}
theorem VR.int_inv {K : PySem.W.Frag} {i : Int} {x : V} (r : VR K f N H (.int i) x) : x = .int i := by unfold VR at r; exact r
theorem VR.bl_inv {K : PySem.W.Frag} {i : Bool} {x : V} (r : VR K f N H (.bl i) x) : x = .bl i := by unfold VR at r; exact r
theorem VR.non_inv {K : PySem.W.Frag} {x : V} (r : VR K f N H .non x) : x = .non := by unfold VR at r; exact r
theorem VR.str_inv {K : PySem.W.Frag} {s : Tx} {x : V} (r : VR K f N H (.str s) x) : x = .str ⟨s.toArray⟩ ∧ TxOk s := by unfold VR at r; exact r
theorem VR.tup_inv {K : PySem.W.Frag} {l : List MV} {x : V} (r : VR K f N H (.tup l) x) : ∃ a vs, x = .ref a ∧ SqT K H a vs ∧ VRs K f N H l vs := by unfold VR at r; exact r
theorem VR.kl_inv {K : PySem.W.Frag} {l : List MV} {x : V} (r : VR K f N H (.kl l) x) : ∃ a vs, x = .ref a ∧ KLs K H a vs ∧ VRs K f N H l vs := by unfold VR at r; exact r
theorem VR.ref_inv {K : PySem.W.Frag} {n : Nat} {x : V} (r : VR K f N H (.ref n) x) : n < N ∧ x = .ref (f n) := by unfold VR at r; exact r
theorem VR.int {K : PySem.W.Frag} {i : Int} : VR K f N H (.int i) (.int i) := by unfold VR; rfl
theorem VR.bl {K : PySem.W.Frag} {i : Bool} : VR K f N H (.bl i) (.bl i) := by unfold VR; rfl
theorem VR.non {K : PySem.W.Frag} : VR K f N H .non .non := by unfold VR; rfl
theorem VR.str {K : PySem.W.Frag} {s : Tx} (t : TxOk s) : VR K f N H (.str s) (.str ⟨s.toArray⟩) := by unfold VR; exact ⟨rfl, t⟩
theorem VR.tup {K : PySem.W.Frag} {l : List MV} {a : Addr} {vs : List V} (s : SqT K H a vs) (t : VRs K f N H l vs) : VR K f N H (.tup l) (.ref a) := by unfold VR; exact ⟨a, vs, rfl, s, t⟩
theorem VR.ref {K : PySem.W.Frag} {n : Nat} (hn : n < N) : VR K f N H (.ref n) (.ref (f n)) := by unfold VR; exact ⟨hn, rfl⟩
theorem small_of {i : Int} (q : small i = true) : -(2 ^ 64) < i ∧ i < 2 ^ 64 := by
  have := of_decide_eq_true q
  omega

theorem str_app (a b : Tx) : ((⟨a.toArray⟩ : Str) ++ (⟨b.toArray⟩ : Str)) = ⟨(a ++ b).toArray⟩ := by
  show (⟨a.toArray ++ b.toArray⟩ : Str) = _
  simp
theorem TxOk.app {a b : Tx} (ha : TxOk a) (hb : TxOk b) (hl : a.length + b.length ≤ LIM) : TxOk (a ++ b) := ⟨by rw [List.length_append, ← LIM_eq]; exact hl, fun c hc => (List.mem_append.mp hc).elim (ha.2 c) (hb.2 c)⟩
/-- a new list, a new tuple -/
theorem GP.newList {l : List MV} {T : MV → (Nat → Addr) → MH → Hp → Prop} (r : Rl Y.K Y.Z f h H) (g : GP Y f h H (newList h l) T) {vs : List V} (rv : VRs Y.K f h.size H l vs) {p : Addr} (hp : H p = none) :
    vs.length ≤ sizeLine ∧ ∃ f', T (.ref h.size) f' (h.push (.lst l)) (upd H p (.lst vs)) ∧ f' h.size = p := by
  unfold DM.newList at g
  by_cases hl : l.length ≤ LIM
  · rw [if_pos hl] at g
    have hv : vs.length ≤ sizeLine := by rw [← rv.length, ← LIM_eq]; exact hl
    have ex0 : Ext f h.size H (nxt f h.size p) (h.size + 1) (upd H p (.lst vs)) := Ext.push hp
    obtain ⟨ex, rl⟩ := r.push (o := .lst l) (u := .lst vs) hp ⟨vs, upd_same, VRs.mono ex0.sz ex0.ag (r.text ex0) _ _ rv⟩
    exact ⟨hv, _, g.app ex rl, nxt_at⟩
  · rw [if_neg hl] at g
    exact g.elim

def bo : BOp → Operator
  | .add => .Add | .sub => .Sub | .mul => .Mult | .mod => .Mod | .fdiv => .FloorDiv | .pow => .Pow
variable {X : Cx}
theorem op_bin (hK : X.K = Y.K) (op : BOp) : OpR X (binaryOp (bo op)) (rB Y (binM op)) := by
  intro pins s σ H x y v u Q I rx ry ⟨f, h, a, b, r, ra, rb, g⟩
  unfold binM at g
  split at g
  · cases ra.int_inv; cases rb.int_inv
    exact op_add pins s σ H _ _ v u Q I rx ry ⟨_, _, rfl, rfl, g.here r _ .int⟩
  · rename_i a b
    obtain ⟨rfl, ta⟩ := ra.str_inv
    obtain ⟨rfl, tb⟩ := rb.str_inv
    by_cases hl : a.length + b.length ≤ LIM
    · rw [if_pos hl] at g
      refine op_add_str pins s σ H _ _ v u Q I rx ry ⟨_, _, rfl, rfl, ?_, ?_⟩
      · rw [← LIM_eq]; exact hl
      · rw [str_app]
        exact g.here r _ (.str (ta.app tb hl))
    · rw [if_neg hl] at g
      exact g.elim
  · rename_i a b
    obtain ⟨p, xs, rfl, sa, ta⟩ := ra.tup_inv
    obtain ⟨q, ys, rfl, sb, tb⟩ := rb.tup_inv
    by_cases hl : a.length + b.length ≤ LIM
    · rw [if_pos hl] at g
      have l1 := ta.length
      have l2 := tb.length
      refine op_catA pins s σ H _ _ v u Q I rx ry ⟨p, q, xs, ys, rfl, rfl, hK ▸ sa, hK ▸ sb, ?_, fun e => ?_, fun _ e => ?_, fun _ e z hz => ?_⟩
      · rw [← l1, ← l2, ← LIM_eq]; exact hl
      · subst e
        have e2 : a = [] := List.length_eq_zero_iff.mp l1
        subst e2
        rw [List.nil_append] at g
        exact g.here r _ (.tup sb tb)
      · subst e
        have e2 : b = [] := List.length_eq_zero_iff.mp l2
        subst e2
        rw [List.append_nil] at g
        exact g.here r _ (.tup sa ta)
      · have e1 : Ext f h.size H f h.size (upd H z (.tup (xs ++ ys))) := Ext.aside hz
        have r1 := r.aside (u := .tup (xs ++ ys)) hz
        exact g.app e1 r1 _ (.tup (SqT.of upd_same) ((r.vrs e1 ta).append (r.vrs e1 tb)))
    · rw [if_neg hl] at g
      exact g.elim
  · rename_i m n
    obtain ⟨hm, rfl⟩ := ra.ref_inv
    obtain ⟨hn, rfl⟩ := rb.ref_inv
    split at g
    · rename_i a b em en
      obtain ⟨xs, ea, ta⟩ := r.ob _ _ em
      obtain ⟨ys, eb, tb⟩ := r.ob _ _ en
      refine op_cat pins s σ H _ _ v u Q I rx ry ⟨f m, f n, xs, ys, rfl, rfl, ea, eb, ?_, fun p hp => ?_⟩
      · have := (GP.newList r g (ta.append tb) (p := s.heap.objs.size) I.fresh).1
        rwa [List.length_append] at this
      · obtain ⟨_, f', t, e⟩ := GP.newList r g (ta.append tb) hp
        refine t _ ?_
        rw [← e]
        exact .ref (by rw [MH.size_push]; omega)
    · exact g.elim
  · cases ra.int_inv; cases rb.int_inv
    exact op_sub pins s σ H _ _ v u Q I rx ry ⟨_, _, rfl, rfl, g.here r _ .int⟩
  · cases ra.int_inv; cases rb.int_inv
    rename_i i j
    by_cases hl : (small i || small j) = true
    · rw [if_pos hl] at g
      refine op_mul pins s σ H _ _ v u Q I rx ry ⟨_, _, rfl, rfl, ?_, g.here r _ .int⟩
      rcases Bool.or_eq_true_iff.mp hl with q | q
      · exact .inl (small_of q)
      · exact .inr (small_of q)
    · rw [if_neg hl] at g
      exact g.elim
  · cases ra.int_inv; cases rb.int_inv
    rename_i i j
    by_cases hl : 0 < j
    · rw [if_pos hl] at g
      exact op_mod pins s σ H _ _ v u Q I rx ry ⟨_, _, rfl, rfl, hl, g.here r _ .int⟩
    · rw [if_neg hl] at g
      exact g.elim
  · cases ra.int_inv; cases rb.int_inv
    rename_i i j
    by_cases hl : 0 < j ∧ j < 1073741824
    · rw [if_pos hl] at g
      exact op_fdiv pins s σ H _ _ v u Q I rx ry ⟨_, _, rfl, rfl, hl, g.here r _ .int⟩
    · rw [if_neg hl] at g
      exact g.elim
  · cases ra.int_inv; cases rb.int_inv
    rename_i i j
    by_cases hl : 0 ≤ j ∧ j ≤ 1000000 ∧ small i
    · rw [if_pos hl] at g
      refine op_pow pins s σ H _ _ v u Q I rx ry ⟨_, _, rfl, rfl, ⟨hl.1, hl.2.1, ?_⟩, g.here r _ .int⟩
      have := small_of hl.2.2
      omega
    · rw [if_neg hl] at g
      exact g.elim
  · exact g.elim
end
end DM
set_option Elab.async false
set_option linter.all false
set_option maxRecDepth 100000
set_option maxHeartbeats 4000000
/-! S3: further operations on values. -/
namespace DM
open PySem L2 PyProof.Rows
section
variable {Y : Ctx} {f : Nat → Addr} {N : Nat} {h : MH} {H : Hp} {X : Cx}
theorem bR_inv {o : Option Bool} {T : MV → (Nat → Addr) → MH → Hp → Prop} (r : Rl Y.K Y.Z f h H) (g : GP Y f h H (bR o h) T) : ∃ b, o = some b ∧ T (.bl b) f h H := by
  cases o with
  | none => exact g.elim
  | some b => exact ⟨b, rfl, GP.here r g⟩
theorem eqM_inv {a b : MV} {x y : V} {c : Bool} (r : Rl Y.K Y.Z f h H) (ra : VR Y.K f h.size H a x) (rb : VR Y.K f h.size H b y) (e : eqM h a b = some c) :
    ∃ d1 d2, Dp Y.K H x d1 ∧ Dp Y.K H y d2 ∧ SeqAt.shaped d1 = true ∧ SeqAt.shaped d2 = true ∧ PyData.eqv d1 d2 = c := by
  unfold eqM at e
  cases e1 : dat DEP h a with
  | none => rw [e1] at e; cases e
  | some d1 =>
    rw [e1] at e
    cases e2 : dat DEP h b with
    | none => rw [e2] at e; cases e
    | some d2 =>
      rw [e2] at e
      obtain ⟨p1, o1⟩ := dat_dp r _ _ _ _ e1 ra
      obtain ⟨p2, o2⟩ := dat_dp r _ _ _ _ e2 rb
      refine ⟨_, _, p1, p2, shaped_of o1 (by decide), shaped_of o2 (by decide), ?_⟩
      rw [eqv_toPy]
      exact Option.some.inj e
def co : COp → CmpOp
  | .lt => .Lt | .le => .LtE | .gt => .Gt | .ge => .GtE | .eq => .Eq | .ne => .NotEq | .isin => .In | .notin => .NotIn
theorem ltM_inv {a b : MV} {x y : V} {c : Bool} (ra : VR Y.K f h.size H a x) (rb : VR Y.K f h.size H b y) (e : ltM h a b = some c) : ∃ i j, x = .int i ∧ y = .int j ∧ c = decide (i < j) := by
  unfold ltM at e
  split at e
  · exact ⟨_, _, ra.int_inv, rb.int_inv, (Option.some.inj e).symm⟩
  · cases e
theorem mapNot {o : Option Bool} {b : Bool} (e : o.map not = some b) : o = some (!b) := by
  cases o with
  | none => cases e
  | some c =>
    have e' : (!c) = b := Option.some.inj e
    rw [← e']
    simp
theorem toPys_any (d : PD) : ∀ l : List PD, ((toPys l).any fun z => PyData.eqv z (toPy d)) = l.any fun z => eqP z d
  | [] => rfl
  | x :: xs => by
    unfold toPys
    rw [List.any_cons, List.any_cons, eqv_toPy, toPys_any d xs]
theorem inM_str {x : V} {a : MV} {t : Tx} {b : Bool} (ra : VR Y.K f h.size H a x) (e : inM h a (.str t) = some b) : ∃ c, x = .str ⟨#[c]⟩ ∧ b = decide (c ∈ t) := by
  unfold inM at e
  split at e
  · rename_i t' et
    cases et
    split at e
    · rename_i c
      obtain ⟨rfl, _⟩ := ra.str_inv
      exact ⟨c, rfl, (Option.some.inj e).symm⟩
    · cases e
  · rename_i hn
    exact absurd rfl (hn t)
theorem inM_data {x y : V} {a m : MV} {b : Bool} (r : Rl Y.K Y.Z f h H) (ra : VR Y.K f h.size H a x) (rm : VR Y.K f h.size H m y) (hm : ∀ t, m ≠ .str t) (e : inM h a m = some b) :
    ∃ d ds, Dp Y.K H x d ∧ SeqAt.shaped d = true ∧ (Dp Y.K H y (.list ds) ∧ SeqAt.shaped (.list ds) = true ∨ Dp Y.K H y (.tuple ds) ∧ SeqAt.shaped (.tuple ds) = true) ∧ b = ds.any fun z => PyData.eqv z d := by
  unfold inM at e
  split at e
  · exact absurd rfl (hm _)
  · split at e
    · rename_i d l e1 e2
      obtain ⟨p1, o1⟩ := dat_dp r _ _ _ _ e1 ra
      obtain ⟨p2, o2⟩ := dat_dp r _ _ _ _ e2 rm
      have s2 := shaped_of o2 (by decide)
      unfold toPy at p2 s2
      exact ⟨_, _, p1, shaped_of o1 (by decide), .inl ⟨p2, s2⟩, by rw [toPys_any]; exact (Option.some.inj e).symm⟩
    · rename_i d l e1 e2
      obtain ⟨p1, o1⟩ := dat_dp r _ _ _ _ e1 ra
      obtain ⟨p2, o2⟩ := dat_dp r _ _ _ _ e2 rm
      have s2 := shaped_of o2 (by decide)
      unfold toPy at p2 s2
      exact ⟨_, _, p1, shaped_of o1 (by decide), .inr ⟨p2, s2⟩, by rw [toPys_any]; exact (Option.some.inj e).symm⟩
    · cases e
theorem op_cmp (hK : X.K = Y.K) (hu : X.A.units + 65 < cLine) (op : COp) : OpR X (compareOp (co op)) (rB Y (cmpM op)) := by
  intro pins s σ H x y v u Q I rx ry ⟨f, h, a, b, r, ra, rb, g⟩
  cases op with
  | eq =>
    obtain ⟨c, e, t⟩ := bR_inv r g
    obtain ⟨d1, d2, p1, p2, s1, s2, e2⟩ := eqM_inv r ra rb e
    exact op_eqD (by omega) pins s σ H _ _ v u Q I rx ry ⟨d1, d2, hK ▸ p1, hK ▸ p2, s1, s2, by rw [e2]; exact t _ .bl⟩
  | ne =>
    obtain ⟨c, e, t⟩ := bR_inv r g
    obtain ⟨d1, d2, p1, p2, s1, s2, e2⟩ := eqM_inv r ra rb (mapNot e)
    exact op_neD (by omega) pins s σ H _ _ v u Q I rx ry ⟨d1, d2, hK ▸ p1, hK ▸ p2, s1, s2, by rw [e2, Bool.not_not]; exact t _ .bl⟩
  | lt =>
    obtain ⟨c, e, t⟩ := bR_inv r g
    obtain ⟨i, j, rfl, rfl, e2⟩ := ltM_inv ra rb e
    exact op_lt pins s σ H _ _ v u Q I rx ry ⟨i, j, rfl, rfl, by show Q (V.bl (decide (i < j))) H; rw [← e2]; exact t _ .bl⟩
  | gt =>
    obtain ⟨c, e, t⟩ := bR_inv r g
    obtain ⟨j, i, rfl, rfl, e2⟩ := ltM_inv rb ra e
    exact op_gt pins s σ H _ _ v u Q I rx ry ⟨i, j, rfl, rfl, by show Q (V.bl (decide (j < i))) H; rw [← e2]; exact t _ .bl⟩
  | le =>
    obtain ⟨c, e, t⟩ := bR_inv r g
    obtain ⟨j, i, rfl, rfl, e2⟩ := ltM_inv rb ra (mapNot e)
    have e3 : decide (i ≤ j) = c := by
      have : decide (i ≤ j) = !decide (j < i) := by rw [Bool.eq_iff_iff]; simp
      rw [this, ← e2, Bool.not_not]
    exact op_le pins s σ H _ _ v u Q I rx ry ⟨i, j, rfl, rfl, by show Q (V.bl (decide (i ≤ j))) H; rw [e3]; exact t _ .bl⟩
  | ge =>
    obtain ⟨c, e, t⟩ := bR_inv r g
    obtain ⟨i, j, rfl, rfl, e2⟩ := ltM_inv ra rb (mapNot e)
    have e3 : decide (j ≤ i) = c := by
      have : decide (j ≤ i) = !decide (i < j) := by rw [Bool.eq_iff_iff]; simp
      rw [this, ← e2, Bool.not_not]
    exact op_ge pins s σ H _ _ v u Q I rx ry ⟨i, j, rfl, rfl, by show Q (V.bl (decide (j ≤ i))) H; rw [e3]; exact t _ .bl⟩
  | isin =>
    obtain ⟨c, e, t⟩ := bR_inv r g
    by_cases hs : ∃ z, b = .str z
    · obtain ⟨z, rfl⟩ := hs
      obtain ⟨rfl, tb⟩ := rb.str_inv
      obtain ⟨k, rfl, e2⟩ := inM_str ra e
      refine op_in_sign pins s σ H _ _ v u Q I rx ry ⟨k, _, rfl, rfl, ?_⟩
      rw [show ((⟨z.toArray⟩ : Str).cps.toList) = z from by simp, ← e2]
      exact t _ .bl
    · obtain ⟨d, ds, p1, s1, p2, e2⟩ := inM_data r ra rb (fun z q => hs ⟨z, q⟩) e
      subst e2
      rcases p2 with ⟨p2, s2⟩ | ⟨p2, s2⟩
      · exact op_inD (by omega) pins s σ H _ _ v u Q I rx ry ⟨d, ds, hK ▸ p1, hK ▸ p2, s1, s2, t _ .bl⟩
      · obtain ⟨as, r1⟩ := Dp.reads I d x v (hK ▸ p1) rx
        obtain ⟨bs, r2⟩ := Dp.reads I (.tuple ds) y u (hK ▸ p2) ry
        have hd := SeqAt.depth_of_shaped s1
        exact SeqAt.in_tuple_reads r2 r1 (SeqAt.canLay_of_shaped s2) (SeqAt.canLay_of_shaped s1) (by omega) ⟨.bl _, H, I, rfl, t _ .bl⟩
  | notin =>
    obtain ⟨c, e, t⟩ := bR_inv r g
    have e := mapNot e
    by_cases hs : ∃ z, b = .str z
    · obtain ⟨z, rfl⟩ := hs
      obtain ⟨rfl, tb⟩ := rb.str_inv
      obtain ⟨k, rfl, e2⟩ := inM_str ra e
      refine op_notIn_sign pins s σ H _ _ v u Q I rx ry ⟨k, _, rfl, rfl, ?_⟩
      rw [show ((⟨z.toArray⟩ : Str).cps.toList) = z from by simp, ← e2, Bool.not_not]
      exact t _ .bl
    · obtain ⟨d, ds, p1, s1, p2, e2⟩ := inM_data r ra rb (fun z q => hs ⟨z, q⟩) e
      have e3 : (!ds.any fun z => PyData.eqv z d) = c := by rw [← e2, Bool.not_not]
      rcases p2 with ⟨p2, s2⟩ | ⟨p2, s2⟩
      · exact op_notInD (by omega) pins s σ H _ _ v u Q I rx ry ⟨d, ds, hK ▸ p1, hK ▸ p2, s1, s2, by rw [e3]; exact t _ .bl⟩
      · obtain ⟨as, r1⟩ := Dp.reads I d x v (hK ▸ p1) rx
        obtain ⟨bs, r2⟩ := Dp.reads I (.tuple ds) y u (hK ▸ p2) ry
        have hd := SeqAt.depth_of_shaped s1
        exact SeqAt.notIn_tuple_reads r2 r1 (SeqAt.canLay_of_shaped s2) (SeqAt.canLay_of_shaped s1) (by omega) ⟨.bl _, H, I, rfl, by rw [e3]; exact t _ .bl⟩

/-! ### truth -/
theorem listOf_sq {m : MV} {x : V} {l : List MV} (r : Rl Y.K Y.Z f h H) (rm : VR Y.K f h.size H m x) (e : listOf h m = some l) : ∃ a vs, x = .ref a ∧ SqL Y.K H a vs ∧ VRs Y.K f h.size H l vs := by
  unfold listOf at e
  split at e
  · rename_i n
    obtain ⟨hn, rfl⟩ := rm.ref_inv
    split at e
    · rename_i l' en
      cases e
      obtain ⟨vs, e1, t⟩ := r.ob _ _ en
      exact ⟨_, vs, rfl, SqL.of e1, t⟩
    · cases e
  · cases e
    obtain ⟨a, vs, rfl, s, t⟩ := rm.kl_inv
    exact ⟨a, vs, rfl, s.sq, t⟩
  · cases e
theorem seqOf_sq {m : MV} {x : V} {l : List MV} (r : Rl Y.K Y.Z f h H) (rm : VR Y.K f h.size H m x) (e : seqOf h m = some l) : ∃ a vs, x = .ref a ∧ (SqL Y.K H a vs ∨ SqT Y.K H a vs) ∧ VRs Y.K f h.size H l vs := by
  unfold seqOf at e
  split at e
  · cases e
    obtain ⟨a, vs, rfl, s, t⟩ := rm.tup_inv
    exact ⟨a, vs, rfl, .inr s, t⟩
  · obtain ⟨a, vs, rfl, s, t⟩ := listOf_sq r rm e
    exact ⟨a, vs, rfl, .inl s, t⟩
theorem emptyEq {l : List MV} {vs : List V} (t : VRs Y.K f h.size H l vs) : (!l.isEmpty) = !vs.isEmpty := by
  have := t.length
  cases l <;> cases vs <;> simp at this ⊢
theorem truM_inv {m : MV} {x : V} {T : Bool → (Nat → Addr) → MH → Hp → Prop} (r : Rl Y.K Y.Z f h H) (rm : VR Y.K f h.size H m x) (g : GP Y f h H (truM m h) T) : ∃ b, truM m h = .ok b h ∧ TruV Y.K x H b ∧ T b f h H := by
  unfold truM at g ⊢
  split at g
  · exact ⟨_, rfl, by rw [rm.non_inv]; rfl, GP.here r g⟩
  · exact ⟨_, rfl, by rw [rm.bl_inv]; rfl, GP.here r g⟩
  · exact ⟨_, rfl, by rw [rm.int_inv]; rfl, GP.here r g⟩
  · rename_i s
    obtain ⟨rfl, t⟩ := rm.str_inv
    refine ⟨_, rfl, ⟨?_, ?_⟩, GP.here r g⟩
    · show s.toArray.size ≤ _
      rw [List.size_toArray]
      exact t.1
    · show (!s.isEmpty) = ((s.toArray.size : Int) != 0)
      rw [List.size_toArray]
      cases s with
      | nil => rfl
      | cons c r =>
        rw [Bool.eq_iff_iff]
        simp
        omega
  · obtain ⟨a, vs, rfl, s, t⟩ := rm.tup_inv
    exact ⟨_, rfl, .inr (.inl ⟨vs, s, emptyEq t⟩), GP.here r g⟩
  · obtain ⟨a, vs, rfl, s, t⟩ := rm.kl_inv
    exact ⟨_, rfl, .inl ⟨vs, s.sq, emptyEq t⟩, GP.here r g⟩
  · obtain ⟨hn, rfl⟩ := rm.ref_inv
    split at g
    · rename_i l en
      obtain ⟨vs, e1, t⟩ := r.ob _ _ en
      exact ⟨_, rfl, .inl ⟨vs, SqL.of e1, emptyEq t⟩, GP.here r g⟩
    · rename_i l en
      exact (r.ob _ _ en).elim
    · exact g.elim
  · exact g.elim

/-! ### places, slices -/
theorem ixN_eq (i : Int) (n : Nat) : DM.ixN i n = L2.ixN n i := by
  unfold DM.ixN L2.ixN
  by_cases h0 : 0 ≤ i
  · rw [if_pos h0, if_pos h0]
  · rw [if_neg h0, if_neg h0]
    by_cases h1 : -(n : Int) ≤ i
    · rw [if_pos h1, if_pos (by omega)]
    · rw [if_neg h1, if_neg (by omega)]
theorem atL_at {l : List MV} {vs : List V} {i : Int} {v : MV} (t : VRs Y.K f h.size H l vs) (e : atL l i = some v) : ∃ x, atI vs i = some x ∧ VR Y.K f h.size H v x := by
  unfold atL at e
  rw [ixN_eq, t.length] at e
  unfold atI
  cases q : L2.ixN vs.length i with
  | none => rw [q] at e; cases e
  | some k =>
    rw [q] at e
    obtain ⟨x, e1, r1⟩ := t.get e
    exact ⟨x, e1, r1⟩
theorem ix_sub (hK : X.K = Y.K) : IxR X (rB Y subM) := by
  intro value slice pins s σ H x y v u Q I rx ry ⟨f, h, a, b, r, ra, rb, g⟩ hs
  unfold subM at g
  split at g
  · rename_i z k
    obtain ⟨rfl, t⟩ := ra.str_inv
    cases rb.int_inv
    split at g
    · rename_i j ej
      split at g
      · rename_i c ec
        refine ix_str value slice pins s σ H _ _ v u Q I rx ry ⟨⟨z.toArray⟩, k, c, rfl, rfl, ?_, ?_, ?_⟩ hs
        · show z.toArray.size ≤ _
          rw [List.size_toArray]
          exact t.1
        · rw [show ((⟨z.toArray⟩ : Str).cps.toList) = z from by simp]
          unfold atI
          rw [← ixN_eq, ej]
          exact ec
        · refine GP.here r g _ (.str (s := [c]) ⟨?_, fun d hd => ?_⟩)
          · rw [sizeLine_eq]; show 1 ≤ _; omega
          · have : d = c := by simpa using hd
            rw [this]
            exact t.2 c (List.mem_of_getElem? ec)
      · exact g.elim
    · exact g.elim
  · obtain ⟨p, vs, rfl, sq, t⟩ := ra.tup_inv
    cases rb.int_inv
    split at g
    · rename_i w e
      obtain ⟨z, e1, r1⟩ := atL_at t e
      exact ix_tup value slice pins s σ H _ _ v u Q I rx ry ⟨p, vs, _, z, rfl, rfl, hK ▸ sq, e1, GP.here r g _ r1⟩ hs
    · exact g.elim
  · obtain ⟨p, vs, rfl, sq, t⟩ := ra.kl_inv
    cases rb.int_inv
    split at g
    · rename_i w e
      obtain ⟨z, e1, r1⟩ := atL_at t e
      exact ix_list value slice pins s σ H _ _ v u Q I rx ry ⟨p, vs, _, z, rfl, rfl, hK ▸ sq.sq, e1, GP.here r g _ r1⟩ hs
    · exact g.elim
  · unfold VR at ra
    exact ra.elim
  · obtain ⟨hn, rfl⟩ := ra.ref_inv
    split at g
    · rename_i en
      exact (r.ob _ _ en).elim
    · rename_i l en
      obtain ⟨vs, e0, t⟩ := r.ob _ _ en
      split at g
      · cases rb.int_inv
        split at g
        · rename_i w e
          obtain ⟨z, e1, r1⟩ := atL_at t e
          exact ix_list value slice pins s σ H _ _ v u Q I rx ry ⟨_, vs, _, z, rfl, rfl, SqL.of e0, e1, GP.here r g _ r1⟩ hs
        · exact g.elim
      · exact g.elim
    · exact g.elim
  · exact g.elim
theorem clip_sIx (d n : Nat) (o : Option Int) : clip d n o = HT.sIx n d o := by
  cases o <;> rfl
theorem cutV_of {l : List MV} {vs : List V} (t : VRs Y.K f N H l vs) (lo hi : Option Int) : VRs Y.K f N H (cut l lo hi) (cutV vs lo hi) := by
  unfold cut cutV
  rw [clip_sIx, clip_sIx, t.length]
  exact (t.drop _).take _
theorem TxOk.sub {s t : Tx} (h : TxOk s) (hl : t.length ≤ s.length) (hm : ∀ c ∈ t, c ∈ s) : TxOk t := ⟨Nat.le_trans hl h.1, fun c hc => h.2 c (hm c hc)⟩
theorem cut_len {α : Type} (l : List α) (lo hi : Option Int) : (cut l lo hi).length ≤ l.length := by
  unfold cut
  rw [List.length_take, List.length_drop]
  omega
theorem cut_mem {α : Type} (l : List α) (lo hi : Option Int) (c : α) (hc : c ∈ cut l lo hi) : c ∈ l := List.mem_of_mem_drop (List.mem_of_mem_take hc)
def rSl (Y : Ctx) : V → Option Int → Option Int → Hp → VK → Prop := fun x lo hi H Q => ∃ f h a, Rl Y.K Y.Z f h H ∧ VR Y.K f h.size H a x ∧ GP Y f h H (slM a lo hi h) fun v f' h' H' => ∀ z, VR Y.K f' h'.size H' v z → Q z H'
theorem GP.newL {l : List MV} {T : MV → (Nat → Addr) → MH → Hp → Prop} (r : Rl Y.K Y.Z f h H) (g : GP Y f h H (new h (.lst l)) T) {vs : List V} (rv : VRs Y.K f h.size H l vs) {p : Addr} (hp : H p = none) :
    ∃ f', T (.ref h.size) f' (h.push (.lst l)) (upd H p (.lst vs)) ∧ f' h.size = p := by
  have ex0 : Ext f h.size H (nxt f h.size p) (h.size + 1) (upd H p (.lst vs)) := Ext.push hp
  obtain ⟨ex, rl⟩ := r.push (o := .lst l) (u := .lst vs) hp ⟨vs, upd_same, VRs.mono ex0.sz ex0.ag (r.text ex0) _ _ rv⟩
  exact ⟨_, g.app ex rl, nxt_at⟩
theorem sl_cut (hK : X.K = Y.K) : SlR X (rSl Y) := by
  intro pins s σ H x v vl vu lo hi sl Q I rx hs pl pu ⟨f, h, a, r, ra, g⟩
  unfold slM at g
  split at g
  · rename_i z
    obtain ⟨rfl, t⟩ := ra.str_inv
    refine sl_str pins s σ H _ v vl vu lo hi sl Q I rx hs pl pu ⟨_, rfl, ?_, ?_⟩
    · show z.toArray.size ≤ _
      rw [List.size_toArray]
      exact t.1
    · have e : L2.cutS ⟨z.toArray⟩ lo hi = ⟨(cut z lo hi).toArray⟩ := by
        unfold L2.cutS cut
        have e1 : (⟨z.toArray⟩ : Str).length = z.length := by show z.toArray.size = _; simp
        have e2 : (⟨z.toArray⟩ : Str).cps.toList = z := by simp
        rw [e1, e2, clip_sIx, clip_sIx]
      rw [e]
      exact GP.here r g _ (.str (t.sub (cut_len _ _ _) (cut_mem _ _ _)))
  · obtain ⟨p, vs, rfl, sq, t⟩ := ra.tup_inv
    refine sl_tupA pins s σ H _ v vl vu lo hi sl Q I rx hs pl pu ⟨p, vs, rfl, hK ▸ sq, fun hw => ?_, fun _ z hz => ?_⟩
    · have e : VRs Y.K f h.size H (cut _ lo hi) (cutV vs lo hi) := cutV_of t lo hi
      have e2 : cutV vs lo hi = vs := by
        unfold cutV
        rw [hw.1, hw.2, List.drop_zero, Nat.sub_zero, List.take_length]
      rw [e2] at e
      exact GP.here r g _ (.tup sq e)
    · have e1 : Ext f h.size H f h.size (upd H z (.tup (cutV vs lo hi))) := Ext.aside hz
      have r1 := r.aside (u := .tup (cutV vs lo hi)) hz
      exact g.app e1 r1 _ (.tup (SqT.of upd_same) (r.vrs e1 (cutV_of t lo hi)))
  · obtain ⟨p, vs, rfl, sq, t⟩ := ra.kl_inv
    refine sl_list pins s σ H _ v vl vu lo hi sl Q I rx hs pl pu ⟨p, vs, rfl, hK ▸ sq.sq, fun z hz => ?_⟩
    obtain ⟨f', q, e⟩ := GP.newL r g (cutV_of t lo hi) hz
    exact q _ (by rw [← e]; exact .ref (by rw [MH.size_push]; omega))
  · split at g
    · rename_i n l e
      obtain ⟨p, vs, rfl, sq, t⟩ := listOf_sq r ra e
      refine sl_list pins s σ H _ v vl vu lo hi sl Q I rx hs pl pu ⟨p, vs, rfl, hK ▸ sq, fun z hz => ?_⟩
      obtain ⟨f', q, e⟩ := GP.newL r g (cutV_of t lo hi) hz
      exact q _ (by rw [← e]; exact .ref (by rw [MH.size_push]; omega))
    · exact g.elim
  · exact g.elim
end
end DM
set_option Elab.async false
set_option linter.all false
set_option maxRecDepth 100000
set_option maxHeartbeats 4000000
/-! S4: defs' promises where no guard of the machine's own is up, calls, the law's own call. -/
namespace DM
open PySem L2 PyProof.Rows PySem.Spec

/-- as the layer's FnOk, where no guard is up -/
structure FnG (P0 : Program) (w : World) (K : PySem.W.Frag) (mg : Str → Option Value) (base : Heap) (CX : CXT) (k : Nat) (f : Addr) (fd : FuncData) (ps : List Str) (sp : Sp) : Prop where
  len : ∀ vs H Q E, sp vs H Q E → vs.length = ps.length
  run : ∀ (A : Around) (outer : List Env) (s : Shared) (H : Hp) (args : Args) (us : List Value) (vs : List V) (Q : VK) (E : XK), Room k A → A.guards = some [] →
    Env0 P0 w K mg base A outer s H → BindsTo s fd args (ps.zip us) → Vals vs us → sp vs H Q E → codeAny (model P0 w) A (.call (.ref f) args) (CR CX outer P0 w H s Q E) s

/-- a def by its body -/
theorem fnG_of {CX : CXT} {P0 : Program} {w : World} {K : PySem.W.Frag} {mg : Str → Option Value} {base : Heap} {k : Nat} {f : Addr} {x qual : Str} {params : Arguments} {body : List Stmt} {scope : Scope}
    {dvs : List V} {kws : List (Str × V)} {fd : FuncData} {N ps : List Str} {sp : Sp} (F : FunD K x qual params body scope dvs kws f fd) (S : FnScope N ps scope) (len : ∀ vs H Q E, sp vs H Q E → vs.length = ps.length)
    (hbody : ∀ (cdv : Value) (A : Around) (outer : List Env) (s : Shared) (H : Hp) (vs : List V) (Q : VK) (E : XK),
      Room k (A.deeper (envOfC qual scope s.heap.objs.size f cdv)) → A.guards = some [] → sp vs H Q E →
      ∃ t, PSs (cxOf CX P0 w K mg base N qual scope f cdv A outer s H E) body t ∧ t { nx := fun _ H' => Q .non H', rt := Q } (start N vs) H) :
    FnG P0 w K mg base CX (k + 1) f fd ps sp := by
  obtain ⟨oc, od, dV, kV, doc, pm, an, cdv, ct, osl, efd, lk, hcd, _, _⟩ := F.ex
  subst efd
  constructor
  · exact len
  intro A outer s H args us vs Q E hr hG e0 hb rv hsp
  have stays : ∀ b o, base.get? b = some o → s.heap.get? b = some o := fun b o e => (e0.bs b o e).1
  have kin : K.In s.heap := e0.mod.kin.keeps stays
  have slots : ∀ y ∈ ps.zip us, scope.names.lookup y.1 = some .local ∨
      (scope.names.lookup y.1 = some .cell ∧ ((cellsFrom (s.heap.objs.size + 1) scope.names []).lookup y.1).isSome = true) := by
    rintro ⟨n, v⟩ hy
    have hp := S.par n (List.of_mem_zip hy).1
    rcases hp with q | q
    · exact Or.inl q
    · exact Or.inr ⟨q, PySem.W.cellsFrom_some _ _ _ (Or.inl q)⟩
  refine codeAny_call_function hr.depth (kin _ _ lk) rfl S.co S.gen rfl (PySem.W.codeRec_of kin hcd) ?_
  refine hb _ _ _ _ ?_
  refine wpAny_newFunctionEnv_cells S.kind slots ?_
  intro env he s1 hx
  subst he
  refine ⟨(e0.mod.nolimit.keeps stays).keeps hx.toInCall.keep, codeAny_func ?_⟩
  obtain ⟨t, pt, hq⟩ := hbody cdv A outer s H vs Q E (hr.deeper _) hG hsp
  have I := inv_start (CX := CX) (E := E) (f := f) (N := N) S hr.hd e0 (len _ _ _ _ hsp) rv hx
  refine wpAny_mono (pt.run [] s1 (start N vs) H _ I hq) ?_ (fun _ _ z => z)
  intro fl s' hs
  cases fl with
  | next =>
    obtain ⟨σ', H', J, q⟩ := hs
    exact ⟨V.non, H', J.os, J.bare, J.base, J.hok, (rfl : RelV V.non Value.none), q⟩
  | ret u =>
    obtain ⟨v, σ', H', J, r, q⟩ := hs
    exact ⟨v, H', J.os, J.bare, J.base, J.hok, r, q⟩
  | brk => obtain ⟨_, _, _, q⟩ := hs; exact q.elim
  | cont => obtain ⟨_, _, _, q⟩ := hs; exact q.elim

section
variable {X : Cx} {CX : CXT} {k : Nat} {f C : Addr} {fd : FuncData} {ps : List Str} {sp : Sp} {E : XK} {pins : List (Addr × Obj)} {σ : L2.St} {H : Hp} {s : Shared} {Q : VK}
/-- a call of a def with arguments that bind -/
theorem run_fnG (F : FnG X.prog X.w X.K X.mg X.base CX k f fd ps sp) (hr : Room k X.A) (hG : X.A.guards = some []) (hx : PassesAt CX X σ E) (I : Inv X pins σ H s) {us bs : List Value} {ks : List (Str × Value)} {vs : List V}
    (hb : BindsTo s fd ⟨us, ks⟩ (ps.zip bs)) (r : Vals vs bs) (h : sp vs H Q E) : wpAny (model X.prog X.w) X.A (call (.ref f) us ks) (EP X pins σ Q) X.xe s := by
  have go := F.run X.A X.stack s H ⟨us, ks⟩ bs vs Q E hr hG I.env0 hb r h
  refine wpAny_call (codeAny_mono go ?_)
  intro rr s' hq
  rcases rr with e | fl
  · exact hx pins H s e s' I hq
  · cases fl <;> first | exact I.after hq | exact False.elim hq
/-- a new instance, then its __init__ -/
theorem run_makeG (M : Mk X.K C f) (F : FnG X.prog X.w X.K X.mg X.base CX k f fd ps sp) (hr : Room (k + 1) X.A) (hG : X.A.guards = some []) (hx : PassesAt CX X σ E) (I : Inv X pins σ H s) {us bs : List Value} {ks : List (Str × Value)} {vs : List V}
    (hb : ∀ (s' : Shared), X.K.In s'.heap → ∀ u : Value, BindsTo s' fd ⟨u :: us, ks⟩ (ps.zip (u :: bs))) (r : Vals vs bs)
    (h : ∀ x dx, H x = none → H dx = none → dx ≠ x → sp (.ref x :: vs) (upd (upd H dx (.own x)) x (.ins C dx [])) (fun v H2 => v = .non ∧ Q (.ref x) H2) E) :
    wpAny (model X.prog X.w) X.A (call (.ref C) us ks) (EP X pins σ Q) X.xe s := by
  have n1 : H (s.heap.objs.size + 1) = none := I.hok.fresh (Nat.le_succ _)
  have n0 : H s.heap.objs.size = none := I.hok.fresh (Nat.le_refl _)
  have hq := h _ _ n1 n0 (Nat.ne_of_lt (Nat.lt_succ_self _))
  have I2 := Inv.made (C := C) I
  have r1 : RelV (V.ref (s.heap.objs.size + 1)) (Value.ref (s.heap.objs.size + 1)) := rfl
  have go := F.run _ X.stack _ _ ⟨Value.ref (s.heap.objs.size + 1) :: us, ks⟩ (Value.ref (s.heap.objs.size + 1) :: bs) _ _ E (hr.make C us ks) hG (I2.env0.make C us ks) (hb _ I2.kIn _)
    (Paired.cons r1 r) hq
  refine wpAny_call (make_map (f := f) I.kIn M.makes M.init (beq_iff_eq.mp M.fn) (codeAny_mono go ?_))
  intro rr s' hz
  rcases rr with e | fl
  · exact hx pins _ _ e s' I2 hz
  · cases fl with
    | ret u =>
      obtain ⟨v, H', I3, rv, ev, q3⟩ := I2.after hz
      subst ev
      exact ⟨rv, V.ref (s.heap.objs.size + 1), H', I3, rfl, q3⟩
    | next => exact False.elim hz
    | brk => exact False.elim hz
    | cont => exact False.elim hz
end

/-! ### the law's call -/
/-- the script, known whole -/
def scrH (a : Addr) (ob : Obj) (xs : List V) : Hp := fun b => if b = a then some (.frz ob (.lst xs)) else none
theorem law_callG {P0 : Program} {w : World} {K : PySem.W.Frag} {mg mb : Str → Option Value} {CX : CXT} {k : Nat} {fa a : Addr} {fd : FuncData} {x : Str} {sp : Sp} {s₁ : Shared} {vs : List Value} {ns : List Int}
    (kin : K.In s₁.heap) (hns : s₁.heap.Ns mainGlobals mg) (hb : s₁.heap.Ns builtinsNs mb) (hbb : ∀ x : Str, x ≠ "__name__" → mb x = bootBuiltins x) (hlim : s₁.heap.NoLimit) (hg : s₁.gens = #[])
    (ha : s₁.heap.get? a = some { cls := .type "list", data := .seq vs.toArray }) (hi : IntsAre vs ns) (hl : ns.length ≤ sizeLine) (hr : Room k callerA)
    (F : ∀ base : Heap, K.In base → base.Ns mainGlobals mg → FnG P0 w K mg base CX k fa fd [x] sp) (hbind : ∀ (s : Shared) (u : Value), BindsTo s fd ⟨[u], []⟩ [(x, u)])
    (hsp : ∀ H : Hp, KLs K H a (ns.map V.int) → sp [.ref a] H (fun v _ => v = .bl true) fun _ _ _ => False)
    (hCX : ∀ H e s', CX [] H s₁ (fun _ _ _ => False) e s' → False) :
    codeAny (model P0 w) callerA (.call (.ref fa) ⟨[.ref a], []⟩) (fun r s' => r = .ok (.ret (.bool true)) ∧ OldK s₁.heap s'.heap ∧ s'.os = s₁.os ∧ AllBare s'.gens) s₁ := by
  have rv : Vals (ns.map V.int) vs := vals_ints hi
  have lenV := hi.length
  -- H: nothing, or the script alone
  have core : ∀ H : Hp, (∀ b u, H b = some u → b = a ∧ ∃ xs, u = .frz { cls := .type "list", data := .seq vs.toArray } (.lst xs)) → KLs K H a (ns.map V.int) → HOk P0 w H s₁.heap → (H a ≠ none → K.lookup a = none) →
      codeAny (model P0 w) callerA (.call (.ref fa) ⟨[.ref a], []⟩) (fun r s' => r = .ok (.ret (.bool true)) ∧ OldK s₁.heap s'.heap ∧ s'.os = s₁.os ∧ AllBare s'.gens) s₁ := by
    intro H hH hS hok hK
    -- the ground: the heap without the script
    have ground : ∀ {b : Addr} {o : Obj}, s₁.heap.get? b = some o → (b = a → False) ∨ H a = none → (hidT s₁.heap H).get? b = some o := by
      intro b o e hc
      refine hidT_get e ?_
      cases q : H b with
      | none => rfl
      | some u =>
        obtain ⟨e1, _⟩ := hH b u q
        rcases hc with z | z
        · exact (z e1).elim
        · rw [← e1, q] at z; cases z
    have kinG : K.In (hidT s₁.heap H) := by
      intro b o e
      refine ground (kin b o e) ?_
      by_cases hc : H a = none
      · exact Or.inr hc
      · refine Or.inl fun z => ?_
        rw [z, hK hc] at e
        cases e
    have nsG : ∀ {b : Addr} {m : Str → Option Value}, s₁.heap.Ns b m → (hidT s₁.heap H).Ns b m := by
      rintro b m ⟨o, es, ep, e, d, r⟩
      refine ⟨o, es, ep, ground e (Or.inl fun z => ?_), d, r⟩
      rw [z, ha] at e
      cases e
      cases d
    obtain ⟨mc, c1, c2⟩ := hlim
    have md : Mod K mg (hidT s₁.heap H) := ⟨kinG, nsG hns, ⟨mb, nsG hb, hbb⟩, ⟨mc, nsG c1, c2⟩⟩
    have none_in : ∀ b : Addr, b ∈ ([] : List Addr) → False := fun b z => nomatch z
    have e0 : Env0 P0 w K mg (hidT s₁.heap H) callerA [] s₁ H :=
      { frames := rfl, mod := md, bs := fun b o e => of_hidT e, bsz := Nat.le_of_eq (hidT_size _ _), funs := trivial, frf := fun b z => (none_in b z).elim, hok := hok, bare := .of_eq hg }
    have r1 : RelV (V.ref a) (Value.ref a) := rfl
    have go := (F _ kinG (nsG hns)).run callerA [] s₁ H ⟨[.ref a], []⟩ [.ref a] [.ref a] _ _ hr rfl e0 (hbind s₁ (.ref a)) (Paired.cons r1 Paired.nil) (hsp H hS)
    refine codeAny_mono go ?_
    intro rr s' hz
    rcases rr with e | fl
    · exact (hCX H e s' hz).elim
    cases fl with
    | ret u =>
      obtain ⟨v, H', os, bare, un, hok', r', q⟩ := hz
      have q' : v = V.bl true := q
      subst q'
      have ru : u = Value.bool true := r'
      subst ru
      refine ⟨rfl, OldK.of_keep ?_, os, bare⟩
      intro b o e
      cases q : H b with
      | none => exact un.keep b o e q (fun z => none_in b z) (fun z => none_in b z)
      | some u =>
        obtain ⟨_, xs, rfl⟩ := hH b u q
        have t1 := (hok b _ q).1
        have t2 := (hok' b _ (un.frzs b _ _ q)).1
        rw [e] at t1
        cases t1
        exact t2
    | next => exact False.elim hz
    | brk => exact False.elim hz
    | cont => exact False.elim hz
  cases hk : K.lookup a with
  | none =>
    refine core (scrH a { cls := .type "list", data := .seq vs.toArray } (ns.map V.int)) ?_ (Or.inl ⟨_, if_pos rfl⟩) ?_ (fun _ => hk)
    · intro b u e
      unfold scrH at e
      split at e
      · rename_i hb
        cases e
        exact ⟨hb, _, rfl⟩
      · cases e
    · intro b u e
      unfold scrH at e
      split at e
      · rename_i hb
        cases e
        subst hb
        exact ⟨ha, by rw [List.length_map]; exact hl, vs, _, rv, ha⟩
      · cases e
  | some o =>
    have e := kin a o hk
    rw [ha] at e
    cases e
    refine core (fun _ => none) (fun b u z => nomatch z) (Or.inr ?_) (fun b u z => nomatch z) (fun z => absurd rfl z)
    exact ⟨_, vs.toArray, _, hk, rfl, rfl, rfl, by rw [List.size_toArray, lenV]; exact hl, by simpa using rv⟩
open PySem.W in
theorem walk_G {l : PySem.W.OpenLaw} {n k : Nat} {q : Program} {loose : List Str} {XP : (Str → Option Value) → Heap → Prop} {YP : World → Heap → Prop} {d : DefRec} {CX : CXT} {x : Str}
    (hn : l.most = some n) (hn2 : n ≤ sizeLine) (hdf : d.params.defaults = []) (hr : Room k callerA)
    (F : ∀ (w : World) (mg : Str → Option Value) (fa : Addr) (h : Heap), YP w h → h.Ns mainGlobals mg → mg d.name = some (.ref fa) →
      ∃ (K : PySem.W.Frag) (fd : FuncData) (sp : Sp), K.In h ∧ (∀ (s : Shared) (u : Value), BindsTo s fd ⟨[u], []⟩ [(x, u)]) ∧
        (∀ (H : Hp) (a : Addr) (ns : List Int), ns.length ≤ n → KLs K H a (ns.map V.int) → sp [.ref a] H (fun v _ => v = .bl true) fun _ _ _ => False) ∧
        ∀ base : Heap, K.In base → base.Ns mainGlobals mg → FnG l.prog w K mg base CX k fa fd [x] sp)
    (hCX : ∀ (H : Hp) (s : Shared) (e : Value) (s' : Shared), CX [] H s (fun _ _ _ => False) e s' → False) :
    PySem.W.WalkO q loose XP YP l.row.toRowW d [] (fun f vs => PySem.call f vs) := by
  refine Att.attach_call hn hdf ?_
  intro w s₀ s₁ mg mb fa o pm cd doc a vs ns G Y ho hd hcd hmg hobj hints hlen hg
  obtain ⟨K, fd, sp, KX, bnd, hsp, hF⟩ := F w mg fa _ Y G.T.g hmg
  refine law_callG KX G.T.g G.T.b G.T.builtins G.T.nolimit hg hobj hints (Nat.le_trans hlen hn2) hr hF bnd (fun H hS => hsp H a ns hlen hS) ?_
  exact fun H e s' => hCX H s₁ e s'
end DM
set_option Elab.async false
set_option linter.all false
set_option maxRecDepth 100000
set_option maxHeartbeats 4000000
/-! S5: which text a term of the interpreter's is. -/
namespace DM
open PySem L2 PyProof.Rows PySem.Spec

structure Tab where
  P : Prog
  fnm : Nat → Str           -- names of attributes, methods, keywords
  gn : Nat → Str            -- names of the module's constants
  gok : Nat → Bool
  fname : Nat → Str         -- names of the module's defs
  fok : Nat → Bool
  fps : Nat → List Str      -- their parameters
  sh : Nat → Nat → List Nat → List Src → Bool   -- forms of calls: the def, how many by place, the names, where each parameter is from

def visB (sc : Scope) (x : Str) : Bool := match sc.names.lookup x with
  | some .local => true
  | some .cell => true
  | some .free => true
  | _ => false
def glB (sc : Scope) (x : Str) : Bool := match sc.names.lookup x with
  | some .globalImplicit => true
  | _ => false
/-- a name that may be stored: any of a def's own; in a block its plain own ones -/
def locB (inB : Bool) (sc : Scope) (x : Str) : Bool := match sc.names.lookup x with
  | some .local => true
  | some .cell => !inB
  | _ => false
def nmB (N : List Str) (i : Nat) (x : Str) : Bool := decide (N[i]? = some x) && !(x == ("__debug__" : Str)) && !(x == ("__classdict__" : Str))
def isStar : Expr → Bool
  | .Starred _ _ => true
  | _ => false
def isSlice : Expr → Bool
  | .Slice _ _ none _ => true
  | _ => false
def txB (s : Tx) : Bool := decide (s.length ≤ LIM) && s.all fun c => decide (c < 1114112)
def bName : Bif → Str
  | .len => "len" | .abs => "abs" | .max => "max" | .min => "min" | .repr => "repr" | .list => "list" | .tuple => "tuple" | .set => "set" | .sorted => "sorted" | .int => "int" | .str => "str" | .all => "all" | .any => "any"
def tName : Ty → Str
  | .int => "int" | .bool => "bool" | .str => "str" | .list => "list" | .tuple => "tuple" | .dict => "dict" | .lookup => "LookupError" | .value => "ValueError" | .own _ => "?"
def tyS : Ty → Option String
  | .int => some "int" | .bool => some "bool" | .str => some "str" | .list => some "list" | .tuple => some "tuple" | .dict => some "dict" | _ => none
/-- a method of a built-in class: its name -/
def mName : Nat → Option Str
  | 0 => some "append"
  | 1 => some "join"
  | _ => none
/-- the object of an attribute is no super() -/
def noSup : Expr → Bool
  | .Call (.Name x _) [] [] _ => !(x == ("super" : Str))
  | _ => true
mutual
/-- the slots that a target stores -/
def tgS : Tg → List Nat
  | .nm i => [i]
  | .tup l => tgSs l
  | _ => []
def tgSs : Tgs → List Nat
  | .nil => []
  | .cons t r => tgS t ++ tgSs r
end
def isSet : Expr → Bool
  | .Set _ _ _ => true
  | _ => false
/-- a test that is a value's truth, or a comparison -/
def plainT : Expr → Bool
  | .UnaryOp .Not _ _ => false
  | .BoolOp _ _ _ => false
  | .IfExp _ _ _ _ => false
  | .Compare _ _ _ _ => false
  | _ => true
def isCmp : Expr → Bool
  | .Compare _ _ _ _ => true
  | _ => false
section
variable (T : Tab) (N : List Str)
mutual
def mE (sc : Scope) : Ex → Expr → Bool
  | .var i, e => match e with
    | .Name x _ => nmB N i x && visB sc x
    | _ => false
  | .non, e => match e with
    | .Constant .none _ _ => true
    | _ => false
  | .bl b, e => match e with
    | .Constant (.bool c) _ _ => b == c
    | _ => false
  | .int i, e => match e with
    | .Constant (.int j) _ _ => decide (i = j)
    | _ => false
  | .str s, e => match e with
    | .Constant (.str t) _ _ => decide (t = ⟨s.toArray⟩) && txB s
    | _ => false
  | .gl g, e => match e with
    | .Name x _ => decide (x = T.gn g) && T.gok g && glB sc x && !(x == ("__debug__" : Str))
    | _ => false
  | .bin op a b, e => match e with
    | .BinOp l o r _ => decide (bo op = o) && mE sc a l && mE sc b r
    | _ => false
  | .neg a, e => match e with
    | .UnaryOp .USub x _ => mE sc a x
    | _ => false
  | .not_ a, e => match e with
    | .UnaryOp .Not x _ => mE sc a x
    | _ => false
  | .cmp op a b, e => match e with
    | .Compare l [o] [r] _ => decide (co op = o) && !behindInMarks o r && mE sc a l && mE sc b r
    | _ => false
  | .isN a, e => match e with
    | .Compare l [.Is] [.Constant .none _ _] _ => mE sc a l
    | _ => false
  | .isNt a, e => match e with
    | .Compare l [.IsNot] [.Constant .none _ _] _ => mE sc a l
    | _ => false
  | .ch o1 o2 a b c, e => match e with
    | .Compare l [p1, p2] [m, r] _ => decide (co o1 = p1) && decide (co o2 = p2) && !lastMarks [p1, p2] [m, r] && mE sc a l && mE sc b m && mE sc c r
    | _ => false
  | .and_ a b, e => match e with
    | .BoolOp .And (x :: y :: rest) p => mE sc a x && (match rest with
      | [] => mE sc b y
      | _ => mE sc b (.BoolOp .And (y :: rest) p))
    | _ => false
  | .or_ a b, e => match e with
    | .BoolOp .Or (x :: y :: rest) p => mE sc a x && (match rest with
      | [] => mE sc b y
      | _ => mE sc b (.BoolOp .Or (y :: rest) p))
    | _ => false
  | .ife c a b, e => match e with
    | .IfExp t x y _ => mT sc c t && mE sc a x && mE sc b y
    | _ => false
  | .att a f, e => match e with
    | .Attribute o m _ => false && mE sc a o
    | _ => false
  | .sub a i, e => match e with
    | .Subscript v s _ => mE sc a v && mE sc i s && !isSlice s
    | _ => false
  | .sl a lo hi, e => match e with
    | .Subscript v (.Slice l h none _) _ => mE sc a v && mO sc lo l && mO sc hi h
    | _ => false
  | .rev a, e => match e with
    | .Subscript v (.Slice none none (some (.UnaryOp .USub (.Constant (.int 1) _ _) _)) _) _ => mE sc a v
    | _ => false
  | .tup es, e => match e with
    | .Tuple xs _ _ => mEs sc es xs
    | _ => false
  | .lst es, e => match e with
    | .List xs _ => mEs sc es xs
    | _ => false
  | .dct _ _, _ => false
  | .call f es ks kn sh, e => match e with
    | .Call (.Name x _) args kws _ => decide (x = T.fname f) && T.fok f && glB sc x && !(x == ("__debug__" : Str)) && mEs sc es args && mKs sc ks kn kws && T.sh f args.length kn sh
    | _ => false
  | .bif b es, e => match e with
    | .Call (.Name x _) (a :: args) [] _ => decide (x = bName b) && glB sc x && mEs sc es (a :: args)
    | _ => false
  | .isi a t, e => match e with
    | .Call (.Name x _) [o, .Name y _] [] _ => decide (x = "isinstance") && glB sc x && mE sc a o && !isStar o && decide (y = tName t) && glB sc y && (tyS t).isSome
    | _ => false
  | .met m o es ks kn sh, e => match e with
    | .Call (.Attribute v x ap) args kws p => (match mName m, kws, args with
      | some y, [], a :: r => decide (x = y) && mE sc o v && noSup v && mEs sc es (a :: r) && decide (ap.endLine = p.line) && decide ((a :: r).length < 20) && (match ks with | .nil => true | _ => false)
      | _, _, _ => false)
    | _ => false
  | .mk _ _ _ _ _, _ => false
  | .lc elt own tg it c, e => match e with
    | .ListComp x [⟨t, i, ifs, 0⟩] scope _ => (match own.map fun k => N[k]? with
      | names => names.all (·.isSome) && blkC N sc scope ((names.filterMap id).zip own)) &&
        mI sc it i t && mG true (relS scope sc) tg t && (tgS tg).all (fun k => own.contains k) && mE (relS scope sc) elt x && mC (relS scope sc) c ifs && !isSet i
    | _ => false
  | .fst _, _ => false
def mT (sc : Scope) : Te → Expr → Bool
  | .not_ a, e => match e with
    | .UnaryOp .Not x _ => mT sc a x
    | _ => false
  | .and_ a b, e => match e with
    | .BoolOp .And (x :: y :: rest) p => mT sc a x && (match rest with
      | [] => mT sc b y
      | _ => mT sc b (.BoolOp .And (y :: rest) p))
    | _ => false
  | .or_ a b, e => match e with
    | .BoolOp .Or (x :: y :: rest) p => mT sc a x && (match rest with
      | [] => mT sc b y
      | _ => mT sc b (.BoolOp .Or (y :: rest) p))
    | _ => false
  | .vl i, e => mE sc i e && (plainT e || isCmp e)
def mEs (sc : Scope) : Es → List Expr → Bool
  | .nil, l => l.isEmpty
  | .cons i r, l => match l with
    | e :: es => mE sc i e && !isStar e && mEs sc r es
    | [] => false
def mKs (sc : Scope) : Es → List Nat → List Keyword → Bool
  | .nil, kn, l => kn.isEmpty && l.isEmpty
  | .cons i r, kn, l => match kn, l with
    | k :: kr, ⟨some x, e, _⟩ :: es => decide (x = T.fnm k) && mE sc i e && mKs sc r kr es
    | _, _ => false
def mO (sc : Scope) : Eo → Option Expr → Bool
  | .no, o => o.isNone
  | .so i, o => match o with
    | some e => mE sc i e
    | none => false
def mC (sc : Scope) : Tc → List Expr → Bool
  | .no, o => o.isEmpty
  | .so i, o => match o with
    | [e] => mT sc i e
    | _ => false
def mG (inB : Bool) (sc : Scope) : Tg → Expr → Bool
  | .nm i, e => match e with
    | .Name x _ => nmB N i x && locB inB sc x
    | _ => false
  | .tup l, e => match e with
    | .Tuple es _ _ => mGs inB sc l es
    | _ => false
  | .att _ _, _ => false
  | .sub o i, e => match e with
    | .Subscript v s _ => mE sc o v && mE sc i s && !isSlice s
    | _ => false
def mGs (inB : Bool) (sc : Scope) : Tgs → List Expr → Bool
  | .nil, l => l.isEmpty
  | .cons t r, l => match l with
    | e :: es => mG inB sc t e && !isStar e && mGs inB sc r es
    | [] => false
/-- what is walked, to the target t -/
def mI (sc : Scope) : Itx → Expr → Expr → Bool
  | .ex i, e, _ => mE sc i e
  | .rng i, e, _ => match e with
    | .Call (.Name x _) [a] [] _ => decide (x = "range") && glB sc x && mE sc i a && !isStar a
    | _ => false
  | .rng2 i j, e, _ => match e with
    | .Call (.Name x _) [a, b] [] _ => decide (x = "range") && glB sc x && mE sc i a && !isStar a && mE sc j b && !isStar b
    | _ => false
  | _, _, _ => false
end
end
end DM
set_option Elab.async false
set_option linter.all false
set_option maxRecDepth 100000
set_option maxHeartbeats 4000000
/-! S6: built-in functions, methods. -/
namespace DM
open PySem L2 PyProof.Rows PySem.Spec

/-! ### the text of a datum -/
def ChOk (s : Str) : Prop := ∀ c ∈ s.cps.toList, c < 1114112
theorem ChOk.app {a b : Str} (ha : ChOk a) (hb : ChOk b) : ChOk (a ++ b) := by
  intro c hc
  have e : (a ++ b).cps.toList = a.cps.toList ++ b.cps.toList := TL.tl_append a b
  rw [e] at hc
  exact (List.mem_append.mp hc).elim (ha c) (hb c)
theorem char_lt (c : Char) : c.toNat < 1114112 := by
  have h := c.valid
  unfold Char.toNat
  rcases h with h | h
  · have : c.val.toNat < 0xd800 := h
    omega
  · exact h.2
theorem ChOk.of (s : String) : ChOk (Str.ofString s) := by
  intro c hc
  rw [Str.ofString_eq_toList] at hc
  have hc' : c ∈ s.toList.map Char.toNat := by simpa using hc
  obtain ⟨d, _, rfl⟩ := List.mem_map.mp hc'
  exact char_lt d
theorem hex_lt {w c d : Nat} (h : d ∈ List.replicate (w - ((Nat.toDigits 16 c).map Char.toNat).length) 48 ++ (Nat.toDigits 16 c).map Char.toNat) : d < 1114112 := by
  rcases List.mem_append.mp h with h | h
  · rw [(List.mem_replicate.mp h).2]
    omega
  · obtain ⟨e, _, rfl⟩ := List.mem_map.mp h
    exact char_lt e
theorem reprChar_lt {q c : Nat} (hc : c < 1114112) : ∀ d ∈ Builtin.Str.reprChar q c, d < 1114112 := by
  intro d hd
  unfold Builtin.Str.reprChar at hd
  dsimp only at hd
  split at hd
  · simp at hd; omega
  split at hd
  · simp at hd; omega
  split at hd
  · simp at hd; omega
  split at hd
  · simp at hd; omega
  split at hd
  · simp at hd; omega
  split at hd
  · rcases List.mem_append.mp hd with hd | hd
    · simp at hd; omega
    · exact hex_lt hd
  split at hd
  · rcases List.mem_append.mp hd with hd | hd
    · simp at hd; omega
    · exact hex_lt hd
  · rcases List.mem_append.mp hd with hd | hd
    · simp at hd; omega
    · exact hex_lt hd
theorem foldl_repr_lt {q : Nat} : ∀ (l : List Nat) (acc : Array Nat), (∀ c ∈ l, c < 1114112) → (∀ c ∈ acc.toList, c < 1114112) → ∀ c ∈ (l.foldl (fun out c => out ++ (Builtin.Str.reprChar q c).toArray) acc).toList, c < 1114112
  | [], acc, _, ha => ha
  | x :: r, acc, hl, ha => by
    refine foldl_repr_lt r _ (fun c hc => hl c (List.mem_cons_of_mem _ hc)) ?_
    intro c hc
    rw [Array.toList_append] at hc
    rcases List.mem_append.mp hc with hc | hc
    · exact ha c hc
    · exact reprChar_lt (hl x List.mem_cons_self) c hc
theorem ChOk.repr {x : Str} (h : ChOk x) : ChOk (reprText x) := by
  have hq : reprQuote x < 1114112 := by unfold reprQuote; split <;> omega
  intro c hc
  unfold reprText at hc
  simp only [Array.toList_push] at hc
  rcases List.mem_append.mp hc with hc | hc
  · rw [← Array.foldl_toList] at hc
    refine foldl_repr_lt x.cps.toList _ h ?_ c hc
    intro d hd
    have : d = reprQuote x := by simpa using hd
    omega
  · have : c = reprQuote x := by simpa using hc
    omega
theorem ChOk.join {s : Str} (hs : ChOk s) : ∀ {l : List Str}, (∀ x ∈ l, ChOk x) → ChOk (Str.join s l)
  | [], _ => ChOk.of ""
  | [x], h => h x List.mem_cons_self
  | x :: y :: r, h => by
    show ChOk (x ++ s ++ Str.join s (y :: r))
    exact ((h x List.mem_cons_self).app hs).app (ChOk.join hs fun z hz => h z (List.mem_cons_of_mem _ hz))
theorem ChOk.textFrom : ∀ (l : List Str) (k : Nat) (acc : Str), (∀ x ∈ l, ChOk x) → ChOk acc → ChOk (textFrom k acc l)
  | [], k, acc, _, ha => ha
  | x :: r, k, acc, h, ha => by
    refine ChOk.textFrom r (k + 1) _ (fun z hz => h z (List.mem_cons_of_mem _ hz)) (ChOk.app (ChOk.app ha ?_) (h x List.mem_cons_self))
    exact ChOk.of _
theorem ChOk.list {l : List Str} (h : ∀ x ∈ l, ChOk x) : ChOk (listText l) := ChOk.app (ChOk.textFrom l 0 _ h (ChOk.of "[")) (ChOk.of "]")
theorem ChOk.tuple {l : List Str} (h : ∀ x ∈ l, ChOk x) : ChOk (tupleText l) := ChOk.app (ChOk.app (ChOk.of "(") (ChOk.join (ChOk.of ", ") h)) (ChOk.of _)
/-- the text of a datum without dicts -/
theorem len_sum_cons (t : Str) (ts : List Str) : ((t :: ts).map (·.length)).sum = t.length + (ts.map (·.length)).sum := by rw [List.map_cons, List.sum_cons]
mutual
theorem shown_le : ∀ (n : Nat) (d : PD), pdOk n d → shwOk d = true → (toPy d).shown.length ≤ msz d ∧ ChOk (toPy d).shown ∧ (toPy d).showable = true
  | n, .non, _, _ => ⟨by show 4 ≤ 4; omega, ChOk.of "None", by simp [toPy, PyData.showable]⟩
  | n, .bl b, _, _ => by
    refine ⟨?_, ?_, by simp [toPy, PyData.showable]⟩
    · cases b
      · show 5 ≤ 5; omega
      · show 4 ≤ 5; omega
    · cases b
      · exact ChOk.of "False"
      · exact ChOk.of "True"
  | n, .int i, _, hs => by
    have hs' : i.natAbs.log2 < 1920 := of_decide_eq_true (by simpa [shwOk] using hs)
    refine ⟨?_, ?_, ?_⟩
    · have e := int_text_length_le (k := i.natAbs.log2 + 1) (a := i) (by omega) (by omega)
      simp only [toPy, PyData.shown, msz]
      rw [PySem.ofString_length]
      omega
    · simp only [toPy, PyData.shown]
      exact ChOk.of _
    · simp only [toPy, PyData.showable]
      exact decide_eq_true hs'
  | n, .str s, h, hs => by
    have h' : TxOk s := by unfold pdOk at h; exact h
    have e0 : ((⟨s.toArray⟩ : Str).cps.toList) = s := by simp
    refine ⟨?_, ?_, by simp [toPy, PyData.showable]⟩
    · have e := StrLaws.reprText_len ⟨s.toArray⟩ (by rw [e0]; exact fun c hc => Nat.lt_trans (h'.2 c hc) (by decide))
      have e1 : (⟨s.toArray⟩ : Str).length = s.length := by show s.toArray.size = _; simp
      simp only [toPy, PyData.shown, msz]
      omega
    · simp only [toPy, PyData.shown]
      exact ChOk.repr (by unfold ChOk; rw [e0]; exact h'.2)
  | 0, .tup _, h, _ => by unfold pdOk at h; exact h.elim
  | 0, .lst _, h, _ => by unfold pdOk at h; exact h.elim
  | n + 1, .tup l, h, hs => by
    unfold pdOk at h
    obtain ⟨a, b, c⟩ := showns_le n l h (by simpa [shwOk] using hs)
    have e := tupleText_len_le (PyData.shownAll (toPys l))
    refine ⟨?_, ?_, ?_⟩
    · simp only [toPy, PyData.shown, msz]
      omega
    · simp only [toPy, PyData.shown]
      exact ChOk.tuple b
    · simp only [toPy, PyData.showable]
      exact c
  | n + 1, .lst l, h, hs => by
    unfold pdOk at h
    obtain ⟨a, b, c⟩ := showns_le n l h (by simpa [shwOk] using hs)
    have e := listText_len_le (PyData.shownAll (toPys l))
    refine ⟨?_, ?_, ?_⟩
    · simp only [toPy, PyData.shown, msz]
      omega
    · simp only [toPy, PyData.shown]
      exact ChOk.list b
    · simp only [toPy, PyData.showable]
      exact c
  | n, .dct l, h, _ => by unfold pdOk at h; exact h.elim
theorem showns_le : ∀ (n : Nat) (l : List PD), pdOks n l → shwOks l = true → ((PyData.shownAll (toPys l)).map (·.length)).sum + 2 * (PyData.shownAll (toPys l)).length ≤ mszs l ∧ (∀ x ∈ PyData.shownAll (toPys l), ChOk x) ∧ PyData.showableAll (toPys l) = true
  | n, [], _, _ => ⟨by simp [toPys, PyData.shownAll, mszs], fun x hx => (by simp [toPys, PyData.shownAll] at hx), by simp [toPys, PyData.showableAll]⟩
  | n, x :: xs, h, hs => by
    unfold pdOks at h
    have hs' : shwOk x = true ∧ shwOks xs = true := by simpa [shwOks] using hs
    obtain ⟨a, b, c⟩ := shown_le n x h.1 hs'.1
    obtain ⟨a2, b2, c2⟩ := showns_le n xs h.2 hs'.2
    simp only [toPys, PyData.shownAll, PyData.showableAll]
    refine ⟨?_, fun y hy => ?_, by rw [c, c2]; rfl⟩
    · rw [len_sum_cons, List.length_cons]
      simp only [mszs]
      omega
    · rcases List.mem_cons.mp hy with rfl | hy
      · exact b
      · exact b2 y hy
end
def shwOf (d : PD) : Tx := (toPy d).shown.cps.toList
theorem str_eta (s : Str) : (⟨s.cps.toList.toArray⟩ : Str) = s := by cases s; simp

section
variable {Y : Ctx} {f : Nat → Addr} {N : Nat} {h : MH} {H : Hp} {X : Cx}
def rC (Y : Ctx) (k : List MV → MH → R MV) : List V → Hp → VK → Prop := fun xs H Q => ∃ f h l, Rl Y.K Y.Z f h H ∧ VRs Y.K f h.size H l xs ∧ GP Y f h H (k l h) fun v f' h' H' => ∀ z, VR Y.K f' h'.size H' v z → Q z H'
/-- arguments, one by one -/
theorem VRs.inv1 {K : PySem.W.Frag} {m : MV} {xs : List V} (r : VRs K f N H [m] xs) : ∃ x, xs = [x] ∧ VR K f N H m x := by
  obtain ⟨v, ws, rfl, a, b⟩ := r.cons_inv
  rw [b.nil_inv]
  exact ⟨v, rfl, a⟩
theorem VRs.inv2 {K : PySem.W.Frag} {m n : MV} {xs : List V} (r : VRs K f N H [m, n] xs) : ∃ x y, xs = [x, y] ∧ VR K f N H m x ∧ VR K f N H n y := by
  obtain ⟨v, ws, rfl, a, b⟩ := r.cons_inv
  obtain ⟨x, rfl, c⟩ := b.inv1
  exact ⟨v, x, rfl, a, c⟩
/-- a builtin's name, as a value: a function or a type -/
def bVal : Bif → Value
  | .len => .builtin "len" | .abs => .builtin "abs" | .max => .builtin "max" | .min => .builtin "min" | .repr => .builtin "repr" | .list => .type "list" | .tuple => .type "tuple" | .set => .type "set" | .sorted => .builtin "sorted" | .int => .type "int" | .str => .type "str" | .all => .builtin "all" | .any => .builtin "any"
theorem allT_inv : ∀ {l : List MV} {b : Bool} {vs : List V}, allT l = some b → VRs Y.K f N H l vs → ∃ bs : List Bool, vs = bs.map V.bl ∧ bs.all id = b
  | [], b, vs, e, r => ⟨[], r.nil_inv, Option.some.inj e⟩
  | m :: ms, b, vs, e, r => by
    obtain ⟨v, ws, rfl, a, t⟩ := r.cons_inv
    cases m with
    | bl c =>
      simp only [allT] at e
      cases e1 : allT ms with
      | none => rw [e1] at e; cases e
      | some d =>
        rw [e1] at e
        obtain ⟨bs, rfl, e2⟩ := allT_inv e1 t
        refine ⟨c :: bs, by rw [a.bl_inv]; rfl, ?_⟩
        rw [List.all_cons, e2]
        exact Option.some.inj e
    | _ => cases e
theorem anyT_inv : ∀ {l : List MV} {b : Bool} {vs : List V}, anyT l = some b → VRs Y.K f N H l vs → ∃ bs : List Bool, vs = bs.map V.bl ∧ bs.any id = b
  | [], b, vs, e, r => ⟨[], r.nil_inv, Option.some.inj e⟩
  | m :: ms, b, vs, e, r => by
    obtain ⟨v, ws, rfl, a, t⟩ := r.cons_inv
    cases m with
    | bl c =>
      simp only [anyT] at e
      cases e1 : anyT ms with
      | none => rw [e1] at e; cases e
      | some d =>
        rw [e1] at e
        obtain ⟨bs, rfl, e2⟩ := anyT_inv e1 t
        refine ⟨c :: bs, by rw [a.bl_inv]; rfl, ?_⟩
        rw [List.any_cons, e2]
        exact Option.some.inj e
    | _ => cases e
theorem tR_inv {o : Option Tx} {T : MV → (Nat → Addr) → MH → Hp → Prop} (r : Rl Y.K Y.Z f h H) (g : GP Y f h H (tR o h) T) : ∃ s, o = some s ∧ T (.str s) f h H := by
  cases o with
  | none => exact g.elim
  | some b => exact ⟨b, rfl, GP.here r g⟩
/-- the signs of a text, each as a text -/
theorem VRs.signs {K : PySem.W.Frag} : ∀ {s : Tx}, TxOk s → VRs K f N H (s.map fun c => MV.str [c]) (s.map fun c => V.str ⟨#[c]⟩)
  | [], _ => .nil
  | c :: r, t => by
    refine .cons (.str (s := [c]) ⟨?_, fun d hd => ?_⟩) (VRs.signs ⟨Nat.le_of_succ_le t.1, fun d hd => t.2 d (List.mem_cons_of_mem _ hd)⟩)
    · rw [sizeLine_eq]; show 1 ≤ _; omega
    · have : d = c := by simpa using hd
      rw [this]
      exact t.2 c List.mem_cons_self
theorem call_repr {P : Prog} (hP : P.shw = shwOf) (hK : X.K = Y.K) (hG : X.A.guards = some []) (hu : X.A.units + 65 < cLine) {pins : List (Addr × Obj)} {s : Shared} {σ : L2.St} {m : MV} {x : V} {u : Value} {Q : VK}
    (I : Inv X pins σ H s) (rx : RelV x u) (r : Rl Y.K Y.Z f h H) (rm : VR Y.K f h.size H m x) (g : GP Y f h H (tR (shM P m h) h) fun v f' h' H' => ∀ z, VR Y.K f' h'.size H' v z → Q z H') :
    wpAny (model X.prog X.w) X.A (call (.builtin "repr") [u]) (EP X pins σ Q) X.xe s := by
  obtain ⟨t, e, q⟩ := tR_inv r g
  unfold shM at e
  cases e1 : dat DEP h m with
  | none => rw [e1] at e; cases e
  | some d =>
    rw [e1] at e
    simp only at e
    split at e
    · rename_i hc
      cases e
      obtain ⟨dp, po⟩ := dat_dp r _ _ _ _ e1 rm
      obtain ⟨l1, l2, l3⟩ := shown_le _ _ po hc.1
      have hsz : (toPy d).shown.length ≤ sizeLine := Nat.le_trans l1 (LIM_eq ▸ hc.2)
      have hsh := shaped_of po (by decide)
      have q2 : Q (.str (toPy d).shown) H := by
        rw [hP] at q
        have := q _ (.str (K := Y.K) (f := f) (N := h.size) (H := H) (s := shwOf d) ⟨?_, l2⟩)
        · unfold shwOf at this
          rwa [str_eta] at this
        · show (toPy d).shown.cps.toList.length ≤ _
          rw [Array.length_toList]
          exact hsz
      obtain ⟨as, rd⟩ := Dp.reads I (toPy d) x u (hK ▸ dp) rx
      have done : ∀ (h' : Heap) (tk' : Tok) (tk : Nat), (∀ b o, s.heap.get? b = some o → h'.get? b = some o) → EP X pins σ Q (.str (toPy d).shown tk') { s with heap := h', toks := tk } := fun h' tk' tk k => ⟨.str _, H, I.kept k, ⟨_, rfl⟩, q2⟩
      have hd := SeqAt.depth_of_shaped hsh
      cases d with
      | non =>
        cases rm0 : x <;> (subst rm0; cases dp)
        cases rx
        exact PySem.P.repr_of_none (done s.heap _ _ fun _ _ z => z)
      | bl b =>
        cases rm0 : x <;> (subst rm0; cases dp)
        cases rx
        refine PySem.P.repr_of_bool ?_
        exact done s.heap s.toks (s.toks + 1) fun _ _ z => z
      | int i =>
        cases rm0 : x <;> (subst rm0; cases dp)
        obtain ⟨t, rfl⟩ := rx
        refine PySem.P.repr_of_int (of_decide_eq_true (by simpa [shwOk] using hc.1)) ?_
        exact done s.heap s.toks (s.toks + 1) fun _ _ z => z
      | str z =>
        cases rm0 : x <;> (subst rm0; cases dp)
        obtain ⟨t, rfl⟩ := rx
        have hz : (reprText ⟨z.toArray⟩).length ≤ sizeLine := by simpa [toPy, PyData.shown] using hsz
        refine PySem.P.repr_of_str ?_ hz
        exact done s.heap s.toks (s.toks + 1) fun _ _ z => z
      | tup l =>
        cases rm0 : x <;> (subst rm0; cases dp)
        cases rx
        exact repr_of_reads' rd l3 (PyData.noDict_hsm (PyData.hasDict_of_canLay _ (lay_of _ _ po).1)) hG (by omega) (fun _ _ z => z) (fun h' u' tk k => done h' u' tk k) hsz
      | lst l =>
        cases rm0 : x <;> (subst rm0; cases dp)
        cases rx
        exact repr_of_reads' rd l3 (PyData.noDict_hsm (PyData.hasDict_of_canLay _ (lay_of _ _ po).1)) hG (by omega) (fun _ _ z => z) (fun h' u' tk k => done h' u' tk k) hsz
      | dct l => cases po
    · cases e

/-- list(text) -/
theorem call_listS {K : PySem.W.Frag} (hc : X.calm = true) : CallR X (.type "list") (fun xs H Q => ∃ z : Tx, xs = [.str ⟨z.toArray⟩] ∧ z.length ≤ sizeLine ∧ ∀ p, H p = none → Q (.ref p) (upd H p (.lst (z.map fun c => V.str ⟨#[c]⟩)))) := by
  intro pins s σ H xs us Q I r h
  obtain ⟨z, rfl, hz, q⟩ := h
  obtain ⟨u, rfl, t, rfl⟩ := vals1 r
  refine call_list_str (I.ok.hd hc) _ t (fun h' tk acc' c' hk hS hacc => ?_) (by show z.toArray.size ≤ _; simpa using hz)
  have hn := I.fresh
  refine ⟨.ref _, _, ?_, rfl, q _ hn⟩
  refine I.laid hk (Nat.le_refl _) ?_
  have hl : acc'.toList.length = z.length := by
    have := hacc.1
    simpa using this
  refine ⟨by rw [List.length_map]; exact hz, acc'.toList, c', ?_, ?_⟩
  · refine vals_of_at (by rw [List.length_map]; exact hl.symm) fun j x u e1 e2 => ?_
    obtain ⟨c, t2, e3, rfl⟩ := hacc.2 j u (by simpa using e2)
    have e3' : z[j]? = some c := by simpa using e3
    rw [List.getElem?_map, e3'] at e1
    cases e1
    exact ⟨t2, rfl⟩
  · simpa using hS
theorem call_bif {P : Prog} (hP : P.shw = shwOf) (hK : X.K = Y.K) (hc : X.calm = true) (hG : X.A.guards = some []) (hu : X.A.units + 65 < cLine) (b : Bif) : CallR X (bVal b) (rC Y (bifM P b)) := by
  intro pins s σ H xs us Q I rv ⟨f, h, l, r, rl, g⟩
  unfold bifM at g
  split at g
  · -- len of a text
    rename_i z
    obtain ⟨x, rfl, a⟩ := rl.inv1
    obtain ⟨rfl, t⟩ := a.str_inv
    split at g
    · refine call_len_str pins s σ H _ us Q I rv ⟨_, rfl, ?_, ?_⟩
      · show z.toArray.size ≤ _
        simpa using t.1
      · have e : ((⟨z.toArray⟩ : Str).length : Int) = z.length := by show (z.toArray.size : Int) = _; simp
        rw [e]
        exact GP.here r g _ .int
    · exact g.elim
  · rename_i m hm
    obtain ⟨x, rfl, a⟩ := rl.inv1
    split at g
    · rename_i l e
      obtain ⟨p, vs, rfl, sq, t⟩ := seqOf_sq r a e
      refine call_len_seq pins s σ H _ us Q I rv ⟨p, vs, rfl, hK ▸ sq, ?_⟩
      rw [← t.length]
      exact GP.here r g _ .int
    · split at g
      · split at g
        · rename_i l e
          exact (r.ob _ _ e).elim
        · exact g.elim
      · exact g.elim
  · obtain ⟨x, rfl, a⟩ := rl.inv1
    cases a.int_inv
    exact call_abs pins s σ H _ us Q I rv ⟨_, rfl, GP.here r g _ .int⟩
  · obtain ⟨x, y, rfl, a, b⟩ := rl.inv2
    cases a.int_inv; cases b.int_inv
    exact call_max2 hc pins s σ H _ us Q I rv ⟨_, _, rfl, GP.here r g _ .int⟩
  · obtain ⟨x, y, rfl, a, b⟩ := rl.inv2
    cases a.int_inv; cases b.int_inv
    exact call_min2 hc pins s σ H _ us Q I rv ⟨_, _, rfl, GP.here r g _ .int⟩
  · obtain ⟨x, rfl, a⟩ := rl.inv1
    cases a.int_inv
    exact call_int1 pins s σ H _ us Q I rv (.inl ⟨_, rfl, GP.here r g _ .int⟩)
  · obtain ⟨x, rfl, a⟩ := rl.inv1
    cases a.bl_inv
    exact call_int1 pins s σ H _ us Q I rv (.inr ⟨_, rfl, GP.here r g _ .int⟩)
  · obtain ⟨x, rfl, a⟩ := rl.inv1
    obtain ⟨u, rfl, ru⟩ := vals1 rv
    exact call_repr hP hK hG hu I ru r a g
  · rename_i z
    obtain ⟨x, rfl, a⟩ := rl.inv1
    obtain ⟨rfl, t⟩ := a.str_inv
    refine call_listS (K := Y.K) hc pins s σ H _ us Q I rv ⟨z, rfl, t.1, fun p hp => ?_⟩
    obtain ⟨_, f', q, e⟩ := GP.newList r g (VRs.signs t) hp
    exact q _ (by rw [← e]; exact .ref (by rw [MH.size_push]; omega))
  · obtain ⟨x, rfl, a⟩ := rl.inv1
    split at g
    · rename_i l e
      obtain ⟨p, vs, rfl, sq, t⟩ := seqOf_sq r a e
      refine call_list_of pins s σ H _ us Q I rv ⟨p, vs, rfl, hK ▸ sq, fun z hz => ?_⟩
      obtain ⟨_, f', q, e⟩ := GP.newList r g t hz
      exact q _ (by rw [← e]; exact .ref (by rw [MH.size_push]; omega))
    · exact g.elim
  · obtain ⟨x, rfl, a⟩ := rl.inv1
    split at g
    · rename_i m l e
      obtain ⟨p, vs, rfl, sq, t⟩ := seqOf_sq r a e
      refine call_tuple_of pins s σ H _ us Q I rv ⟨p, vs, rfl, ?_⟩
      rcases sq with sq | sq
      · refine .inl ⟨hK ▸ sq, fun z hz => ?_⟩
        have e1 : Ext f h.size H f h.size (upd H z (.tup vs)) := Ext.aside hz
        exact g.app e1 (r.aside (u := .tup vs) hz) _ (.tup (SqT.of upd_same) (r.vrs e1 t))
      · exact .inr ⟨hK ▸ sq, GP.here r g _ (.tup sq t)⟩
    · exact g.elim
  · obtain ⟨x, rfl, a⟩ := rl.inv1
    split at g
    · rename_i l e
      obtain ⟨p, vs, rfl, sq, t⟩ := listOf_sq r a e
      obtain ⟨b, e2, q⟩ := bR_inv r g
      obtain ⟨bs, rfl, e3⟩ := allT_inv e2 t
      exact cr_all hc pins s σ H _ us Q I rv ⟨p, bs, rfl, hK ▸ sq, by rw [e3]; exact q _ .bl⟩
    · exact g.elim
  · obtain ⟨x, rfl, a⟩ := rl.inv1
    split at g
    · rename_i l e
      obtain ⟨p, vs, rfl, sq, t⟩ := listOf_sq r a e
      obtain ⟨b, e2, q⟩ := bR_inv r g
      obtain ⟨bs, rfl, e3⟩ := anyT_inv e2 t
      exact cr_any hc pins s σ H _ us Q I rv ⟨p, bs, rfl, hK ▸ sq, by rw [e3]; exact q _ .bl⟩
    · exact g.elim
  · exact g.elim

/-! ### isinstance -/
def ttV : Tt → Option String
  | .nn => some "NoneType" | .bl => some "bool" | .int => some "int" | .str => some "str" | .tup => some "tuple" | .lst => some "list" | .own _ => none
theorem KLs.tyX {K : PySem.W.Frag} {a : Addr} {xs : List V} (s : KLs K H a xs) : TyX K H (.ref a) (.type "list") := by
  rcases s with ⟨o, e⟩ | ⟨o, its, n, e, c, _⟩
  · exact .base (.frz e)
  · exact .kList e c
theorem SqT.tyX {K : PySem.W.Frag} {a : Addr} {xs : List V} (s : SqT K H a xs) : TyX K H (.ref a) (.type "tuple") := by
  rcases s with (e | ⟨o, e⟩) | ⟨o, its, n, e, c, _⟩
  · exact .base (.tup e)
  · exact .fTuple e
  · exact .kTuple e c
theorem tyM_inv {m : MV} {x : V} {a : Tt} {T : String} (r : Rl Y.K Y.Z f h H) (rm : VR Y.K f h.size H m x) (e : tyM h m = some a) (ea : ttV a = some T) : TyX Y.K H x (.type T) := by
  unfold tyM at e
  split at e
  · cases e; cases ea; rw [rm.non_inv]; exact .base .non
  · cases e; cases ea; rw [rm.bl_inv]; exact .base (.bl _)
  · cases e; cases ea; rw [rm.int_inv]; exact .base (.int _)
  · cases e; cases ea; rw [rm.str_inv.1]; exact .base (.str _)
  · cases e; cases ea
    obtain ⟨p, vs, rfl, sq, t⟩ := rm.tup_inv
    exact SqT.tyX sq
  · cases e; cases ea
    obtain ⟨p, vs, rfl, sq, t⟩ := rm.kl_inv
    exact KLs.tyX sq
  · obtain ⟨hn, rfl⟩ := rm.ref_inv
    split at e
    · rename_i l en
      cases e; cases ea
      obtain ⟨vs, e1, t⟩ := r.ob _ _ en
      exact .base (.lst e1)
    · cases e; cases ea
    · cases e
  · cases e
theorem kit_all {K : PySem.W.Frag} {a : Tt} {t : Ty} {b : Bool} {S T : String} (ea : ttV a = some S) (et : tyS t = some T) (e : subT a t = some b) : PySem.W.kitOne K (.type S) (.type T) = some b := by
  cases a <;> cases ea <;> cases t <;> cases et <;> cases e <;> (refine kit_ty ?_; decide +kernel)
def rI1 (Y : Ctx) (t : Ty) (T : String) : List V → Hp → VK → Prop := fun xs H Q => ∃ f h m x, xs = [x, .ty T] ∧ Rl Y.K Y.Z f h H ∧ VR Y.K f h.size H m x ∧ GP Y f h H (bR (isiM m t h) h) fun v f' h' H' => ∀ z, VR Y.K f' h'.size H' v z → Q z H'
theorem tyS_cls {t : Ty} {T : String} (et : tyS t = some T) : ClsV (.ty T) (.type T) := .ty T
theorem call_isiM (hK : X.K = Y.K) {t : Ty} {T : String} (et : tyS t = some T) : CallR X (.builtin "isinstance") (rI1 Y t T) := by
  intro pins s σ H xs us Q I rv ⟨f, h, m, x, ex, r, rm, g⟩
  obtain ⟨b, e, q⟩ := bR_inv r g
  unfold isiM at e
  cases e1 : tyM h m with
  | none => rw [e1] at e; cases e
  | some a =>
    rw [e1] at e
    cases ea : ttV a with
    | none =>
      exfalso
      cases a <;> cases ea
      cases t <;> cases et <;> cases e
    | some S => exact call_isi pins s σ H xs us Q I rv ⟨x, _, _, _, b, ex, .ty T, hK ▸ tyM_inv r rm e1 ea, kit_all ea et e, q _ .bl⟩

/-! ### methods of built-in classes -/
def mId : Nat → String
  | 0 => "list.append"
  | _ => "str.join"
def mTy : Nat → String
  | 0 => "list"
  | _ => "str"
def rM (Y : Ctx) (k : Nat) : V → List V → Hp → VK → Prop := fun x xs H Q => ∃ f h m l, Rl Y.K Y.Z f h H ∧ VR Y.K f h.size H m x ∧ VRs Y.K f h.size H l xs ∧ GP Y f h H (metM k m l h) fun v f' h' H' => ∀ z, VR Y.K f' h'.size H' v z → Q z H'
theorem txs_inv : ∀ {l : List MV} {ts : List Tx} {vs : List V}, txs l = some ts → VRs Y.K f N H l vs → vs = (ts.map fun t => (⟨t.toArray⟩ : Str)).map V.str ∧ ∀ t ∈ ts, TxOk t
  | [], ts, vs, e, r => by
    cases e
    exact ⟨r.nil_inv, fun t h => (by cases h)⟩
  | m :: ms, ts, vs, e, r => by
    obtain ⟨v, ws, rfl, a, t⟩ := r.cons_inv
    cases m with
    | str z =>
      simp only [txs] at e
      cases e1 : txs ms with
      | none => rw [e1] at e; cases e
      | some d =>
        rw [e1] at e
        cases (Option.some.inj e)
        obtain ⟨rfl, h2⟩ := txs_inv e1 t
        obtain ⟨rfl, h3⟩ := a.str_inv
        refine ⟨rfl, fun t ht => ?_⟩
        rcases List.mem_cons.mp ht with rfl | ht
        · exact h3
        · exact h2 t ht
    | _ => cases e
theorem joinT_join (s : Tx) : ∀ ts : List Tx, Str.join ⟨s.toArray⟩ (ts.map fun t => (⟨t.toArray⟩ : Str)) = ⟨(joinT s ts).toArray⟩
  | [] => rfl
  | [a] => rfl
  | a :: b :: r => by
    show (⟨a.toArray⟩ : Str) ++ ⟨s.toArray⟩ ++ Str.join ⟨s.toArray⟩ ((b :: r).map fun t => (⟨t.toArray⟩ : Str)) = _
    rw [joinT_join s (b :: r), str_app, str_app]
    rfl
theorem joinT_len (s : Tx) : ∀ ts : List Tx, (joinT s ts).length ≤ (ts.map (·.length)).sum + ts.length * s.length
  | [] => Nat.zero_le _
  | [a] => by show a.length ≤ a.length + 0 + 1 * s.length; omega
  | a :: b :: r => by
    have := joinT_len s (b :: r)
    show (a ++ s ++ joinT s (b :: r)).length ≤ _
    rw [List.length_append, List.length_append, List.map_cons, List.sum_cons, List.length_cons, Nat.add_mul]
    omega
theorem joinT_mem {s : Tx} {P : Nat → Prop} (hs : ∀ c ∈ s, P c) : ∀ {ts : List Tx}, (∀ t ∈ ts, ∀ c ∈ t, P c) → ∀ c ∈ joinT s ts, P c
  | [], _, c, hc => by cases hc
  | [a], h, c, hc => h a List.mem_cons_self c hc
  | a :: b :: r, h, c, hc => by
    rcases List.mem_append.mp (show c ∈ (a ++ s) ++ joinT s (b :: r) from hc) with hc | hc
    · rcases List.mem_append.mp hc with hc | hc
      · exact h a List.mem_cons_self c hc
      · exact hs c hc
    · exact joinT_mem hs (fun t ht => h t (List.mem_cons_of_mem _ ht)) c hc
theorem Txt_join (a : Str) (ys : List Str) : Txt.join a ys = Str.join a ys := StrLaws.glued_eq_join a ys
theorem mt_met (hK : X.K = Y.K) (k : Nat) : MtR X (mId k) (rM Y k) := by
  intro pins s σ H x xs v us Q I rx rv ⟨f, h, m, l, r, rm, rl, g⟩
  unfold metM at g
  split at g
  · rename_i n v0
    obtain ⟨hn, rfl⟩ := rm.ref_inv
    obtain ⟨y, rfl, ry⟩ := rl.inv1
    split at g
    · rename_i l en
      obtain ⟨vs, e1, t⟩ := r.ob _ _ en
      split at g
      · rename_i hl
        refine mt_append pins s σ H _ _ v us Q I rx rv ⟨_, vs, y, rfl, rfl, e1, by rw [← t.length, ← LIM_eq]; exact hl, ?_⟩
        have ex : Ext f h.size H f h.size (upd H (f n) (.lst (vs ++ [y]))) := ⟨Nat.le_refl _, fun _ _ => rfl, fun a o q hq => by rw [upd_ne (fun z => hq _ hn z.symm)]; exact q, fun m h1 h2 => absurd h2 (by omega), fun a q => by
            by_cases z : a = f n
            · rw [z, upd_same] at q; cases q
            · rw [upd_ne z] at q; exact q⟩
        have hv := r.vrs ex (t.append (.cons ry .nil))
        obtain ⟨ex', rl'⟩ := r.put (o' := .lst (l ++ [v0])) (u := .lst (vs ++ [y])) en (fun _ q => by cases q) ⟨_, upd_same, hv⟩
        exact g.app ex' rl' _ .non
      · exact g.elim
    · exact g.elim
  · rename_i z w
    obtain ⟨rfl, tz⟩ := rm.str_inv
    obtain ⟨y, rfl, ry⟩ := rl.inv1
    split at g
    · rename_i l e
      obtain ⟨p, vs, rfl, sq, t⟩ := listOf_sq r ry e
      split at g
      · rename_i ts e1
        obtain ⟨rfl, ht⟩ := txs_inv e1 t
        split at g
        · rename_i hl
          refine L2.mt_join pins s σ H _ _ v us Q I rx rv ⟨_, p, ts.map fun t => (⟨t.toArray⟩ : Str), rfl, rfl, .inl (hK ▸ sq), ?_, ?_⟩
          · have e2 : ((ts.map fun t => (⟨t.toArray⟩ : Str)).map (·.length)).sum = (ts.map (·.length)).sum := by
              rw [List.map_map]
              exact congrArg List.sum (List.map_congr_left fun t _ => (show t.toArray.size = _ by simp))
            have e3 : (⟨z.toArray⟩ : Str).length = z.length := by show z.toArray.size = _; simp
            rw [e2, List.length_map, e3]
            exact hl
          · rw [Txt_join, joinT_join]
            refine GP.here r g _ (.str ⟨?_, ?_⟩)
            · rw [← LIM_eq]
              exact Nat.le_trans (joinT_len _ _) hl
            · exact joinT_mem tz.2 fun t h => (ht t h).2
        · exact g.elim
      · exact g.elim
    · exact g.elim
  · exact g.elim
end
end DM
set_option Elab.async false
set_option linter.all false
set_option maxRecDepth 100000
set_option maxHeartbeats 4000000
/-! S7: the forms of expressions, one by one. -/
namespace DM
open PySem L2 PyProof.Rows PySem.Spec

def btNames : List Str := ["len", "abs", "max", "min", "repr", "list", "tuple", "set", "sorted", "int", "str", "all", "any", "isinstance", "range", "bool", "dict", "zip", "enumerate", "LookupError", "ValueError"]
def spM (Y : Ctx) (T : Tab) (C : Nat → List MV → MH → R MV) (i : Nat) : Sp := fun vs H Q E => vs.length = (T.fps i).length ∧ ∃ f h ms, Rl Y.K Y.Z f h H ∧ VRs Y.K f h.size H ms vs ∧
  G Y (fun c d _ H => E c d H) [] f h H (C i ms h) fun v f' h' H' => ∀ z, VR Y.K f' h'.size H' v z → Q z H'
/-- what the module holds -/
structure Fcts (T : Tab) (Y : Ctx) (C : Nat → List MV → MH → R MV) (CX : CXT) (lv : Nat) (P0 : Program) (w : World) (mg : Str → Option Value) (base : Heap) : Prop where
  shw : T.P.shw = shwOf
  Z : Y.Z.fnm = T.fnm
  gl : ∀ g, T.gok g = true → ∃ u v, mg (T.gn g) = some u ∧ RelV v u ∧ ∀ f N H, VR Y.K f N H (T.P.glob g) v
  fd : ∀ i, T.fok i = true → ∃ a fd, mg (T.fname i) = some (.ref a) ∧ PySem.W.keepIn Y.K (.ref a) = true ∧ FnG P0 w Y.K mg base CX lv a fd (T.fps i) (spM Y T C i) ∧
    ∀ n kn sh, T.sh i n kn sh = true → ∀ (s : Shared) (us ws : List Value), Y.K.In s.heap → us.length = n → ws.length = kn.length →
      ∃ bs, bs.length = (T.fps i).length ∧ BindsTo s fd ⟨us, (kn.map T.fnm).zip ws⟩ ((T.fps i).zip bs) ∧
        ∀ ms zs vs ys l f N H, pick ms zs sh = some l → Vals vs us → VRs Y.K f N H ms vs → Vals ys ws → VRs Y.K f N H zs ys → ∃ xs, Vals xs bs ∧ VRs Y.K f N H l xs
  bt : ∀ x ∈ btNames, mg x = none
  cx : ∀ outer H s e s', CX outer H s (fun _ _ _ => False) e s' → False
structure Good (T : Tab) (Y : Ctx) (W : Wish) (C : Nat → List MV → MH → R MV) (CX : CXT) (lv : Nat) (inB : Bool) (N : List Str) (sc : Scope) (X : Cx) : Prop where
  eN : X.N = N
  nd : N.Nodup
  eS : X.env.scope = sc
  K : X.K = Y.K
  calm : X.calm = true
  gd : X.A.guards = some []
  room : Room lv X.A
  fn : ∀ x, locB inB sc x = true → X.fn x = true ∨ sc.names.lookup x = some .local
  pass : ∀ σ, PassesAt CX X σ fun c d H => W c d σ H
  tk : L2N.Takes X W
  fc : Fcts T Y C CX lv X.prog X.w X.mg X.base

section
variable {T : Tab} {Y : Ctx} {W : Wish} {C : Nat → List MV → MH → R MV} {CX : CXT} {lv : Nat} {inB : Bool} {N : List Str} {sc : Scope} {X : Cx}
variable {σ : L2.St} {H : Hp} {f : Nat → Addr} {h : MH} {ms : En}

theorem Good.un (g : Good T Y W C CX lv inB N sc X) : X.A.units + 65 < cLine := by have := g.room.un; omega
theorem Good.gl (g : Good T Y W C CX lv inB N sc X) {x : Str} (e : glB sc x = true) : Gl X x := by
  unfold glB at e
  show X.env.scope.names.lookup x = _
  rw [g.eS]
  split at e
  · assumption
  · cases e
theorem Good.vis (g : Good T Y W C CX lv inB N sc X) {x : Str} (e : visB sc x = true) : Vis X.env.scope x := by
  unfold visB at e
  rw [g.eS]
  split at e
  · exact .inl (by assumption)
  · exact .inr (.inl (by assumption))
  · exact .inr (.inr (by assumption))
  · cases e
theorem Good.loc (g : Good T Y W C CX lv inB N sc X) {x : Str} (e : locB inB sc x = true) : Loc X.env.scope x ∧ (X.fn x = true ∨ X.env.scope.names.lookup x = some .local) := by
  have h1 := g.fn x e
  rw [g.eS]
  refine ⟨?_, h1⟩
  unfold locB at e
  split at e
  · exact .inl (by assumption)
  · exact .inr (by assumption)
  · cases e
theorem Good.bt (g : Good T Y W C CX lv inB N sc X) {x : Str} (e : x ∈ btNames) : X.mg x = none := g.fc.bt x e
theorem G.wish {W' : Wish} {σ' : L2.St} {α : Type} {r : R α} {Tt : α → (Nat → Addr) → MH → Hp → Prop} (g : G Y W σ f h H r Tt) (k : ∀ c d H', W c d σ H' → W' c d σ' H') : G Y W' σ' f h H r Tt := by
  cases r with
  | ok a h1 => exact g
  | ex c l h1 => exact fun f1 H1 cls d e1 r1 x => k _ _ _ (g f1 H1 cls d e1 r1 x)
  | stk => exact g
theorem G.elim {α : Type} {Tt : α → (Nat → Addr) → MH → Hp → Prop} {P : Prop} (g : G Y W σ f h H (.stk : R α) Tt) : P := False.elim g

/-! ### names, constants -/
theorem c_var (g : Good T Y W C CX lv inB N sc X) {i : Nat} {x : Str} {p : Pos} (e1 : nmB N i x = true) (e2 : visB sc x = true) : PE X (.Name x p) (rdE Y W (ev T.P C (.var i))) := by
  unfold nmB at e1
  simp only [Bool.and_eq_true, decide_eq_true_eq, Bool.not_eq_true'] at e1
  refine (pe_var (i := i) (by rw [g.eN]; exact e1.1.1) (g.vis e2) e1.1.2 e1.2).conv ?_
  rintro σ H Q ⟨f, ms, h, r, sr, q⟩
  unfold ev at q
  cases e : ms[i]? with
  | none => rw [e] at q; exact q.elim
  | some o =>
    cases o with
    | none => rw [e] at q; exact q.elim
    | some v =>
      rw [e] at q
      obtain ⟨y, a, b⟩ := sr.2 i v e
      exact ⟨y, a, G.ok r q y b⟩
theorem c_const {e : Expr} {v : V} {m : MV} {k : En → MH → R MV} (p : PE X e (tC v)) (hk : ∀ ms h, k ms h = .ok m h) (hv : ∀ f N H, VR Y.K f N H m v) : PE X e (rdE Y W k) := by
  refine p.conv ?_
  rintro σ H Q ⟨f, ms, h, r, sr, q⟩
  rw [hk] at q
  exact G.ok r q v (hv _ _ _)
theorem c_gl (g : Good T Y W C CX lv inB N sc X) {i : Nat} {x : Str} {p : Pos} (e1 : x = T.gn i) (e2 : T.gok i = true) (e3 : glB sc x = true) (e4 : (x == ("__debug__" : Str)) = false) : PE X (.Name x p) (rdE Y W (ev T.P C (.gl i))) := by
  obtain ⟨u, v, h1, h2, h3⟩ := g.fc.gl i e2
  exact c_const (pe_glob (g.gl e3) (e1 ▸ h1) h2 e4) (fun _ _ => by simp only [ev]) h3
theorem txB_ok {s : Tx} (e : txB s = true) : TxOk s := by
  unfold txB at e
  simp only [Bool.and_eq_true, decide_eq_true_eq, List.all_eq_true] at e
  exact ⟨LIM_eq ▸ e.1, e.2⟩

/-! ### operations -/
variable {a b c e : Expr} {ma mb mc : En → MH → R MV} {p : Pos}
theorem rd_seq {k : MV → MH → R MV} {σ : L2.St} {H : Hp} {Q : VK} (q : rdE Y W (fun σ h => (ma σ h).bind k) σ H Q) :
    rdE Y W ma σ H fun x H1 => ∃ f1 h1 a, Rl Y.K Y.Z f1 h1 H1 ∧ VR Y.K f1 h1.size H1 a x ∧ G Y W σ f1 h1 H1 (k a h1) fun v f' h' H' => ∀ z, VR Y.K f' h'.size H' v z → Q z H' := by
  obtain ⟨f, ms, h, r, sr, q⟩ := q
  exact ⟨f, ms, h, r, sr, q.bind.mono fun a h1 f1 H1 _ e1 r1 g1 x rx => ⟨f1, h1, a, r1, rx, g1⟩⟩
theorem rd_seq2 {k : MV → MV → MH → R MV} {σ : L2.St} {H : Hp} {Q : VK} (q : rdE Y W (fun σ h => (ma σ h).bind fun x h1 => (mb σ h1).bind fun y h2 => k x y h2) σ H Q) :
    rdE Y W ma σ H fun x H1 => rdE Y W mb σ H1 fun y H2 => ∃ f2 h2 a b, Rl Y.K Y.Z f2 h2 H2 ∧ VR Y.K f2 h2.size H2 a x ∧ VR Y.K f2 h2.size H2 b y ∧ G Y W σ f2 h2 H2 (k a b h2) fun v f' h' H' => ∀ z, VR Y.K f' h'.size H' v z → Q z H' := by
  obtain ⟨f, ms, h, r, sr, q⟩ := q
  refine ⟨f, ms, h, r, sr, q.bind.mono fun a h1 f1 H1 _ e1 r1 g1 x rx => ⟨f1, ms, h1, r1, r.sr e1 sr, g1.bind.mono fun b h2 f2 H2 _ e2 r2 g2 y ry => ⟨f2, h2, a, b, r2, r1.vr e2 rx, ry, g2⟩⟩⟩
theorem rdE.mono {σ : L2.St} {H : Hp} {Q Q' : VK} (q : rdE Y W ma σ H Q) (k : ∀ x H', Q x H' → Q' x H') : rdE Y W ma σ H Q' := by
  obtain ⟨f, ms, h, r, sr, q⟩ := q
  exact ⟨f, ms, h, r, sr, q.mono fun a h1 f1 H1 _ e1 r1 g1 x rx => k x H1 (g1 x rx)⟩
theorem c_bin (g : Good T Y W C CX lv inB N sc X) (op : BOp) (ha : PE X a (rdE Y W ma)) (hb : PE X b (rdE Y W mb)) : PE X (.BinOp a (bo op) b p) (rdE Y W fun σ h => (ma σ h).bind fun x h1 => (mb σ h1).bind fun y h2 => binM op x y h2) := by
  refine (pe_op (op_bin g.K op) ha hb).conv fun σ H Q q => ?_
  exact (rd_seq2 q).mono fun x H1 q1 => q1.mono fun y H2 ⟨f2, h2, a, b, r, ra, rb, g2⟩ => ⟨f2, h2, a, b, r, ra, rb, W, σ, g2⟩
theorem v_cmp (op : COp) {σ : L2.St} {H : Hp} {Q : VK} (q : rdE Y W (fun σ h => (ma σ h).bind fun x h1 => (mb σ h1).bind fun y h2 => cmpM op x y h2) σ H Q) : tOp (rB Y (cmpM op)) (rdE Y W ma) (rdE Y W mb) σ H Q :=
  (rd_seq2 q).mono fun x H1 q1 => q1.mono fun y H2 ⟨f2, h2, a, b, r, ra, rb, g2⟩ => ⟨f2, h2, a, b, r, ra, rb, W, σ, g2⟩
theorem c_cmp (g : Good T Y W C CX lv inB N sc X) (op : COp) (ha : PE X a (rdE Y W ma)) (hb : PE X b (rdE Y W mb)) (hm : behindInMarks (co op) b = false) : PE X (.Compare a [co op] [b] p) (rdE Y W fun σ h => (ma σ h).bind fun x h1 => (mb σ h1).bind fun y h2 => cmpM op x y h2) :=
  (pe_cmpR (op_cmp g.K g.un op) ha hb hm).conv fun σ H Q q => v_cmp op q
/-- a comparison as a test -/
theorem t_of {m : En → MH → R MV} {t : TE} (hp : PT X e fun σ H Q => t σ H fun x H' => ∃ k, x = .bl k ∧ Q k H') (k : ∀ σ H Q, rdE Y W m σ H Q → t σ H Q) (hb : ∀ ms h v h', m ms h = .ok v h' → ∃ b, v = .bl b) : PT X e (rdT Y W fun σ h => (m σ h).bind fun x h1 => truM x h1) := by
  refine hp.conv fun σ H Q q => k σ H _ ?_
  obtain ⟨f, ms, h, r, sr, q⟩ := q
  refine ⟨f, ms, h, r, sr, q.bind.mono fun v h1 f1 H1 eq e1 r1 g1 x rx => ?_⟩
  obtain ⟨b, rfl⟩ := hb _ _ _ _ eq
  exact ⟨b, rx.bl_inv, G.ok r1 g1⟩
theorem bind_ok {α β : Type} {r : R α} {k : α → MH → R β} {v : β} {h' : MH} (e : r.bind k = .ok v h') : ∃ a h1, r = .ok a h1 ∧ k a h1 = .ok v h' := by
  cases r with
  | ok a h1 => exact ⟨a, h1, rfl, e⟩
  | ex c l h1 => cases e
  | stk => cases e
theorem bR_bl {o : Option Bool} {h : MH} {v : MV} {h' : MH} (e : bR o h = .ok v h') : ∃ b, v = .bl b := by
  cases o with
  | none => cases e
  | some b => cases e; exact ⟨b, rfl⟩
theorem cmpM_bl {op : COp} {x y : MV} {h : MH} {v : MV} {h' : MH} (e : cmpM op x y h = .ok v h') : ∃ b, v = .bl b := by
  unfold cmpM at e
  cases op <;> exact bR_bl e
theorem t_cmp (g : Good T Y W C CX lv inB N sc X) (op : COp) (ha : PE X a (rdE Y W ma)) (hb : PE X b (rdE Y W mb)) (hm : behindInMarks (co op) b = false) : PT X (.Compare a [co op] [b] p) (rdT Y W fun σ h => ((ma σ h).bind fun x h1 => (mb σ h1).bind fun y h2 => cmpM op x y h2).bind fun x h1 => truM x h1) :=
  t_of (m := fun σ h => (ma σ h).bind fun x h1 => (mb σ h1).bind fun y h2 => cmpM op x y h2) (pt_cmpR (op_cmp g.K g.un op) ha hb hm) (fun σ H Q q => v_cmp op q) fun ms h v h' e => by
    obtain ⟨x, h1, _, e⟩ := bind_ok e
    obtain ⟨y, h2, _, e⟩ := bind_ok e
    exact cmpM_bl e
theorem c_sub (g : Good T Y W C CX lv inB N sc X) (ha : PE X a (rdE Y W ma)) (hb : PE X b (rdE Y W mb)) (hs : isSlice b = false) : PE X (.Subscript a b p) (rdE Y W fun σ h => (ma σ h).bind fun x h1 => (mb σ h1).bind fun y h2 => subM x y h2) := by
  have pl : PlainIx b := by
    intro o i
    unfold subscripted
    cases b <;> first | rfl | skip
    rename_i l u st pp
    cases st
    · cases hs
    · rfl
  refine (pe_ix (ix_sub g.K) ha hb pl).conv fun σ H Q q => ?_
  exact (rd_seq2 q).mono fun x H1 q1 => q1.mono fun y H2 ⟨f2, h2, a, b, r, ra, rb, g2⟩ => ⟨f2, h2, a, b, r, ra, rb, W, σ, g2⟩
theorem c_neg (g : Good T Y W C CX lv inB N sc X) (ha : PE X a (rdE Y W ma)) : PE X (.UnaryOp .USub a p) (rdE Y W fun σ h => (ma σ h).bind fun x h1 => negM x h1) := by
  refine (pe_un un_neg ha).conv fun σ H Q q => ?_
  refine (rd_seq q).mono fun x H1 ⟨f1, h1, m, r, rm, g1⟩ => ?_
  cases m with
  | int i => exact ⟨i, rm.int_inv, G.ok r g1 _ .int⟩
  | _ => exact g1.elim
theorem c_not (g : Good T Y W C CX lv inB N sc X) (ha : PE X a (rdE Y W ma)) : PE X (.UnaryOp .Not a p) (rdE Y W fun σ h => (ma σ h).bind fun x h1 => (truM x h1).bind fun b h2 => .ok (.bl (!b)) h2) := by
  refine (pe_notT ha).conv fun σ H Q q => ?_
  refine (rd_seq q).mono fun x H1 ⟨f1, h1, m, r, rm, g1⟩ => ?_
  obtain ⟨b, e, t, q1⟩ := truM_inv (T := fun b f h H => GP Y f h H (.ok (.bl (!b)) h) fun v f' h' H' => ∀ z, VR Y.K f' h'.size H' v z → Q z H') r rm ⟨W, σ, g1.bind.mono fun _ _ _ _ _ _ _ g2 => ⟨W, σ, g2⟩⟩
  exact ⟨b, g.K ▸ t, GP.here r q1 _ .bl⟩
theorem non_no {m : MV} {x : V} {n : Nat} (rm : VR Y.K f n H m x) (hm : m ≠ .non) : decide (x = V.non) = false := by
  refine decide_eq_false fun hx => ?_
  subst hx
  cases m with
  | non => exact hm rfl
  | bl _ => cases rm.bl_inv
  | int _ => cases rm.int_inv
  | str _ => cases rm.str_inv.1
  | tup _ => obtain ⟨_, _, z, _⟩ := rm.tup_inv; cases z
  | kl _ => obtain ⟨_, _, z, _⟩ := rm.kl_inv; cases z
  | ref _ => cases rm.ref_inv.2
  | kd _ => unfold VR at rm; exact rm.elim
  | fn _ => unfold VR at rm; exact rm.elim
  | exc _ _ => unfold VR at rm; exact rm.elim
theorem isNM_bl {b : Bool} {x : MV} {h : MH} {v : MV} {h' : MH} (e : isNM b x h = .ok v h') : ∃ b, v = .bl b := by
  unfold isNM at e
  split at e <;> (cases e; exact ⟨_, rfl⟩)
theorem v_isN {σ : L2.St} {H : Hp} {Q : VK} (q : rdE Y W (fun σ h => (ma σ h).bind fun x h1 => isNM true x h1) σ H Q) : tIsN (rdE Y W ma) σ H Q := by
  refine (rd_seq q).mono fun x H1 ⟨f1, h1, m, r, rm, g1⟩ => ?_
  cases m with
  | non =>
    rw [rm.non_inv]
    exact G.ok r g1 _ .bl
  | _ =>
    rw [non_no rm (fun z => by cases z)]
    exact G.ok r g1 _ .bl
theorem v_isNt {σ : L2.St} {H : Hp} {Q : VK} (q : rdE Y W (fun σ h => (ma σ h).bind fun x h1 => isNM false x h1) σ H Q) : tNotN (rdE Y W ma) σ H Q := by
  refine (rd_seq q).mono fun x H1 ⟨f1, h1, m, r, rm, g1⟩ => ?_
  cases m with
  | non =>
    rw [rm.non_inv]
    exact G.ok r g1 _ .bl
  | _ =>
    rw [non_no rm (fun z => by cases z)]
    exact G.ok r g1 _ .bl
theorem c_isN (ha : PE X a (rdE Y W ma)) {j p'} : PE X (.Compare a [.Is] [.Constant .none j p'] p) (rdE Y W fun σ h => (ma σ h).bind fun x h1 => isNM true x h1) :=
  (pe_cmp (pc_isN ha)).conv fun σ H Q q => v_isN q
theorem c_isNt (ha : PE X a (rdE Y W ma)) {j p'} : PE X (.Compare a [.IsNot] [.Constant .none j p'] p) (rdE Y W fun σ h => (ma σ h).bind fun x h1 => isNM false x h1) :=
  (pe_cmp (pc_notN ha)).conv fun σ H Q q => v_isNt q
theorem t_isN (ha : PE X a (rdE Y W ma)) {j p'} : PT X (.Compare a [.Is] [.Constant .none j p'] p) (rdT Y W fun σ h => ((ma σ h).bind fun x h1 => isNM true x h1).bind fun x h1 => truM x h1) :=
  t_of (m := fun σ h => (ma σ h).bind fun x h1 => isNM true x h1) (pt_cmp (pc_isN ha)) (fun σ H Q q => v_isN q) fun ms h v h' e => by
    obtain ⟨x, h1, _, e⟩ := bind_ok e
    exact isNM_bl e
theorem t_isNt (ha : PE X a (rdE Y W ma)) {j p'} : PT X (.Compare a [.IsNot] [.Constant .none j p'] p) (rdT Y W fun σ h => ((ma σ h).bind fun x h1 => isNM false x h1).bind fun x h1 => truM x h1) :=
  t_of (m := fun σ h => (ma σ h).bind fun x h1 => isNM false x h1) (pt_cmp (pc_notN ha)) (fun σ H Q q => v_isNt q) fun ms h v h' e => by
    obtain ⟨x, h1, _, e⟩ := bind_ok e
    exact isNM_bl e
theorem v_ch (o1 o2 : COp) {σ : L2.St} {H : Hp} {Q : VK} (q : rdE Y W (fun σ h => (ma σ h).bind fun x h1 => (mb σ h1).bind fun y h2 => chM (fun h3 => mc σ h3) o1 o2 x y h2) σ H Q) : tChain (rB Y (cmpM o1)) (rB Y (cmpM o2)) (rdE Y W ma) (rdE Y W mb) (rdE Y W mc) σ H Q := by
  obtain ⟨f, ms, h, r, sr, q⟩ := q
  refine ⟨f, ms, h, r, sr, q.bind.mono fun a h1 f1 H1 _ e1 r1 g1 x rx => ⟨f1, ms, h1, r1, r.sr e1 sr, g1.bind.mono fun b h2 f2 H2 _ e2 r2 g2 y ry => ?_⟩⟩
  refine ⟨f2, h2, a, b, r2, r1.vr e2 rx, ry, W, σ, g2.bind.mono fun z h3 f3 H3 _ e3 r3 g3 w rw => ?_⟩
  have sr3 := r2.sr e3 (r1.sr e2 (r.sr e1 sr))
  cases z with
  | bl k =>
    refine ⟨k, rw.bl_inv, ?_⟩
    cases k with
    | true => exact ⟨f3, ms, h3, r3, sr3, g3.bind.mono fun d h4 f4 H4 _ e4 r4 g4 v rv => ⟨f4, h4, b, d, r4, r3.vr e4 (r2.vr e3 ry), rv, W, σ, g4⟩⟩
    | false => exact G.ok r3 g3 _ .bl
  | _ => exact g3.elim
theorem c_ch (g : Good T Y W C CX lv inB N sc X) (o1 o2 : COp) (ha : PE X a (rdE Y W ma)) (hb : PE X b (rdE Y W mb)) (hc : PE X c (rdE Y W mc)) (hm : lastMarks [co o1, co o2] [b, c] = false) :
    PE X (.Compare a [co o1, co o2] [b, c] p) (rdE Y W fun σ h => (ma σ h).bind fun x h1 => (mb σ h1).bind fun y h2 => chM (fun h3 => mc σ h3) o1 o2 x y h2) :=
  (pe_chain (op_cmp g.K g.un o1) (op_cmp g.K g.un o2) ha hb hc hm).conv fun σ H Q q => v_ch o1 o2 q
theorem t_ch (g : Good T Y W C CX lv inB N sc X) (o1 o2 : COp) (ha : PE X a (rdE Y W ma)) (hb : PE X b (rdE Y W mb)) (hc : PE X c (rdE Y W mc)) (hm : lastMarks [co o1, co o2] [b, c] = false) :
    PT X (.Compare a [co o1, co o2] [b, c] p) (rdT Y W fun σ h => ((ma σ h).bind fun x h1 => (mb σ h1).bind fun y h2 => chM (fun h3 => mc σ h3) o1 o2 x y h2).bind fun x h1 => truM x h1) :=
  t_of (m := fun σ h => (ma σ h).bind fun x h1 => (mb σ h1).bind fun y h2 => chM (fun h3 => mc σ h3) o1 o2 x y h2) (pt_chain (op_cmp g.K g.un o1) (op_cmp g.K g.un o2) ha hb hc hm) (fun σ H Q q => v_ch o1 o2 q) fun ms h v h' e => by
    obtain ⟨x, h1, _, e⟩ := bind_ok e
    obtain ⟨y, h2, _, e⟩ := bind_ok e
    obtain ⟨z, h3, _, e⟩ := bind_ok e
    cases z with
    | bl k =>
      cases k with
      | true =>
        obtain ⟨w, h4, _, e⟩ := bind_ok e
        exact cmpM_bl e
      | false => cases e; exact ⟨_, rfl⟩
    | _ => cases e
theorem c_and (g : Good T Y W C CX lv inB N sc X) {rest : List Expr} (ha : PE X a (rdE Y W ma)) (hb : PE X (.BoolOp .And (b :: rest) p) (rdE Y W mb)) :
    PE X (.BoolOp .And (a :: b :: rest) p) (rdE Y W fun σ h => (ma σ h).bind fun x h1 => (truM x h1).bind fun c h2 => if c then mb σ h2 else .ok x h2) := by
  refine (pe_andT ha hb).conv fun σ H Q q => ?_
  obtain ⟨f, ms, h, r, sr, q⟩ := q
  refine ⟨f, ms, h, r, sr, q.bind.mono fun a h1 f1 H1 _ e1 r1 g1 x rx => ?_⟩
  obtain ⟨k, e, t, q1⟩ := truM_inv (T := fun k f h H => G Y W σ f h H (if k then mb ms h else .ok a h) fun v f' h' H' => ∀ z, VR Y.K f' h'.size H' v z → Q z H') r1 rx ⟨W, σ, g1.bind⟩
  refine ⟨k, g.K ▸ t, ?_⟩
  cases k with
  | true => exact ⟨f1, ms, h1, r1, r.sr e1 sr, q1⟩
  | false => exact G.ok r1 q1 _ rx
theorem c_or (g : Good T Y W C CX lv inB N sc X) {rest : List Expr} (ha : PE X a (rdE Y W ma)) (hb : PE X (.BoolOp .Or (b :: rest) p) (rdE Y W mb)) :
    PE X (.BoolOp .Or (a :: b :: rest) p) (rdE Y W fun σ h => (ma σ h).bind fun x h1 => (truM x h1).bind fun c h2 => if c then .ok x h2 else mb σ h2) := by
  refine (pe_orT ha hb).conv fun σ H Q q => ?_
  obtain ⟨f, ms, h, r, sr, q⟩ := q
  refine ⟨f, ms, h, r, sr, q.bind.mono fun a h1 f1 H1 _ e1 r1 g1 x rx => ?_⟩
  obtain ⟨k, e, t, q1⟩ := truM_inv (T := fun k f h H => G Y W σ f h H (if k then .ok a h else mb ms h) fun v f' h' H' => ∀ z, VR Y.K f' h'.size H' v z → Q z H') r1 rx ⟨W, σ, g1.bind⟩
  refine ⟨k, g.K ▸ t, ?_⟩
  cases k with
  | false => exact ⟨f1, ms, h1, r1, r.sr e1 sr, q1⟩
  | true => exact G.ok r1 q1 _ rx
/-! ### tests -/
variable {ta tb : En → MH → R Bool}
theorem rt_seq {k : Bool → En → MH → R MV} {σ : L2.St} {H : Hp} {Q : VK} (q : rdE Y W (fun σ h => (ta σ h).bind fun d h1 => k d σ h1) σ H Q) : rdT Y W ta σ H fun d H1 => rdE Y W (k d) σ H1 Q := by
  obtain ⟨f, ms, h, r, sr, q⟩ := q
  exact ⟨f, ms, h, r, sr, q.bind.mono fun a h1 f1 H1 _ e1 r1 g1 => ⟨f1, ms, h1, r1, r.sr e1 sr, g1⟩⟩
theorem c_ife (hc : PT X c (rdT Y W ta)) (ha : PE X a (rdE Y W ma)) (hb : PE X b (rdE Y W mb)) : PE X (.IfExp c a b p) (rdE Y W fun σ h => (ta σ h).bind fun d h1 => if d then ma σ h1 else mb σ h1) := by
  refine (pe_ifExp hc ha hb).conv fun σ H Q q => ?_
  have q2 := rt_seq (k := fun d σ h1 => if d then ma σ h1 else mb σ h1) q
  obtain ⟨f, ms, h, r, sr, q⟩ := q2
  refine ⟨f, ms, h, r, sr, q.mono fun d h1 f1 H1 _ e1 r1 g1 => ?_⟩
  cases d with
  | true => exact g1
  | false => exact g1
theorem plainT_true (e : Expr) (h : plainT e = true) (env : Env) (whole : Sem Value) : isTrue e env whole = (do let v ← whole; standAt e.pos; holding [v] (truthy v)) := by
  cases e <;> first | rfl | (cases h; done) | skip
  all_goals (rename_i op _ _; cases op <;> first | rfl | (cases h; done))
theorem t_val (g : Good T Y W C CX lv inB N sc X) (ha : PE X a (rdE Y W ma)) (hp : plainT a = true) : PT X a (rdT Y W fun σ h => (ma σ h).bind fun x h1 => truM x h1) := by
  refine (pt_truth ha (plainT_true a hp X.env)).conv fun σ H Q q => ?_
  obtain ⟨f, ms, h, r, sr, q⟩ := q
  refine ⟨f, ms, h, r, sr, q.bind.mono fun a h1 f1 H1 _ e1 r1 g1 x rx => ?_⟩
  obtain ⟨k, e, t, q1⟩ := truM_inv (T := fun k f h H => Q k H) r1 rx ⟨W, σ, g1⟩
  exact ⟨k, g.K ▸ t, q1⟩
theorem t_not (ha : PT X a (rdT Y W ta)) : PT X (.UnaryOp .Not a p) (rdT Y W fun σ h => (ta σ h).bind fun b h1 => .ok (!b) h1) := by
  refine (pt_not ha).conv fun σ H Q q => ?_
  obtain ⟨f, ms, h, r, sr, q⟩ := q
  exact ⟨f, ms, h, r, sr, q.bind.mono fun a h1 f1 H1 _ e1 r1 g1 => G.ok r1 g1⟩
theorem _root_.L2.PW.conv {X : Cx} {e : Expr} {t t' : TT} (p : PW X e t) (k : ∀ σ H Q, t' σ H Q → t σ H Q) : PW X e t' := ⟨fun w pins s σ H Q I q => p.run w pins s σ H Q I (k σ H Q q)⟩
theorem t_and {rest : List Expr} (ha : PT X a (rdT Y W ta)) (hb : PW X (.BoolOp .And (b :: rest) p) (rdT Y W tb)) : PW X (.BoolOp .And (a :: b :: rest) p) (rdT Y W fun σ h => (ta σ h).bind fun c h1 => if c then tb σ h1 else .ok false h1) := by
  refine (pw_and ha hb).conv fun σ H Q q => ?_
  obtain ⟨f, ms, h, r, sr, q⟩ := q
  refine ⟨f, ms, h, r, sr, q.bind.mono fun a h1 f1 H1 _ e1 r1 g1 => ?_⟩
  cases a with
  | true => exact ⟨f1, ms, h1, r1, r.sr e1 sr, g1⟩
  | false => exact G.ok r1 g1
theorem t_or {rest : List Expr} (ha : PT X a (rdT Y W ta)) (hb : PW X (.BoolOp .Or (b :: rest) p) (rdT Y W tb)) : PW X (.BoolOp .Or (a :: b :: rest) p) (rdT Y W fun σ h => (ta σ h).bind fun c h1 => if c then .ok true h1 else tb σ h1) := by
  refine (pw_or ha hb).conv fun σ H Q q => ?_
  obtain ⟨f, ms, h, r, sr, q⟩ := q
  refine ⟨f, ms, h, r, sr, q.bind.mono fun a h1 f1 H1 _ e1 r1 g1 => ?_⟩
  cases a with
  | false => exact ⟨f1, ms, h1, r1, r.sr e1 sr, g1⟩
  | true => exact G.ok r1 g1
/-! ### argument lists -/
variable {es : List Expr} {me : En → MH → R (List MV)}
theorem star_cons {e : Expr} {es : List Expr} {env : Env} (h : isStar e = false) : starEach (e :: es) env = (false, eval e env) :: starEach es env := by
  cases e <;> first | rfl | cases h
def noStars (es : List Expr) : Bool := es.all fun e => !isStar e
theorem star_any {env : Env} {pos : Pos} : ∀ {es : List Expr}, noStars es = true → (backTo pos (starEach es env)).any (·.1) = false
  | [], _ => rfl
  | e :: es, h => by
    unfold noStars at h
    rw [List.all_cons, Bool.and_eq_true] at h
    rw [star_cons (by simpa using h.1)]
    show (false || (backTo pos (starEach es env)).any (·.1)) = false
    rw [star_any h.2]
    rfl
theorem a_nil : PA X [] (rdA Y W fun σ h => .ok [] h) := by
  refine pa_nil.conv fun σ H Q q => ?_
  obtain ⟨f, ms, h, r, sr, q⟩ := q
  exact G.ok r q _ .nil
theorem a_cons (ha : PE X e (rdE Y W ma)) (hr : PA X es (rdA Y W me)) (hs : isStar e = false) : PA X (e :: es) (rdA Y W fun σ h => (ma σ h).bind fun x h1 => (me σ h1).bind fun l h2 => .ok (x :: l) h2) := by
  refine (pa_cons ha hr (star_cons hs)).conv fun σ H Q q => ?_
  obtain ⟨f, ms, h, r, sr, q⟩ := q
  refine ⟨f, ms, h, r, sr, q.bind.mono fun a h1 f1 H1 _ e1 r1 g1 x rx => ⟨f1, ms, h1, r1, r.sr e1 sr, g1.bind.mono fun l h2 f2 H2 _ e2 r2 g2 xs rl => ?_⟩⟩
  exact G.ok r2 g2 _ (.cons (r1.vr e2 rx) rl)
theorem _root_.L2.PK.conv {X : Cx} {e : List Keyword} {t t' : TA} (p : PK X e t) (k : ∀ σ H Q, t' σ H Q → t σ H Q) : PK X e t' := ⟨fun pos pins s σ H Q I q => p.run pos pins s σ H Q I (k σ H Q q)⟩
theorem k_nil : PK X [] (rdA Y W fun σ h => .ok [] h) := by
  refine pk_nil.conv fun σ H Q q => ?_
  obtain ⟨f, ms, h, r, sr, q⟩ := q
  exact G.ok r q _ .nil
theorem k_cons {kws : List Keyword} {nm : Option Str} {kpos : Pos} (ha : PE X e (rdE Y W ma)) (hr : PK X kws (rdA Y W me)) : PK X (⟨nm, e, kpos⟩ :: kws) (rdA Y W fun σ h => (ma σ h).bind fun x h1 => (me σ h1).bind fun l h2 => .ok (x :: l) h2) := by
  refine (pk_cons ha hr).conv fun σ H Q q => ?_
  obtain ⟨f, ms, h, r, sr, q⟩ := q
  refine ⟨f, ms, h, r, sr, q.bind.mono fun a h1 f1 H1 _ e1 r1 g1 x rx => ⟨f1, ms, h1, r1, r.sr e1 sr, g1.bind.mono fun l h2 f2 H2 _ e2 r2 g2 xs rl => ?_⟩⟩
  exact G.ok r2 g2 _ (.cons (r1.vr e2 rx) rl)
theorem c_tup (he : PA X es (rdA Y W me)) {k1} : PE X (.Tuple es k1 p) (rdE Y W fun σ h => (me σ h).bind fun l h1 => litM l h1) := by
  refine (pe_tup he).conv fun σ H Q q => ?_
  obtain ⟨f, ms, h, r, sr, q⟩ := q
  refine ⟨f, ms, h, r, sr, q.bind.mono fun l h1 f1 H1 _ e1 r1 g1 xs rx => ?_⟩
  unfold litM at g1
  by_cases hl : l.length ≤ LIM
  · rw [if_pos hl] at g1
    refine ⟨by rw [← rx.length, ← LIM_eq]; exact hl, fun z hz => ?_⟩
    have e2 : Ext f1 h1.size H1 f1 h1.size (upd H1 z (.tup xs)) := Ext.aside hz
    exact g1 _ _ e2 (r1.aside (u := .tup xs) hz) _ (.tup (SqT.of upd_same) (r1.vrs e2 rx))
  · rw [if_neg hl] at g1
    exact g1.elim
theorem c_lst (he : PA X es (rdA Y W me)) : PE X (.List es p) (rdE Y W fun σ h => (me σ h).bind fun l h1 => newList h1 l) := by
  refine (pe_lst he).conv fun σ H Q q => ?_
  obtain ⟨f, ms, h, r, sr, q⟩ := q
  refine ⟨f, ms, h, r, sr, q.bind.mono fun l h1 f1 H1 _ e1 r1 g1 xs rx => ?_⟩
  have g2 : GP Y f1 h1 H1 (newList h1 l) fun v f' h' H' => ∀ z, VR Y.K f' h'.size H' v z → Q z H' := ⟨W, σ, g1⟩
  have hz : xs.length ≤ sizeLine := by
    unfold newList at g1
    by_cases hl : l.length ≤ LIM
    · rw [← rx.length, ← LIM_eq]; exact hl
    · rw [if_neg hl] at g1
      exact g1.elim
  refine ⟨hz, fun z hz => ?_⟩
  obtain ⟨_, f', t, e⟩ := GP.newList r1 g2 rx hz
  exact t _ (by rw [← e]; exact .ref (by rw [MH.size_push]; omega))
/-! ### slices -/
def rdO (Y : Ctx) (W : Wish) (m : En → MH → R (Option Int)) : TO := fun σ H Q => ∃ f ms h, Rl Y.K Y.Z f h H ∧ SR Y.K f h.size H ms σ ∧ G Y W σ f h H (m ms h) fun o _ _ H' => Q o H'
variable {ml mu : En → MH → R (Option Int)}
theorem _root_.L2.PO.conv {X : Cx} {e : Option Expr} {t t' : TO} (p : PO X e t) (k : ∀ σ H Q, t' σ H Q → t σ H Q) : PO X e t' := ⟨fun pins s σ H Q I q => p.run pins s σ H Q I (k σ H Q q)⟩
theorem o_no : PO X none (rdO Y W fun σ h => .ok none h) := by
  refine po_none.conv fun σ H Q q => ?_
  obtain ⟨f, ms, h, r, sr, q⟩ := q
  exact G.ok r q
theorem o_so (ha : PE X e (rdE Y W ma)) : PO X (some e) (rdO Y W fun σ h => (ma σ h).bind fun x h1 => oiM x h1) := by
  refine (po_some ha).conv fun σ H Q q => ?_
  obtain ⟨f, ms, h, r, sr, q⟩ := q
  refine ⟨f, ms, h, r, sr, q.bind.mono fun a h1 f1 H1 _ e1 r1 g1 x rx => ?_⟩
  cases a with
  | int i =>
    refine ⟨i, rx.int_inv, ?_⟩
    unfold oiM oi at g1
    simp only at g1
    split at g1
    · rename_i k ek
      split at ek
      · cases ek
        exact G.ok r1 g1
      · cases ek
    · exact g1.elim
  | _ => exact g1.elim
theorem c_sl (g : Good T Y W C CX lv inB N sc X) {lo hi : Option Expr} {p2} (ha : PE X a (rdE Y W ma)) (hl : PO X lo (rdO Y W ml)) (hu : PO X hi (rdO Y W mu)) : PE X (.Subscript a (.Slice lo hi none p2) p)
    (rdE Y W fun σ h => (ma σ h).bind fun x h1 => (ml σ h1).bind fun l h2 => (mu σ h2).bind fun u h3 => slM x l u h3) := by
  refine (pe_slice (sl_cut g.K) ha hl hu).conv fun σ H Q q => ?_
  obtain ⟨f, ms, h, r, sr, q⟩ := q
  refine ⟨f, ms, h, r, sr, q.bind.mono fun a h1 f1 H1 _ e1 r1 g1 x rx => ?_⟩
  have sr1 := r.sr e1 sr
  refine ⟨f1, ms, h1, r1, sr1, g1.bind.mono fun l h2 f2 H2 _ e2 r2 g2 => ?_⟩
  refine ⟨f2, ms, h2, r2, r1.sr e2 sr1, g2.bind.mono fun u h3 f3 H3 _ e3 r3 g3 => ?_⟩
  exact ⟨f3, h3, a, r3, r2.vr e3 (r1.vr e2 rx), W, σ, g3⟩
end
end DM
set_option Elab.async false
set_option linter.all false
set_option maxRecDepth 100000
set_option maxHeartbeats 4000000
/-! S8: calls. -/
namespace DM
open PySem L2 PyProof.Rows PySem.Spec
section
variable {T : Tab} {Y : Ctx} {W : Wish} {C : Nat → List MV → MH → R MV} {CX : CXT} {lv : Nat} {inB : Bool} {N : List Str} {sc : Scope} {X : Cx}
variable {σ : L2.St} {H : Hp} {f : Nat → Addr} {h : MH} {ms : En}
variable {a b c e : Expr} {ma mb mc : En → MH → R MV} {p pos : Pos} {es : List Expr} {me mk : En → MH → R (List MV)}

/-! ### own functions -/
theorem call_end (g : Good T Y W C CX lv inB N sc X) {i : Nat} {sh : List Src} {kn : List Nat} {A : Addr} {fd : FuncData} (F : FnG X.prog X.w Y.K X.mg X.base CX lv A fd (T.fps i) (spM Y T C i))
    {n : Nat} (B : ∀ (s : Shared) (us ws : List Value), Y.K.In s.heap → us.length = n → ws.length = kn.length →
      ∃ bs, bs.length = (T.fps i).length ∧ BindsTo s fd ⟨us, (kn.map T.fnm).zip ws⟩ ((T.fps i).zip bs) ∧
        ∀ ms zs vs ys l f N H, pick ms zs sh = some l → Vals vs us → VRs Y.K f N H ms vs → Vals ys ws → VRs Y.K f N H zs ys → ∃ xs, Vals xs bs ∧ VRs Y.K f N H l xs)
    {pins : List (Addr × Obj)} {s : Shared} {Q : VK} {us ws : List Value} {vs ys : List V} {ms zs : List MV} (I : Inv X pins σ H s) (r1 : Vals vs us) (r2 : Vals ys ws) (r : Rl Y.K Y.Z f h H)
    (l1 : ms.length = n) (l2 : zs.length = kn.length) (v1 : VRs Y.K f h.size H ms vs) (v2 : VRs Y.K f h.size H zs ys) (q : G Y W σ f h H (callP C i sh ms zs h) fun v f' h' H' => ∀ z, VR Y.K f' h'.size H' v z → Q z H') :
    wpAny (model X.prog X.w) X.A (call (.ref A) us ((kn.map T.fnm).zip ws)) (EP X pins σ Q) X.xe s := by
  obtain ⟨bs, hb, hB, hP⟩ := B s us ws (g.K ▸ I.kIn) (by rw [← r1.length, ← v1.length]; exact l1) (by rw [← r2.length, ← v2.length]; exact l2)
  unfold callP at q
  split at q
  · rename_i l el
    obtain ⟨xs, x1, x2⟩ := hP ms zs vs ys l f h.size H el r1 v1 r2 v2
    have F' : FnG X.prog X.w X.K X.mg X.base CX lv A fd (T.fps i) (spM Y T C i) := g.K ▸ F
    exact run_fnG F' g.room g.gd (g.pass σ) I hB x1 ⟨by rw [x1.length]; exact hb, f, h, l, r, x2, q.wish fun c d H' z => z⟩
  · exact q.elim
theorem kw_some {env : Env} {pos : Pos} : ∀ {kws : List Keyword}, (kws.all fun k => k.1.isSome) = true → (backToKw pos (keywordEach kws env)).all (·.1.isSome) = true ∧ (backToKw pos (keywordEach kws env)).any (·.1.isNone) = false
  | [], _ => ⟨rfl, rfl⟩
  | ⟨nm, e, kp⟩ :: r, h => by
    rw [List.all_cons, Bool.and_eq_true] at h
    obtain ⟨a, b⟩ := kw_some (env := env) (pos := pos) h.2
    cases nm with
    | none => cases h.1
    | some x =>
      constructor
      · show (true && (backToKw pos (keywordEach r env)).all (·.1.isSome)) = true
        rw [a]; rfl
      · show (false || (backToKw pos (keywordEach r env)).any (·.1.isNone)) = false
        rw [b]; rfl
theorem kw_names {env : Env} {pos : Pos} : ∀ {kws : List Keyword}, (backToKw pos (keywordEach kws env)).filterMap (·.1) = kws.filterMap (·.1)
  | [] => rfl
  | ⟨nm, e, kp⟩ :: r => by
    have := kw_names (env := env) (pos := pos) (kws := r)
    cases nm with
    | none => exact this
    | some x => exact congrArg (x :: ·) this
theorem star_all {e : Expr} {es : List Expr} {env : Env} {pos : Pos} (h : noStars (e :: es) = true) : (backTo pos (starEach (e :: es) env)).any (·.1) = false := star_any h
theorem c_call (g : Good T Y W C CX lv inB N sc X) {i : Nat} {x : Str} {kws : List Keyword} {kn : List Nat} {sh : List Src} (e1 : x = T.fname i) (e2 : T.fok i = true) (e3 : glB sc x = true) (e4 : (x == ("__debug__" : Str)) = false)
    (ha : PA X (e :: es) (rdA Y W me)) (hk : PK X kws (rdA Y W mk)) (hs : noStars (e :: es) = true) (hall : (kws.all fun k => k.1.isSome) = true) (hks : kws.filterMap (·.1) = kn.map T.fnm) (hsh : T.sh i (e :: es).length kn sh = true)
    (le : ∀ ms h l h', me ms h = .ok l h' → l.length = (e :: es).length) (lk : ∀ ms h l h', mk ms h = .ok l h' → l.length = kn.length) :
    PE X (.Call (.Name x p) (e :: es) kws pos) (rdE Y W fun σ h => (me σ h).bind fun vs h1 => (mk σ h1).bind fun ws h2 => callP C i sh vs ws h2) := by
  refine ⟨fun pins s σ H Q I q => ?_⟩
  obtain ⟨A, fd, h1, h2, F, B⟩ := g.fc.fd i e2
  obtain ⟨a1, a2⟩ := kw_some (env := X.env) (pos := pos) hall
  have hst : isStar e = false := by
    unfold noStars at hs
    rw [List.all_cons, Bool.and_eq_true] at hs
    simpa using hs.1
  refine wpAny_Call_Name_kw (ld_glob I (g.gl e3) (e1 ▸ h1) ?_ e4)
  refine PySem.W.callWith_KW (h₀ := X.base) I.ok.mod.kin (g.K ▸ h2) a1 ?_ (by rw [star_all hs, a2]; rfl) (star_cons hst)
  obtain ⟨f, ms, h, r, sr, q⟩ := q
  refine thn (ha.run pos pins s σ H (fun xs H1 => ∃ f1 h1 l, Ext f h.size H f1 h1.size H1 ∧ Rl Y.K Y.Z f1 h1 H1 ∧ l.length = (e :: es).length ∧ VRs Y.K f1 h1.size H1 l xs ∧ G Y W σ f1 h1 H1 ((mk ms h1).bind fun ws h2 => callP C i sh l ws h2) fun v f' h' H' => ∀ z, VR Y.K f' h'.size H' v z → Q z H') I
    ⟨f, ms, h, r, sr, q.bind.mono fun l h1 f1 H1 eq e1 r1 g1 xs rx => ⟨f1, h1, l, e1, r1, le _ _ _ _ eq, rx, g1⟩⟩) fun us s1 ⟨vs, H1, I1, rv, f1, h1, l, x1, r1, l1, v1, q1⟩ => ?_
  refine thn (hk.run pos pins s1 σ H1 (fun xs H2 => ∃ f2 h2 z, Ext f1 h1.size H1 f2 h2.size H2 ∧ Rl Y.K Y.Z f2 h2 H2 ∧ z.length = kn.length ∧ VRs Y.K f2 h2.size H2 z xs ∧ G Y W σ f2 h2 H2 (callP C i sh l z h2) fun v f' h' H' => ∀ z, VR Y.K f' h'.size H' v z → Q z H') I1
    ⟨f1, ms, h1, r1, r.sr x1 sr, q1.bind.mono fun l h1 f1 H1 eq e1 r1 g1 xs rx => ⟨f1, h1, l, e1, r1, lk _ _ _ _ eq, rx, g1⟩⟩) fun ws s2 ⟨ys, H2, I2, ry, f2, h2', z, x2, r2, l2, v2, q2⟩ => ⟨I2.kIn, ?_⟩
  rw [kw_names, hks]
  exact call_end g F (B _ kn sh hsh) I2 rv ry r2 l1 l2 (r1.vrs x2 v1) v2 q2
theorem c_call0 (g : Good T Y W C CX lv inB N sc X) {i : Nat} {x : Str} {kws : List Keyword} {kn : List Nat} {sh : List Src} (e1 : x = T.fname i) (e2 : T.fok i = true) (e3 : glB sc x = true) (e4 : (x == ("__debug__" : Str)) = false)
    (hk : PK X kws (rdA Y W mk)) (hall : (kws.all fun k => k.1.isSome) = true) (hks : kws.filterMap (·.1) = kn.map T.fnm) (hsh : T.sh i 0 kn sh = true)
    (lk : ∀ ms h l h', mk ms h = .ok l h' → l.length = kn.length) :
    PE X (.Call (.Name x p) [] kws pos) (rdE Y W fun σ h => (mk σ h).bind fun ws h2 => callP C i sh [] ws h2) := by
  refine ⟨fun pins s σ H Q I q => ?_⟩
  obtain ⟨A, fd, h1, h2, F, B⟩ := g.fc.fd i e2
  obtain ⟨a1, a2⟩ := kw_some (env := X.env) (pos := pos) hall
  refine wpAny_Call_Name_kw (ld_glob I (g.gl e3) (e1 ▸ h1) ?_ e4)
  refine PySem.W.callWith_KW0 (h₀ := X.base) I.ok.mod.kin (g.K ▸ h2) a1 ?_ (by rw [a2]; rfl)
  obtain ⟨f, ms, h, r, sr, q⟩ := q
  refine thn (hk.run pos pins s σ H (fun xs H2 => ∃ f2 h2 z, Rl Y.K Y.Z f2 h2 H2 ∧ z.length = kn.length ∧ VRs Y.K f2 h2.size H2 z xs ∧ G Y W σ f2 h2 H2 (callP C i sh [] z h2) fun v f' h' H' => ∀ z, VR Y.K f' h'.size H' v z → Q z H') I
    ⟨f, ms, h, r, sr, q.bind.mono fun l h1 f1 H1 eq e1 r1 g1 xs rx => ⟨f1, h1, l, r1, lk _ _ _ _ eq, rx, g1⟩⟩) fun ws s2 ⟨ys, H2, I2, ry, f2, h2', z, r2, l2, v2, q2⟩ => ⟨I2.kIn, ?_⟩
  rw [kw_names, hks]
  exact call_end g F (B _ kn sh hsh) I2 .nil ry r2 rfl l2 .nil v2 q2

/-! ### built-in ones -/
theorem boot_bif (b : Bif) : bootBuiltins (bName b) = some (bVal b) := by cases b <;> decide +kernel
theorem bName_in (b : Bif) : bName b ∈ btNames := by cases b <;> decide +kernel
theorem bName_ne (b : Bif) : bName b ≠ "__name__" ∧ (bName b == ("__debug__" : Str)) = false := by cases b <;> decide +kernel
theorem hd_star {e : Expr} {es : List Expr} (hs : noStars (e :: es) = true) : isStar e = false ∧ noStars es = true := by
  unfold noStars at hs ⊢
  rw [List.all_cons, Bool.and_eq_true] at hs
  exact ⟨by simpa using hs.1, hs.2⟩
theorem v_args {k : List MV → MH → R MV} {σ : L2.St} {H : Hp} {Q : VK} (q : rdE Y W (fun σ h => (me σ h).bind k) σ H Q) : rdA Y W me σ H fun xs H1 => rC Y k xs H1 Q := by
  obtain ⟨f, ms, h, r, sr, q⟩ := q
  exact ⟨f, ms, h, r, sr, q.bind.mono fun l h1 f1 H1 eq e1 r1 g1 xs rx => ⟨f1, h1, l, r1, rx, W, σ, g1⟩⟩
theorem c_bif (g : Good T Y W C CX lv inB N sc X) (b : Bif) {x : Str} (e1 : x = bName b) (e3 : glB sc x = true) (ha : PA X (e :: es) (rdA Y W me)) (hs : noStars (e :: es) = true) :
    PE X (.Call (.Name x p) (e :: es) [] pos) (rdE Y W fun σ h => (me σ h).bind fun vs h1 => bifM T.P b vs h1) := by
  subst e1
  have rule := call_bif (P := T.P) g.fc.shw g.K g.calm g.gd g.un b
  have n := bName_ne b
  have bb := boot_bif b
  obtain ⟨h1, h2⟩ := hd_star hs
  have hm := g.bt (bName_in b)
  have gl := g.gl e3
  have fin : PE X (.Call (.Name (bName b) p) (e :: es) [] pos) (tCB (rC Y (bifM T.P b)) (rdA Y W me)) := by
    cases b <;> first
      | exact pe_callB rule gl hm bb ha n.1 n.2 (star_cons h1) (star_any h2)
      | exact pe_callTy rule gl hm bb ha n.1 n.2 (star_cons h1) (star_any h2)
  exact fin.conv fun σ H Q q => v_args q
theorem boot_ty {t : Ty} {S : String} (e : tyS t = some S) : bootBuiltins (tName t) = some (.type S) ∧ tName t ∈ btNames ∧ tName t ≠ "__name__" ∧ (tName t == ("__debug__" : Str)) = false := by
  cases t <;> cases e <;> decide +kernel
theorem boot_isi : bootBuiltins "isinstance" = some (.builtin "isinstance") := by decide +kernel
theorem c_isi (g : Good T Y W C CX lv inB N sc X) {t : Ty} {S : String} (et : tyS t = some S) {x y : Str} {py : Pos} (e1 : x = "isinstance") (e2 : glB sc x = true) (e3 : y = tName t) (e4 : glB sc y = true) (ha : PE X a (rdE Y W ma)) (hs : isStar a = false) :
    PE X (.Call (.Name x p) [a, .Name y py] [] pos) (rdE Y W fun σ h => (ma σ h).bind fun x h1 => bR (isiM x t h1) h1) := by
  subst e1 e3
  obtain ⟨b1, b2, b3, b4⟩ := boot_ty et
  have py' : PE X (.Name (tName t) py) (tC (.ty S)) := pe_bltn (g.gl e4) (g.bt b2) b1 rfl b3 b4
  have pa : PA X [a, .Name (tName t) py] (tCons (rdE Y W ma) (tCons (tC (.ty S)) tNil)) := pa_cons ha (pa_cons py' pa_nil) (star_cons hs)
  refine (pe_callB (call_isiM g.K et) (g.gl e2) (g.bt (by decide)) boot_isi pa (by decide) (by decide) (star_cons hs) rfl).conv fun σ H Q q => ?_
  refine (rd_seq q).mono fun x H1 ⟨f1, h1, m, r, rm, g1⟩ => ?_
  exact ⟨f1, h1, m, x, rfl, r, rm, W, σ, g1⟩

/-! ### methods of built-in classes -/
theorem noSup_base {o : Expr} {x : Str} {env : Env} {t : Sem Value} (h : noSup o = true) : attributeBase o x env t = t := by
  unfold attributeBase
  split
  · rename_i id _ _
    unfold noSup at h
    simp only [Bool.not_eq_true'] at h
    have : (id != "super") = true := by rw [bne, h]; rfl
    rw [this]
    rfl
  · rfl
theorem m_facts {m : Nat} {y : Str} (e : mName m = some y) : PlainAttrs (mTy m) ∧ Slot (mTy m) y (mId m) ∧ typeOf (.builtin (mId m)) = pure (.type "method_descriptor") := by
  match m, e with
  | 0, e => cases e; exact ⟨F.plainAttrs_list, F.slot_list_append, F.type_list_append⟩
  | 1, e => cases e; exact ⟨F.plainAttrs_str, F.slot_str_join, F.type_str_join⟩
theorem metK_ty {P : Prog} {m : Nat} {y : Str} {v : MV} {x : V} {k : MK} {h' : MH} (e : mName m = some y) (r : Rl Y.K Y.Z f h H) (rv : VR Y.K f h.size H v x) (ek : metK P m v h = .ok k h') : tyV Y.K (mTy m) x H ∧ k = .bt ∧ h' = h := by
  have hlt : m < 100 := by
    match m, e with
    | 0, _ => decide
    | 1, _ => decide
  unfold metK at ek
  split at ek
  · rename_i n
    obtain ⟨hn, rfl⟩ := rv.ref_inv
    split at ek
    · rw [if_pos hlt] at ek
      cases ek
    · rename_i l en
      obtain ⟨vs, e1, t⟩ := r.ob _ _ en
      split at ek
      · rename_i hm
        cases ek
        subst hm
        exact ⟨.inl ⟨rfl, vs, SqL.of e1⟩, rfl, rfl⟩
      · cases ek
    · cases ek
  · obtain ⟨rfl, _⟩ := rv.str_inv
    split at ek
    · rename_i hm
      cases ek
      subst hm
      exact ⟨rfl, rfl, rfl⟩
    · cases ek
  · cases ek
theorem few_ok {env : Env} {pos : Pos} : ∀ {es : List Expr}, noStars es = true → (backTo pos (starEach es env)).all (fun x => !x.1) = true
  | [], _ => rfl
  | e :: es, h => by
    obtain ⟨a, b⟩ := hd_star h
    rw [star_cons a]
    show (true && (backTo pos (starEach es env)).all (fun x => !x.1)) = true
    rw [few_ok b]
    rfl
theorem c_bm (g : Good T Y W C CX lv inB N sc X) {m : Nat} {y : Str} {ap : Pos} {sh : List Src} (e1 : mName m = some y) (ho : PE X a (rdE Y W ma)) (ha : PA X (e :: es) (rdA Y W me)) (hb : noSup a = true) (hs : noStars (e :: es) = true)
    (hl : (ap.endLine == p.line) = true) (hf : (e :: es).length < 20) : PE X (.Call (.Attribute a y ap) (e :: es) [] p)
    (rdE Y W fun σ h => (ma σ h).bind fun x h1 => (metK T.P m x h1).bind fun k h2 => (me σ h2).bind fun vs h3 => metC C k m sh x vs [] h3) := by
  obtain ⟨pa, sl, ty⟩ := m_facts e1
  obtain ⟨h1, h2⟩ := hd_star hs
  refine (pe_bm pa sl ty (mt_met g.K m) ho ha (noSup_base hb) ?_ hl (star_cons h1) (star_any h2)).conv fun σ H Q q => ?_
  · rw [few_ok hs]
    show (true && true && decide ((e :: es).length + 0 + 0 < 30)) = true
    rw [decide_eq_true (by omega)]
    rfl
  obtain ⟨f, ms, h, r, sr, q⟩ := q
  refine ⟨f, ms, h, r, sr, q.bind.mono fun v h1 f1 H1 eq x1 r1 g1 x rx => ?_⟩
  cases ek : metK T.P m v h1 with
  | ex c l h2 =>
    exfalso
    unfold metK at ek
    split at ek
    · split at ek
      · split at ek
        · cases ek
        · split at ek <;> cases ek
      · split at ek <;> cases ek
      · cases ek
    · split at ek <;> cases ek
    · cases ek
  | stk => rw [ek] at g1; exact g1.elim
  | ok k h2 =>
    obtain ⟨t1, rfl, rfl⟩ := metK_ty e1 r1 rx ek
    rw [ek] at g1
    have g2 : G Y W σ f1 h2 H1 ((me ms h2).bind fun vs h3 => metC C .bt m sh v vs [] h3) fun v f' h' H' => ∀ z, VR Y.K f' h'.size H' v z → Q z H' := g1
    refine ⟨g.K ▸ t1, f1, ms, h2, r1, r.sr x1 sr, g2.bind.mono fun l h3 f3 H3 _ x3 r3 g3 xs rl => ?_⟩
    exact ⟨f3, h3, v, l, r3, r1.vr x3 rx, rl, W, σ, g3⟩

/-! ### text[::-1] -/
theorem pick_all {α : Type} : ∀ m : List α, (List.range m.length).filterMap (fun k => m[k]?) = m
  | [] => rfl
  | x :: xs => by
    rw [List.length_cons, List.range_succ_eq_map]
    show x :: ((List.range xs.length).map Nat.succ).filterMap (fun k => (x :: xs)[k]?) = _
    rw [List.filterMap_map]
    exact congrArg (x :: ·) (pick_all xs)
theorem fm_congr {α β : Type} {f g : α → Option β} : ∀ {l : List α}, (∀ x ∈ l, f x = g x) → l.filterMap f = l.filterMap g
  | [], _ => rfl
  | x :: xs, h => by
    rw [List.filterMap_cons, List.filterMap_cons, h x List.mem_cons_self, fm_congr fun y hy => h y (List.mem_cons_of_mem _ hy)]
theorem pick_rev (l : List Nat) : ((List.range l.length).map fun k => l.length - 1 - k).filterMap (fun k => l[k]?) = l.reverse := by
  have e := pick_all l.reverse
  rw [List.length_reverse] at e
  rw [List.filterMap_map, ← e]
  refine fm_congr fun k hk => ?_
  have hk' : k < l.length := List.mem_range.mp hk
  rw [List.getElem?_reverse hk']
  rfl
theorem c_rev (g : Good T Y W C CX lv inB N sc X) (ha : PE X a (rdE Y W ma)) {k : Nat} {p1 p2 p3 : Pos} : PE X (.Subscript a (.Slice none none (some (.UnaryOp .USub (.Constant (.int 1) k p1) p2)) p3) p) (rdE Y W fun σ h => (ma σ h).bind fun x h1 => revM x h1) := by
  refine ⟨fun pins s σ H Q I q => ?_⟩
  refine Subscript_ (thn (ha.run pins s σ H _ I (rd_seq q)) fun v s1 ⟨x, H1, I1, r1, f1, h1, m, rl, rm, g1⟩ => ?_)
  have part : PO X (some (.UnaryOp .USub (.Constant (.int 1) k p1) p2)) (tPart (tUn (rU fun i => .int (-i)) (tC (.int 1)))) := po_some (pe_un un_neg pe_int)
  refine wpAny_Slice (thn (po_none.run pins s1 σ H1 (fun o H2 => o = none ∧ H2 = H1) I1 ⟨rfl, rfl⟩) fun vl s2 ⟨o1, H2, I2, pl, e1, e2⟩ => thn (po_none.run pins s2 σ H2 (fun o H3 => o = none ∧ H3 = H2) I2 ⟨rfl, rfl⟩) fun vu s3 ⟨o2, H3, I3, pu, e3, e4⟩ => ?_)
  refine thn (part.run pins s3 σ H3 (fun o H4 => o = some (-1) ∧ H4 = H3) I3 ⟨1, rfl, -1, rfl, rfl, rfl⟩) fun vs s4 ⟨o3, H4, I4, ps, e5, e6⟩ => ?_
  subst e1 e2 e3 e4 e5 e6
  cases m with
  | str z =>
    obtain ⟨rfl, tz⟩ := rm.str_inv
    obtain ⟨tk, rfl⟩ := r1
    obtain rfl : vl = .none := by
      cases pl
      rfl
    obtain rfl : vu = .none := by
      cases pu
      rfl
    obtain ⟨tk2, rfl⟩ : ∃ t, vs = .int (-1) t := by
      cases ps
      exact ⟨_, rfl⟩
    have I5 : Inv X pins σ H4 { s4 with heap := s4.heap.push { cls := .type "slice", data := .fields #[.none, .none, .int (-1) tk2] } } := I4.kept (t' := s4.toks) fun b ob q => Heap.get?_push_of_some _ q
    show wpAny (model X.prog X.w) X.A (subscriptTail a (.Slice none none (some (.UnaryOp .USub (.Constant (.int 1) k p1) p2)) p3) (.str ⟨z.toArray⟩ tk) (.ref s4.heap.objs.size)) (EP X pins σ Q) X.xe { s4 with heap := s4.heap.push { cls := .type "slice", data := .fields #[.none, .none, .int (-1) tk2] } }
    refine tail_any (ops := [.str ⟨z.toArray⟩ tk, .ref s4.heap.objs.size]) (typeIs_str _ _ _) F.slot_str_getitem.lookup (wpAny_getItem_str_slice (l := none) (u := none) (st := some (-1, tk2)) ⟨_, Heap.get?_push_size _ rfl, rfl, rfl⟩ rfl ?_) (by with_unfolding_all rfl)
    have es : (⟨(((slicePicked ⟨z.toArray⟩ none none (some (-1, tk2))).filterMap ((⟨z.toArray⟩ : Str).cps[·]?)).toArray)⟩ : Str) = ⟨z.reverse.toArray⟩ := by
      have e1 : slicePicked ⟨z.toArray⟩ none none (some (-1, tk2)) = (List.range z.length).map fun k => z.length - 1 - k := by
        have e2 : (⟨z.toArray⟩ : Str).length = z.length := by show z.toArray.size = _; simp
        show Builtin.Str.strSliceIndices none none (-1) (⟨z.toArray⟩ : Str).length = _
        rw [e2]
        exact PySem.W.krv_sliceRange z.length
      rw [e1]
      congr 2
      rw [← pick_rev z]
      exact fm_congr fun k _ => by simp
    have ed : sliceMade ⟨z.toArray⟩ tk none none (some (-1, tk2)) = .str ⟨z.reverse.toArray⟩ := by
      rw [← es]
      rfl
    rw [ed]
    refine ⟨?_, .str ⟨z.reverse.toArray⟩, H4, I5.tok _, ⟨_, rfl⟩, ?_⟩
    · show z.reverse.toArray.size ≤ _
      simpa using tz.1
    · exact G.ok rl g1 _ (.str ⟨by rw [List.length_reverse]; exact tz.1, fun c hc => tz.2 c (List.mem_reverse.mp hc)⟩)
  | _ => exact g1.elim
end
end DM
set_option Elab.async false
set_option linter.all false
set_option maxRecDepth 100000
set_option maxHeartbeats 4000000
/-! S9: targets, what is walked, comprehensions. -/
namespace DM
open PySem L2 PyProof.Rows PySem.Spec
def Same (own : List Nat) (σ σ' : L2.St) : Prop := σ'.length = σ.length ∧ ∀ j, j ∉ own → σ'[j]? = σ[j]?
theorem Same.refl {own : List Nat} {σ : L2.St} : Same own σ σ := ⟨rfl, fun _ _ => rfl⟩
theorem Same.trans {o1 o2 : List Nat} {σ σ1 σ2 : L2.St} (a : Same o1 σ σ1) (b : Same o2 σ1 σ2) : Same (o1 ++ o2) σ σ2 := ⟨b.1.trans a.1, fun j hj => by
  rw [List.mem_append, not_or] at hj
  exact (b.2 j hj.2).trans (a.2 j hj.1)⟩
def rdG (Y : Ctx) (W : Wish) (m : MV → En → MH → R En) (own : List Nat) : TG := fun v σ H Q => ∃ f ms h a, Rl Y.K Y.Z f h H ∧ SR Y.K f h.size H ms σ ∧ VR Y.K f h.size H a v ∧
  G Y W σ f h H (m a ms h) fun ms' f' h' H' => ∀ σ', SR Y.K f' h'.size H' ms' σ' → Same own σ σ' → Q σ' H'
def NoW : Wish := fun _ _ _ _ => False
def rdGs (Y : Ctx) (m : List MV → En → MH → R En) (own : List Nat) : TGs := fun vs σ H Q => ∃ f ms h l, Rl Y.K Y.Z f h H ∧ SR Y.K f h.size H ms σ ∧ VRs Y.K f h.size H l vs ∧
  G Y NoW σ f h H (m l ms h) fun ms' f' h' H' => ∀ σ', SR Y.K f' h'.size H' ms' σ' → Same own σ σ' → Q σ' H'
theorem _root_.L2.PG.conv {X : Cx} {e : Expr} {t t' : TG} (p : PG X e t) (k : ∀ v σ H Q, t' v σ H Q → t v σ H Q) : PG X e t' := ⟨fun pins s σ H v u Q I r q => p.run pins s σ H v u Q I r (k v σ H Q q)⟩
theorem _root_.L2.PGs.conv {X : Cx} {e : List Expr} {t t' : TGs} (p : PGs X e t) (k : ∀ v σ H Q, t' v σ H Q → t v σ H Q) : PGs X e t' := ⟨fun pins s σ H v u Q I r q => p.run pins s σ H v u Q I r (k v σ H Q q)⟩
section
variable {T : Tab} {Y : Ctx} {W : Wish} {C : Nat → List MV → MH → R MV} {CX : CXT} {lv : Nat} {inB : Bool} {N : List Str} {sc : Scope} {X : Cx}
variable {σ : L2.St} {H : Hp} {f f' : Nat → Addr} {h h' : MH} {ms : En}
variable {a b c e : Expr} {ma mb mc : En → MH → R MV} {p pos : Pos} {es : List Expr} {me mk : En → MH → R (List MV)}

theorem g_nm (g : Good T Y W C CX lv inB N sc X) {i : Nat} {x : Str} (e1 : nmB N i x = true) (e2 : locB inB sc x = true) : PG X (.Name x p) (rdG Y W (setM i) [i]) := by
  unfold nmB at e1
  simp only [Bool.and_eq_true, decide_eq_true_eq, Bool.not_eq_true'] at e1
  obtain ⟨l1, l2⟩ := g.loc e2
  refine (pg_name (i := i) (by rw [g.eN]; exact g.nd) (by rw [g.eN]; exact e1.1.1) l1 l2).conv fun v σ H Q q => ?_
  obtain ⟨f, ms, h, a, r, sr, rv, q⟩ := q
  refine G.ok r q _ (sr.set rv i) ⟨by rw [List.length_set], fun j hj => ?_⟩
  exact List.getElem?_set_ne fun z => hj (by rw [z]; exact List.mem_singleton_self _)
theorem gs_nil : PGs X [] (rdGs Y (fun l σ h => match l with
    | [] => .ok σ h
    | _ => .stk) []) := by
  refine pgs_nil.conv fun v σ H Q q => ?_
  obtain ⟨f, ms, h, l, r, sr, rv, q⟩ := q
  cases l with
  | nil => exact ⟨rv.nil_inv, G.ok r q _ sr .refl⟩
  | cons x xs => exact q.elim
theorem asg_cons {e : Expr} {es : List Expr} {env : Env} (h : isStar e = false) : (assignEach (e :: es) env).map (·.2) = assign e env :: (assignEach es env).map (·.2) := by
  cases e <;> first | rfl | cases h
theorem gs_cons {m1 : MV → En → MH → R En} {m2 : List MV → En → MH → R En} {o1 o2 : List Nat} (h1 : PG X e (rdG Y W m1 o1)) (h2 : PGs X es (rdGs Y m2 o2)) (hs : isStar e = false) : PGs X (e :: es) (rdGs Y (fun l σ h => match l with
    | [] => .stk
    | v :: vs => (m1 v σ h).bind fun σ1 h1 => m2 vs σ1 h1) (o1 ++ o2)) := by
  refine (pgs_cons h1 h2 (asg_cons hs)).conv fun v σ H Q q => ?_
  obtain ⟨f, ms, h, l, r, sr, rv, q⟩ := q
  cases l with
  | nil => exact q.elim
  | cons x xs =>
    obtain ⟨y, ys, rfl, r1, r2⟩ := rv.cons_inv
    refine ⟨y, ys, rfl, f, ms, h, x, r, sr, r1, G.wish (q.bind.mono fun ms1 h1 f1 H1 eq x1 rl1 g1 σ1 sr1 sm1 => ?_) fun c d H' z => z.elim⟩
    exact ⟨f1, ms1, h1, xs, rl1, sr1, r.vrs x1 r2, (g1.mono fun ms2 h2 f2 H2 eq2 x2 rl2 g2 σ2 sr2 sm2 => g2 σ2 sr2 (sm1.trans sm2)).wish fun c d H' z => z.elim⟩
theorem asg_len {env : Env} : ∀ {es : List Expr}, (assignEach es env).length = es.length
  | [] => rfl
  | e :: es => by
    have := asg_len (env := env) (es := es)
    cases e <;> exact congrArg Nat.succ this
theorem asg_none {env : Env} : ∀ {es : List Expr}, noStars es = true → (assignEach es env).findIdx? (·.1) = none
  | [], _ => rfl
  | e :: es, h => by
    obtain ⟨a, b⟩ := hd_star h
    have ih := asg_none (env := env) b
    have e1 : assignEach (e :: es) env = (false, assign e env) :: assignEach es env := by cases e <;> first | rfl | cases a
    rw [e1, List.findIdx?_cons, ih]
    rfl
theorem g_tup (g : Good T Y W C CX lv inB N sc X) {m : List MV → En → MH → R En} {own : List Nat} {k : Nat} (h1 : PGs X es (rdGs Y m own)) (hs : noStars es = true) (hl : ∀ l ms h σ' h', m l ms h = .ok σ' h' → l.length = es.length) :
    PG X (.Tuple es k p) (rdG Y W (fun v σ h => match v with
      | .tup vs => (m vs σ h).noEx
      | _ => .stk) own) := by
  refine (pg_tup g.calm h1 asg_len (asg_none hs)).conv fun v σ H Q q => ?_
  obtain ⟨f, ms, h, a, r, sr, rv, q⟩ := q
  cases a with
  | tup vs =>
    obtain ⟨p, xs, rfl, sq, t⟩ := rv.tup_inv
    refine ⟨p, xs, rfl, g.K ▸ sq, ?_, f, ms, h, vs, r, sr, t, ?_⟩
    · rw [← t.length]
      have q : G Y W σ f h H (m vs ms h).noEx _ := q
      cases hm : m vs ms h with
      | ok a h1 => exact hl vs ms h a h1 hm
      | ex c l h1 => rw [hm] at q; exact q.elim
      | stk => rw [hm] at q; exact q.elim
    · have q : G Y W σ f h H (m vs ms h).noEx _ := q
      cases hm : m vs ms h with
      | ok a h1 => rw [hm] at q; exact q
      | ex c l h1 => rw [hm] at q; exact q.elim
      | stk => rw [hm] at q; exact q.elim
  | _ => exact q.elim

/-! ### o[i] = v -/
def rSI (Y : Ctx) : TSet := fun o i v H Q => ∃ f h a b c, Rl Y.K Y.Z f h H ∧ VR Y.K f h.size H a o ∧ VR Y.K f h.size H b i ∧ VR Y.K f h.size H c v ∧ GP Y f h H (setI a b c h) fun _ _ _ H' => Q H'
theorem Ext.put {H : Hp} {n N : Nat} {u : HO} (hn : n < N) : Ext f N H f N (upd H (f n) u) := ⟨Nat.le_refl _, fun _ _ => rfl, fun a o q hq => by rw [upd_ne (fun z => hq n hn z.symm)]; exact q, fun m h1 h2 => absurd h2 (by omega), fun a q => by
    by_cases z : a = f n
    · rw [z, upd_same] at q; cases q
    · rw [upd_ne z] at q; exact q⟩
theorem set_setI : PSet X (rSI Y) := by
  intro pins s σ H o i v ov iv u Q I ro ri rv ⟨f, h, a, b, c, r, ra, rb, rc, g⟩
  unfold setI at g
  split at g
  · rename_i n
    obtain ⟨hn, rfl⟩ := ra.ref_inv
    split at g
    · rename_i l en
      obtain ⟨vs, e1, t⟩ := r.ob _ _ en
      split at g
      · rename_i k
        cases rb.int_inv
        split at g
        · rename_i j ej
          refine set_list pins s σ H _ _ _ ov iv u Q I ro ri rv ⟨f n, vs, k, j, rfl, rfl, e1, by rw [← ixN_eq, ← t.length]; exact ej, ?_⟩
          have hv := (r.vrs (Ext.put (u := .lst (vs.set j v)) hn) t).set (r.vr (Ext.put (u := .lst (vs.set j v)) hn) rc) j
          obtain ⟨ex', rl'⟩ := r.put (o' := .lst (l.set j c)) (u := .lst (vs.set j v)) en (fun _ q => by cases q) ⟨_, upd_same, hv⟩
          exact g.app ex' rl'
        · exact g.elim
      · exact g.elim
    · rename_i l en
      exact (r.ob _ _ en).elim
    · exact g.elim
  · exact g.elim
theorem g_sub (g : Good T Y W C CX lv inB N sc X) (ha : PE X a (rdE Y W ma)) (hb : PE X b (rdE Y W mb)) (hs : isSlice b = false) :
    PG X (.Subscript a b p) (rdG Y W (fun v σ h => (ma σ h).bind fun x h1 => (mb σ h1).bind fun y h2 => (setI x y v h2).bind fun _ h3 => .ok σ h3) []) := by
  refine (pg_sub ha hb (set_setI (Y := Y)) ?_).conv fun v σ H Q q => ?_
  · intro v
    cases b <;> first | rfl | skip
    rename_i l u st pp
    cases st
    · cases hs
    · rfl
  obtain ⟨f, ms, h, w, r, sr, rv, q⟩ := q
  refine ⟨f, ms, h, r, sr, q.bind.mono fun x h1 f1 H1 _ x1 r1 g1 o ro => ?_⟩
  have sr1 := r.sr x1 sr
  refine ⟨f1, ms, h1, r1, sr1, g1.bind.mono fun y h2 f2 H2 _ x2 r2 g2 i ri => ?_⟩
  have sr2 := r1.sr x2 sr1
  refine ⟨f2, h2, x, y, w, r2, r1.vr x2 ro, ri, r2.vr (.refl _ _ _) (r1.vr x2 (r.vr x1 rv)), W, σ, g2.bind.mono fun _ h3 f3 H3 _ x3 r3 g3 => ?_⟩
  exact G.ok r3 g3 σ (r2.sr x3 sr2) .refl

/-! ### what is walked -/
def Walk (K : PySem.W.Frag) (J : L2.It) (vs : List V) (H : Hp) : Prop := ∀ H', Fx K H H' → ∀ i, (i < vs.length → J.go i H') ∧ (vs.length ≤ i → J.stop i H') ∧ ∀ x H2, i < vs.length → J.yld i H' x H2 → H2 = H' ∧ vs[i]? = some x
def JR (K : PySem.W.Frag) (f : Nat → Addr) (N : Nat) (H : Hp) (t : DM.It) (J : L2.It) : Prop := match t with
  | .live n => n < N ∧ J = Itl K (f n)
  | .items l => ∃ vs, VRs K f N H l vs ∧ Walk K J vs H
theorem JR.step {t : DM.It} {J : L2.It} {i : Nat} {o : Option MV} {H0 : Hp} {f0 : Nat → Addr} {h0 : MH} (j : JR Y.K f0 h0.size H0 t J) (r0 : Rl Y.K Y.Z f0 h0 H0) (x : Ext f0 h0.size H0 f h.size H) (r : Rl Y.K Y.Z f h H) (e : t.at h i = some o) :
    match o with
      | none => J.stop i H
      | some v => J.go i H ∧ ∀ y H', J.yld i H y H' → H' = H ∧ VR Y.K f h.size H v y := by
  cases t with
  | live n =>
    obtain ⟨hn, rfl⟩ := j
    have hn' : n < h.size := Nat.lt_of_lt_of_le hn x.sz
    unfold It.at at e
    simp only at e
    cases e1 : listOf h (.ref n) with
    | none => rw [e1] at e; cases e
    | some l =>
      rw [e1] at e
      obtain ⟨p, vs, ep, sq, t⟩ := listOf_sq r (.ref hn') e1
      cases ep
      rw [x.ag n hn] at sq
      have e2 : l[i]? = o := Option.some.inj e
      cases o with
      | none =>
        have : l.length ≤ i := List.getElem?_eq_none_iff.mp e2
        exact ⟨vs, sq, by rw [← t.length]; exact this⟩
      | some v =>
        obtain ⟨y, e3, rv⟩ := t.get e2
        refine ⟨⟨vs, y, sq, e3⟩, fun z H' q => ⟨q.1, ?_⟩⟩
        have := q.2 vs sq
        rw [e3] at this
        cases this
        exact rv
  | items l =>
    obtain ⟨vs, t, w⟩ := j
    have e2 : l[i]? = o := Option.some.inj e
    have t' := r0.vrs x t
    obtain ⟨w1, w2, w3⟩ := w H (r0.text x) i
    cases o with
    | none =>
      have : l.length ≤ i := List.getElem?_eq_none_iff.mp e2
      exact w2 (by rw [← t.length]; exact this)
    | some v =>
      have hi : i < vs.length := by rw [← t.length]; exact (List.getElem?_eq_some_iff.mp e2).1
      refine ⟨w1 hi, fun y H' q => ?_⟩
      obtain ⟨q1, q2⟩ := w3 y H' hi q
      obtain ⟨z, e3, rv⟩ := t'.get e2
      rw [e3] at q2
      cases q2
      exact ⟨q1, rv⟩
def rdI (Y : Ctx) (W : Wish) (m : En → MH → R DM.It) : TI := fun σ H R => ∃ f ms h, Rl Y.K Y.Z f h H ∧ SR Y.K f h.size H ms σ ∧ G Y W σ f h H (m ms h) fun t f' h' H' => ∀ J, JR Y.K f' h'.size H' t J → R J H'
theorem _root_.L2.PI.conv {X : Cx} {tg e : Expr} {t t' : TI} (p : PI X tg e t) (k : ∀ σ H R, t' σ H R → t σ H R) : PI X tg e t' := ⟨fun pins s σ H R I q => p.run pins s σ H R I (k σ H R q)⟩
theorem _root_.L2.PI.or {X : Cx} {tg e : Expr} {t t' : TI} (p : PI X tg e t) (q : PI X tg e t') : PI X tg e fun σ H R => t σ H R ∨ t' σ H R := ⟨fun pins s σ H R I z => by
  rcases z with z | z
  · exact p.run pins s σ H R I z
  · exact q.run pins s σ H R I z⟩
theorem walk_l {K : PySem.W.Frag} {a : Addr} {vs : List V} (s : KLs K H a vs) : Walk K (Itl K a) vs H := by
  intro H' fx i
  have s' := (fx.l a vs s).sq
  refine ⟨fun hi => ⟨vs, vs[i], s', List.getElem?_eq_getElem hi⟩, fun hi => ⟨vs, s', hi⟩, fun x H2 hi q => ⟨q.1, q.2 vs s'⟩⟩
theorem walk_t {K : PySem.W.Frag} {a : Addr} {vs : List V} (s : SqT K H a vs) : Walk K (Itt K a) vs H := by
  intro H' fx i
  have s' := fx.t a vs s
  refine ⟨fun hi => ⟨vs, vs[i], s', List.getElem?_eq_getElem hi⟩, fun hi => ⟨vs, s', hi⟩, fun x H2 hi q => ⟨q.1, q.2 vs s'⟩⟩
theorem i_ex (g : Good T Y W C CX lv inB N sc X) {tg : Expr} (ha : PE X a (rdE Y W ma)) : PI X tg a (rdI Y W fun σ h => (ma σ h).bind fun x h1 => itM x h1) := by
  refine ((pi_list ha).or ((pi_tup ha).or (pi_str ha))).conv fun σ H R q => ?_
  obtain ⟨f, ms, h, r, sr, q⟩ := q
  have q1 := q.bind
  cases hm : ma ms h with
  | stk => rw [hm] at q1; exact q1.elim
  | ex c l h1 =>
    rw [hm] at q1
    refine .inl ⟨f, ms, h, r, sr, ?_⟩
    rw [hm]
    exact q1
  | ok v h1 =>
    rw [hm] at q1
    have up : ∀ {Q : VK}, (∀ f1 H1, Ext f h.size H f1 h1.size H1 → Rl Y.K Y.Z f1 h1 H1 → G Y W σ f1 h1 H1 (itM v h1) (fun t f' h' H' => ∀ J, JR Y.K f' h'.size H' t J → R J H') → ∀ x, VR Y.K f1 h1.size H1 v x → Q x H1) → rdE Y W ma σ H Q := by
      intro Q k
      refine ⟨f, ms, h, r, sr, ?_⟩
      rw [hm]
      exact fun f1 H1 x1 r1 => k f1 H1 x1 r1 (q1 f1 H1 x1 r1)
    cases v with
    | ref n =>
      refine .inl (up fun f1 H1 x1 r1 g1 x rx => ?_)
      unfold itM itOf at g1
      simp only at g1
      cases e1 : listOf h1 (.ref n) with
      | none => rw [e1] at g1; exact g1.elim
      | some l =>
        rw [e1] at g1
        obtain ⟨p, vs, rfl, sq, t⟩ := listOf_sq r1 rx e1
        obtain ⟨hn, e2⟩ := rx.ref_inv
        cases e2
        exact ⟨_, rfl, ⟨vs, g.K ▸ sq⟩, g.K ▸ G.ok r1 g1 _ ⟨hn, rfl⟩⟩
    | kl l =>
      refine .inl (up fun f1 H1 x1 r1 g1 x rx => ?_)
      obtain ⟨p, vs, rfl, sq, t⟩ := rx.kl_inv
      exact ⟨_, rfl, ⟨vs, g.K ▸ sq.sq⟩, g.K ▸ G.ok r1 g1 _ ⟨vs, t, walk_l sq⟩⟩
    | tup l =>
      refine .inr (.inl (up fun f1 H1 x1 r1 g1 x rx => ?_))
      obtain ⟨p, vs, rfl, sq, t⟩ := rx.tup_inv
      exact ⟨_, rfl, ⟨vs, g.K ▸ sq⟩, g.K ▸ G.ok r1 g1 _ ⟨vs, t, walk_t sq⟩⟩
    | str z =>
      refine .inr (.inr (up fun f1 H1 x1 r1 g1 x rx => ?_))
      obtain ⟨rfl, t⟩ := rx.str_inv
      refine ⟨_, rfl, G.ok r1 g1 _ ⟨_, VRs.signs t, fun H' fx i => ?_⟩⟩
      rw [List.length_map]
      have es : (⟨z.toArray⟩ : Str).cps.size = z.length := by simp
      refine ⟨fun hi => by show i < (⟨z.toArray⟩ : Str).cps.size; rw [es]; exact hi, fun hi => by show (⟨z.toArray⟩ : Str).cps.size ≤ i; rw [es]; exact hi, fun x H2 hi q => ⟨q.1, ?_⟩⟩
      obtain ⟨c, e1, rfl⟩ := q.2
      have e2 : z[i]? = some c := by simpa using e1
      rw [List.getElem?_map, e2]
      rfl
    | _ => exact .inl (up fun f1 H1 x1 r1 g1 x rx => g1.elim)
theorem walk_r {K : PySem.W.Frag} {lo : Int} {n : Nat} : Walk K (Itr lo n) ((List.range n).map fun k : Nat => V.int (lo + k)) H := by
  intro H' fx i
  rw [List.length_map, List.length_range]
  refine ⟨fun hi => hi, fun hi => hi, fun x H2 hi q => ⟨q.1, ?_⟩⟩
  rw [List.getElem?_map, List.getElem?_range hi, q.2]
  rfl
theorem VRs.rng {K : PySem.W.Frag} {f : Nat → Addr} {N : Nat} {H : Hp} (lo : Int) : ∀ l : List Nat, VRs K f N H (l.map fun k : Nat => MV.int (lo + k)) (l.map fun k : Nat => V.int (lo + k))
  | [] => .nil
  | _ :: r => .cons .int (VRs.rng lo r)
theorem oi_inv {x : MV} {i : Int} (e : oi x = some i) : x = .int i ∧ -4611686018427387904 ≤ i ∧ i < 4611686018427387904 := by
  cases x <;> first | cases e | skip
  rename_i j
  unfold oi at e
  simp only at e
  split at e
  · rename_i h
    cases e
    exact ⟨rfl, h⟩
  · cases e
theorem rngM_inv {x y : MV} {h : MH} {t : DM.It} {h' : MH} (e : rngM x y h = .ok t h') : ∃ m n : Int, x = .int m ∧ y = .int n ∧ (-(2 ^ 62) ≤ m ∧ m < 2 ^ 62 ∧ -(2 ^ 62) ≤ n ∧ n < 2 ^ 62) ∧ t = .items (rngL m n) ∧ h' = h := by
  unfold rngM at e
  split at e
  · rename_i m n e1 e2
    split at e
    · cases e
      obtain ⟨rfl, a1, a2⟩ := oi_inv e1
      obtain ⟨rfl, b1, b2⟩ := oi_inv e2
      exact ⟨_, _, rfl, rfl, by omega, rfl, rfl⟩
    · cases e
  · cases e
theorem rngM_noex {x y : MV} {h : MH} {c : Nat} {l : List MV} {h' : MH} (e : rngM x y h = .ex c l h') : False := by
  unfold rngM at e
  split at e
  · split at e <;> cases e
  · cases e
theorem jr_rng {m n : Int} {f : Nat → Addr} {N : Nat} {H : Hp} : JR Y.K f N H (.items (rngL m n)) (Itr m (n - m).toNat) := ⟨_, VRs.rng m (List.range (n - m).toNat), walk_r⟩
theorem i_rng (g : Good T Y W C CX lv inB N sc X) {tg : Expr} {x : Str} (e1 : x = "range") (e2 : glB sc x = true) (ha : PE X a (rdE Y W ma)) (hs : isStar a = false) : PI X tg (.Call (.Name x p) [a] [] pos) (rdI Y W fun σ h => (ma σ h).bind fun x h1 => rngM (.int 0) x h1) := by
  subst e1
  refine (pi_range1 (g.gl e2) (g.bt (by decide)) (pa_cons ha pa_nil (star_cons hs)) (star_cons hs)).conv fun σ H R q => ?_
  obtain ⟨f, ms, h, r, sr, q⟩ := q
  refine ⟨f, ms, h, r, sr, q.bind.mono fun v h1 f1 H1 _ x1 r1 g1 x rx => ?_⟩
  cases hm : rngM (.int 0) v h1 with
  | stk => rw [hm] at g1; exact g1.elim
  | ex c l h2 => exact (rngM_noex hm).elim
  | ok t h2 =>
    rw [hm] at g1
    obtain ⟨m, n, em, rfl, ⟨b1, b2, b3, b4⟩, rfl, rfl⟩ := rngM_inv hm
    cases em
    refine ⟨n, by rw [rx.int_inv], b3, b4, ?_⟩
    have e : n.toNat = (n - 0).toNat := by omega
    rw [e]
    exact G.ok r1 g1 _ jr_rng
theorem i_rng2 (g : Good T Y W C CX lv inB N sc X) {tg : Expr} {x : Str} (e1 : x = "range") (e2 : glB sc x = true) (ha : PE X a (rdE Y W ma)) (hs : isStar a = false) (hb : PE X b (rdE Y W mb)) (ht : isStar b = false) :
    PI X tg (.Call (.Name x p) [a, b] [] pos) (rdI Y W fun σ h => (ma σ h).bind fun x h1 => (mb σ h1).bind fun y h2 => rngM x y h2) := by
  subst e1
  have sb : starEach [b] X.env = [(false, eval b X.env)] := star_cons ht
  have sa : starEach [a, b] X.env = [(false, eval a X.env), (false, eval b X.env)] := by rw [star_cons hs, sb]
  refine (pi_range2 (g.gl e2) (g.bt (by decide)) (pa_cons ha (pa_cons hb pa_nil (star_cons ht)) (star_cons hs)) sa sb).conv fun σ H R q => ?_
  obtain ⟨f, ms, h, r, sr, q⟩ := q
  refine ⟨f, ms, h, r, sr, q.bind.mono fun v h1 f1 H1 _ x1 r1 g1 x rx => ?_⟩
  refine ⟨f1, ms, h1, r1, r.sr x1 sr, g1.bind.mono fun w h2 f2 H2 _ x2 r2 g2 y ry => ?_⟩
  cases hm : rngM v w h2 with
  | stk => rw [hm] at g2; exact g2.elim
  | ex c l h3 => exact (rngM_noex hm).elim
  | ok t h3 =>
    rw [hm] at g2
    obtain ⟨m, n, rfl, rfl, b, rfl, rfl⟩ := rngM_inv hm
    exact ⟨m, n, by rw [rx.int_inv, ry.int_inv], b, G.ok r2 g2 _ jr_rng⟩

/-! ### comprehensions -/
theorem Rl.fxD (r : Rl Y.K Y.Z f h H) {D : Addr} {vs : List V} {u : HO} (hD : H D = some (.lst vs)) : Fx Y.K H (upd H D u) := by
  refine ⟨?_, ?_⟩
  · rintro a xs ((q | ⟨o, q⟩) | q)
    · have : a ≠ D := fun z => by rw [z, hD] at q; cases q
      exact .inl (.inl (by rw [upd_ne this]; exact q))
    · have : a ≠ D := fun z => by rw [z, hD] at q; cases q
      exact .inl (.inr ⟨o, by rw [upd_ne this]; exact q⟩)
    · exact .inr q
  · rintro a xs (⟨o, q⟩ | q)
    · have : a ≠ D := fun z => by rw [z, hD] at q; cases q
      exact .inl ⟨o, by rw [upd_ne this]; exact q⟩
    · exact .inr q
theorem Rl.updD (r : Rl Y.K Y.Z f h H) {D : Addr} {vs : List V} {u : HO} (hD : H D = some (.lst vs)) (hn : ∀ n, n < h.size → f n ≠ D) : Rl Y.K Y.Z f h (upd H D u) := by
  have mv := r.fxD (u := u) hD
  refine ⟨fun n o q => ?_, r.inj⟩
  have q2 := r.ob n o q
  have hne := hn n (MH.get_lt q)
  cases o with
  | lst l => obtain ⟨vs, e1, e2⟩ := q2; exact ⟨vs, by rw [upd_ne hne]; exact e1, VRs.mono (Nat.le_refl _) (fun _ _ => rfl) mv _ _ e2⟩
  | ins c fs => obtain ⟨dx, gs, e1, e2⟩ := q2; exact ⟨dx, gs, by rw [upd_ne hne]; exact e1, FRs.mono (Nat.le_refl _) (fun _ _ => rfl) mv _ _ e2⟩
  | dct l => exact q2.elim
  | set l => exact q2.elim
/-- the list gets its number -/
theorem Rl.name (r : Rl Y.K Y.Z f h H) {D : Addr} {l : List MV} {vs : List V} (hD : H D = some (.lst vs)) (hn : ∀ n, n < h.size → f n ≠ D) (t : VRs Y.K f h.size H l vs) : Rl Y.K Y.Z (nxt f h.size D) (h.push (.lst l)) H := by
  have up : ∀ {l : List MV} {vs : List V}, VRs Y.K f h.size H l vs → VRs Y.K (nxt f h.size D) (h.size + 1) H l vs := fun {l vs} t => VRs.mono (Nat.le_succ _) (fun n hn => nxt_lt hn) ⟨fun _ _ z => z, fun _ _ z => z⟩ _ _ t
  refine ⟨fun n x q => ?_, fun n m h1 h2 e => ?_⟩
  · have hn' : n < h.size + 1 := by rw [← MH.size_push h (.lst l)]; exact MH.get_lt q
    rw [MH.size_push]
    by_cases z : n = h.size
    · subst z
      rw [MH.get_push_size] at q
      cases q
      rw [nxt_at]
      exact ⟨vs, hD, up t⟩
    · have hn2 : n < h.size := by omega
      rw [MH.get_push_lt hn2] at q
      rw [nxt_lt hn2]
      have q2 := r.ob n x q
      cases x with
      | lst l => obtain ⟨vs, e1, e2⟩ := q2; exact ⟨vs, e1, up e2⟩
      | ins c fs => obtain ⟨dx, gs, e1, e2⟩ := q2; exact ⟨dx, gs, e1, FRs.mono (Nat.le_succ _) (fun n hn => nxt_lt hn) ⟨fun _ _ z => z, fun _ _ z => z⟩ _ _ e2⟩
      | dct l => exact q2.elim
      | set l => exact q2.elim
  · rw [MH.size_push] at h1 h2
    by_cases z1 : n = h.size
    · by_cases z2 : m = h.size
      · rw [z1, z2]
      · exfalso
        have hm : m < h.size := by omega
        rw [z1, nxt_at, nxt_lt hm] at e
        exact hn m hm e.symm
    · have hn2 : n < h.size := by omega
      by_cases z2 : m = h.size
      · exfalso
        rw [z2, nxt_at, nxt_lt hn2] at e
        exact hn n hn2 e
      · have hm : m < h.size := by omega
        rw [nxt_lt hn2, nxt_lt hm] at e
        exact r.inj n m hn2 hm e
theorem SR.wipe {K : PySem.W.Frag} {N : Nat} (x : SR K f N H ms σ) : ∀ own : List Nat, SR K f N H (DM.wipe ms own) (L2.wipe σ own)
  | [] => x
  | i :: r => (SR.wipe x r).wipe1 i
theorem wipe_get {σ : L2.St} {j : Nat} : ∀ {vs : List Nat}, (L2.wipe σ vs)[j]? = if j ∈ vs then (if j < σ.length then some none else none) else σ[j]?
  | [] => by simp [L2.wipe]
  | v :: vs => by
    have ih := wipe_get (σ := σ) (j := j) (vs := vs)
    unfold L2.wipe
    by_cases hv : v = j
    · subst hv
      rw [if_pos List.mem_cons_self]
      by_cases hl : v < σ.length
      · rw [if_pos hl, List.getElem?_set_self (by rw [wipe_length]; exact hl)]
      · rw [if_neg hl, List.getElem?_eq_none (by rw [List.length_set, wipe_length]; omega)]
    · rw [List.getElem?_set_ne hv, ih]
      have e : (j ∈ v :: vs) ↔ j ∈ vs := by
        rw [List.mem_cons]
        exact ⟨fun q => q.resolve_left fun z => hv z.symm, .inr⟩
      by_cases hj : j ∈ vs
      · rw [if_pos hj, if_pos (e.mpr hj)]
      · rw [if_neg hj, if_neg fun q => hj (e.mp q)]
theorem wipe_same {σ σ' : L2.St} {vs o : List Nat} (s : Same o (L2.wipe σ vs) σ') (ho : ∀ j ∈ o, j ∈ vs) : L2.wipe σ' vs = L2.wipe σ vs := by
  refine List.ext_getElem? fun j => ?_
  have hl : σ'.length = σ.length := by rw [s.1, wipe_length]
  rw [wipe_get, wipe_get, hl]
  by_cases hj : j ∈ vs
  · rw [if_pos hj, if_pos hj]
  · rw [if_neg hj, if_neg hj, s.2 j (fun z => hj (ho j z)), wipe_get, if_neg hj]
end
end DM
set_option Elab.async false
set_option linter.all false
set_option maxRecDepth 100000
set_option maxHeartbeats 4000000
/-! S10: comprehensions, statements. -/
namespace DM
open PySem L2 PyProof.Rows PySem.Spec
section
variable {T : Tab} {Y : Ctx} {W : Wish} {C : Nat → List MV → MH → R MV} {CX : CXT} {lv : Nat} {inB : Bool} {N : List Str} {sc : Scope} {X : Cx}
variable {σ : L2.St} {H H' : Hp} {f f' : Nat → Addr} {h h' : MH} {ms : En}
variable {a b c e : Expr} {ma mb mc : En → MH → R MV} {p pos : Pos} {es : List Expr} {me mk : En → MH → R (List MV)}
theorem noEx_ok {α : Type} {r : R α} {a : α} {h : MH} (e : r.noEx = .ok a h) : r = .ok a h := by
  cases r <;> first | exact e | cases e
theorem noEx_no {α : Type} {r : R α} {c : Nat} {l : List MV} {h : MH} (e : r.noEx = .ex c l h) : False := by
  cases r <;> cases e
theorem lcl_noex {body : MV → MH → R (Option MV)} {t : DM.It} (hb : ∀ v h c l h', body v h ≠ .ex c l h') : ∀ (n i : Nat) (acc : List MV) (h : MH) (c : Nat) (l : List MV) (h' : MH), lcl body t n i acc h ≠ .ex c l h'
  | 0, i, acc, h, c, l, h', e => by
    unfold lcl at e
    split at e <;> cases e
  | n + 1, i, acc, h, c, l, h', e => by
    unfold lcl at e
    split at e
    · cases e
    · rename_i v _
      cases hv : body v h with
      | ex c l h2 => exact hb v h c l h2 hv
      | stk => rw [hv] at e; cases e
      | ok o h2 =>
        rw [hv] at e
        have e : (match o with
          | some x => if acc.length < LIM then lcl body t n (i + 1) (acc ++ [x]) h2 else .stk
          | none => lcl body t n (i + 1) acc h2) = .ex c l h' := e
        split at e
        · split at e
          · exact lcl_noex hb n _ _ _ _ _ _ e
          · cases e
        · exact lcl_noex hb n _ _ _ _ _ _ e
    · cases e
theorem Ext.keepD {N N' : Nat} (x : Ext f N H f' N' H') {D : Addr} {o : HO} (hD : H D = some o) (hn : ∀ n, n < N → f n ≠ D) : H' D = some o ∧ ∀ n, n < N' → f' n ≠ D := by
  refine ⟨x.fr D o hD hn, fun n h2 z => ?_⟩
  by_cases hc : n < N
  · exact hn n hc (by rw [← x.ag n hc]; exact z)
  · have := x.nw n (by omega) h2
    rw [z, hD] at this
    cases this
theorem Ext.updD {N N' : Nat} (x : Ext f N H f' N' H') {D : Addr} {u : HO} (hD : H D = none) : Ext f N H f' N' (upd H' D u) := ⟨x.sz, x.ag, fun a o q hq => by
  rw [upd_ne (ne_of_none q hD)]
  exact x.fr a o q hq, x.nw, fun a q => by
    by_cases z : a = D
    · rw [z]; exact hD
    · rw [upd_ne z] at q; exact x.dm a q⟩
theorem v_lc {mi : En → MH → R DM.It} {mg : MV → En → MH → R En} {mt : En → MH → R Bool} {mx : En → MH → R MV} {o own : List Nat} (ho : ∀ j ∈ o, j ∈ own) {σ : L2.St} {H : Hp} {Q : VK}
    (q : rdE Y W (lcM mi mg mt mx own) σ H Q) : tLc (rdI Y W mi) (rdG Y NoW mg o) (rdT Y NoW mt) (rdE Y NoW mx) own σ H Q := by
  obtain ⟨f, ms, h, r, sr, q⟩ := q
  unfold lcM at q
  refine ⟨f, ms, h, r, sr, q.bind.mono fun t h1 f1 H1 _ x1 r1 g1 J j D hD => ?_⟩
  have sr1 := r.sr x1 sr
  cases hlen : t.len h1 with
  | none => rw [hlen] at g1; exact g1.elim
  | some n =>
    rw [hlen] at g1
    simp only at g1
    cases e : lcl (lcB mg mt mx own ms) t n 0 [] h1 with
    | stk => rw [e] at g1; exact g1.elim
    | ex c l h2 => exact (lcl_noex (fun v h c l h' e => noEx_no e) _ _ _ _ _ _ _ e).elim
    | ok l h2 =>
      rw [e] at g1
      have g1 : G Y W σ f1 h1 H1 (newList h2 l) _ := g1
      have fin : ∀ (f : Nat → Addr) (H : Hp) (aV : List V), Ext f1 h1.size H1 f h2.size H → Rl Y.K Y.Z f h2 H → (∀ n, n < h2.size → f n ≠ D) → H D = some (.lst aV) → VRs Y.K f h2.size H l aV → Q (.ref D) H := by
        intro f H aV x r hn hd rv
        unfold newList at g1
        split at g1
        · have ex : Ext f1 h1.size H1 (nxt f h2.size D) (h2.push (.lst l)).size H := by
            rw [MH.size_push]
            refine ⟨Nat.le_succ_of_le x.sz, fun n hl => (nxt_lt (Nat.lt_of_lt_of_le hl x.sz)).trans (x.ag n hl), x.fr, fun n l1 l2 => ?_, x.dm⟩
            by_cases z : n = h2.size
            · rw [z, nxt_at]; exact hD
            · rw [nxt_lt (by omega)]
              exact x.nw n l1 (by omega)
          refine g1 _ _ ex (r.name hd hn rv) _ ?_
          have e3 : nxt f h2.size D h2.size = D := nxt_at
          have := VR.ref (K := Y.K) (f := nxt f h2.size D) (H := H) (N := (h2.push (.lst l)).size) (n := h2.size) (by rw [MH.size_push]; omega)
          rwa [e3] at this
        · exact g1.elim
      refine ⟨fun i m H' => ∃ f h acc aV, Ext f1 h1.size H1 f h.size H' ∧ Rl Y.K Y.Z f h H' ∧ (∀ n, n < h.size → f n ≠ D) ∧ H' D = some (.lst aV) ∧ VRs Y.K f h.size H' acc aV ∧ lcl (lcB mg mt mx own ms) t m i acc h = .ok l h2,
        ⟨n, f1, h1, [], [], Ext.aside hD, r1.aside hD, fun k hk z => (r1.named hk).2.2 (z ▸ hD), upd_same, .nil, e⟩, ?_⟩
      rintro i m H' ⟨f, h, acc, aV, x, r, hn, hd, rv, el⟩
      have stop : t.at h i = some none → acc = l → h = h2 → J.stop i H' ∧ Q (.ref D) H' := fun ea e1 e2 => by
        subst e1 e2
        exact ⟨j.step r1 x r ea, fin f H' aV x r hn hd rv⟩
      cases m with
      | zero =>
        unfold lcl at el
        split at el
        · rename_i ea
          cases el
          exact .inl (stop ea rfl rfl)
        · cases el
      | succ m =>
        unfold lcl at el
        split at el
        · rename_i ea
          cases el
          exact .inl (stop ea rfl rfl)
        · rename_i v ea
          obtain ⟨go, yl⟩ := j.step r1 x r ea
          obtain ⟨ov, h5, e5, el⟩ := bind_ok el
          have e5 := noEx_ok e5
          obtain ⟨ms3, h3, ea3, e5⟩ := bind_ok e5
          obtain ⟨bt, h4, eb4, e5⟩ := bind_ok e5
          refine .inr ⟨go, _, fun H'' w => ⟨m, Nat.lt_succ_self m, w⟩, fun y H'' yy => ?_⟩
          obtain ⟨rfl, ry⟩ := yl y H'' yy
          refine ⟨f, DM.wipe ms own, h, v, r, SR.wipe (r1.sr x sr1) own, ry, ?_⟩
          rw [ea3]
          intro f3 H3 x3 r3 σ3 sr3 same3
          refine ⟨wipe_same same3 ho, f3, ms3, h3, r3, sr3, ?_⟩
          rw [eb4]
          intro f4 H4 x4 r4
          obtain ⟨d3, n3⟩ := x3.keepD hd hn
          obtain ⟨d4, n4⟩ := x4.keepD d3 n3
          have x34 := x3.trans x4
          cases bt with
          | false =>
            simp only [Bool.false_eq_true, if_false] at e5 ⊢
            cases e5
            exact ⟨f4, _, acc, aV, x.trans x34, r4, n4, d4, r.vrs x34 rv, el⟩
          | true =>
            simp only [if_true] at e5 ⊢
            obtain ⟨xv, h6, ex6, e5⟩ := bind_ok e5
            cases e5
            refine ⟨f4, ms3, h4, r4, r3.sr x4 sr3, ?_⟩
            rw [ex6]
            intro f5 H5 x5 r5 z rz
            obtain ⟨d5, n5⟩ := x5.keepD d4 n4
            simp only at el
            split at el
            · rename_i hl
              have rv5 := r4.vrs x5 (r.vrs x34 rv)
              refine ⟨aV, d5, by rw [← rv.length, ← LIM_eq]; exact hl, f5, _, acc ++ [xv], aV ++ [z], ((x.trans x34).trans x5).updD hD, r5.updD d5 n5, n5, upd_same, ?_, el⟩
              exact VRs.mono (Nat.le_refl _) (fun _ _ => rfl) (r5.fxD d5) _ _ (rv5.append (.cons rz .nil))
            · cases el
        · cases el
theorem Good.blk (g : Good T Y W C CX lv inB N sc X) {s : Shared} {H : Hp} {scope : Scope} {A : Addr} {cl : List (Str × Addr)} {fp : List Addr} : Good T Y NoW C CX lv true N (relS scope sc) (X.blk s H scope (compEnvC scope cl A X.env) fp) where
  eN := g.eN
  nd := g.nd
  eS := by rw [← g.eS]; rfl
  K := g.K
  calm := g.calm
  gd := g.gd
  room := g.room
  fn := fun x e => by
    unfold locB at e
    split at e
    · exact .inr (by assumption)
    · cases e
    · cases e
  pass := fun σ pins H s e s' I c => g.fc.cx _ _ _ _ _ c
  tk := fun u s' ⟨_, _, _, _, _, _, _, _, _, _, _, _, _, _, _, _, w⟩ => w.elim
  fc := g.fc
theorem noSet {iter : Expr} {env : Env} {x : Value} (h : isSet iter = false) : foldedSetIterable iter env x = pure x := by
  unfold foldedSetIterable
  cases iter <;> first | rfl | cases h
section
variable {tg iter elt : Expr} {ifs : List Expr} {scope : Scope} {ow : List (Str × Nat)} {mi : En → MH → R DM.It} {mg : MV → En → MH → R En} {mt : En → MH → R Bool} {mx : En → MH → R MV} {o own : List Nat}
theorem _root_.L2.PTs.conv {X : Cx} {e : List Expr} {t t' : TT} (p : PTs X e t) (k : ∀ σ H Q, t' σ H Q → t σ H Q) : PTs X e t' := ⟨fun pins s σ H Q I q => p.run pins s σ H Q I (k σ H Q q)⟩
theorem ts_no : PTs X [] (rdT Y W fun σ h => .ok true h) := by
  refine pts_nil.conv fun σ H Q q => ?_
  obtain ⟨f, ms, h, r, sr, q⟩ := q
  exact G.ok r q
theorem c_lc (g : Good T Y W C CX lv inB N sc X) (hi : PI X tg iter (rdI Y W mi)) (ok : BlkOk N sc scope ow) (hg : ∀ X', Good T Y NoW C CX lv true N (relS scope sc) X' → PG X' tg (rdG Y NoW mg o))
    (ht : ∀ X', Good T Y NoW C CX lv true N (relS scope sc) X' → PTs X' ifs (rdT Y NoW mt)) (he : ∀ X', Good T Y NoW C CX lv true N (relS scope sc) X' → PE X' elt (rdE Y NoW mx)) (ho : ∀ j ∈ o, j ∈ ow.map (·.2)) (hs : isSet iter = false) :
    PE X (.ListComp elt [⟨tg, iter, ifs, 0⟩] scope p) (rdE Y W (lcM mi mg mt mx (ow.map (·.2)))) :=
  (pe_lc g.calm (g.eN ▸ g.nd) hi (by rw [g.eN, g.eS]; exact ok) (fun s H A cl fp => hg _ g.blk) (fun s H A cl fp => ht _ g.blk) (fun s H A cl fp => he _ g.blk) (fun x => noSet hs)).conv fun σ H Q q => v_lc ho q
end

/-! ### statements -/
def GS (Y : Ctx) (W : Wish) (f : Nat → Addr) (h : MH) (H : Hp) (r : RS) (D : Ends) : Prop := match r with
  | .nx ms h' => ∀ f' H' σ', Ext f h.size H f' h'.size H' → Rl Y.K Y.Z f' h' H' → SR Y.K f' h'.size H' ms σ' → D.nx σ' H'
  | .bk ms h' => ∀ f' H' σ', Ext f h.size H f' h'.size H' → Rl Y.K Y.Z f' h' H' → SR Y.K f' h'.size H' ms σ' → D.bk σ' H'
  | .ct ms h' => ∀ f' H' σ', Ext f h.size H f' h'.size H' → Rl Y.K Y.Z f' h' H' → SR Y.K f' h'.size H' ms σ' → D.ct σ' H'
  | .rt v h' => ∀ f' H' x, Ext f h.size H f' h'.size H' → Rl Y.K Y.Z f' h' H' → VR Y.K f' h'.size H' v x → D.rt x H'
  | .ex c l ms h' => ∀ f' H' σ' cls d, Ext f h.size H f' h'.size H' → Rl Y.K Y.Z f' h' H' → SR Y.K f' h'.size H' ms σ' → XR Y.K Y.xc Y.xf f' h'.size H' c l cls d → W cls d σ' H'
  | .stk => False
variable {D D' : Ends} {r : RS}
theorem GS.shift (e : Ext f h.size H f' h'.size H') (g : GS Y W f h H r D) : GS Y W f' h' H' r D := by
  cases r with
  | nx ms h2 => exact fun f2 H2 σ2 e2 => g f2 H2 σ2 (e.trans e2)
  | bk ms h2 => exact fun f2 H2 σ2 e2 => g f2 H2 σ2 (e.trans e2)
  | ct ms h2 => exact fun f2 H2 σ2 e2 => g f2 H2 σ2 (e.trans e2)
  | rt v h2 => exact fun f2 H2 σ2 e2 => g f2 H2 σ2 (e.trans e2)
  | ex c l ms h2 => exact fun f2 H2 σ2 cls d e2 => g f2 H2 σ2 cls d (e.trans e2)
  | stk => exact g
theorem GS.go {α : Type} {m : R α} {k : α → MH → RS} (r : Rl Y.K Y.Z f h H) (sr : SR Y.K f h.size H ms σ) (g : GS Y W f h H (m.go ms k) D) : G Y W σ f h H m fun a f' h' H' => GS Y W f' h' H' (k a h') D := by
  cases m with
  | ok a h1 => exact fun f1 H1 e1 r1 => GS.shift e1 (show GS Y W f h H (k a h1) D from g)
  | ex c l h1 => exact fun f1 H1 cls d e1 r1 x => g f1 H1 σ cls d e1 r1 (r.sr e1 sr) x
  | stk => exact g
def rdS (Y : Ctx) (W : Wish) (m : En → MH → RS) : TS := fun D σ H => ∃ f ms h, Rl Y.K Y.Z f h H ∧ SR Y.K f h.size H ms σ ∧ GS Y W f h H (m ms h) D
variable {mS m1 m2 : En → MH → RS} {st : Stmt} {sts l1 l2 : List Stmt}
theorem s_nil : PSs X [] (rdS Y W fun σ h => .nx σ h) := by
  refine pss_nil.conv fun D σ H q => ?_
  obtain ⟨f, ms, h, r, sr, q⟩ := q
  exact q f H σ (.refl _ _ _) r sr
def seqM (m1 m2 : En → MH → RS) (σ : En) (h : MH) : RS := match m1 σ h with
  | .nx σ1 h1 => m2 σ1 h1
  | x => x
theorem s_cons (h1 : PS X st (rdS Y W m1)) (h2 : PSs X sts (rdS Y W m2)) : PSs X (st :: sts) (rdS Y W (seqM m1 m2)) := by
  refine (pss_cons h1 h2).conv fun D σ H q => ?_
  obtain ⟨f, ms, h, r, sr, q⟩ := q
  refine ⟨f, ms, h, r, sr, ?_⟩
  unfold seqM at q
  cases e : m1 ms h with
  | nx ms1 h1 =>
    rw [e] at q
    exact fun f1 H1 σ1 e1 r1 sr1 => ⟨f1, ms1, h1, r1, sr1, GS.shift e1 q⟩
  | bk ms1 h1 => rw [e] at q; exact q
  | ct ms1 h1 => rw [e] at q; exact q
  | rt v h1 => rw [e] at q; exact q
  | ex c l ms1 h1 => rw [e] at q; exact q
  | stk => rw [e] at q; exact q.elim
theorem s_pass : PS X (.Pass p) (rdS Y W fun σ h => .nx σ h) := by
  refine ps_pass.conv fun D σ H q => ?_
  obtain ⟨f, ms, h, r, sr, q⟩ := q
  exact q f H σ (.refl _ _ _) r sr
theorem s_brk : PS X (.Break p) (rdS Y W fun σ h => .bk σ h) := by
  refine ps_break.conv fun D σ H q => ?_
  obtain ⟨f, ms, h, r, sr, q⟩ := q
  exact q f H σ (.refl _ _ _) r sr
theorem s_cont : PS X (.Continue p) (rdS Y W fun σ h => .ct σ h) := by
  refine ps_continue.conv fun D σ H q => ?_
  obtain ⟨f, ms, h, r, sr, q⟩ := q
  exact q f H σ (.refl _ _ _) r sr
def isComp : Expr → Bool
  | .ListComp _ _ _ _ => true
  | .SetComp _ _ _ _ => true
  | .DictComp _ _ _ _ _ => true
  | _ => false
theorem noComp {e : Expr} {t : Option Expr} {l : Nat} {env : Env} (h : isComp e = false) : swapsWith e t l env = pure false := by
  unfold swapsWith
  cases e <;> first | rfl | cases h
theorem s_exp (ha : PE X a (rdE Y W ma)) (hc : isComp a = false) : PS X (.Expr a p) (rdS Y W fun σ h => (ma σ h).go σ fun _ h1 => .nx σ h1) := by
  refine (ps_expr ha (noComp hc)).conv fun D σ H q => ?_
  obtain ⟨f, ms, h, r, sr, q⟩ := q
  exact ⟨f, ms, h, r, sr, (GS.go r sr q).mono fun v h1 f1 H1 _ x1 r1 g1 x rx => g1 f1 H1 σ (.refl _ _ _) r1 (r.sr x1 sr)⟩
theorem s_ret (ha : PE X a (rdE Y W ma)) : PS X (.Return (some a) p) (rdS Y W fun σ h => (ma σ h).go σ fun v h1 => .rt v h1) := by
  refine (ps_ret ha).conv fun D σ H q => ?_
  obtain ⟨f, ms, h, r, sr, q⟩ := q
  exact ⟨f, ms, h, r, sr, (GS.go r sr q).mono fun v h1 f1 H1 _ x1 r1 g1 x rx => g1 f1 H1 x (.refl _ _ _) r1 rx⟩
theorem s_retN : PS X (.Return none p) (rdS Y W fun σ h => .rt .non h) := by
  refine ps_retN.conv fun D σ H q => ?_
  obtain ⟨f, ms, h, r, sr, q⟩ := q
  exact q f H _ (.refl _ _ _) r .non
theorem s_if {tc : En → MH → R Bool} (hc : PT X c (rdT Y W tc)) (h1 : PSs X l1 (rdS Y W m1)) (h2 : PSs X l2 (rdS Y W m2)) : PS X (.If c l1 l2 p) (rdS Y W fun σ h => (tc σ h).go σ fun d h1 => if d then m1 σ h1 else m2 σ h1) := by
  refine (ps_if hc h1 h2).conv fun D σ H q => ?_
  obtain ⟨f, ms, h, r, sr, q⟩ := q
  refine ⟨f, ms, h, r, sr, (GS.go r sr q).mono fun d h1 f1 H1 _ x1 r1 g1 => ?_⟩
  cases d with
  | true => exact ⟨f1, ms, h1, r1, r.sr x1 sr, g1⟩
  | false => exact ⟨f1, ms, h1, r1, r.sr x1 sr, g1⟩
def setS (ma : En → MH → R MV) (mg : MV → En → MH → R En) (σ : En) (h : MH) : RS := (ma σ h).go σ fun v h1 => (mg v σ h1).go σ fun σ2 h2 => .nx σ2 h2
theorem v_set {mg : MV → En → MH → R En} {o : List Nat} {σ : L2.St} {H : Hp} (q : rdS Y W (setS ma mg) D σ H) : tAsg (rdE Y W ma) (rdG Y W mg o) D σ H := by
  obtain ⟨f, ms, h, r, sr, q⟩ := q
  refine ⟨f, ms, h, r, sr, (GS.go r sr q).mono fun v h1 f1 H1 _ x1 r1 g1 x rx => ?_⟩
  have sr1 := r.sr x1 sr
  refine ⟨f1, ms, h1, v, r1, sr1, rx, (GS.go r1 sr1 g1).mono fun ms2 h2 f2 H2 _ x2 r2 g2 σ2 sr2 _ => ?_⟩
  exact g2 f2 H2 σ2 (.refl _ _ _) r2 sr2
/-- where the pair that is stored is no pair of a display -/
def swB (sc : Scope) : Expr → Expr → Bool
  | .Tuple ts _ _, .Tuple vs _ _ => !(ts.length == 2 || ts.length == 3) || ts.any fun
    | .Name x _ => !(sc.names.lookup x == some .local)
    | _ => true
  | .List _ _, _ => false
  | _, _ => true
theorem filterMap_lt {α β : Type} {f : α → Option β} : ∀ {l : List α}, (∃ x ∈ l, f x = none) → (l.filterMap f).length < l.length
  | [], ⟨x, hx, _⟩ => by cases hx
  | y :: r, ⟨x, hx, e⟩ => by
    have le : (r.filterMap f).length ≤ r.length := List.length_filterMap_le ..
    cases hy : f y with
    | none =>
      rw [List.filterMap_cons_none hy, List.length_cons]
      omega
    | some b =>
      rw [List.filterMap_cons_some hy, List.length_cons, List.length_cons]
      rcases List.mem_cons.mp hx with rfl | hx
      · rw [hy] at e; cases e
      · have := filterMap_lt (l := r) ⟨x, hx, e⟩
        omega
end
end DM
set_option Elab.async false
set_option linter.all false
set_option maxRecDepth 100000
set_option maxHeartbeats 4000000
/-! S11: stores, loops. -/
namespace DM
open PySem L2 PyProof.Rows PySem.Spec
section
variable {T : Tab} {Y : Ctx} {W : Wish} {C : Nat → List MV → MH → R MV} {CX : CXT} {lv : Nat} {inB : Bool} {N : List Str} {sc : Scope} {X : Cx}
variable {σ : L2.St} {H H' : Hp} {f f' : Nat → Addr} {h h' : MH} {ms : En}
variable {a b c e : Expr} {ma mb mc : En → MH → R MV} {p pos : Pos} {es : List Expr} {me mk : En → MH → R (List MV)}
variable {D D' : Ends} {r : RS} {mS m1 m2 : En → MH → RS} {st : Stmt} {sts l1 l2 : List Stmt}
theorem sw_none {sc : Scope} {t v : Expr} {env : Env} (hs : env.scope = sc) (h : swB sc t v = true) : swappedStores [t] v env = pure none := by
  unfold swappedStores
  cases t <;> first | rfl | (cases v <;> first | rfl | (cases h; done) | skip)
  rename_i ts k1 p1 vs k2 p2
  simp only [pure_bind]
  unfold swB at h
  simp only [Bool.or_eq_true] at h
  split
  · rfl
  · rename_i h1
    split
    · rfl
    · rcases h with h | h
      · exfalso
        apply h1
        rw [h]
        rfl
      · have hlt : ∀ (q : Expr → Option Str), (∀ x ∈ ts, (match x with
            | .Name x _ => !(sc.names.lookup x == some .local)
            | _ => true) = true → q x = none) → (ts.filterMap q).length ≠ ts.length := fun q hq => by
          obtain ⟨x, hx, e⟩ := List.any_eq_true.mp h
          exact Nat.ne_of_lt (filterMap_lt ⟨x, hx, hq x hx e⟩)
        rw [if_pos]
        rw [Bool.or_eq_true]
        left
        rw [bne_iff_ne]
        refine hlt _ fun x hx e => ?_
        cases x <;> first | rfl | skip
        rename_i n q
        simp only at e ⊢
        rw [if_neg]
        intro z
        rw [Bool.and_eq_true] at z
        have z1 : (env.scope.names.lookup n == some NameKind.local) = true := z.1
        rw [hs] at z1
        rw [z1] at e
        cases e
theorem s_set {t : Expr} {mg : MV → En → MH → R En} {o : List Nat} (g : Good T Y W C CX lv inB N sc X) (ha : PE X a (rdE Y W ma)) (hg : PG X t (rdG Y W mg o)) (hc : isComp a = false) (hw : swB sc t a = true) (hst : isStar t = false) :
    PS X (.Assign [t] a p) (rdS Y W (setS ma mg)) :=
  (ps_asg ha hg (noComp hc) (sw_none g.eS hw) (asg_cons hst)).conv fun D σ H q => v_set q
/-- a comprehension whose target is read anew -/
def lcSw (sc : Scope) (t v : Expr) : Bool := match t, v with
  | .Name y py, .ListComp _ _ scope pv => (match sc.names.lookup y with
    | some .local => true
    | _ => false) && (py.line == pv.line) && !(scope.names.any fun (n, k) => n == y && (k == .local || k == .cell))
  | _, _ => false
theorem s_setLc {tg iter elt : Expr} {ifs : List Expr} {scope : Scope} {ow : List (Str × Nat)} {mi : En → MH → R DM.It} {mg : MV → En → MH → R En} {mt : En → MH → R Bool} {mx : En → MH → R MV} {o : List Nat} {i : Nat} {y : Str} {py : Pos}
    (g : Good T Y W C CX lv inB N sc X) (e1 : nmB N i y = true) (hsw : lcSw sc (.Name y py) (.ListComp elt [⟨tg, iter, ifs, 0⟩] scope p) = true)
    (hi : PI X tg iter (rdI Y W mi)) (ok : BlkOk N sc scope ow) (hg : ∀ X', Good T Y NoW C CX lv true N (relS scope sc) X' → PG X' tg (rdG Y NoW mg o))
    (ht : ∀ X', Good T Y NoW C CX lv true N (relS scope sc) X' → PTs X' ifs (rdT Y NoW mt)) (he : ∀ X', Good T Y NoW C CX lv true N (relS scope sc) X' → PE X' elt (rdE Y NoW mx)) (ho : ∀ j ∈ o, j ∈ ow.map (·.2)) (hs : isSet iter = false)
    (hk : X.env.scope.kind = .function) : PS X (.Assign [.Name y py] (.ListComp elt [⟨tg, iter, ifs, 0⟩] scope p) pos) (rdS Y W (setS (lcM mi mg mt mx (ow.map (·.2))) (setM i))) := by
  unfold nmB at e1
  simp only [Bool.and_eq_true, decide_eq_true_eq, Bool.not_eq_true'] at e1
  unfold lcSw at hsw
  simp only [Bool.and_eq_true, Bool.not_eq_true'] at hsw
  obtain ⟨⟨h1, h2⟩, h3⟩ := hsw
  have hy : X.env.scope.names.lookup y = some .local := by
    rw [g.eS]
    split at h1
    · assumption
    · cases h1
  refine (ps_setLc (i := i) g.calm (g.eN ▸ g.nd) (by rw [g.eN]; exact e1.1.1) hy (sw_true hk hy h2 h3) hi (by rw [g.eN, g.eS]; exact ok) (fun s H A cl fp => hg _ g.blk) (fun s H A cl fp => ht _ g.blk) (fun s H A cl fp => he _ g.blk) (fun x => noSet hs)).conv fun D σ H q => ?_
  obtain ⟨f, ms, h, r, sr, q⟩ := q
  refine v_lc (W := W) (Y := Y) ho ⟨f, ms, h, r, sr, (GS.go r sr q).mono fun v h1 f1 H1 _ x1 r1 g1 x rx => ?_⟩
  have sr1 := r.sr x1 sr
  exact G.ok r1 (GS.go r1 sr1 g1) f1 H1 _ (.refl _ _ _) r1 (sr1.set rx i)
/-! ### a, b = x, y -/
def parM (is : List Nat) (me : En → MH → R (List MV)) (σ : En) (h : MH) : RS := (me σ h).go σ fun vs h1 => match upds σ is vs with
  | some σ1 => .nx σ1 h1
  | none => .stk
def lcl2 (sc : Scope) (x : Str) : Bool := match sc.names.lookup x with
  | some .local => true
  | _ => false
theorem lcl2_ok {x : Str} (h : lcl2 sc x = true) : sc.names.lookup x = some .local := by
  unfold lcl2 at h
  split at h
  · assumption
  · cases h
def par2B (sc : Scope) (x y : Str) (px py : Pos) (a b : Expr) : Bool := lcl2 sc x && lcl2 sc y && (px.line == py.line) && !(x == y) && !([a, b].all (foldedForSure 8)) && !([a, b].all (constantsAlone 8)) && !isStar a && !isStar b
theorem sw_par {x y : Str} {px py pt pt2 : Pos} {kt k2} {env : Env} (hs : env.scope = sc) (hk : env.scope.kind = .function) (h : par2B sc x y px py a b = true) : swappedStores [.Tuple [.Name x px, .Name y py] kt pt] (.Tuple [a, b] k2 pt2) env = pure (some [x, y]) := by
  unfold par2B at h
  simp only [Bool.and_eq_true, Bool.not_eq_true'] at h
  obtain ⟨⟨⟨⟨⟨⟨⟨h1, h2⟩, h3⟩, h4⟩, h5⟩, h6⟩, h7⟩, h8⟩ := h
  have kx : env.kindOf x = some .local := by show env.scope.names.lookup x = _; rw [hs]; exact lcl2_ok h1
  have ky : env.kindOf y = some .local := by show env.scope.names.lookup y = _; rw [hs]; exact lcl2_ok h2
  have hb : env.blockKind = .function := by unfold Env.blockKind; rw [hk]; rfl
  have l2 : (py.line == px.line) = true := by rw [beq_iff_eq] at h3 ⊢; exact h3.symm
  have hne : x ≠ y := fun z => by rw [z, beq_self_eq_true] at h4; cases h4
  unfold swappedStores
  simp only [pure_bind]
  rw [if_neg (by rw [hb]; simp)]
  rw [if_neg (by
    cases a <;> first | (cases h7; done) | skip
    all_goals (cases b <;> first | (cases h8; done) | simp))]
  generalize hnm : List.filterMap _ [Expr.Name x px, Expr.Name y py] = nm
  have e1 : nm = [x, y] := by
    rw [← hnm]
    have p1 : (px.line == px.line) = true := beq_self_eq_true _
    simp only [List.filterMap_cons, List.filterMap_nil, List.head?_cons, Option.map_some, Option.getD_some, Expr.pos, kx, ky, l2, p1, beq_self_eq_true, Bool.and_self, if_true]
  subst e1
  have dd : [x, y].eraseDups.length = 2 := by
    have e2 : (y == x) = false := by rw [beq_eq_false_iff_ne]; exact fun z => hne z.symm
    simp [List.eraseDups_cons, e2]
  rw [if_neg (by rw [dd]; simp), if_neg (by rw [h5]; simp), if_neg (by rw [h6]; simp)]
theorem s_par {i j : Nat} {x y : Str} {px py pt pt2 : Pos} {kt k2} (g : Good T Y W C CX lv inB N sc X) (e1 : nmB N i x = true) (e2 : nmB N j y = true) (ha : PA X [a, b] (rdA Y W me)) (h : par2B sc x y px py a b = true) (hk : X.env.scope.kind = .function) :
    PS X (.Assign [.Tuple [.Name x px, .Name y py] kt pt] (.Tuple [a, b] k2 pt2) pos) (rdS Y W (parM [i, j] me)) := by
  unfold nmB at e1 e2
  simp only [Bool.and_eq_true, decide_eq_true_eq, Bool.not_eq_true'] at e1 e2
  have h' := h
  unfold par2B at h'
  simp only [Bool.and_eq_true, Bool.not_eq_true'] at h'
  obtain ⟨⟨⟨⟨⟨⟨⟨h1, h2⟩, h3⟩, h4⟩, h5⟩, h6⟩, h7⟩, h8⟩ := h'
  have hij : i ≠ j := fun z => by
    rw [z, e2.1.1] at e1
    have : y = x := Option.some.inj e1.1.1
    rw [this, beq_self_eq_true] at h4
    cases h4
  refine (ps_par (i := i) (j := j) g.calm (g.eN ▸ g.nd) (by rw [g.eN]; exact e1.1.1) (by rw [g.eN]; exact e2.1.1) hij (by rw [g.eS]; exact lcl2_ok h1) (by rw [g.eS]; exact lcl2_ok h2) ha (sw_par g.eS hk h) rfl).conv fun D σ H q => ?_
  obtain ⟨f, ms, h, r, sr, q⟩ := q
  refine ⟨f, ms, h, r, sr, (GS.go r sr q).mono fun l h1 f1 H1 _ x1 r1 g1 xs rl => ?_⟩
  unfold upds at g1
  cases l with
  | nil => exact g1.elim
  | cons u l =>
    obtain ⟨v, vs, rfl, a1, a2⟩ := rl.cons_inv
    simp only at g1
    unfold upds at g1
    cases l with
    | nil => exact g1.elim
    | cons u2 l =>
      obtain ⟨w, ws, rfl, b1, b2⟩ := a2.cons_inv
      simp only at g1
      unfold upds at g1
      cases l with
      | nil =>
        have := b2.nil_inv
        subst this
        exact ⟨v, w, rfl, g1 f1 H1 _ (.refl _ _ _) r1 (((r.sr x1 sr).set a1 i).set b1 j)⟩
      | cons _ _ => exact g1.elim
/-! ### x op= e -/
theorem ip_aug (op : BOp) : PIp X (bo op) (rB Y (augM op)) := by
  intro pins s σ H x y v u Q I rx ry ⟨f, h, a, b, r, ra, rb, g⟩
  unfold augM at g
  split at g
  · cases ra.int_inv; cases rb.int_inv
    exact iop_add pins s σ H _ _ v u Q I rx ry ⟨_, _, rfl, rfl, GP.here r g _ .int⟩
  · cases ra.int_inv; cases rb.int_inv
    exact iop_sub pins s σ H _ _ v u Q I rx ry ⟨_, _, rfl, rfl, GP.here r g _ .int⟩
  · cases ra.int_inv; cases rb.int_inv
    split at g
    · rename_i hl
      refine iop_mul pins s σ H _ _ v u Q I rx ry ⟨_, _, rfl, rfl, ?_, GP.here r g _ .int⟩
      rcases Bool.or_eq_true_iff.mp hl with q | q
      · exact .inl (small_of q)
      · exact .inr (small_of q)
    · exact g.elim
  · cases ra.int_inv; cases rb.int_inv
    split at g
    · rename_i hl
      exact iop_mod pins s σ H _ _ v u Q I rx ry ⟨_, _, rfl, rfl, hl, GP.here r g _ .int⟩
    · exact g.elim
  · cases ra.int_inv; cases rb.int_inv
    split at g
    · rename_i hl
      exact iop_fdiv pins s σ H _ _ v u Q I rx ry ⟨_, _, rfl, rfl, hl, GP.here r g _ .int⟩
    · exact g.elim
  · rename_i a b
    obtain ⟨rfl, ta⟩ := ra.str_inv
    obtain ⟨rfl, tb⟩ := rb.str_inv
    split at g
    · rename_i hl
      refine iop_add_str pins s σ H _ _ v u Q I rx ry ⟨_, _, rfl, rfl, ?_, ?_⟩
      · rw [← LIM_eq]
        show a.toArray.size + b.toArray.size ≤ _
        simpa using hl
      · rw [str_app]
        exact GP.here r g _ (.str (ta.app tb hl))
    · exact g.elim
  · exact g.elim
def augS (op : BOp) (i : Nat) (ma : En → MH → R MV) (σ : En) (h : MH) : RS := match σ[i]? with
  | some (some x) => (ma σ h).go σ fun y h1 => (augM op x y h1).go σ fun z h2 => .nx (σ.set i (some z)) h2
  | _ => .stk
theorem s_aug (g : Good T Y W C CX lv inB N sc X) {i : Nat} {x : Str} {px : Pos} (op : BOp) (e1 : nmB N i x = true) (e2 : locB inB sc x = true) (ha : PE X a (rdE Y W ma)) : PS X (.AugAssign (.Name x px) (bo op) a p) (rdS Y W (augS op i ma)) := by
  unfold nmB at e1
  simp only [Bool.and_eq_true, decide_eq_true_eq, Bool.not_eq_true'] at e1
  obtain ⟨l1, l2⟩ := g.loc e2
  refine (ps_aug (i := i) (g.eN ▸ g.nd) (by rw [g.eN]; exact e1.1.1) l1 ha (ip_aug (Y := Y) op) l2).conv fun D σ H q => ?_
  obtain ⟨f, ms, h, r, sr, q⟩ := q
  unfold augS at q
  split at q
  · rename_i v ev
    obtain ⟨y, ey, ry⟩ := sr.2 i v ev
    refine ⟨y, ey, f, ms, h, r, sr, (GS.go r sr q).mono fun w h1 f1 H1 _ x1 r1 g1 z rz => ?_⟩
    have sr1 := r.sr x1 sr
    exact ⟨f1, h1, v, w, r1, r.vr x1 ry, rz, W, σ, (GS.go r1 sr1 g1).mono fun u h2 f2 H2 _ x2 r2 g2 t rt => g2 f2 H2 _ (.refl _ _ _) r2 ((r1.sr x2 sr1).set rt i)⟩
  · exact q.elim
/-! ### for -/
def forM (mi : En → MH → R DM.It) (mg : MV → En → MH → R En) (mb : En → MH → RS) (σ : En) (h : MH) : RS := (mi σ h).go σ fun t h1 => match t.len h1 with
  | some n => loop (fun v σ2 h2 => (mg v σ2 h2).go σ2 fun σ3 h3 => mb σ3 h3) t n 0 σ h1
  | none => .stk
theorem s_for (g : Good T Y W C CX lv inB N sc X) {tg iter : Expr} {body : List Stmt} {mi : En → MH → R DM.It} {mg : MV → En → MH → R En} {mb : En → MH → RS} {o : List Nat} (hp : PassesOwn (model X.prog X.w) X.A X.env X.xe)
    (hi : PI X tg iter (rdI Y W mi)) (hg : PG X tg (rdG Y W mg o)) (hb : PSs X body (rdS Y W mb)) (hs : isSet iter = false) : PS X (.For tg iter body [] p) (rdS Y W (forM mi mg mb)) := by
  refine (ps_for hp g.calm hi hg hb (fun x => noSet hs)).conv fun D σ H q => ?_
  obtain ⟨f, ms, h, r, sr, q⟩ := q
  refine ⟨f, ms, h, r, sr, (GS.go r sr q).mono fun t h1 f1 H1 _ x1 r1 g1 J j => ?_⟩
  have sr1 := r.sr x1 sr
  cases hlen : t.len h1 with
  | none => rw [hlen] at g1; exact g1.elim
  | some n =>
    rw [hlen] at g1
    simp only at g1
    generalize hB : (fun (v : MV) (σ2 : En) (h2 : MH) => (mg v σ2 h2).go σ2 fun σ3 h3 => mb σ3 h3) = B at g1
    refine ⟨fun i m σ H => ∃ f ms h, Ext f1 h1.size H1 f h.size H ∧ Rl Y.K Y.Z f h H ∧ SR Y.K f h.size H ms σ ∧ GS Y W f h H (loop B t m i ms h) D, ⟨n, f1, ms, h1, .refl _ _ _, r1, sr1, g1⟩, ?_⟩
    rintro i m σ H ⟨f, ms, h, x, r, sr, gl⟩
    have stop : t.at h i = some none → GS Y W f h H (.nx ms h) D → J.stop i H ∧ D.nx σ H := fun ea g0 => ⟨j.step r1 x r ea, g0 f H σ (.refl _ _ _) r sr⟩
    cases m with
    | zero =>
      unfold loop at gl
      split at gl
      · rename_i ea
        exact .inl (stop ea gl)
      · exact gl.elim
    | succ m =>
      unfold loop at gl
      split at gl
      · rename_i ea
        exact .inl (stop ea gl)
      · rename_i v ea
        obtain ⟨go, yl⟩ := j.step r1 x r ea
        refine .inr ⟨go, _, fun σ' H' w => ⟨m, Nat.lt_succ_self m, w⟩, fun y H'' yy => ?_⟩
        obtain ⟨rfl, ry⟩ := yl y H'' yy
        refine ⟨f, ms, h, v, r, sr, ry, ?_⟩
        rw [← hB] at gl
        simp only at gl
        cases eg : mg v ms h with
        | stk => rw [eg] at gl; exact gl.elim
        | ex c l h2 =>
          rw [eg] at gl
          have gl : GS Y W f h H'' (.ex c l ms h2) D := gl
          exact fun f3 H3 cls d e3 r3 x3 => gl f3 H3 σ cls d e3 r3 (r.sr e3 sr) x3
        | ok ms3 h3 =>
          intro f3 H3 x3 r3 σ3 sr3 _
          refine ⟨f3, ms3, h3, r3, sr3, ?_⟩
          rw [eg] at gl
          have gl : GS Y W f h H'' (match mb ms3 h3 with
            | .nx σ' h' => loop _ t m (i + 1) σ' h'
            | .ct σ' h' => loop _ t m (i + 1) σ' h'
            | .bk σ' h' => .nx σ' h'
            | r => r) D := gl
          have x03 := x.trans x3
          cases eb : mb ms3 h3 with
          | nx ms4 h4 =>
            rw [eb] at gl
            exact fun f4 H4 σ4 x4 r4 sr4 => ⟨f4, ms4, h4, x03.trans x4, r4, sr4, by rw [← hB]; exact GS.shift (x3.trans x4) gl⟩
          | ct ms4 h4 =>
            rw [eb] at gl
            exact fun f4 H4 σ4 x4 r4 sr4 => ⟨f4, ms4, h4, x03.trans x4, r4, sr4, by rw [← hB]; exact GS.shift (x3.trans x4) gl⟩
          | bk ms4 h4 =>
            rw [eb] at gl
            exact fun f4 H4 σ4 x4 r4 sr4 => gl f4 H4 σ4 (x3.trans x4) r4 sr4
          | rt v h4 =>
            rw [eb] at gl
            exact fun f4 H4 σ4 x4 r4 sr4 => gl f4 H4 σ4 (x3.trans x4) r4 sr4
          | ex c l ms4 h4 =>
            rw [eb] at gl
            exact fun f4 H4 σ4 cls d x4 r4 sr4 => gl f4 H4 σ4 cls d (x3.trans x4) r4 sr4
          | stk => rw [eb] at gl; exact gl.elim
      · exact gl.elim
end
end DM
set_option Elab.async false
set_option linter.all false
set_option maxRecDepth 100000
set_option maxHeartbeats 4000000
/-! S12: the interpreter is sound for the texts that it matches. -/
namespace DM
open PySem L2 PyProof.Rows PySem.Spec
section
variable (T : Tab) (N : List Str) (sc : Scope)
mutual
def mS : St → Stmt → Bool
  | .pass, e => match e with
    | .Pass _ => true
    | _ => false
  | .exp i, e => match e with
    | .Expr x _ => mE T N sc i x && !isComp x
    | _ => false
  | .ret i, e => match e with
    | .Return (some x) _ => mE T N sc i x
    | _ => false
  | .retN, e => match e with
    | .Return none _ => true
    | _ => false
  | .set tg i, e => match e with
    | .Assign [t] v _ => mE T N sc i v && mG T N false sc tg t && !isStar t && (if isComp v then (match tg, i with
      | .nm _, .lc _ _ _ _ _ => lcSw sc t v
      | _, _ => false) else swB sc t v)
    | _ => false
  | .par is es, e => match e with
    | .Assign [.Tuple [.Name x px, .Name y py] _ _] (.Tuple [a, b] _ _) _ => (match is with
      | [i, j] => nmB N i x && nmB N j y && mEs T N sc es [a, b] && par2B sc x y px py a b
      | _ => false)
    | _ => false
  | .aug i op v, e => match e with
    | .AugAssign (.Name x _) o w _ => nmB N i x && locB false sc x && decide (bo op = o) && mE T N sc v w
    | _ => false
  | .augA _ _ _ _, _ => false
  | .ite c a b, e => match e with
    | .If t x y _ => mT T N sc c t && mSs a x && mSs b y
    | _ => false
  | .for_ tg it b, e => match e with
    | .For t i x [] _ => mI T N sc it i t && mG T N false sc tg t && mSs b x && !isSet i
    | _ => false
  | .brk, e => match e with
    | .Break _ => true
    | _ => false
  | .cont, e => match e with
    | .Continue _ => true
    | _ => false
def mSs : Ss → List Stmt → Bool
  | .nil, l => l.isEmpty
  | .cons s r, l => match l with
    | x :: xs => mS s x && mSs r xs
    | [] => false
end
end
def Es.len : Es → Nat
  | .nil => 0
  | .cons _ r => r.len + 1
def Tgs.len : Tgs → Nat
  | .nil => 0
  | .cons _ r => r.len + 1
section
variable {T : Tab} {Y : Ctx} {W : Wish} {C : Nat → List MV → MH → R MV} {CX : CXT} {lv : Nat} {inB : Bool} {N : List Str} {sc : Scope} {X : Cx}
theorem evs_len {P : Prog} : ∀ {es : Es} {σ : En} {h : MH} {l : List MV} {h' : MH}, evs P C es σ h = .ok l h' → l.length = es.len
  | .nil, σ, h, l, h', e => by
    unfold evs at e
    cases e
    rfl
  | .cons x r, σ, h, l, h', e => by
    unfold evs at e
    obtain ⟨v, h1, e1, e⟩ := bind_ok e
    obtain ⟨w, h2, e2, e⟩ := bind_ok e
    cases e
    rw [List.length_cons, evs_len e2]
    rfl
theorem mEs_len : ∀ {es : Es} {xs : List Expr}, mEs T N sc es xs = true → es.len = xs.length ∧ noStars xs = true
  | .nil, xs, h => by
    unfold mEs at h
    cases xs with
    | nil => exact ⟨rfl, rfl⟩
    | cons _ _ => cases h
  | .cons x r, xs, h => by
    cases xs with
    | nil => unfold mEs at h; cases h
    | cons y ys =>
      unfold mEs at h
      simp only [Bool.and_eq_true, Bool.not_eq_true'] at h
      obtain ⟨a, b⟩ := mEs_len h.2
      refine ⟨congrArg Nat.succ a, ?_⟩
      unfold noStars at b ⊢
      rw [List.all_cons, b, h.1.2]
      rfl
theorem mKs_len : ∀ {es : Es} {kn : List Nat} {ks : List Keyword}, mKs T N sc es kn ks = true → es.len = kn.length ∧ (ks.all fun k => k.1.isSome) = true ∧ ks.filterMap (·.1) = kn.map T.fnm
  | .nil, kn, ks, h => by
    unfold mKs at h
    cases kn <;> cases ks <;> first | exact ⟨rfl, rfl, rfl⟩ | cases h
  | .cons x r, kn, ks, h => by
    unfold mKs at h
    cases kn with
    | nil => cases h
    | cons k kr =>
      cases ks with
      | nil => cases h
      | cons q qs =>
        obtain ⟨nm, e, kp⟩ := q
        cases nm with
        | none => cases h
        | some y =>
          simp only [Bool.and_eq_true, decide_eq_true_eq] at h
          obtain ⟨a, b, c⟩ := mKs_len h.2
          refine ⟨congrArg Nat.succ a, b, ?_⟩
          show y :: qs.filterMap (·.1) = _
          rw [c, h.1.1]
          rfl
theorem asgs_len {P : Prog} : ∀ {l : Tgs} {vs : List MV} {σ : En} {h : MH} {σ' : En} {h' : MH}, asgs P C l vs σ h = .ok σ' h' → vs.length = l.len
  | .nil, [], σ, h, _, _, _ => rfl
  | .nil, _ :: _, σ, h, _, _, e => by unfold asgs at e; cases e
  | .cons _ _, [], σ, h, _, _, e => by unfold asgs at e; cases e
  | .cons t r, v :: vs, σ, h, σ', h', e => by
    unfold asgs at e
    obtain ⟨a, h1, e1, e⟩ := bind_ok e
    exact congrArg Nat.succ (asgs_len e)
theorem mGs_len : ∀ {l : Tgs} {xs : List Expr}, mGs T N inB sc l xs = true → l.len = xs.length ∧ noStars xs = true
  | .nil, xs, h => by
    unfold mGs at h
    cases xs with
    | nil => exact ⟨rfl, rfl⟩
    | cons _ _ => cases h
  | .cons x r, xs, h => by
    cases xs with
    | nil => unfold mGs at h; cases h
    | cons y ys =>
      unfold mGs at h
      simp only [Bool.and_eq_true, Bool.not_eq_true'] at h
      obtain ⟨a, b⟩ := mGs_len h.2
      refine ⟨congrArg Nat.succ a, ?_⟩
      unfold noStars at b ⊢
      rw [List.all_cons, b, h.1.2]
      rfl
theorem boolAnd {rest : List Expr} {b : Expr} {p : Pos} {i : Ex} (h : (match rest with
      | [] => mE T N sc i b
      | _ => mE T N sc i (.BoolOp .And (b :: rest) p)) = true) (k : ∀ e, mE T N sc i e = true → PE X e (rdE Y W (ev T.P C i))) : PE X (.BoolOp .And (b :: rest) p) (rdE Y W (ev T.P C i)) := by
  cases rest with
  | nil => exact pe_one (k _ h)
  | cons r rs => exact k _ h
theorem boolOr {rest : List Expr} {b : Expr} {p : Pos} {i : Ex} (h : (match rest with
      | [] => mE T N sc i b
      | _ => mE T N sc i (.BoolOp .Or (b :: rest) p)) = true) (k : ∀ e, mE T N sc i e = true → PE X e (rdE Y W (ev T.P C i))) : PE X (.BoolOp .Or (b :: rest) p) (rdE Y W (ev T.P C i)) := by
  cases rest with
  | nil => exact pe_one (k _ h)
  | cons r rs => exact k _ h
theorem fm_len {α : Type} : ∀ {l : List (Option α)}, l.all (·.isSome) = true → (l.filterMap id).length = l.length
  | [], _ => rfl
  | none :: r, h => by cases h
  | some a :: r, h => by
    have : r.all (·.isSome) = true := by simpa using h
    exact congrArg Nat.succ (fm_len this)
def isBO : Expr → Bool
  | .BoolOp _ _ _ => true
  | _ => false
theorem tAnd' {rest : List Expr} {b : Expr} {p : Pos} {i : Te} (h : (match rest with
      | [] => mT T N sc i b
      | _ => mT T N sc i (.BoolOp .And (b :: rest) p)) = true) (k : ∀ e, mT T N sc i e = true → PT X e (rdT Y W (tv T.P C i)) ∧ (isBO e = true → PW X e (rdT Y W (tv T.P C i)))) : PW X (.BoolOp .And (b :: rest) p) (rdT Y W (tv T.P C i)) := by
  cases rest with
  | nil => exact pw_and1 (k _ h).1
  | cons r rs => exact (k _ h).2 rfl
theorem tOr' {rest : List Expr} {b : Expr} {p : Pos} {i : Te} (h : (match rest with
      | [] => mT T N sc i b
      | _ => mT T N sc i (.BoolOp .Or (b :: rest) p)) = true) (k : ∀ e, mT T N sc i e = true → PT X e (rdT Y W (tv T.P C i)) ∧ (isBO e = true → PW X e (rdT Y W (tv T.P C i)))) : PW X (.BoolOp .Or (b :: rest) p) (rdT Y W (tv T.P C i)) := by
  cases rest with
  | nil => exact pw_or1 (k _ h).1
  | cons r rs => exact (k _ h).2 rfl
end

section
variable {T : Tab} {Y : Ctx} {C : Nat → List MV → MH → R MV} {CX : CXT} {lv : Nat} {N : List Str}
mutual
theorem sE : ∀ (i : Ex) {W : Wish} {inB : Bool} {sc : Scope} {X : Cx} {e : Expr}, Good T Y W C CX lv inB N sc X → mE T N sc i e = true → PE X e (rdE Y W (ev T.P C i))
  | .var i, W, inB, sc, X, e, g, h => by
    unfold mE at h
    split at h
    · rw [Bool.and_eq_true] at h
      exact c_var g h.1 h.2
    · cases h
  | .non, W, inB, sc, X, e, g, h => by
    unfold mE at h
    split at h
    · exact c_const pe_non (fun _ _ => by simp only [ev]) fun _ _ _ => .non
    · cases h
  | .bl b, W, inB, sc, X, e, g, h => by
    unfold mE at h
    split at h
    · rw [beq_iff_eq] at h
      subst h
      exact c_const pe_bl (fun _ _ => by simp only [ev]) fun _ _ _ => .bl
    · cases h
  | .int b, W, inB, sc, X, e, g, h => by
    unfold mE at h
    split at h
    · have h := of_decide_eq_true h
      subst h
      exact c_const pe_int (fun _ _ => by simp only [ev]) fun _ _ _ => .int
    · cases h
  | .str s, W, inB, sc, X, e, g, h => by
    unfold mE at h
    split at h
    · simp only [Bool.and_eq_true, decide_eq_true_eq] at h
      obtain ⟨h1, h2⟩ := h
      subst h1
      exact c_const pe_str (fun _ _ => by simp only [ev]) fun _ _ _ => .str (txB_ok h2)
    · cases h
  | .gl i, W, inB, sc, X, e, g, h => by
    unfold mE at h
    split at h
    · simp only [Bool.and_eq_true, decide_eq_true_eq, Bool.not_eq_true'] at h
      exact c_gl g h.1.1.1 h.1.1.2 h.1.2 h.2
    · cases h
  | .bin op a b, W, inB, sc, X, e, g, h => by
    unfold mE at h
    split at h
    · simp only [Bool.and_eq_true, decide_eq_true_eq] at h
      obtain ⟨⟨h1, h2⟩, h3⟩ := h
      subst h1
      exact c_bin g op (sE a g h2) (sE b g h3)
    · cases h
  | .neg a, W, inB, sc, X, e, g, h => by
    unfold mE at h
    split at h
    · exact c_neg g (sE a g h)
    · cases h
  | .not_ a, W, inB, sc, X, e, g, h => by
    unfold mE at h
    split at h
    · exact c_not g (sE a g h)
    · cases h
  | .cmp op a b, W, inB, sc, X, e, g, h => by
    unfold mE at h
    split at h
    · simp only [Bool.and_eq_true, decide_eq_true_eq, Bool.not_eq_true'] at h
      obtain ⟨⟨⟨h1, h2⟩, h3⟩, h4⟩ := h
      subst h1
      exact c_cmp g op (sE a g h3) (sE b g h4) h2
    · cases h
  | .isN a, W, inB, sc, X, e, g, h => by
    unfold mE at h
    split at h
    · exact c_isN (sE a g h)
    · cases h
  | .isNt a, W, inB, sc, X, e, g, h => by
    unfold mE at h
    split at h
    · exact c_isNt (sE a g h)
    · cases h
  | .ch o1 o2 a b c, W, inB, sc, X, e, g, h => by
    unfold mE at h
    split at h
    · simp only [Bool.and_eq_true, decide_eq_true_eq, Bool.not_eq_true'] at h
      obtain ⟨⟨⟨⟨⟨h1, h2⟩, h3⟩, h4⟩, h5⟩, h6⟩ := h
      subst h1 h2
      exact c_ch g o1 o2 (sE a g h4) (sE b g h5) (sE c g h6) h3
    · cases h
  | .and_ a b, W, inB, sc, X, e, g, h => by
    unfold mE at h
    split at h
    · rw [Bool.and_eq_true] at h
      exact c_and g (sE a g h.1) (boolAnd h.2 fun e h => sE b g h)
    · cases h
  | .or_ a b, W, inB, sc, X, e, g, h => by
    unfold mE at h
    split at h
    · rw [Bool.and_eq_true] at h
      exact c_or g (sE a g h.1) (boolOr h.2 fun e h => sE b g h)
    · cases h
  | .ife c a b, W, inB, sc, X, e, g, h => by
    unfold mE at h
    split at h
    · simp only [Bool.and_eq_true] at h
      exact c_ife (sT c g h.1.1).1 (sE a g h.1.2) (sE b g h.2)
    · cases h
  | .att _ _, W, inB, sc, X, e, g, h => by
    unfold mE at h
    split at h
    · simp only [Bool.false_and] at h
      cases h
    · cases h
  | .sub a i, W, inB, sc, X, e, g, h => by
    unfold mE at h
    split at h
    · simp only [Bool.and_eq_true, Bool.not_eq_true'] at h
      exact c_sub g (sE a g h.1.1) (sE i g h.1.2) h.2
    · cases h
  | .sl a lo hi, W, inB, sc, X, e, g, h => by
    unfold mE at h
    split at h
    · simp only [Bool.and_eq_true] at h
      exact c_sl g (sE a g h.1.1) (sO lo g h.1.2) (sO hi g h.2)
    · cases h
  | .rev a, W, inB, sc, X, e, g, h => by
    unfold mE at h
    split at h
    · exact c_rev g (sE a g h)
    · cases h
  | .tup es, W, inB, sc, X, e, g, h => by
    unfold mE at h
    split at h
    · exact c_tup (sA es g h)
    · cases h
  | .lst es, W, inB, sc, X, e, g, h => by
    unfold mE at h
    split at h
    · exact c_lst (sA es g h)
    · cases h
  | .dct _ _, W, inB, sc, X, e, g, h => by
    unfold mE at h
    cases h
  | .call f es ks kn sh, W, inB, sc, X, e, g, h => by
    unfold mE at h
    split at h
    · rename_i x px args kws pp
      simp only [Bool.and_eq_true, decide_eq_true_eq, Bool.not_eq_true'] at h
      obtain ⟨⟨⟨⟨⟨⟨h1, h2⟩, h3⟩, h4⟩, h5⟩, h6⟩, h7⟩ := h
      obtain ⟨l1, l2⟩ := mEs_len h5
      obtain ⟨k1, k2, k3⟩ := mKs_len h6
      cases args with
      | nil =>
        cases es with
        | nil =>
          refine (c_call0 g h1 h2 h3 h4 (sK ks g h6) k2 k3 h7 (fun ms h l h' e => by rw [evs_len e, k1])).conv fun σ H Q q => ?_
          unfold evs at q
          exact q
        | cons _ _ => unfold mEs at h5; cases h5
      | cons a as => exact c_call g h1 h2 h3 h4 (sA es g h5) (sK ks g h6) l2 k2 k3 h7 (fun ms h l h' e => by rw [evs_len e, l1]) (fun ms h l h' e => by rw [evs_len e, k1])
    · cases h
  | .bif b es, W, inB, sc, X, e, g, h => by
    unfold mE at h
    split at h
    · simp only [Bool.and_eq_true, decide_eq_true_eq] at h
      exact c_bif g b h.1.1 h.1.2 (sA es g h.2) (mEs_len h.2).2
    · cases h
  | .isi a t, W, inB, sc, X, e, g, h => by
    unfold mE at h
    split at h
    · simp only [Bool.and_eq_true, decide_eq_true_eq, Bool.not_eq_true'] at h
      obtain ⟨⟨⟨⟨⟨⟨h1, h2⟩, h3⟩, h4⟩, h5⟩, h6⟩, h7⟩ := h
      obtain ⟨S, et⟩ := Option.isSome_iff_exists.mp h7
      exact c_isi g et h1 h2 h5 h6 (sE a g h3) h4
    · cases h
  | .met m o es ks kn sh, W, inB, sc, X, e, g, h => by
    unfold mE at h
    split at h
    · split at h
      · simp only [Bool.and_eq_true, decide_eq_true_eq] at h
        obtain ⟨⟨⟨⟨⟨⟨h1, h2⟩, h3⟩, h4⟩, h5⟩, h6⟩, h7⟩ := h
        rename_i e1
        subst h1
        cases ks with
        | nil =>
          refine (c_bm (sh := sh) g e1 (sE o g h2) (sA es g h4) h3 (mEs_len h4).2 (beq_iff_eq.mpr h5) h6).conv fun σ H Q q => ?_
          unfold ev at q
          exact q
        | cons _ _ => cases h7
      · cases h
    · cases h
  | .mk _ _ _ _ _, W, inB, sc, X, e, g, h => by
    unfold mE at h
    cases h
  | .lc elt own tg it c, W, inB, sc, X, e, g, h => by
    unfold mE at h
    split at h
    · rename_i x t i ifs scope pp
      simp only [Bool.and_eq_true, Bool.not_eq_true'] at h
      obtain ⟨⟨⟨⟨⟨⟨⟨h0, h1⟩, h2⟩, h3⟩, h4⟩, h5⟩, h6⟩, h7⟩ := h
      have how : (((own.map fun k => N[k]?).filterMap id).zip own).map (·.2) = own := by
        refine List.map_snd_zip ?_
        rw [fm_len h0, List.length_map]
        exact Nat.le_refl _
      have hl := c_lc (p := pp) (o := tgS tg) g (sI it g h2) (blkOk_by h1) (fun X' g' => sG tg g' h3) (fun X' g' => sC c g' h6) (fun X' g' => sE elt g' h5) (fun j hj => by
        rw [how]
        have := List.all_eq_true.mp h4 j hj
        exact List.contains_iff_mem.mp this) h7
      rw [how] at hl
      exact hl
    · cases h
  | .fst _, W, inB, sc, X, e, g, h => by
    unfold mE at h
    cases h
theorem sT : ∀ (i : Te) {W : Wish} {inB : Bool} {sc : Scope} {X : Cx} {e : Expr}, Good T Y W C CX lv inB N sc X → mT T N sc i e = true → PT X e (rdT Y W (tv T.P C i)) ∧ (isBO e = true → PW X e (rdT Y W (tv T.P C i)))
  | .vl i, W, inB, sc, X, e, g, h => by
    unfold mT at h
    rw [Bool.and_eq_true, Bool.or_eq_true] at h
    obtain ⟨h1, h2⟩ := h
    have nb : isBO e = true → False := fun z => by
      cases e <;> first | (cases z; done) | skip
      rcases h2 with h2 | h2 <;> cases h2
    refine ⟨?_, fun z => (nb z).elim⟩
    rcases h2 with h2 | h2
    · exact t_val g (sE i g h1) h2
    · cases e <;> first | (cases h2; done) | skip
      cases i with
      | cmp op a b =>
        unfold mE at h1
        split at h1
        · rename_i _ l o r p e0
          cases e0
          simp only [Bool.and_eq_true, decide_eq_true_eq, Bool.not_eq_true'] at h1
          obtain ⟨⟨⟨q1, q2⟩, q3⟩, q4⟩ := h1
          subst q1
          exact t_cmp g op (sE a g q3) (sE b g q4) q2
        · cases h1
      | isN a =>
        unfold mE at h1
        split at h1
        · rename_i _ l _ _ _ e0
          cases e0
          exact t_isN (sE a g h1)
        · cases h1
      | isNt a =>
        unfold mE at h1
        split at h1
        · rename_i _ l _ _ _ e0
          cases e0
          exact t_isNt (sE a g h1)
        · cases h1
      | ch o1 o2 a b c =>
        unfold mE at h1
        split at h1
        · rename_i _ l p1 p2 m r p e0
          cases e0
          simp only [Bool.and_eq_true, decide_eq_true_eq, Bool.not_eq_true'] at h1
          obtain ⟨⟨⟨⟨⟨q1, q2⟩, q3⟩, q4⟩, q5⟩, q6⟩ := h1
          subst q1 q2
          exact t_ch g o1 o2 (sE a g q4) (sE b g q5) (sE c g q6) q3
        · cases h1
      | _ => unfold mE at h1; cases h1
  | .not_ t, W, inB, sc, X, e, g, h => by
    unfold mT at h
    split at h
    · exact ⟨t_not (sT t g h).1, fun z => by cases z⟩
    · cases h
  | .and_ t u, W, inB, sc, X, e, g, h => by
    unfold mT at h
    split at h
    · rw [Bool.and_eq_true] at h
      have := t_and (sT t g h.1).1 (tAnd' h.2 fun e h => sT u g h)
      exact ⟨this.pt, fun _ => this⟩
    · cases h
  | .or_ t u, W, inB, sc, X, e, g, h => by
    unfold mT at h
    split at h
    · rw [Bool.and_eq_true] at h
      have := t_or (sT t g h.1).1 (tOr' h.2 fun e h => sT u g h)
      exact ⟨this.pt, fun _ => this⟩
    · cases h
theorem sA : ∀ (i : Es) {W : Wish} {inB : Bool} {sc : Scope} {X : Cx} {e : List Expr}, Good T Y W C CX lv inB N sc X → mEs T N sc i e = true → PA X e (rdA Y W (evs T.P C i))
  | .nil, W, inB, sc, X, e, g, h => by
    unfold mEs at h
    cases e with
    | nil => exact a_nil
    | cons _ _ => cases h
  | .cons i r, W, inB, sc, X, e, g, h => by
    cases e with
    | nil => unfold mEs at h; cases h
    | cons x xs =>
      unfold mEs at h
      simp only [Bool.and_eq_true, Bool.not_eq_true'] at h
      exact a_cons (sE i g h.1.1) (sA r g h.2) h.1.2
theorem sK : ∀ (i : Es) {W : Wish} {inB : Bool} {sc : Scope} {X : Cx} {kn : List Nat} {e : List Keyword}, Good T Y W C CX lv inB N sc X → mKs T N sc i kn e = true → PK X e (rdA Y W (evs T.P C i))
  | .nil, W, inB, sc, X, kn, e, g, h => by
    unfold mKs at h
    cases e with
    | nil => exact k_nil
    | cons _ _ => simp at h
  | .cons i r, W, inB, sc, X, kn, e, g, h => by
    unfold mKs at h
    cases kn with
    | nil => cases h
    | cons k kr =>
      cases e with
      | nil => cases h
      | cons q qs =>
        obtain ⟨nm, x, kp⟩ := q
        cases nm with
        | none => cases h
        | some y =>
          simp only [Bool.and_eq_true, decide_eq_true_eq] at h
          exact k_cons (sE i g h.1.2) (sK r g h.2)
theorem sO : ∀ (i : Eo) {W : Wish} {inB : Bool} {sc : Scope} {X : Cx} {e : Option Expr}, Good T Y W C CX lv inB N sc X → mO T N sc i e = true → PO X e (rdO Y W (eo T.P C i))
  | .no, W, inB, sc, X, e, g, h => by
    unfold mO at h
    cases e with
    | none => exact o_no
    | some _ => cases h
  | .so i, W, inB, sc, X, e, g, h => by
    unfold mO at h
    cases e with
    | none => cases h
    | some x => exact o_so (sE i g h)
theorem sC : ∀ (i : Tc) {W : Wish} {inB : Bool} {sc : Scope} {X : Cx} {e : List Expr}, Good T Y W C CX lv inB N sc X → mC T N sc i e = true → PTs X e (rdT Y W (ct T.P C i))
  | .no, W, inB, sc, X, e, g, h => by
    unfold mC at h
    cases e with
    | nil => exact ts_no
    | cons _ _ => cases h
  | .so i, W, inB, sc, X, e, g, h => by
    unfold mC at h
    split at h
    · exact pts_one (sT i g h).1
    · cases h
theorem sG : ∀ (i : Tg) {W : Wish} {inB : Bool} {sc : Scope} {X : Cx} {e : Expr}, Good T Y W C CX lv inB N sc X → mG T N inB sc i e = true → PG X e (rdG Y W (asg T.P C i) (tgS i))
  | .nm i, W, inB, sc, X, e, g, h => by
    unfold mG at h
    split at h
    · rw [Bool.and_eq_true] at h
      exact g_nm g h.1 h.2
    · cases h
  | .tup l, W, inB, sc, X, e, g, h => by
    unfold mG at h
    split at h
    · have := mGs_len h
      exact g_tup g (sGs l g h) this.2 fun l' ms h σ' h' e => by rw [asgs_len e, this.1]
    · cases h
  | .att _ _, W, inB, sc, X, e, g, h => by
    unfold mG at h
    cases h
  | .sub o i, W, inB, sc, X, e, g, h => by
    unfold mG at h
    split at h
    · simp only [Bool.and_eq_true, Bool.not_eq_true'] at h
      exact g_sub g (sE o g h.1.1) (sE i g h.1.2) h.2
    · cases h
theorem sGs : ∀ (i : Tgs) {W : Wish} {inB : Bool} {sc : Scope} {X : Cx} {e : List Expr}, Good T Y W C CX lv inB N sc X → mGs T N inB sc i e = true → PGs X e (rdGs Y (asgs T.P C i) (tgSs i))
  | .nil, W, inB, sc, X, e, g, h => by
    unfold mGs at h
    cases e with
    | nil =>
      refine (gs_nil (Y := Y)).conv fun v σ H Q q => ?_
      obtain ⟨f, ms, h, l, r, sr, rv, q⟩ := q
      refine ⟨f, ms, h, l, r, sr, rv, ?_⟩
      unfold asgs at q
      cases l <;> exact q
    | cons _ _ => cases h
  | .cons i r, W, inB, sc, X, e, g, h => by
    cases e with
    | nil => unfold mGs at h; cases h
    | cons x xs =>
      unfold mGs at h
      simp only [Bool.and_eq_true, Bool.not_eq_true'] at h
      refine (gs_cons (sG i g h.1.1) (sGs r g h.2) h.1.2).conv fun v σ H Q q => ?_
      obtain ⟨f, ms, h, l, r, sr, rv, q⟩ := q
      refine ⟨f, ms, h, l, r, sr, rv, ?_⟩
      unfold asgs at q
      cases l <;> exact q
theorem sI : ∀ (i : Itx) {W : Wish} {inB : Bool} {sc : Scope} {X : Cx} {e t : Expr}, Good T Y W C CX lv inB N sc X → mI T N sc i e t = true → PI X t e (rdI Y W (itv T.P C i))
  | .ex i, W, inB, sc, X, e, t, g, h => by
    unfold mI at h
    exact i_ex g (sE i g h)
  | .rng i, W, inB, sc, X, e, t, g, h => by
    unfold mI at h
    split at h
    · simp only [Bool.and_eq_true, decide_eq_true_eq, Bool.not_eq_true'] at h
      exact i_rng g h.1.1.1 h.1.1.2 (sE i g h.1.2) h.2
    · cases h
  | .rng2 i j, W, inB, sc, X, e, t, g, h => by
    unfold mI at h
    split at h
    · simp only [Bool.and_eq_true, decide_eq_true_eq, Bool.not_eq_true'] at h
      obtain ⟨⟨⟨⟨⟨h1, h2⟩, h3⟩, h4⟩, h5⟩, h6⟩ := h
      exact i_rng2 g h1 h2 (sE i g h3) h4 (sE j g h5) h6
    · cases h
  | .zip _ _, W, inB, sc, X, e, t, g, h => by unfold mI at h; cases h
  | .enum _, W, inB, sc, X, e, t, g, h => by unfold mI at h; cases h
  | .keys _, W, inB, sc, X, e, t, g, h => by unfold mI at h; cases h
  | .vals _, W, inB, sc, X, e, t, g, h => by unfold mI at h; cases h
  | .items _, W, inB, sc, X, e, t, g, h => by unfold mI at h; cases h
end
end
end DM
set_option Elab.async false
set_option linter.all false
set_option maxRecDepth 100000
set_option maxHeartbeats 4000000
/-! S13: statements, functions, the module. -/
namespace DM
open PySem L2 PyProof.Rows PySem.Spec
section
variable {T : Tab} {Y : Ctx} {W : Wish} {C : Nat → List MV → MH → R MV} {CX : CXT} {lv : Nat} {N : List Str} {sc : Scope} {X : Cx}
mutual
theorem sS : ∀ (i : St) {e : Stmt}, Good T Y W C CX lv false N sc X → PassesOwn (model X.prog X.w) X.A X.env X.xe → X.env.scope.kind = .function → mS T N sc i e = true → PS X e (rdS Y W (exec T.P C i))
  | .pass, e, g, hp, hk, h => by
    unfold mS at h
    split at h
    · exact s_pass
    · cases h
  | .exp i, e, g, hp, hk, h => by
    unfold mS at h
    split at h
    · simp only [Bool.and_eq_true, Bool.not_eq_true'] at h
      exact s_exp (sE i g h.1) h.2
    · cases h
  | .ret i, e, g, hp, hk, h => by
    unfold mS at h
    split at h
    · exact s_ret (sE i g h)
    · cases h
  | .retN, e, g, hp, hk, h => by
    unfold mS at h
    split at h
    · exact s_retN
    · cases h
  | .set tg i, e, g, hp, hk, h => by
    unfold mS at h
    split at h
    · rename_i t v p
      simp only [Bool.and_eq_true, Bool.not_eq_true'] at h
      obtain ⟨⟨⟨h1, h2⟩, h3⟩, h4⟩ := h
      cases hc : isComp v with
      | false =>
        rw [hc] at h4
        exact s_set g (sE i g h1) (sG tg g h2) hc h4 h3
      | true =>
        rw [hc] at h4
        simp only [if_true] at h4
        split at h4
        · rename_i k elt own tg it c
          unfold mE at h1
          split at h1
          · rename_i x t2 i2 ifs scope pp
            unfold mG at h2
            split at h2
            · rename_i y py
              rw [Bool.and_eq_true] at h2
              simp only [Bool.and_eq_true, Bool.not_eq_true'] at h1
              obtain ⟨⟨⟨⟨⟨⟨⟨q0, q1⟩, q2⟩, q3⟩, q4⟩, q5⟩, q6⟩, q7⟩ := h1
              have how : (((own.map fun k => N[k]?).filterMap id).zip own).map (·.2) = own := by
                refine List.map_snd_zip ?_
                rw [fm_len q0, List.length_map]
                exact Nat.le_refl _
              have hl := s_setLc (p := pp) (pos := p) (o := tgS tg) (i := k) g h2.1 h4 (sI it g q2) (blkOk_by q1) (fun X' g' => sG tg g' q3) (fun X' g' => sC c g' q6) (fun X' g' => sE elt g' q5) (fun j hj => by
                rw [how]
                have := List.all_eq_true.mp q4 j hj
                exact List.contains_iff_mem.mp this) q7 hk
              rw [how] at hl
              exact hl
            · cases h2
          · cases h1
        · cases h4
    · cases h
  | .par is es, e, g, hp, hk, h => by
    unfold mS at h
    split at h
    · split at h
      · simp only [Bool.and_eq_true] at h
        exact s_par g h.1.1.1 h.1.1.2 (sA es g h.1.2) h.2 hk
      · cases h
    · cases h
  | .aug i op v, e, g, hp, hk, h => by
    unfold mS at h
    split at h
    · simp only [Bool.and_eq_true, decide_eq_true_eq] at h
      obtain ⟨⟨⟨h1, h2⟩, h3⟩, h4⟩ := h
      subst h3
      exact s_aug g op h1 h2 (sE v g h4)
    · cases h
  | .augA _ _ _ _, e, g, hp, hk, h => by
    unfold mS at h
    cases h
  | .ite c a b, e, g, hp, hk, h => by
    unfold mS at h
    split at h
    · simp only [Bool.and_eq_true] at h
      exact s_if (sT c g h.1.1).1 (sSs a g hp hk h.1.2) (sSs b g hp hk h.2)
    · cases h
  | .for_ tg it b, e, g, hp, hk, h => by
    unfold mS at h
    split at h
    · simp only [Bool.and_eq_true, Bool.not_eq_true'] at h
      exact s_for g hp (sI it g h.1.1.1) (sG tg g h.1.1.2) (sSs b g hp hk h.1.2) h.2
    · cases h
  | .brk, e, g, hp, hk, h => by
    unfold mS at h
    split at h
    · exact s_brk
    · cases h
  | .cont, e, g, hp, hk, h => by
    unfold mS at h
    split at h
    · exact s_cont
    · cases h
theorem sSs : ∀ (i : Ss) {e : List Stmt}, Good T Y W C CX lv false N sc X → PassesOwn (model X.prog X.w) X.A X.env X.xe → X.env.scope.kind = .function → mSs T N sc i e = true → PSs X e (rdS Y W (execs T.P C i))
  | .nil, e, g, hp, hk, h => by
    unfold mSs at h
    cases e with
    | nil => exact s_nil
    | cons _ _ => cases h
  | .cons s r, e, g, hp, hk, h => by
    unfold mSs at h
    cases e with
    | nil => cases h
    | cons x xs =>
      simp only [Bool.and_eq_true] at h
      exact s_cons (sS s g hp hk h.1) (sSs r g hp hk h.2)
end
end
/-! ### functions -/
theorem SR.start {K : PySem.W.Frag} {f : Nat → Addr} {n : Nat} {H : Hp} {N : List Str} {ms : List MV} {vs : List V} {k : Nat} (r : VRs K f n H ms vs) (hk : k = N.length - ms.length) : SR K f n H (ms.map some ++ List.replicate k none) (L2.start N vs) := by
  have hl := r.length
  unfold L2.start
  subst hk
  refine ⟨by simp [hl], fun i v e => ?_⟩
  by_cases hi : i < ms.length
  · rw [List.getElem?_append_left (by simpa using hi), List.getElem?_map] at e
    obtain ⟨m, e1, e2⟩ := Option.map_eq_some_iff.mp e
    cases e2
    obtain ⟨y, e3, r3⟩ := r.get e1
    refine ⟨y, ?_, r3⟩
    rw [List.getElem?_append_left (by rw [List.length_map, ← hl]; exact hi), List.getElem?_map, e3]
    rfl
  · exfalso
    rw [List.getElem?_append_right (by simp; omega)] at e
    obtain ⟨_, e⟩ := List.getElem?_eq_some_iff.mp e
    rw [List.getElem_replicate] at e
    cases e
/-- the module's facts, of no depth -/
structure Stat (T : Tab) (Y : Ctx) (P0 : Program) (w : World) (mg : Str → Option Value) : Prop where
  shw : T.P.shw = shwOf
  Z : Y.Z.fnm = T.fnm
  gl : ∀ g, T.gok g = true → ∃ u v, mg (T.gn g) = some u ∧ RelV v u ∧ ∀ f N H, VR Y.K f N H (T.P.glob g) v
  fd : ∀ i, T.fok i = true → ∃ a fd x qual params body scope dvs kws N, mg (T.fname i) = some (.ref a) ∧ FunD Y.K x qual params body scope dvs kws a fd ∧ FnScope N (T.fps i) scope ∧
    (T.P.fn i).np = (T.fps i).length ∧ (T.P.fn i).ns = N.length ∧ mSs T N scope (T.P.fn i).body body = true ∧
    ∀ n kn sh, T.sh i n kn sh = true → ∀ (s : Shared) (us ws : List Value), Y.K.In s.heap → us.length = n → ws.length = kn.length →
      ∃ bs, bs.length = (T.fps i).length ∧ BindsTo s fd ⟨us, (kn.map T.fnm).zip ws⟩ ((T.fps i).zip bs) ∧
        ∀ ms zs vs ys l f N H, pick ms zs sh = some l → Vals vs us → VRs Y.K f N H ms vs → Vals ys ws → VRs Y.K f N H zs ys → ∃ xs, Vals xs bs ∧ VRs Y.K f N H l xs
  bt : ∀ x ∈ btNames, mg x = none
section
variable {T : Tab} {Y : Ctx} {P0 : Program} {w : World} {mg : Str → Option Value} {base : Heap}
theorem fn_run {k i : Nat} {a : Addr} {fd : FuncData} {x qual : Str} {params : Arguments} {body : List Stmt} {scope : Scope} {dvs : List V} {kws : List (Str × V)} {N : List Str} (F : FunD Y.K x qual params body scope dvs kws a fd) (S : FnScope N (T.fps i) scope)
    (h1 : (T.P.fn i).np = (T.fps i).length) (h2 : (T.P.fn i).ns = N.length) (hm : mSs T N scope (T.P.fn i).body body = true) (fc : Fcts T Y (callM T.P k) (L2N.CX P0 w) k P0 w mg base) :
    FnG P0 w Y.K mg base (L2N.CX P0 w) (k + 1) a fd (T.fps i) (spM Y T (callM T.P (k + 1)) i) := by
  refine fnG_of F S (fun vs H Q E h => h.1) fun cdv A outer s H vs Q E hr hG hsp => ?_
  have tk : L2N.Takes (cxOf (L2N.CX P0 w) P0 w Y.K mg base N qual scope a cdv A outer s H E) fun cls d _ H => E cls d H := L2N.takes_of rfl rfl rfl rfl
  refine ⟨_, sSs (T := T) (Y := Y) (W := fun c d _ H => E c d H) (C := callM T.P k) (CX := L2N.CX P0 w) (lv := k) (N := N) (sc := scope) (T.P.fn i).body
    ⟨rfl, S.nd, rfl, rfl, rfl, hG, hr, fun _ _ => .inl rfl, fun σ => L2N.passAt tk σ, tk, fc⟩ (passes_of rfl) S.kind hm, ?_⟩
  obtain ⟨hl, f, h, ms, r, rv, q⟩ := hsp
  have hml : ms.length = (T.P.fn i).np := by rw [rv.length, hl, h1]
  refine ⟨f, _, h, r, SR.start (ms := ms) (k := (T.P.fn i).ns - (T.P.fn i).np) rv (by rw [h2, hml]), ?_⟩
  have q : G Y (fun c d _ H => E c d H) [] f h H (runFn T.P (callM T.P k) (T.P.fn i) ms h) fun v f' h' H' => ∀ z, VR Y.K f' h'.size H' v z → Q z H' := q
  unfold runFn at q
  rw [if_pos hml] at q
  cases e : execs T.P (callM T.P k) (T.P.fn i).body (ms.map some ++ List.replicate ((T.P.fn i).ns - (T.P.fn i).np) none) h with
  | nx ms1 h1 => rw [e] at q; exact fun f1 H1 σ1 e1 r1 _ => q f1 H1 e1 r1 _ .non
  | rt v h1 => rw [e] at q; exact fun f1 H1 x e1 r1 rx => q f1 H1 e1 r1 x rx
  | ex c l ms1 h1 => rw [e] at q; exact fun f1 H1 σ1 cls d e1 r1 _ x => q f1 H1 cls d e1 r1 x
  | bk ms1 h1 => rw [e] at q; exact q.elim
  | ct ms1 h1 => rw [e] at q; exact q.elim
  | stk => rw [e] at q; exact q.elim
theorem facts_all (st : Stat T Y P0 w mg) : ∀ k, Fcts T Y (callM T.P k) (L2N.CX P0 w) k P0 w mg base
  | 0 => ⟨st.shw, st.Z, st.gl, fun i hi => by
      obtain ⟨a, fd, x, qual, params, body, scope, dvs, kws, N, m, F, S, n1, n2, hm, B⟩ := st.fd i hi
      exact ⟨a, fd, m, F.kp, ⟨fun vs H Q E h => h.1, fun A outer s H args us vs Q E _ _ _ _ _ h => by
        obtain ⟨_, f, h, ms, r, rv, q⟩ := h
        exact q.elim⟩, B⟩, st.bt, fun outer H s e s' ⟨_, _, _, _, _, _, _, _, _, _, _, _, z⟩ => z.elim⟩
  | k + 1 => ⟨st.shw, st.Z, st.gl, fun i hi => by
      obtain ⟨a, fd, x, qual, params, body, scope, dvs, kws, N, m, F, S, n1, n2, hm, B⟩ := st.fd i hi
      exact ⟨a, fd, m, F.kp, fn_run F S n1 n2 hm (facts_all st k), B⟩, st.bt, fun outer H s e s' ⟨_, _, _, _, _, _, _, _, _, _, _, _, z⟩ => z.elim⟩
end
end DM
set_option Elab.async false
set_option linter.all false
set_option maxRecDepth 100000
set_option maxHeartbeats 4000000
/-! S14: a law's end. -/
namespace DM
open PySem L2 PyProof.Rows PySem.Spec
/-! ### forms of calls -/
def mvB : MV → MV → Bool
  | .non, .non => true
  | .bl a, .bl b => a == b
  | .int a, .int b => decide (a = b)
  | .str a, .str b => decide (a = b)
  | _, _ => false
theorem mvB_eq {a b : MV} (h : mvB a b = true) : a = b := by
  cases a <;> cases b <;> first | rfl | (cases h; done) | skip
  · exact congrArg MV.bl (beq_iff_eq.mp h)
  · exact congrArg MV.int (of_decide_eq_true h)
  · exact congrArg MV.str (of_decide_eq_true h)
def srcB : Src → Src → Bool
  | .pos i, .pos j => i == j
  | .kw i, .kw j => i == j
  | .dfl a, .dfl b => mvB a b
  | _, _ => false
theorem srcB_eq {a b : Src} (h : srcB a b = true) : a = b := by
  cases a <;> cases b <;> first | (cases h; done) | skip
  · exact congrArg Src.pos (beq_iff_eq.mp h)
  · exact congrArg Src.kw (beq_iff_eq.mp h)
  · exact congrArg Src.dfl (mvB_eq h)
def shB : List Src → List Src → Bool
  | [], [] => true
  | a :: r, b :: t => srcB a b && shB r t
  | _, _ => false
theorem shB_eq : ∀ {l t : List Src}, shB l t = true → l = t
  | [], [], _ => rfl
  | [], _ :: _, h => by cases h
  | _ :: _, [], h => by cases h
  | a :: r, b :: t, h => by
    unfold shB at h
    rw [Bool.and_eq_true] at h
    rw [srcB_eq h.1, shB_eq h.2]
abbrev Form : Type := Nat × List Nat × List Src
def formB (fs : List Form) (n : Nat) (kn : List Nat) (sh : List Src) : Bool := fs.any fun q => (q.1 == n) && (q.2.1 == kn) && shB q.2.2 sh
theorem formB_in {fs : List Form} {n : Nat} {kn : List Nat} {sh : List Src} (h : formB fs n kn sh = true) : (n, kn, sh) ∈ fs := by
  obtain ⟨⟨a, b, c⟩, hq, e⟩ := List.any_eq_true.mp h
  simp only [Bool.and_eq_true, beq_iff_eq] at e
  obtain ⟨⟨rfl, rfl⟩, e⟩ := e
  rw [← shB_eq e]
  exact hq
/-- by place, by name alone -/
def plainSh (n m : Nat) (sh : List Src) : Bool := sh.all fun
  | .pos i => decide (i < n)
  | .kw i => decide (i < m)
  | .dfl _ => false
def pickU (us ws : List Value) (sh : List Src) : List Value := sh.map fun
  | .pos i => us.getD i .none
  | .kw i => ws.getD i .none
  | .dfl _ => .none
theorem pick_ok {K : PySem.W.Frag} {us ws : List Value} {ms zs : List MV} {vs ys : List V} {f : Nat → Addr} {N : Nat} {H : Hp} (r1 : Vals vs us) (v1 : VRs K f N H ms vs) (r2 : Vals ys ws) (v2 : VRs K f N H zs ys) :
    ∀ {sh : List Src} {n m : Nat} {l : List MV}, plainSh n m sh = true → pick ms zs sh = some l → ∃ xs, Vals xs (pickU us ws sh) ∧ VRs K f N H l xs
  | [], n, m, l, _, e => by
    cases e
    exact ⟨[], .nil, .nil⟩
  | .pos i :: r, n, m, l, h, e => by
    unfold plainSh at h
    rw [List.all_cons, Bool.and_eq_true] at h
    unfold pick at e
    cases e1 : ms[i]? with
    | none => rw [e1] at e; cases e
    | some v =>
      rw [e1] at e
      cases e2 : pick ms zs r with
      | none => rw [e2] at e; cases e
      | some t =>
        rw [e2] at e
        cases e
        obtain ⟨xs, x1, x2⟩ := pick_ok r1 v1 r2 v2 (n := n) (m := m) h.2 e2
        obtain ⟨y, e3, ry⟩ := v1.get e1
        obtain ⟨u, e4, ru⟩ := r1.get e3
        refine ⟨y :: xs, .cons ?_ x1, .cons ry x2⟩
        show RelV y (us.getD i .none)
        rw [List.getD_eq_getElem?_getD, e4]
        exact ru
  | .kw i :: r, n, m, l, h, e => by
    unfold plainSh at h
    rw [List.all_cons, Bool.and_eq_true] at h
    unfold pick at e
    cases e1 : zs[i]? with
    | none => rw [e1] at e; cases e
    | some v =>
      rw [e1] at e
      cases e2 : pick ms zs r with
      | none => rw [e2] at e; cases e
      | some t =>
        rw [e2] at e
        cases e
        obtain ⟨xs, x1, x2⟩ := pick_ok r1 v1 r2 v2 (n := n) (m := m) h.2 e2
        obtain ⟨y, e3, ry⟩ := v2.get e1
        obtain ⟨u, e4, ru⟩ := r2.get e3
        refine ⟨y :: xs, .cons ?_ x1, .cons ry x2⟩
        show RelV y (ws.getD i .none)
        rw [List.getD_eq_getElem?_getD, e4]
        exact ru
  | .dfl _ :: r, n, m, l, h, e => by
    unfold plainSh at h
    rw [List.all_cons, Bool.and_eq_true] at h
    cases h.1
/-- what is wanted of a form -/
def FormOk (T : Tab) (K : PySem.W.Frag) (i : Nat) (fd : FuncData) (q : Form) : Prop := ∀ (s : Shared) (us ws : List Value), K.In s.heap → us.length = q.1 → ws.length = q.2.1.length →
      ∃ bs, bs.length = (T.fps i).length ∧ BindsTo s fd ⟨us, (q.2.1.map T.fnm).zip ws⟩ ((T.fps i).zip bs) ∧
        ∀ ms zs vs ys l f N H, pick ms zs q.2.2 = some l → Vals vs us → VRs K f N H ms vs → Vals ys ws → VRs K f N H zs ys → ∃ xs, Vals xs bs ∧ VRs K f N H l xs
theorem FormOk.plain {T : Tab} {K : PySem.W.Frag} {i : Nat} {fd : FuncData} {q : Form} (h : plainSh q.1 q.2.1.length q.2.2 = true) (hl : q.2.2.length = (T.fps i).length)
    (hb : ∀ (us ws : List Value), us.length = q.1 → ws.length = q.2.1.length → bindArgs fd ⟨us, (q.2.1.map T.fnm).zip ws⟩ = pure ((T.fps i).zip (pickU us ws q.2.2))) : FormOk T K i fd q :=
  fun s us ws _ l1 l2 => ⟨pickU us ws q.2.2, by unfold pickU; rw [List.length_map]; exact hl, .of_eq (hb us ws l1 l2), fun ms zs vs ys l f N H e r1 v1 r2 v2 => pick_ok r1 v1 r2 v2 h e⟩
/-! ### constants of the top -/
def dvM : He.Dv → Option MV
  | .non => some .non
  | .bl b => some (.bl b)
  | .int i => some (.int i)
  | .str x => some (.str x.cps.toList)
  | _ => none
def dvOk : He.Dv → MV → Bool
  | .non, .non => true
  | .bl b, .bl c => b == c
  | .int i, .int j => decide (i = j)
  | .str x, .str s => decide (x = ⟨s.toArray⟩) && txB s
  | _, _ => false
theorem dvOk_vr {K : PySem.W.Frag} {f : Nat → Addr} {N : Nat} {H : Hp} {d : He.Dv} {m : MV} (h : dvOk d m = true) : VR K f N H m (d.v K) := by
  cases d <;> cases m <;> first | (cases h; done) | skip
  · exact .non
  · rw [show _ = _ from beq_iff_eq.mp h]; exact .bl
  · rw [show _ = _ from of_decide_eq_true h]; exact .int
  · unfold dvOk at h
    simp only [Bool.and_eq_true, decide_eq_true_eq] at h
    rw [h.1]
    exact .str (txB_ok h.2)
def dvsOk : List He.Dv → List MV → Bool
  | [], [] => true
  | d :: r, m :: t => dvOk d m && dvsOk r t
  | _, _ => false
theorem dvsOk_vr {K : PySem.W.Frag} {f : Nat → Addr} {N : Nat} {H : Hp} : ∀ {ds : List He.Dv} {ms : List MV}, dvsOk ds ms = true → VRs K f N H ms (ds.map (He.Dv.v K))
  | [], [], _ => .nil
  | [], _ :: _, h => by cases h
  | _ :: _, [], h => by cases h
  | d :: r, m :: t, h => by
    unfold dvsOk at h
    rw [Bool.and_eq_true] at h
    exact .cons (dvOk_vr h.1) (dvsOk_vr h.2)
theorem gl_lst {K : PySem.W.Frag} {f : Nat → Addr} {N : Nat} {H : Hp} {x : Str} {ds : List He.Dv} {ms : List MV} (h : He.lstB K x ds = true) (hd : dvsOk ds ms = true) : VR K f N H (.kl ms) (.ref (He.ga K x)) := by
  have q := He.lstB_ok h fun _ => none
  unfold VR
  refine ⟨_, _, rfl, .inr ?_, dvsOk_vr hd⟩
  rcases q with (q | ⟨o, q⟩) | q
  · cases q
  · cases q
  · exact q
theorem gl_tup {K : PySem.W.Frag} {f : Nat → Addr} {N : Nat} {H : Hp} {x : Str} {ds : List He.Dv} {ms : List MV} (h : He.tupB K x ds = true) (hd : dvsOk ds ms = true) : VR K f N H (.tup ms) (.ref (He.ga K x)) :=
  .tup (He.tupB_ok h H) (dvsOk_vr hd)
theorem gl_str {K : PySem.W.Frag} {f : Nat → Addr} {N : Nat} {H : Hp} {x : Str} {s : Tx} (h : x = ⟨s.toArray⟩) (ht : txB s = true) : VR K f N H (.str s) (.str x) := by
  rw [h]
  exact .str (txB_ok ht)
theorem fun_one {K : PySem.W.Frag} {x1 x2 q1 q2 : Str} {p1 p2 : Arguments} {b1 b2 : List Stmt} {s1 s2 : Scope} {d1 d2 : List V} {k1 k2 : List (Str × V)} {f : Addr} {fd1 fd2 : FuncData} (F1 : FunD K x1 q1 p1 b1 s1 d1 k1 f fd1) (F2 : FunD K x2 q2 p2 b2 s2 d2 k2 f fd2) : fd1 = fd2 := by
  obtain ⟨_, _, _, _, _, _, _, _, _, _, _, lk1, _⟩ := F1.ex
  obtain ⟨_, _, _, _, _, _, _, _, _, _, _, lk2, _⟩ := F2.ex
  rw [lk1] at lk2
  cases lk2
  rfl
/-! ### the law -/
theorem vrs_ints {K : PySem.W.Frag} {f : Nat → Addr} {N : Nat} {H : Hp} : ∀ ns : List Int, VRs K f N H (ns.map MV.int) (ns.map V.int)
  | [] => .nil
  | _ :: r => .cons .int (vrs_ints r)
open PySem.W in
theorem walk_D {l : PySem.W.OpenLaw} {n k : Nat} {q : Program} {loose : List Str} {XP : (Str → Option Value) → Heap → Prop} {YP : World → Heap → Prop} {d : DefRec} {x : Str} {law : Nat} {P : Prog}
    (hn : l.most = some n) (hn2 : n ≤ sizeLine) (hdf : d.params.defaults = []) (hr : Room (k + 1) callerA)
    (pure_ : ∀ ns : List Int, ns.length ≤ n → ∃ h', callM P (k + 1) law [.kl (ns.map MV.int)] ⟨[]⟩ = .ok (.bl true) h')
    (F : ∀ (w : World) (mg : Str → Option Value) (fa : Addr) (h : Heap), YP w h → h.Ns mainGlobals mg → mg d.name = some (.ref fa) →
      ∃ (K : PySem.W.Frag) (T : Tab) (Y : Ctx), K.In h ∧ Y.K = K ∧ T.P = P ∧ Stat T Y l.prog w mg ∧ T.fok law = true ∧ T.fname law = d.name ∧ T.fps law = [x] ∧
        ∀ (fd : FuncData), (∃ x' qual params body scope dvs kws, FunD K x' qual params body scope dvs kws fa fd) → ∀ (s : Shared) (u : Value), BindsTo s fd ⟨[u], []⟩ [(x, u)]) :
    PySem.W.WalkO q loose XP YP l.row.toRowW d [] (fun f vs => PySem.call f vs) := by
  refine Att.attach_call hn hdf ?_
  intro w s₀ s₁ mg mb fa o pm cd doc a vs ns G Yh ho hd hcd hmg hobj hints hlen hg
  obtain ⟨K, T, Y, KX, eK, eP, st, ok, en, ep, hb⟩ := F w mg fa _ Yh G.T.g hmg
  subst eK
  have hst := st.fd law ok
  obtain ⟨a', fd, x', qual, params, body, scope, dvs, kws, N, m, FD, S, n1, n2, hm, B⟩ := hst
  rw [en] at m
  have em : fa = a' := Value.ref.inj (Option.some.inj (hmg.symm.trans m))
  subst em
  refine law_callG (CX := L2N.CX l.prog w) (sp := spM Y T (callM T.P (k + 1)) law) KX G.T.g G.T.b G.T.builtins G.T.nolimit hg hobj hints (Nat.le_trans hlen hn2) hr
    (fun base _ _ => by rw [← ep]; exact fn_run FD S n1 n2 hm (facts_all st k)) (hb fd ⟨_, _, _, _, _, _, _, FD⟩) (fun H hS => ?_) (fun H e s' ⟨_, _, _, _, _, _, _, _, _, _, _, _, z⟩ => z)
  obtain ⟨h', e⟩ := pure_ ns hlen
  refine ⟨by rw [ep]; rfl, fun _ => 0, ⟨[]⟩, [.kl (ns.map MV.int)], ⟨fun n o q => (by cases q), fun n m h1 => absurd h1 (Nat.not_lt_zero _)⟩, .cons ?_ .nil, ?_⟩
  · unfold VR
    exact ⟨a, _, rfl, hS, vrs_ints ns⟩
  · rw [eP, e]
    exact fun f' H' _ _ z rz => rz.bl_inv
end DM
set_option Elab.async false
set_option linter.all false
set_option maxRecDepth 100000
set_option maxHeartbeats 0
/-! printed by gen.py: the head of law k01_names_known -/
namespace K01
open PySem PySem.Spec PyProof.Rows L2 DM
abbrev rw_ : PySem.W.OpenLaw := PySem.Challenge.rw_wirenames_k01_names_known
def top (i : Nat) : Stmt := rw_.prog.main.body.getD i (.Pass ⟨0, 0, 0, 0⟩)
def N0 : List Str := ["thing", "letters", "sign"]
def N1 : List Str := ["script", "at", "cell", "great", "primes", "mixed"]
def N2 : List Str := ["bag", "many", "digit"]
def N3 : List Str := ["one", "core", "sign"]
def N4 : List Str := ["bag", "letters", "found", "spot"]
def N5 : List Str := ["bag", "name", "signs", "some", "sign", "spot"]
def N6 : List Str := ["script", "at", "bag", "turn", "name", "one", "shown", "told"]
def fname : Nat → Str
  | 0 => "is_name"
  | 1 => "_law_bag"
  | 2 => "_law_take"
  | 3 => "_law_good_name"
  | 4 => "_law_drawn_name"
  | 5 => "_law_odd_name"
  | 6 => "law"
  | _ => ""
def fps : Nat → List Str
  | 0 => ["thing"]
  | 1 => ["script", "at"]
  | 2 => ["bag", "many"]
  | 3 => ["one"]
  | 4 => ["bag"]
  | 5 => ["bag", "name"]
  | 6 => ["script"]
  | _ => []
def fnm : Nat → Str
  | 100 => "thing"
  | _ => ""
def gn : Nat → Str
  | 0 => "LETTERS"
  | 1 => "FIGURES"
  | 2 => "MOST_LETTERS"
  | _ => ""
def fo0 : List Form := [(1, [], [.pos 0]), (0, [100], [.kw 0])]
def fo1 : List Form := [(2, [], [.pos 0, .pos 1])]
def fo2 : List Form := [(2, [], [.pos 0, .pos 1])]
def fo3 : List Form := [(1, [], [.pos 0])]
def fo4 : List Form := [(1, [], [.pos 0])]
def fo5 : List Form := [(2, [], [.pos 0, .pos 1])]
def fo6 : List Form := []
def sh : Nat → Nat → List Nat → List Src → Bool
  | 0 => formB fo0
  | 1 => formB fo1
  | 2 => formB fo2
  | 3 => formB fo3
  | 4 => formB fo4
  | 5 => formB fo5
  | 6 => formB fo6
  | _ => fun _ _ _ => false
def T : Tab := ⟨P shwOf, fnm, gn, fun i => decide (i < 3), fname, fun i => decide (i < 7), fps, sh⟩
abbrev st0 : Stmt := top 4
theorem m0 : mSs T N0 (defScope st0) b0 (defBody st0) = true := by decide +kernel
theorem sc0 : FnScope N0 (fps 0) (defScope st0) := ⟨rfl, rfl, rfl, by decide +kernel, rfl, by decide +kernel, by decide +kernel⟩
def d0 : He.DefD := ⟨(fname 0, none), fname 0, fname 0, defArgs st0, defBody st0, defScope st0, [], []⟩
abbrev st1 : Stmt := top 6
theorem m1 : mSs T N1 (defScope st1) b1 (defBody st1) = true := by decide +kernel
theorem sc1 : FnScope N1 (fps 1) (defScope st1) := ⟨rfl, rfl, rfl, by decide +kernel, rfl, by decide +kernel, by decide +kernel⟩
def d1 : He.DefD := ⟨(fname 1, none), fname 1, fname 1, defArgs st1, defBody st1, defScope st1, [], []⟩
abbrev st2 : Stmt := top 7
theorem m2 : mSs T N2 (defScope st2) b2 (defBody st2) = true := by decide +kernel
theorem sc2 : FnScope N2 (fps 2) (defScope st2) := ⟨rfl, rfl, rfl, by decide +kernel, rfl, by decide +kernel, by decide +kernel⟩
def d2 : He.DefD := ⟨(fname 2, none), fname 2, fname 2, defArgs st2, defBody st2, defScope st2, [], []⟩
abbrev st3 : Stmt := top 8
theorem m3 : mSs T N3 (defScope st3) b3 (defBody st3) = true := by decide +kernel
theorem sc3 : FnScope N3 (fps 3) (defScope st3) := ⟨rfl, rfl, rfl, by decide +kernel, rfl, by decide +kernel, by decide +kernel⟩
def d3 : He.DefD := ⟨(fname 3, none), fname 3, fname 3, defArgs st3, defBody st3, defScope st3, [], []⟩
abbrev st4 : Stmt := top 9
theorem m4 : mSs T N4 (defScope st4) b4 (defBody st4) = true := by decide +kernel
theorem sc4 : FnScope N4 (fps 4) (defScope st4) := ⟨rfl, rfl, rfl, by decide +kernel, rfl, by decide +kernel, by decide +kernel⟩
def d4 : He.DefD := ⟨(fname 4, none), fname 4, fname 4, defArgs st4, defBody st4, defScope st4, [], []⟩
abbrev st5 : Stmt := top 10
theorem m5 : mSs T N5 (defScope st5) b5 (defBody st5) = true := by decide +kernel
theorem sc5 : FnScope N5 (fps 5) (defScope st5) := ⟨rfl, rfl, rfl, by decide +kernel, rfl, by decide +kernel, by decide +kernel⟩
def d5 : He.DefD := ⟨(fname 5, none), fname 5, fname 5, defArgs st5, defBody st5, defScope st5, [], []⟩
abbrev st6 : Stmt := top 11
theorem m6 : mSs T N6 (defScope st6) b6 (defBody st6) = true := by decide +kernel
theorem sc6 : FnScope N6 (fps 6) (defScope st6) := ⟨rfl, rfl, rfl, by decide +kernel, rfl, by decide +kernel, by decide +kernel⟩
def d6 : He.DefD := ⟨(fname 6, none), fname 6, fname 6, defArgs st6, defBody st6, defScope st6, [], []⟩
def dfn : List He.DefD := [d0, d1, d2, d3, d4, d5, d6]
def dfa : List He.Fa := [.glo (fname 0), .glo (fname 1), .glo (fname 2), .glo (fname 3), .glo (fname 4), .glo (fname 5), .glo (fname 6), .free "len", .free "abs", .free "max", .free "min", .free "repr", .free "list", .free "tuple", .free "set", .free "sorted", .free "int", .free "str", .free "all", .free "any", .free "isinstance", .free "range", .free "bool", .free "dict", .free "zip", .free "enumerate", .free "LookupError", .free "ValueError"]
def dex (K : PySem.W.Frag) : Bool := (He.Fa.ok K (.str (gn 0) "abcdefghijklmnopqrstuvwxyz")) && (He.lstB K (gn 1) [.str "2", .str "3", .str "4", .str "5", .str "6", .str "7", .str "8", .str "9"] && He.Fa.ok K (.glo (gn 1))) && (He.Fa.ok K (.int (gn 2) 8))
theorem fo0_ok {K : PySem.W.Frag} {x qual : Str} {body : List Stmt} {scope : Scope} {f : Addr} {fd : FuncData} (F : FunD K x qual (defArgs st0) body scope [] [] f fd) : ∀ q ∈ fo0, FormOk T K 0 fd q := by
  intro q hq
  obtain ⟨oc, od, dV, kV, doc, pm, an, cdv, ct, osl, rfl, lk, hcd, hD, hK⟩ := F.ex
  have eD : dV = .none := by
    rcases hD with ⟨_, e⟩ | ⟨e, _⟩
    · exact e
    · exact absurd rfl e
  subst eD
  simp only [fo0, List.mem_cons, List.not_mem_nil, or_false] at hq
  rcases hq with rfl | rfl
  · exact FormOk.plain (by decide) (by decide) fun us ws hu hw => match us, ws, hu, hw with | [_], [], _, _ => rfl
  · exact FormOk.plain (by decide) (by decide) fun us ws hu hw => match us, ws, hu, hw with | [], [_], _, _ => rfl
theorem fo1_ok {K : PySem.W.Frag} {x qual : Str} {body : List Stmt} {scope : Scope} {f : Addr} {fd : FuncData} (F : FunD K x qual (defArgs st1) body scope [] [] f fd) : ∀ q ∈ fo1, FormOk T K 1 fd q := by
  intro q hq
  obtain ⟨oc, od, dV, kV, doc, pm, an, cdv, ct, osl, rfl, lk, hcd, hD, hK⟩ := F.ex
  have eD : dV = .none := by
    rcases hD with ⟨_, e⟩ | ⟨e, _⟩
    · exact e
    · exact absurd rfl e
  subst eD
  simp only [fo1, List.mem_cons, List.not_mem_nil, or_false] at hq
  rcases hq with rfl
  · exact FormOk.plain (by decide) (by decide) fun us ws hu hw => match us, ws, hu, hw with | [_, _], [], _, _ => rfl
theorem fo2_ok {K : PySem.W.Frag} {x qual : Str} {body : List Stmt} {scope : Scope} {f : Addr} {fd : FuncData} (F : FunD K x qual (defArgs st2) body scope [] [] f fd) : ∀ q ∈ fo2, FormOk T K 2 fd q := by
  intro q hq
  obtain ⟨oc, od, dV, kV, doc, pm, an, cdv, ct, osl, rfl, lk, hcd, hD, hK⟩ := F.ex
  have eD : dV = .none := by
    rcases hD with ⟨_, e⟩ | ⟨e, _⟩
    · exact e
    · exact absurd rfl e
  subst eD
  simp only [fo2, List.mem_cons, List.not_mem_nil, or_false] at hq
  rcases hq with rfl
  · exact FormOk.plain (by decide) (by decide) fun us ws hu hw => match us, ws, hu, hw with | [_, _], [], _, _ => rfl
theorem fo3_ok {K : PySem.W.Frag} {x qual : Str} {body : List Stmt} {scope : Scope} {f : Addr} {fd : FuncData} (F : FunD K x qual (defArgs st3) body scope [] [] f fd) : ∀ q ∈ fo3, FormOk T K 3 fd q := by
  intro q hq
  obtain ⟨oc, od, dV, kV, doc, pm, an, cdv, ct, osl, rfl, lk, hcd, hD, hK⟩ := F.ex
  have eD : dV = .none := by
    rcases hD with ⟨_, e⟩ | ⟨e, _⟩
    · exact e
    · exact absurd rfl e
  subst eD
  simp only [fo3, List.mem_cons, List.not_mem_nil, or_false] at hq
  rcases hq with rfl
  · exact FormOk.plain (by decide) (by decide) fun us ws hu hw => match us, ws, hu, hw with | [_], [], _, _ => rfl
theorem fo4_ok {K : PySem.W.Frag} {x qual : Str} {body : List Stmt} {scope : Scope} {f : Addr} {fd : FuncData} (F : FunD K x qual (defArgs st4) body scope [] [] f fd) : ∀ q ∈ fo4, FormOk T K 4 fd q := by
  intro q hq
  obtain ⟨oc, od, dV, kV, doc, pm, an, cdv, ct, osl, rfl, lk, hcd, hD, hK⟩ := F.ex
  have eD : dV = .none := by
    rcases hD with ⟨_, e⟩ | ⟨e, _⟩
    · exact e
    · exact absurd rfl e
  subst eD
  simp only [fo4, List.mem_cons, List.not_mem_nil, or_false] at hq
  rcases hq with rfl
  · exact FormOk.plain (by decide) (by decide) fun us ws hu hw => match us, ws, hu, hw with | [_], [], _, _ => rfl
theorem fo5_ok {K : PySem.W.Frag} {x qual : Str} {body : List Stmt} {scope : Scope} {f : Addr} {fd : FuncData} (F : FunD K x qual (defArgs st5) body scope [] [] f fd) : ∀ q ∈ fo5, FormOk T K 5 fd q := by
  intro q hq
  obtain ⟨oc, od, dV, kV, doc, pm, an, cdv, ct, osl, rfl, lk, hcd, hD, hK⟩ := F.ex
  have eD : dV = .none := by
    rcases hD with ⟨_, e⟩ | ⟨e, _⟩
    · exact e
    · exact absurd rfl e
  subst eD
  simp only [fo5, List.mem_cons, List.not_mem_nil, or_false] at hq
  rcases hq with rfl
  · exact FormOk.plain (by decide) (by decide) fun us ws hu hw => match us, ws, hu, hw with | [_, _], [], _, _ => rfl
theorem fo6_ok {K : PySem.W.Frag} {x qual : Str} {body : List Stmt} {scope : Scope} {f : Addr} {fd : FuncData} (F : FunD K x qual (defArgs st6) body scope [] [] f fd) : ∀ q ∈ fo6, FormOk T K 6 fd q := by
  intro q hq
  obtain ⟨oc, od, dV, kV, doc, pm, an, cdv, ct, osl, rfl, lk, hcd, hD, hK⟩ := F.ex
  have eD : dV = .none := by
    rcases hD with ⟨_, e⟩ | ⟨e, _⟩
    · exact e
    · exact absurd rfl e
  subst eD
  cases hq
def Y (K : PySem.W.Frag) : DM.Ctx := ⟨K, ⟨fun _ => 0, fnm, fun _ => 0⟩, fun _ => .none, fun _ => ""⟩
theorem stat {w : World} {K : PySem.W.Frag} {h : Heap} {mg : Str → Option Value} (X : K.In h) (G : h.Ns mainGlobals mg) (c : He.SaysX dfa dfn [] [] dex w h K) : Stat T (Y K) rw_.prog w mg := by
  have cd := c.t.d
  refine ⟨rfl, rfl, ?_, ?_, ?_⟩
  · intro g hg
    have hx := c.more
    unfold dex at hx
    simp only [Bool.and_eq_true] at hx
    obtain ⟨⟨h0, ⟨h1, g1⟩⟩, h2⟩ := hx
    have hg : g < 3 := of_decide_eq_true (show decide (g < 3) = true from hg)
    match g, hg with
    | 0, _ =>
      obtain ⟨t, e⟩ := He.str_ok X G h0
      exact ⟨_, .str "abcdefghijklmnopqrstuvwxyz", e, ⟨t, rfl⟩, fun f N H => gl_str (by decide +kernel) (by decide +kernel)⟩
    | 1, _ => exact ⟨_, .ref (He.ga K (gn 1)), He.glo_ok X G g1, rfl, fun f N H => gl_lst h1 (by decide +kernel)⟩
    | 2, _ =>
      obtain ⟨t, e⟩ := He.int_ok X G h2
      exact ⟨_, .int 8, e, ⟨t, rfl⟩, fun f N H => .int⟩
  · intro i hi
    have hi : i < 7 := of_decide_eq_true (show decide (i < 7) = true from hi)
    match i, hi with
    | 0, _ =>
      obtain ⟨fd, F⟩ := cd.def_ 0 (d := d0) rfl
      exact ⟨_, fd, _, _, _, _, _, _, _, N0, He.glo_ok X G (cd.fact 0 (f := .glo (fname 0)) rfl), F, sc0, rfl, rfl, m0, fun n kn s hs => fo0_ok F _ (formB_in hs)⟩
    | 1, _ =>
      obtain ⟨fd, F⟩ := cd.def_ 1 (d := d1) rfl
      exact ⟨_, fd, _, _, _, _, _, _, _, N1, He.glo_ok X G (cd.fact 1 (f := .glo (fname 1)) rfl), F, sc1, rfl, rfl, m1, fun n kn s hs => fo1_ok F _ (formB_in hs)⟩
    | 2, _ =>
      obtain ⟨fd, F⟩ := cd.def_ 2 (d := d2) rfl
      exact ⟨_, fd, _, _, _, _, _, _, _, N2, He.glo_ok X G (cd.fact 2 (f := .glo (fname 2)) rfl), F, sc2, rfl, rfl, m2, fun n kn s hs => fo2_ok F _ (formB_in hs)⟩
    | 3, _ =>
      obtain ⟨fd, F⟩ := cd.def_ 3 (d := d3) rfl
      exact ⟨_, fd, _, _, _, _, _, _, _, N3, He.glo_ok X G (cd.fact 3 (f := .glo (fname 3)) rfl), F, sc3, rfl, rfl, m3, fun n kn s hs => fo3_ok F _ (formB_in hs)⟩
    | 4, _ =>
      obtain ⟨fd, F⟩ := cd.def_ 4 (d := d4) rfl
      exact ⟨_, fd, _, _, _, _, _, _, _, N4, He.glo_ok X G (cd.fact 4 (f := .glo (fname 4)) rfl), F, sc4, rfl, rfl, m4, fun n kn s hs => fo4_ok F _ (formB_in hs)⟩
    | 5, _ =>
      obtain ⟨fd, F⟩ := cd.def_ 5 (d := d5) rfl
      exact ⟨_, fd, _, _, _, _, _, _, _, N5, He.glo_ok X G (cd.fact 5 (f := .glo (fname 5)) rfl), F, sc5, rfl, rfl, m5, fun n kn s hs => fo5_ok F _ (formB_in hs)⟩
    | 6, _ =>
      obtain ⟨fd, F⟩ := cd.def_ 6 (d := d6) rfl
      exact ⟨_, fd, _, _, _, _, _, _, _, N6, He.glo_ok X G (cd.fact 6 (f := .glo (fname 6)) rfl), F, sc6, rfl, rfl, m6, fun n kn s hs => fo6_ok F _ (formB_in hs)⟩
  · intro x hx
    simp only [btNames, List.mem_cons, List.not_mem_nil, or_false] at hx
    rcases hx with rfl | rfl | rfl | rfl | rfl | rfl | rfl | rfl | rfl | rfl | rfl | rfl | rfl | rfl | rfl | rfl | rfl | rfl | rfl | rfl | rfl
    · exact He.free_ok X G (cd.fact 7 (f := .free "len") rfl)
    · exact He.free_ok X G (cd.fact 8 (f := .free "abs") rfl)
    · exact He.free_ok X G (cd.fact 9 (f := .free "max") rfl)
    · exact He.free_ok X G (cd.fact 10 (f := .free "min") rfl)
    · exact He.free_ok X G (cd.fact 11 (f := .free "repr") rfl)
    · exact He.free_ok X G (cd.fact 12 (f := .free "list") rfl)
    · exact He.free_ok X G (cd.fact 13 (f := .free "tuple") rfl)
    · exact He.free_ok X G (cd.fact 14 (f := .free "set") rfl)
    · exact He.free_ok X G (cd.fact 15 (f := .free "sorted") rfl)
    · exact He.free_ok X G (cd.fact 16 (f := .free "int") rfl)
    · exact He.free_ok X G (cd.fact 17 (f := .free "str") rfl)
    · exact He.free_ok X G (cd.fact 18 (f := .free "all") rfl)
    · exact He.free_ok X G (cd.fact 19 (f := .free "any") rfl)
    · exact He.free_ok X G (cd.fact 20 (f := .free "isinstance") rfl)
    · exact He.free_ok X G (cd.fact 21 (f := .free "range") rfl)
    · exact He.free_ok X G (cd.fact 22 (f := .free "bool") rfl)
    · exact He.free_ok X G (cd.fact 23 (f := .free "dict") rfl)
    · exact He.free_ok X G (cd.fact 24 (f := .free "zip") rfl)
    · exact He.free_ok X G (cd.fact 25 (f := .free "enumerate") rfl)
    · exact He.free_ok X G (cd.fact 26 (f := .free "LookupError") rfl)
    · exact He.free_ok X G (cd.fact 27 (f := .free "ValueError") rfl)
abbrev R : PySem.W.OpenRow := PySem.W.OpenLaw.row rw_
abbrev hk (nn : Nat) : PySem.W.Hook := He.hookX nn dfa dfn [] [] dex
def ob (s : PySem.W.SharedT) : He.AlX := He.obsX 4 dfa dfn [] [] dex (HandSHeadRun.getT s)
theorem ob_eq (s : PySem.W.SharedT) : ob s = (hk 4).obs s.abs := He.obsX_eq (HandSHeadRun.getT_eq s)
def loose : List Str := ["is_name", "_law_bag", "_law_take", "_law_good_name", "_law_drawn_name", "_law_odd_name", "LETTERS", "FIGURES", "MOST_LETTERS"]
theorem run (w : World) : HandSHeadRun.RunEq R (PySem.W.view R.prog [11]) (hk 4) ob 3000 loose w := by
  intro os
  kernel_rfl
end K01
open PySem PySem.W PySem.Calls PyProof.Rows
theorem PySem.Challenge.cw_wirenames_k01_names_known_holds : PySem.Challenge.rw_wirenames_k01_names_known.Holds := by
  w_on; o_law
  refine HandSHeadRun.head_any (r := K01.R) (q := view K01.R.prog [11]) (H := K01.hk 4) (ob := K01.ob) (M := 3000) (loose := K01.loose) (d := HandSHeadRun.topDef K01.R.prog 11) (kwd := []) K01.ob_eq
    (by kernel_rfl) (fun s => by kernel_rfl) K01.run (by kernel_rfl) (by kernel_rfl) (by kernel_rfl) (by rfl) (by first | assumption | decide +kernel) (by decide +kernel) ⟨rfl, rfl, rfl, rfl, rfl, by decide +kernel⟩ ?hw ?hc
  case hw => w_witness2
  case hc =>
    refine DM.walk_D (l := K01.rw_) (n := 63) (k := 9) (x := "script") (law := K01.nlaw) (P := K01.P DM.shwOf) rfl (by decide) (by kernel_rfl) ⟨rfl, by decide, by decide⟩ (K01.pure_law DM.shwOf) ?F
    intro w mg fa h Yh G hmg0
    obtain ⟨K, KX, c⟩ := Yh
    refine ⟨K, K01.T, K01.Y K, KX, rfl, rfl, K01.stat KX G c, rfl, by kernel_rfl, rfl, ?_⟩
    rintro fd0 ⟨_, _, _, _, _, _, _, F0⟩ s u
    obtain ⟨fd, F⟩ := c.t.d.def_ 6 (d := K01.d6) rfl
    have ea := He.glo_ok KX G (c.t.d.fact 6 (f := .glo (K01.fname 6)) rfl)
    have eb : (HandSHeadRun.topDef K01.R.prog 11).name = K01.fname 6 := by kernel_rfl
    rw [eb, ea] at hmg0
    cases hmg0
    have ef := DM.fun_one F0 F
    subst ef
    exact L2.FunD.bindsA (ps := ["script"]) F (fun _ _ _ _ _ _ us hl => match us, hl with | [_], _ => rfl) s [u] rfl
